import PyProof.Rows.All
import Wide.All
import OpenK.AllK
import Wide.FinOn
import HandS.ForMost
import HandS.GenList
import HandS.TryMany
import HandS.IsInst
import HandS.ExcInit
import HandS.ExcField
import HandS.Codes
import HandS.Walk
import HandS.ExcOwn
import HandS.WordsExc
import HandS.More
import HandS.GenBody
import HandS.TupAny
import HandS.Style
import PySem.Challenge.RW_leastknobs_k80_whole_words_cut_falling
set_option Elab.async false
set_option linter.all false
set_option maxRecDepth 100000
/-! Sleeping generators are left alone: their entries in the table of generators are put out of use, the run goes on, the entries are put back. -/
namespace GK
open PySem PySem.Spec PyProof.Rows

/-- nothing that can be woken -/
def stone : Resume → Sem PySem.Fin := fun _ => .unsupported "asleep"
theorem no_runs {M : Model} {Γ : PySem.Ctx} {p : Pos} {t : Sem PySem.Fin} {fs : List Frame} {s s' : Shared} {e : End} (h : Runs M Γ p t fs s e s') : ∀ w : String, t ≠ .unsupported w := by
  induction h <;> intro w q <;> first | (cases q; done) | (rename_i ih _; exact ih w q) | (rename_i ih; exact ih w q) | skip
  all_goals first | (rename_i ih _ _; exact ih w q) | (rename_i ih _ _ _; exact ih w q) | (rename_i ih _; exact ih w q)

/-- with nothing to wake in it -/
def drugOne : GenState → GenState
  | .suspended _ l c q f cl => .suspended stone l c q f cl
  | z => z
def backOne (o : Option GenState) (z : GenState) : GenState :=
  match o with
  | some (GenState.suspended k l c q f cl) => GenState.suspended k l c q f cl
  | _ => z
def drug (s : Shared) : Shared := { s with gens := s.gens.map drugOne }
/-- the sleepers of G stand in their places again -/
def back (G : Array GenState) (s : Shared) : Shared := { s with gens := s.gens.mapIdx fun i z => backOne G[i]? z }
def Drugged (G : Array GenState) (s : Shared) : Prop := ∀ (i : Nat) (k : Resume → Sem PySem.Fin) (l : List Value) (c : Code) (q : Pos) (f : List Frame) (cl : Bool), G[i]? = some (GenState.suspended k l c q f cl) → s.gens[i]? = some (GenState.suspended stone l c q f cl)
def Neat (s : Shared) : Prop := ∀ (i : Nat) (k : Resume → Sem PySem.Fin) (l : List Value) (c : Code) (q : Pos) (f : List Frame) (cl : Bool), s.gens[i]? = some (GenState.suspended k l c q f cl) → k = stone ∨ splitAtGen f = none
def EndNeat : End → Prop
  | .ret _ => True
  | .susp _ _ _ _ _ _ fs => splitAtGen fs = none

section
variable {G : Array GenState} {s : Shared} {z : GenState} {i : Nat}
theorem at_back : (back G s).gens[i]? = (s.gens[i]?).map (backOne G[i]?) := by
  show (s.gens.mapIdx _)[i]? = _
  simp
theorem back_drug : back s.gens (drug s) = s := by
  show ({ s with gens := (s.gens.map drugOne).mapIdx fun i z => backOne s.gens[i]? z } : Shared) = s
  have e : ((s.gens.map drugOne).mapIdx fun i z => backOne s.gens[i]? z) = s.gens := by
    apply Array.ext_getElem?
    intro i
    simp only [Array.getElem?_mapIdx, Array.getElem?_map]
    cases h : s.gens[i]? with
    | none => rfl
    | some z => cases z <;> rfl
  rw [e]
theorem drugged_drug : Drugged s.gens (drug s) := fun i k l c q f cl h => by
  show (s.gens.map drugOne)[i]? = _
  rw [Array.getElem?_map, h]; rfl
theorem neat_drug : Neat (drug s) := fun i k l c q f cl h => by
  have h' : (s.gens.map drugOne)[i]? = some (GenState.suspended k l c q f cl) := h
  rw [Array.getElem?_map] at h'
  cases e : s.gens[i]? with
  | none => rw [e] at h'; cases h'
  | some z =>
    rw [e] at h'
    cases z <;> first | (cases h'; done) | (left; cases h'; rfl)
theorem bare_drug (h : AllBare s.gens) : AllBare (drug s).gens := fun y hy => by
  obtain ⟨z, hz, rfl⟩ := Array.mem_map.mp (show y ∈ s.gens.map drugOne from hy)
  have := h z hz
  cases z <;> exact this
theorem bare_back (hG : AllBare G) (h : AllBare s.gens) : AllBare (back G s).gens := fun y hy => by
  obtain ⟨i, hi, e⟩ := Array.mem_iff_getElem.mp hy
  have e' : (back G s).gens[i]? = some y := by rw [Array.getElem?_eq_getElem hi, e]
  rw [at_back] at e'
  cases q : s.gens[i]? with
  | none => rw [q] at e'; cases e'
  | some z =>
    rw [q] at e'
    have hz : z.bare = true := h z (Array.mem_of_getElem? q)
    cases r : G[i]? with
    | none => rw [r] at e'; cases e'; exact hz
    | some v =>
      have hv : v.bare = true := hG v (Array.mem_of_getElem? r)
      rw [r] at e'
      cases v <;> cases e' <;> first | exact hz | exact hv
/-- a sleeper of G stands in the state that is put back -/
theorem sleeper_back {k l c q f cl} (D : Drugged G s) (h : G[i]? = some (GenState.suspended k l c q f cl)) : (back G s).gens[i]? = some (GenState.suspended k l c q f cl) := by
  rw [at_back, D i k l c q f cl h, h]; rfl
/-- what is no sleeper of G stands as it does -/
theorem other_back (n : ∀ (k : Resume → Sem PySem.Fin) (l : List Value) (c : Code) (q : Pos) (f : List Frame) (cl : Bool), G[i]? ≠ some (GenState.suspended k l c q f cl)) : (back G s).gens[i]? = s.gens[i]? := by
  rw [at_back]
  have e : ∀ z, backOne G[i]? z = z := fun z => by
    unfold backOne
    split
    · rename_i h; exact absurd h (n _ _ _ _ _ _)
    · rfl
  cases s.gens[i]? with
  | none => rfl
  | some z => exact congrArg some (e z)
theorem size_back : (back G s).gens.size = s.gens.size := by
  show (s.gens.mapIdx _).size = _
  simp
/-- an entry that is no sleeper's is set -/
theorem back_set (n : ∀ (k : Resume → Sem PySem.Fin) (l : List Value) (c : Code) (q : Pos) (f : List Frame) (cl : Bool), G[i]? ≠ some (GenState.suspended k l c q f cl)) : back G (s.setGen i z) = (back G s).setGen i z := by
  show ({ s with gens := (s.gens.setIfInBounds i z).mapIdx fun j v => backOne G[j]? v } : Shared) = { s with gens := (s.gens.mapIdx fun j v => backOne G[j]? v).setIfInBounds i z }
  have bz : backOne G[i]? z = z := by
    unfold backOne
    split
    · rename_i h; exact absurd h (n _ _ _ _ _ _)
    · rfl
  have e : ((s.gens.setIfInBounds i z).mapIdx fun j v => backOne G[j]? v) = (s.gens.mapIdx fun j v => backOne G[j]? v).setIfInBounds i z := by
    apply Array.ext_getElem?
    intro j
    by_cases hj : j = i
    · subst hj
      by_cases hl : j < s.gens.size
      · simp [hl, bz]
      · simp [hl]
    · rw [Array.getElem?_mapIdx, Array.getElem?_setIfInBounds_ne (Ne.symm hj), Array.getElem?_setIfInBounds_ne (Ne.symm hj), Array.getElem?_mapIdx]
  rw [e]
theorem back_push (D : Drugged G s) : back G { s with gens := s.gens.push z } = { back G s with gens := (back G s).gens.push z } := by
  have bz : backOne G[s.gens.size]? z = z := by
    unfold backOne
    split
    · rename_i h
      have := D _ _ _ _ _ _ _ h
      simp at this
    · rfl
  show ({ s with gens := (s.gens.push z).mapIdx fun j v => backOne G[j]? v } : Shared) = { s with gens := (s.gens.mapIdx fun j v => backOne G[j]? v).push z }
  have e : ((s.gens.push z).mapIdx fun j v => backOne G[j]? v) = (s.gens.mapIdx fun j v => backOne G[j]? v).push z := by
    rw [Array.mapIdx_push, bz]
  rw [e]
theorem drugged_set (D : Drugged G s) (n : ∀ (k : Resume → Sem PySem.Fin) (l : List Value) (c : Code) (q : Pos) (f : List Frame) (cl : Bool), G[i]? ≠ some (GenState.suspended k l c q f cl)) : Drugged G (s.setGen i z) := fun j k l c q f cl h => by
  have hj : j ≠ i := fun e => by rw [e] at h; exact n _ _ _ _ _ _ h
  show (s.gens.setIfInBounds i z)[j]? = _
  rw [Array.getElem?_setIfInBounds_ne (Ne.symm hj)]
  exact D _ _ _ _ _ _ _ h
theorem drugged_push (D : Drugged G s) : Drugged G { s with gens := s.gens.push z } := fun j k l c q f cl h => by
  have e := D _ _ _ _ _ _ _ h
  have hl : j < s.gens.size := (Array.getElem?_eq_some_iff.mp e).1
  show (s.gens.push z)[j]? = _
  rw [Array.getElem?_push, if_neg (Nat.ne_of_lt hl)]
  exact e
theorem neat_set (N : Neat s) (hz : ∀ (k : Resume → Sem PySem.Fin) (l : List Value) (c : Code) (q : Pos) (f : List Frame) (cl : Bool), z = GenState.suspended k l c q f cl → splitAtGen f = none) : Neat (s.setGen i z) := fun j k l c q f cl h => by
  have h' : (s.gens.setIfInBounds i z)[j]? = some (GenState.suspended k l c q f cl) := h
  by_cases hj : j = i
  · subst hj
    by_cases hl : j < s.gens.size
    · rw [Array.getElem?_setIfInBounds_self_of_lt hl] at h'
      exact .inr (hz k l c q f cl (Option.some.inj h'))
    · have : (s.gens.setIfInBounds j z).size ≤ j := by simp; omega
      rw [Array.getElem?_eq_none this] at h'; cases h'
  · rw [Array.getElem?_setIfInBounds_ne (Ne.symm hj)] at h'
    exact N _ _ _ _ _ _ _ h'
theorem neat_push (N : Neat s) (hz : ∀ (k : Resume → Sem PySem.Fin) (l : List Value) (c : Code) (q : Pos) (f : List Frame) (cl : Bool), z ≠ GenState.suspended k l c q f cl) : Neat { s with gens := s.gens.push z } := fun j k l c q f cl h => by
  have h' : (s.gens.push z)[j]? = some (GenState.suspended k l c q f cl) := h
  rw [Array.getElem?_push] at h'
  split at h'
  · exact absurd (Option.some.inj h') (hz _ _ _ _ _ _)
  · exact N _ _ _ _ _ _ _ h'
theorem neat_end {e : End} (N : Neat s) (h : EndNeat e) : Neat (s.setGen i e.genState) := neat_set N fun k l c q f cl x => by
  cases e with
  | ret r => cases x
  | susp v g l' k' c' p' fs =>
    have : fs = f := by
      simp only [End.genState] at x
      injection x
    rw [← this]; exact h
theorem split_append {a b : List Frame} (ha : splitAtGen a = none) (hb : splitAtGen b = none) : splitAtGen (a ++ b) = none := by
  induction a with
  | nil => exact hb
  | cons F r ih =>
    cases F with
    | gen g k l c p => cases ha
    | ret k h g l c p kp =>
      have hr : splitAtGen r = none := by
        have : (splitAtGen r).map (fun x => ((Frame.ret k h g l c p kp) :: x.1, x.2.1, x.2.2)) = none := ha
        simpa using this
      show (splitAtGen (r ++ b)).map _ = none
      rw [ih hr]; rfl
theorem split_tail {k h g l c p kp} {r : List Frame} (ha : splitAtGen (Frame.ret k h g l c p kp :: r) = none) : splitAtGen r = none := by
  have : (splitAtGen r).map (fun x => ((Frame.ret k h g l c p kp) :: x.1, x.2.1, x.2.2)) = none := ha
  simpa using this
end

theorem awake_of {G : Array GenState} {s : Shared} {i : Nat} {st : GenState} (d : Drugged G s) (hs : s.gens[i]? = some st) (h : ∀ (l : List Value) (c : Code) (q : Pos) (f : List Frame) (cl : Bool), st ≠ GenState.suspended stone l c q f cl) :
    ∀ (k : Resume → Sem PySem.Fin) (l : List Value) (c : Code) (q : Pos) (f : List Frame) (cl : Bool), G[i]? ≠ some (GenState.suspended k l c q f cl) := fun k l c q f cl x => by
  have := d _ _ _ _ _ _ _ x
  rw [hs] at this
  exact h _ _ _ _ _ (Option.some.inj this)
theorem seen_back {G : Array GenState} {s : Shared} {i : Nat} {st : GenState} (d : Drugged G s) (hs : s.gens[i]? = some st) : (backOne G[i]? st).seen = st.seen ∧ (back G s).gens[i]? = some (backOne G[i]? st) := by
  refine ⟨?_, by rw [at_back, hs]; rfl⟩
  cases q : G[i]? with
  | none => rfl
  | some v =>
    cases v with
    | suspended k' l' c' q' f' cl' =>
      have := d _ _ _ _ _ _ _ q
      rw [hs] at this; cases this; rfl
    | _ => rfl

/-- the run, with the sleepers back in their places -/
theorem runs_back {M : Model} {G : Array GenState} {Γ : PySem.Ctx} {p : Pos} {t : Sem PySem.Fin} {fs : List Frame} {s s' : Shared} {e : End} (h : Runs M Γ p t fs s e s') :
    splitAtGen fs = none → Drugged G s → Neat s → Drugged G s' ∧ Neat s' ∧ EndNeat e ∧ Runs M Γ p t fs (back G s) e (back G s') := by
  induction h with
  | done => exact fun _ d n => ⟨d, n, trivial, .done⟩
  | raise => exact fun _ d n => ⟨d, n, trivial, .raise⟩
  | again hq _ ih => exact fun hf d n => let ⟨a, b, c, r⟩ := ih hf d n; ⟨a, b, c, .again hq r⟩
  | rule _ ih => exact fun hf d n => let ⟨a, b, c, r⟩ := ih hf d n; ⟨a, b, c, .rule r⟩
  | «at» _ ih => exact fun hf d n => let ⟨a, b, c, r⟩ := ih hf d n; ⟨a, b, c, .at r⟩
  | load ho _ ih => exact fun hf d n => let ⟨a, b, c, r⟩ := ih hf d n; ⟨a, b, c, .load ho r⟩
  | update ho _ ih => exact fun hf d n => let ⟨a, b, c, r⟩ := ih hf d n; ⟨a, b, c, .update ho r⟩
  | loadIfAlive _ ih => exact fun hf d n => let ⟨a, b, c, r⟩ := ih hf d n; ⟨a, b, c, .loadIfAlive r⟩
  | point _ ih => exact fun hf d n => let ⟨a, b, c, r⟩ := ih hf d n; ⟨a, b, c, .point r⟩
  | alloc _ ih => exact fun hf d n => let ⟨a, b, c, r⟩ := ih hf d n; ⟨a, b, c, .alloc r⟩
  | fresh _ ih => exact fun hf d n => let ⟨a, b, c, r⟩ := ih hf d n; ⟨a, b, c, .fresh r⟩
  | ask _ ih => exact fun hf d n => let ⟨a, b, c, r⟩ := ih hf d n; ⟨a, b, c, .ask r⟩
  | choose hn _ ih => exact fun hf d n => let ⟨a, b, c, r⟩ := ih hf d n; ⟨a, b, c, .choose hn r⟩
  | os _ ih => exact fun hf d n => let ⟨a, b, c, r⟩ := ih hf d n; ⟨a, b, c, .os r⟩
  | handled _ ih => exact fun hf d n => let ⟨a, b, c, r⟩ := ih hf d n; ⟨a, b, c, .handled r⟩
  | stack _ ih => exact fun hf d n => let ⟨a, b, c, r⟩ := ih hf d n; ⟨a, b, c, .stack r⟩
  | thread _ ih => exact fun hf d n => let ⟨a, b, c, r⟩ := ih hf d n; ⟨a, b, c, .thread r⟩
  | yield => exact fun _ d n => ⟨d, n, rfl, .yield⟩
  | genState hs _ ih =>
    intro hf d n
    obtain ⟨a, b, c, r⟩ := ih hf d n
    obtain ⟨e1, e2⟩ := seen_back d hs
    exact ⟨a, b, c, .genState e2 (by rw [e1]; exact r)⟩
  | newGen _ ih =>
    intro hf d n
    obtain ⟨a, b, c, r⟩ := ih hf (drugged_push d) (neat_push n fun _ _ _ _ _ _ x => by cases x)
    rw [back_push d] at r
    exact ⟨a, b, c, .newGen (by rw [size_back]; exact r)⟩
  | call _ _ ih1 ih2 =>
    intro hf d n
    obtain ⟨a, b, _, r⟩ := ih1 rfl d n
    obtain ⟨a2, b2, c2, r2⟩ := ih2 hf a b
    exact ⟨a2, b2, c2, .call r r2⟩
  | callSusp _ ih =>
    intro hf d n
    obtain ⟨a, b, c, r⟩ := ih rfl d n
    exact ⟨a, b, split_append c rfl, .callSusp r⟩
  | resumeFresh hs hr hq _ ih1 ih2 =>
    intro hf d n
    have ni := awake_of d hs fun _ _ _ _ _ x => by cases x
    obtain ⟨a, b, c, r⟩ := ih1 rfl (drugged_set d ni) (neat_set n fun _ _ _ _ _ _ x => by cases x)
    obtain ⟨a2, b2, c2, r2⟩ := ih2 hf (drugged_set a ni) (neat_end b c)
    rw [back_set ni] at r r2
    exact ⟨a2, b2, c2, .resumeFresh ((other_back ni).trans hs) r hq r2⟩
  | resumeSuspended hs hr hq _ ih1 ih2 =>
    intro hf d n
    rename_i k₁ _ _ _ _ _ _ _ _ _
    have ni := awake_of d hs fun _ _ _ _ _ x => by
      injection x with x
      rw [x] at hr
      exact no_runs hr "asleep" rfl
    rcases n _ _ _ _ _ _ _ hs with x | hf'
    · rw [x] at hr
      exact absurd rfl (no_runs hr "asleep")
    obtain ⟨a, b, c, r⟩ := ih1 hf' (drugged_set d ni) (neat_set n fun _ _ _ _ _ _ x => by cases x)
    obtain ⟨a2, b2, c2, r2⟩ := ih2 hf (drugged_set a ni) (neat_end b c)
    rw [back_set ni] at r r2
    exact ⟨a2, b2, c2, .resumeSuspended ((other_back ni).trans hs) r hq r2⟩
  | resumeJustStarted hs hv _ ih =>
    intro hf d n
    have ni := awake_of d hs fun _ _ _ _ _ x => by cases x
    obtain ⟨a, b, c, r⟩ := ih hf d n
    exact ⟨a, b, c, .resumeJustStarted ((other_back ni).trans hs) hv r⟩
  | resumeThrowFresh hs _ ih =>
    intro hf d n
    have ni := awake_of d hs fun _ _ _ _ _ x => by cases x
    obtain ⟨a, b, c, r⟩ := ih hf (drugged_set d ni) (neat_set n fun _ _ _ _ _ _ x => by cases x)
    rw [back_set ni] at r
    exact ⟨a, b, c, .resumeThrowFresh ((other_back ni).trans hs) r⟩
  | resumeRunning hs _ ih =>
    intro hf d n
    have ni := awake_of d hs fun _ _ _ _ _ x => by cases x
    obtain ⟨a, b, c, r⟩ := ih hf d n
    exact ⟨a, b, c, .resumeRunning ((other_back ni).trans hs) r⟩
  | resumeFinished hs _ ih =>
    intro hf d n
    have ni := awake_of d hs fun _ _ _ _ _ x => by cases x
    obtain ⟨a, b, c, r⟩ := ih hf d n
    exact ⟨a, b, c, .resumeFinished ((other_back ni).trans hs) r⟩
  | segRet _ _ ih1 ih2 =>
    intro hf d n
    obtain ⟨a, b, _, r⟩ := ih1 rfl d n
    obtain ⟨a2, b2, c2, r2⟩ := ih2 (split_tail hf) a b
    exact ⟨a2, b2, c2, .segRet r r2⟩
  | segGen _ _ _ _ => exact fun hf => nomatch hf
  | segSuspOut hs _ ih =>
    intro hf d n
    obtain ⟨a, b, c, r⟩ := ih rfl d n
    exact ⟨a, b, split_append c hs, .segSuspOut hs r⟩
  | segSuspGen hs _ _ _ _ _ => exact fun hf => by rw [hs] at hf; cases hf
/-- .. for code that hands back values -/
theorem wp_back {α : Type} {M : Model} {G : Array GenState} {Γ : PySem.Ctx} (t : Sem α) : ∀ {Q : α → Pos → Shared → Prop} {E : Value → Pos → Shared → Prop} {p : Pos} {s : Shared}, Drugged G s → Neat s → Sem.wp M Γ t Q E p s →
    Sem.wp M Γ t (fun a p' s' => ∃ s1, s' = back G s1 ∧ Drugged G s1 ∧ Neat s1 ∧ Q a p' s1) (fun x p' s' => ∃ s1, s' = back G s1 ∧ Drugged G s1 ∧ Neat s1 ∧ E x p' s1) p (back G s) := by
  induction t with
  | pure a => exact fun d n h => ⟨_, rfl, d, n, h⟩
  | raise x => exact fun d n h => ⟨_, rfl, d, n, h⟩
  | unsupported w => exact fun d n h => h.elim
  | finish x => exact fun d n h => h.elim
  | register a k => exact fun d n h => h.elim
  | yield v g l k => exact fun d n h => h.elim
  | fork c k => exact fun d n h => h.elim
  | await a f d l k => exact fun d n h => h.elim
  | rule tag k ih => exact fun d n h => ih () (s := _) d n h
  | «at» q k ih => exact fun d n h => ih () d n h
  | load a part k ih => exact fun d n ⟨o, ho, h⟩ => ⟨o, ho, ih o d n h⟩
  | update a part f k ih =>
    intro Q E p s d n h
    exact ⟨h.1, ih () (s := { s with heap := s.heap.update a f }) d n h.2⟩
  | loadIfAlive a k ih => exact fun d n h => ih _ d n h
  | point l k ih => exact fun d n h => ih () d n h
  | alloc o k ih =>
    intro Q E p s d n h
    exact ih _ (s := { s with heap := s.heap.push o }) d n h
  | fresh k ih =>
    intro Q E p s d n h
    exact ih _ (s := { s with toks := s.toks + 1 }) d n h
  | ask k ih => exact fun d n h => ih _ d n h
  | choose src m k ih =>
    intro Q E p s d n h
    exact ⟨h.1, ih _ (s := { s with drawn := s.drawn.bump src }) d n h.2⟩
  | os q l k ih =>
    intro Q E p s d n h
    exact ih _ (s := { s with os := (Os.step s.os q).1 }) d n h
  | call c hd g l k ih =>
    intro Q E p s d n ⟨r, s', hr, h⟩
    obtain ⟨a, b, _, r'⟩ := runs_back hr rfl d n
    exact ⟨r, back G s', r', ih r a b h⟩
  | handled own k ih => exact fun d n h => ih _ d n h
  | genState i k ih =>
    intro Q E p s d n ⟨st, hs, h⟩
    obtain ⟨e1, e2⟩ := seen_back d hs
    refine ⟨_, e2, ?_⟩
    rw [e1]
    exact ih _ d n h
  | newGen c k ih =>
    intro Q E p s d n h
    have := ih s.gens.size (s := { s with gens := s.gens.push (.fresh c) }) (drugged_push d) (neat_push n fun _ _ _ _ _ _ x => by cases x) h
    rw [back_push d] at this
    show Sem.wp M Γ (k (back G s).gens.size) _ _ p _
    rw [size_back]
    exact this
  | resume i r l k ih =>
    intro Q E p s d n h
    rw [Sem.wp_resume] at h ⊢
    obtain ⟨res, s', hw, h⟩ := h
    have key : Drugged G s' ∧ Neat s' ∧ Wakes M Γ p i r (back G s) res (back G s') := by
      unfold Wakes at hw ⊢
      cases hs : s.gens[i]? with
      | none => rw [hs] at hw; exact hw.elim
      | some st =>
        rw [hs] at hw
        have nj := fun y => awake_of d hs y
        cases st with
        | fresh c =>
          have nn := nj fun _ _ _ _ _ x => by cases x
          rw [other_back nn, hs]
          cases r with
          | throw x =>
            obtain ⟨rfl, rfl⟩ := hw
            exact ⟨drugged_set d nn, neat_set n (fun _ _ _ _ _ _ x => by cases x), rfl, by rw [back_set nn]⟩
          | send v =>
            by_cases hv : v = .none
            · subst hv
              obtain ⟨e₁, s₁, hr, hq, rfl, rfl⟩ := hw
              obtain ⟨a, b, c', r'⟩ := runs_back hr rfl (drugged_set d nn) (neat_set n fun _ _ _ _ _ _ x => by cases x)
              rw [back_set nn] at r'
              exact ⟨drugged_set a nn, neat_end b c', e₁, back G s₁, r', hq, rfl, by rw [back_set nn]⟩
            · have hw' : res = .justStarted ∧ s' = s := by
                cases v <;> first | exact hw | exact absurd rfl hv
              obtain ⟨rfl, rfl⟩ := hw'
              refine ⟨d, n, ?_⟩
              cases v <;> first | exact ⟨rfl, rfl⟩ | exact absurd rfl hv
        | suspended k₀ l₀ c₀ p₀ f₀ cl₀ =>
          obtain ⟨e₁, s₁, hr, hq, rfl, rfl⟩ := hw
          have nk : k₀ ≠ stone := fun x => by
            rw [x] at hr
            exact no_runs hr "asleep" rfl
          have nn := nj fun _ _ _ _ _ x => by cases x; exact nk rfl
          rw [other_back nn, hs]
          have hf' : splitAtGen f₀ = none := by
            rcases n _ _ _ _ _ _ _ hs with x | x
            · exact absurd x nk
            · exact x
          obtain ⟨a, b, c', r'⟩ := runs_back hr hf' (drugged_set d nn) (neat_set n fun _ _ _ _ _ _ x => by cases x)
          rw [back_set nn] at r'
          exact ⟨drugged_set a nn, neat_end b c', e₁, back G s₁, r', hq, rfl, by rw [back_set nn]⟩
        | running =>
          have nn := nj fun _ _ _ _ _ x => by cases x
          obtain ⟨rfl, rfl⟩ := hw
          rw [other_back nn, hs]
          exact ⟨d, n, rfl, rfl⟩
        | finished =>
          have nn := nj fun _ _ _ _ _ x => by cases x
          obtain ⟨rfl, rfl⟩ := hw
          rw [other_back nn, hs]
          exact ⟨d, n, rfl, rfl⟩
    exact ⟨res, back G s', key.2.2, ih res key.1 key.2.1 h⟩
  | stack k ih => exact fun d n h => ih _ d n h
  | thread k ih => exact fun d n h => ih _ d n h

/-- what is shown with sleepers out of use holds with them in their places, and they sleep on -/
theorem wpAny_back {α : Type} {M : Model} {A : Around} {t : Sem α} {Q : α → Shared → Prop} {E : Value → Shared → Prop} {G : Array GenState} {s : Shared} (d : Drugged G s) (n : Neat s) (h : wpAny M A t Q E s) :
    wpAny M A t (fun a s' => ∃ s1, s' = back G s1 ∧ Drugged G s1 ∧ Neat s1 ∧ Q a s1) (fun x s' => ∃ s1, s' = back G s1 ∧ Drugged G s1 ∧ Neat s1 ∧ E x s1) (back G s) := fun Γ p hΓ =>
  wp_back (M := M) (G := G) (Γ := Γ) t (p := p) d n (h Γ p hΓ)
theorem wpAny_asleep {α : Type} {M : Model} {A : Around} {t : Sem α} {Q : α → Shared → Prop} {E : Value → Shared → Prop} {s : Shared} (h : wpAny M A t Q E (drug s)) :
    wpAny M A t (fun a s' => ∃ s1, s' = back s.gens s1 ∧ Drugged s.gens s1 ∧ Neat s1 ∧ Q a s1) (fun x s' => ∃ s1, s' = back s.gens s1 ∧ Drugged s.gens s1 ∧ Neat s1 ∧ E x s1) s := by
  have := wpAny_back drugged_drug neat_drug h
  rw [back_drug] at this
  exact this
end GK
/-! One segment of a generator's run: from where it is woken to where it hands out a value or ends. -/
namespace GK
open PySem PySem.Spec PyProof.Rows

/-- the code runs on to an end of which Φ holds -/
def SegG (M : Model) (A : Around) (Φ : End → Shared → Prop) (c : Code) (t : Sem PySem.Fin) (fs : List Frame) (s : Shared) : Prop :=
  ∀ (Γ : PySem.Ctx) (p : Pos), Γ.code = c → Γ.Woken A → ∃ e s', Runs M Γ p t fs s e s' ∧ Φ e s'
/-- no exception -/
abbrev nevr : Value → Shared → Prop := fun _ _ => False

section
variable {M : Model} {A : Around} {Φ : End → Shared → Prop} {c : Code} {fs : List Frame} {s : Shared} {env : Env}
  {K : Flow → Sem PySem.Fin} {J : Value → Sem PySem.Fin} {gd : Bool → Bool} {lv : List Value → List Value}
theorem sg_wrap {α : Type} {m : Sem α} {K : α → Sem PySem.Fin} {J : Value → Sem PySem.Fin} (h : wpAny M (A.over c fs) m (fun a s' => SegG M A Φ c (K a) fs s') nevr s) : SegG M A Φ c (m.wrap K J gd lv) fs s := fun Γ p hc hΓ => by
  subst hc
  exact runs_wrap_of_wp K J gd lv m (h (Γ.over fs) p (hΓ.over fs)) (fun a p' s' x => x Γ p' rfl hΓ) fun _ _ _ x => x.elim
theorem sg_bind {α : Type} {m : Sem α} {K : α → Sem PySem.Fin} (h : wpAny M (A.over c fs) m (fun a s' => SegG M A Φ c (K a) fs s') nevr s) : SegG M A Φ c (m >>= K) fs s := by
  rw [Sem.bind_eq_wrap']; exact sg_wrap h
theorem sg_at {p' : Pos} {k : Unit → Sem PySem.Fin} (h : SegG M A Φ c (k ()) fs s) : SegG M A Φ c (.at p' k) fs s :=
  sg_wrap (m := standAt p') (K := k) (J := .raise) (gd := id) (lv := id) (wpAny_standAt h)
theorem sg_point {l : List Value} {k : Unit → Sem PySem.Fin} (h : SegG M A Φ c (k ()) fs s) : SegG M A Φ c (.point l k) fs s :=
  sg_wrap (m := point) (K := k) (J := .raise) (gd := id) (lv := fun _ => l) (wpAny_point h)
theorem sg_call {c' : Code} {h g l} {k : Result → Sem PySem.Fin} (hc : ∀ p, SegG M A Φ c' (M.den c') (.ret k h g l c p [] :: fs) s) : SegG M A Φ c (.call c' h g l k) fs s := fun Γ p e1 hΓ => by
  subst e1
  obtain ⟨e, s', hr, he⟩ := hc p (Γ.goto c') p rfl (hΓ.goto c')
  exact ⟨e, s', runs_call_seg hr, he⟩
theorem sg_leaf {k h g l c₁ p₁ kp} (r : Result) (hk : SegG M A Φ c₁ (k r) fs s) : SegG M A Φ c (leafOf r) (.ret k h g l c₁ p₁ kp :: fs) s := fun Γ p _ hΓ => by
  obtain ⟨e, s', hr, he⟩ := hk (Γ.goto c₁) p₁ rfl (hΓ.goto c₁)
  exact ⟨e, s', Runs.pop r hr, he⟩
theorem sg_again {c' : Code} (hq : c'.quiet = true) (hc : SegG M A Φ c' (M.den c') fs s) : SegG M A Φ c (.pure (.again c')) fs s := fun Γ p _ hΓ => by
  obtain ⟨e, s', hr, he⟩ := hc (Γ.goto c') p rfl (hΓ.goto c')
  exact ⟨e, s', Runs.head (c₁ := c') (fun _ _ x => .again hq x) hr, he⟩
theorem sg_end (r : Result) (h : Φ (.ret r) s) : SegG M A Φ c (leafOf r) [] s := fun Γ p _ _ => ⟨.ret r, s, Runs.leaf r, h⟩
theorem sg_yield {v g l} {k : Resume → Sem PySem.Fin} (hfs : splitAtGen fs = none) (h : ∀ p, Φ (.susp v g l k c p fs) s) : SegG M A Φ c (.yield v g l k) fs s := fun Γ p e1 _ => by
  subst e1
  exact ⟨_, s, Runs.yield' fs hfs, h p⟩
theorem SegG.imp {Φ' : End → Shared → Prop} {t : Sem PySem.Fin} (h : SegG M A Φ c t fs s) (hΦ : ∀ e s', Φ e s' → Φ' e s') : SegG M A Φ' c t fs s := fun Γ p e1 hΓ => by
  obtain ⟨e, s', hr, he⟩ := h Γ p e1 hΓ
  exact ⟨e, s', hr, hΦ e s' he⟩

/-! ### statements -/
theorem sg_nil (h : SegG M A Φ c (K .next) fs s) : SegG M A Φ c ((execs [] env).wrap K J gd lv) fs s := h
theorem sg_cons {st : Stmt} {rest : List Stmt} (h : SegG M A Φ c ((exec st env).wrap (fun f => match f with | .next => (execs rest env).wrap K J gd lv | f => K f) J gd lv) fs s) :
    SegG M A Φ c ((execs (st :: rest) env).wrap K J gd lv) fs s := by rw [execs_cons_wrap]; exact h
theorem sg_if {test : Expr} {a b : List Stmt} {pos : Pos} (h : wpAny M (A.over c fs) (isTrue test env (eval test env)) (fun x s' => if x = true then SegG M A Φ c ((execs a env).wrap K J gd lv) fs s' else SegG M A Φ c ((execs b env).wrap K J gd lv) fs s') nevr s) :
    SegG M A Φ c ((exec (.If test a b pos) env).wrap K J gd lv) fs s := by
  rw [exec_If]
  show SegG M A Φ c (.at pos fun _ => ((isTrue test env (eval test env) >>= fun x => if x = true then execs a env else execs b env)).wrap K J gd lv) fs s
  refine sg_at ?_
  rw [Sem.bind_eq_wrap', Sem.wrap_wrap]
  refine sg_wrap (wpAny_mono h (fun x s' hx => ?_) fun _ _ z => z)
  cases x with
  | true => rw [if_pos rfl] at hx; exact hx
  | false => rw [if_neg Bool.false_ne_true] at hx; exact hx
/-- what the sleeper does when it is woken with None: it goes on behind the statement -/
def GoesOn (M : Model) (A : Around) (c : Code) (fs : List Frame) (t : Sem PySem.Fin) (k : Resume → Sem PySem.Fin) : Prop := ∀ (Φ : End → Shared → Prop) (s : Shared), SegG M A Φ c t fs s → SegG M A Φ c (k (.send .none)) fs s
theorem sg_stYield {e : Expr} {yp pos : Pos} (hfs : splitAtGen fs = none) (h : wpAny M (A.over c fs) (eval e env) (fun v s' => ∀ l k p, GoesOn M A c fs (K .next) k → Φ (.susp v (gd false) l k c p fs) s') nevr s)
    (hco : env.scope.isCoroutine = false := by rfl) (hi : interactive env = false := by rfl) : SegG M A Φ c ((exec (.Expr (.Yield (some e) yp) pos) env).wrap K J gd lv) fs s := by
  rw [exec_Expr env _ pos hi rfl]
  show SegG M A Φ c (.at pos fun _ => ((eval e env >>= fun v => (standAt yp >>= fun _ => yieldOut env v)) >>= fun x => dropValue (.Yield (some e) yp) pos x).wrap K J gd lv) fs s
  have hy : ∀ v, yieldOut env v = yieldValue v := fun v => by unfold yieldOut; rw [hco, if_neg Bool.false_ne_true]
  simp only [hy]
  refine sg_at ?_
  rw [Sem.bind_eq_wrap', Sem.bind_eq_wrap', Sem.wrap_wrap, Sem.wrap_wrap]
  refine sg_wrap (wpAny_mono h (fun v s' h' => ?_) fun _ _ x => x)
  refine sg_at (sg_yield hfs fun p => ?_)
  exact h' _ _ p fun Φ2 s2 z => z
theorem sg_stWhile {test : Expr} {body : List Stmt} {pos : Pos} (hK : True)
    (h : ∀ (k : Result → Sem PySem.Fin) (p : Pos), (∀ f, k (.ok f) = K f) → SegG M A Φ (.whileLoop test body [] env) (M.den (.whileLoop test body [] env)) (.ret k none (gd false) (lv []) c p [] :: fs) s) :
    SegG M A Φ c ((exec (.While test body [] pos) env).wrap K J gd lv) fs s := by
  rw [exec_While]
  exact sg_at (sg_call fun p => h _ p fun f => rfl)
end

section
variable {prog : Program} {w : World} {A : Around} {Φ : End → Shared → Prop} {fs : List Frame} {s : Shared} {env : Env}
/-- behind a turn of a loop -/
def afterTurn (c : Code) : Flow → Sem PySem.Fin
  | .next => .pure (.again c)
  | .cont => .pure (.again c)
  | .brk => .pure (.done .next)
  | .ret v => .pure (.done (.ret v))
/-- nothing of what follows an exception is asked here -/
def onErr (env : Env) : Value → Sem PySem.Fin := fun x => ((do noteFrame x env; theTreesLotGoes x : Sem Unit)).wrap (fun _ => .raise x) .raise id id
theorem sg_whileLoop {test : Expr} {body : List Stmt}
    (h : wpAny (model prog w) (A.over (.whileLoop test body [] env) fs) (isTrue test env (eval test env)) (fun b s' =>
        if b = true then SegG (model prog w) A Φ (.whileLoop test body [] env) ((execs body env).wrap (afterTurn (.whileLoop test body [] env)) (onErr env) id id) fs s'
        else SegG (model prog w) A Φ (.whileLoop test body [] env) (.pure (.done .next)) fs s') nevr s) :
    SegG (model prog w) A Φ (.whileLoop test body [] env) ((model prog w).den (.whileLoop test body [] env)) fs s := by
  show SegG _ A Φ _ ((whileTurn test body [] env).onRaise (fun x => do noteFrame x env; theTreesLotGoes x)) fs s
  unfold whileTurn
  rw [Sem.onRaise_eq_wrap, Sem.bind_eq_wrap', Sem.wrap_wrap]
  refine sg_wrap (wpAny_mono h (fun b s' hb => ?_) fun x s' hx => hx)
  cases b with
  | true =>
    rw [if_pos rfl] at hb
    show SegG _ A Φ _ (Sem.wrap _ _ _ _ (if true = true then _ else _)) fs s'
    rw [if_pos rfl, Sem.bind_eq_wrap', Sem.wrap_wrap]
    rw [Sem.wrap_congr (execs body env) _ _ (K' := afterTurn (.whileLoop test body [] env)) (H' := onErr env) (fun f => by cases f <;> rfl)
      (fun e => by first | exact Sem.bind_eq_wrap _ _ | (show (do noteFrame e env; theTreesLotGoes e : Sem Unit).bind (fun _ => .raise e) = _; rw [Sem.bind_eq_wrap]; rfl))]
    exact hb
  | false =>
    rw [if_neg Bool.false_ne_true] at hb
    show SegG _ A Φ _ (Sem.wrap _ _ _ _ (if false = true then _ else _)) fs s'
    rw [if_neg Bool.false_ne_true]
    exact hb
/-- a for statement: the iterator, then the loop's code -/
theorem sg_stFor {M : Model} {c : Code} {K : Flow → Sem PySem.Fin} {J : Value → Sem PySem.Fin} {gd : Bool → Bool} {lv : List Value → List Value} {tg iter : Expr} {body : List Stmt} {pos : Pos}
    (h : wpAny M (A.over c fs) (eval iter env) (fun x s1 => wpAny M (A.over c fs) (pyIter x) (fun it s2 =>
      ∀ (k : Result → Sem PySem.Fin) (p : Pos) (lv' : List Value), (∀ f, k (.ok f) = K f) → SegG M A Φ (.forLoop tg it body [] env) (M.den (.forLoop tg it body [] env)) (.ret k none (gd false) lv' c p [] :: fs) s2) nevr s1) nevr s)
    (hs : ∀ x, foldedSetIterable iter env x = pure x := by intro _; rfl) :
    SegG M A Φ c ((exec (.For tg iter body [] pos) env).wrap K J gd lv) fs s := by
  rw [exec_For]
  show SegG M A Φ c (.at pos fun _ => ((eval iter env >>= fun v => foldedSetIterable iter env v >>= fun x => (standAt iter.pos >>= fun _ => (holding [x] (pyIter x) >>= fun it => runOwn (.forLoop tg it body [] env) env)))).wrap K J gd lv) fs s
  refine sg_at ?_
  rw [Sem.bind_eq_wrap', Sem.wrap_wrap]
  refine sg_wrap (wpAny_mono h (fun v s1 h1 => ?_) fun _ _ x => x)
  rw [hs v]
  refine sg_at ?_
  show SegG M A Φ c ((holding [v] (pyIter v) >>= fun it => runOwn (.forLoop tg it body [] env) env).wrap K J gd lv) fs s1
  rw [Sem.bind_eq_wrap', Sem.wrap_wrap]
  refine sg_wrap (wpAny_mono (wpAny_holding h1) (fun it s2 h2 => ?_) fun _ _ x => x)
  exact sg_call fun p => h2 _ p _ fun f => rfl
theorem sg_forLoop {tg : Expr} {it : Value} {body : List Stmt}
    (h : wpAny (model prog w) (A.over (.forLoop tg it body [] env) fs) (pyNext it) (fun r s1 => match r with
      | none => SegG (model prog w) A Φ (.block [] env) ((model prog w).den (.block [] env)) fs s1
      | some v => wpAny (model prog w) (A.over (.forLoop tg it body [] env) fs) (letOwnedTupleGo tg it v) (fun _ s2 => wpAny (model prog w) (A.over (.forLoop tg it body [] env) fs) (assign tg env v) (fun _ s3 =>
          SegG (model prog w) A Φ (.forLoop tg it body [] env) ((execs body env).wrap (afterTurn (.forLoop tg it body [] env)) (onErr env) id id) fs s3) nevr s2) nevr s1) nevr s) :
    SegG (model prog w) A Φ (.forLoop tg it body [] env) ((model prog w).den (.forLoop tg it body [] env)) fs s := by
  show SegG _ A Φ _ ((forTurn tg it body [] env).onRaise (fun x => do noteFrame x env; theTreesLotGoes x)) fs s
  unfold forTurn
  rw [Sem.onRaise_eq_wrap]
  show SegG _ A Φ _ (.at tg.pos fun _ => (((pyNext it).onRaise (fun _ => standAt { tg.pos with line := 0 })) >>= fun r => match r with
      | none => again (.block [] env)
      | some v => (letOwnedTupleGo tg it v >>= fun _ => assign tg env v >>= fun _ => execs body env >>= fun f => match f with
        | .next | .cont => again (.forLoop tg it body [] env)
        | .brk => pure (.done .next)
        | .ret v => pure (.done (.ret v)))).wrap .pure (fun e => (do noteFrame e env; theTreesLotGoes e : Sem Unit).bind fun _ => .raise e) id id) fs s
  refine sg_at ?_
  rw [Sem.bind_eq_wrap', Sem.wrap_wrap]
  refine sg_wrap (wpAny_onRaise (wpAny_mono h (fun r s1 h1 => ?_) fun _ _ x => x.elim))
  cases r with
  | none => exact sg_again rfl h1
  | some v =>
    show SegG _ A Φ _ ((letOwnedTupleGo tg it v >>= fun _ => assign tg env v >>= fun _ => execs body env >>= fun f => match f with
        | .next | .cont => again (.forLoop tg it body [] env)
        | .brk => pure (.done .next)
        | .ret v => pure (.done (.ret v))).wrap .pure (fun e => (do noteFrame e env; theTreesLotGoes e : Sem Unit).bind fun _ => .raise e) id id) fs s1
    rw [Sem.bind_eq_wrap', Sem.wrap_wrap]
    refine sg_wrap (wpAny_mono h1 (fun _ s2 h2 => ?_) fun _ _ x => x)
    rw [Sem.bind_eq_wrap', Sem.wrap_wrap]
    refine sg_wrap (wpAny_mono h2 (fun _ s3 h3 => ?_) fun _ _ x => x)
    rw [Sem.bind_eq_wrap', Sem.wrap_wrap]
    rw [Sem.wrap_congr (execs body env) _ _ (K' := afterTurn (.forLoop tg it body [] env)) (H' := onErr env) (fun f => by cases f <;> rfl)
      (fun e => by first | exact Sem.bind_eq_wrap _ _ | (show (do noteFrame e env; theTreesLotGoes e : Sem Unit).bind (fun _ => .raise e) = _; rw [Sem.bind_eq_wrap]; rfl))]
    exact h3
/-- the end of a for: its else has no statements -/
theorem sg_block {k h g l c₁ p₁ kp} (hk : SegG (model prog w) A Φ c₁ (k (.ok .next)) fs s) : SegG (model prog w) A Φ (.block [] env) ((model prog w).den (.block [] env)) (.ret k h g l c₁ p₁ kp :: fs) s :=
  sg_leaf (.ok .next) hk
theorem sg_func {body : List Stmt} (h : SegG (model prog w) A Φ (.func body env) ((execs body env).wrap (fun f => .pure (.done (.ret (match f with | .ret v => v | _ => .none)))) (fun e => (leaving env e).wrap (fun _ => .raise e) .raise id id) id id) fs s) :
    SegG (model prog w) A Φ (.func body env) ((model prog w).den (.func body env)) fs s := by
  show SegG _ A Φ _ (.point [] fun _ => ((execs body env).onRaise (leaving env)) >>= _) fs s
  refine sg_point ?_
  rw [Sem.onRaise_eq_wrap, Sem.bind_eq_wrap', Sem.wrap_wrap]
  rw [Sem.wrap_congr (execs body env) _ _ (K' := fun f => .pure (.done (.ret (match f with | .ret v => v | _ => .none)))) (H' := fun e => (leaving env e).wrap (fun _ => .raise e) .raise id id) (fun f => by cases f <;> rfl)
    (fun e => by rw [Sem.bind_eq_wrap, Sem.wrap_wrap]; rfl)]
  exact h
end

/-! ### waking -/
/-- the generator, woken so, comes to an end of which Φ holds -/
def GoesG (M : Model) (A : Around) (Φ : End → Shared → Prop) (r : Resume) (s : Shared) : GenState → Prop
  | .fresh c => r = .send .none ∧ SegG M A Φ c (M.den c) [] s
  | .suspended k _ c _ fs _ => SegG M A Φ c (k r) fs s
  | _ => False
theorem wake {M : Model} {A : Around} {Φ : End → Shared → Prop} {E : Value → Shared → Prop} {s : Shared} {g : Nat} {gs : GenState} {r : Resume} {l : List Value} {α : Type} {k : GenResult → Sem α} {Q : α → Shared → Prop} (hg : s.gens[g]? = some gs)
    (hgo : GoesG M A Φ r (s.setGen g .running) gs) (hq : ∀ e s1, Φ e s1 → e.quiet = true) (h : ∀ e s1, Φ e s1 → wpAny M A (k e.result) Q E (s1.setGen g e.genState)) : wpAny M A (.resume g r l k) Q E s := fun Γ p hΓ => by
  rw [Sem.wp_resume]
  have hB : ∀ c, (Γ.wake c p).Woken A := fun c => hΓ.wake c p
  cases gs with
  | fresh c =>
    obtain ⟨rfl, hs⟩ := hgo
    obtain ⟨e, s1, hr, he⟩ := hs (Γ.wake c p) p rfl (hB c)
    exact ⟨e.result, s1.setGen g e.genState, by unfold Wakes; rw [hg]; exact ⟨e, s1, hr, hq e s1 he, rfl, rfl⟩, h e s1 he Γ p hΓ⟩
  | suspended k₀ l₀ c₀ p₀ fs₀ cl =>
    obtain ⟨e, s1, hr, he⟩ := (show SegG M A Φ c₀ (k₀ r) fs₀ _ from hgo) (Γ.wake c₀ p) p₀ rfl (hB c₀)
    exact ⟨e.result, s1.setGen g e.genState, by unfold Wakes; rw [hg]; exact ⟨e, s1, hr, hq e s1 he, rfl, rfl⟩, h e s1 he Γ p hΓ⟩
  | running => exact hgo.elim
  | finished => exact hgo.elim
/-- next(g) of a generator that raises nothing -/
theorem next_gen {P : Program} {w : World} {A : Around} {E : Value → Shared → Prop} {s : Shared} {a : Addr} {g : Nat} {gs : GenState} {Φ : End → Shared → Prop} {Q : Option Value → Shared → Prop} (hh : A.handled = none) (hl : s.heap.NoLimit) (hroom : A.depth < recursionLimit)
    (hg : s.heap.IsGen a g) (hgs : s.gens[g]? = some gs) (hgo : GoesG (model P w) A.in1 Φ (.send .none) (s.setGen g .running) gs)
    (hΦ : ∀ e s1, Φ e s1 → match e with
      | .ret (.ok f) => (f = .ret .none ∨ f = .next) ∧ ∀ h', (∀ b o, s1.heap.get? b = some o → h'.get? b = some o) → Q none { s1.setGen g .finished with heap := h' }
      | .ret (.error _) => False
      | .susp v gd l k c p fs => e.quiet = true ∧ Q (some v) (s1.setGen g e.genState)) :
    wpAny (model P w) A (pyNext (.ref a)) Q E s := by
  unfold pyNext
  refine wpAny_bind (wpAny_attempt (wpAny_callSpecial?_slot (name := Str.ofString "__next__") hg.typeIs slot_gen_next (wpAny_call_entry slot_gen_next hg.typeIs entry_gen_next ?_ (args_gen_next _))))
  show wpAny _ A.in1 (Builtin.Generator.genWake (.ref a) (.send .none)) _ _ s
  unfold Builtin.Generator.genWake
  refine wpAny_bind (wpAny_holding (wpAny_genNumber hg (wpAny_bind (wpAny_genState hgs ?_))))
  cases gs with
  | running => exact hgo.elim
  | finished => exact hgo.elim
  | _ =>
    refine wpAny_bind (wpAny_roomToWake hl hroom ?_)
    show wpAny _ A.in1 (.resume g (.send .none) [] _) _ _ s
    refine wake hgs hgo (fun e s1 he => ?_) fun e s1 he => ?_
    · have q := hΦ e s1 he
      cases e with
      | ret r => rfl
      | susp v gd l k c p fs => exact q.1
    · have q := hΦ e s1 he
      cases e with
      | susp v gd l k c p fs => exact wpAny_pure ⟨v, rfl, wpAny_pure q.2⟩
      | ret r =>
        cases r with
        | error x => exact q.elim
        | ok f =>
          obtain ⟨hf, q⟩ := q
          have hres : End.result (.ret (.ok f)) = .returned .none := by
            rcases hf with hf | hf <;> rw [hf] <;> rfl
          rw [hres]
          show wpAny _ A.in1 (newExc (.type "StopIteration") [] >>= _) _ _ _
          refine wpAny_bind ?_
          simp only [newExc, newTuple]
          refine wpAny_bind (wpAny_newObj_type ?_ (by size_fits))
          refine wpAny_bind (m := firstArgMember _ _) (wpAny_of_eq (a := Value.none) (by first | rfl | (simp only [firstArgMember]; rfl)) ?_)
          refine wpAny_newObj_type ?_ (by size_fits)
          simp only [raiseNew]
          refine wpAny_bind (wpAny_bind (wpAny_handled ?_))
          first | rw [show A.in1.handled = none from hh] | rw [hh]
          refine wpAny_throw ?_
          refine wpAny_bind (wpAny_isInstance (T := "StopIteration") (b := true) ⟨_, Heap.get?_push_size _ rfl, rfl⟩ isSubtype_stop ?_)
          exact wpAny_pure (q _ fun b o hb => Heap.get?_push_of_some _ (Heap.get?_push_of_some _ hb))
end GK
/-! What sleeps, and how it is woken: the contexts of a generator's body. -/
namespace GK
open PySem PySem.Spec PyProof.Rows L2

/-- the heap's first n objects -/
def cut (n : Nat) (h : Heap) : Heap := ⟨h.objs.extract 0 n, h.life⟩
theorem cut_size {n : Nat} {h : Heap} (hn : n ≤ h.objs.size) : (cut n h).objs.size = n := by
  show (h.objs.extract 0 n).size = n
  rw [Array.size_extract]; omega
theorem cut_at (n : Nat) (h : Heap) (b : Nat) : (cut n h).objs[b]? = if b < n then h.objs[b]? else none := by
  show (h.objs.extract 0 n)[b]? = _
  by_cases hb : b < n
  · rw [if_pos hb]
    by_cases h1 : b < h.objs.size
    · have h2 : b < (h.objs.extract 0 n).size := by rw [Array.size_extract]; omega
      rw [Array.getElem?_eq_getElem h2, Array.getElem?_eq_getElem h1]
      simp
    · rw [Array.getElem?_eq_none (show h.objs.size ≤ b by omega), Array.getElem?_eq_none (show (h.objs.extract 0 n).size ≤ b by rw [Array.size_extract]; omega)]
  · rw [if_neg hb, Array.getElem?_eq_none (show (h.objs.extract 0 n).size ≤ b by rw [Array.size_extract]; omega)]
theorem cut_get {n : Nat} {h : Heap} {b : Addr} (hb : b < n) : (cut n h).get? b = h.get? b := by
  unfold Heap.get?
  rw [cut_at n h b, if_pos hb]
theorem cut_none {n : Nat} {h : Heap} {b : Addr} (hb : n ≤ b) : (cut n h).get? b = none := by
  unfold Heap.get?
  rw [cut_at n h b, if_neg (Nat.not_lt.mpr hb)]
theorem of_cut {n : Nat} {h : Heap} {b : Addr} {o : Obj} (e : (cut n h).get? b = some o) : b < n ∧ h.get? b = some o := by
  by_cases hb : b < n
  · rw [cut_get hb] at e; exact ⟨hb, e⟩
  · rw [cut_none (Nat.le_of_not_lt hb)] at e; cases e

/-- what is fixed of a generator's run: its frame, its callers' frames, its number, the number of objects that stood when it was made -/
structure Fm where
  P : Program
  w : World
  K : PySem.W.Frag
  mg : Str → Option Value
  base : Heap
  N : List Str
  env : Env
  outer : List Env
  n0 : Nat
  Ab : Around
  g : Nat
  os : OsState
def Fm.A (F : Fm) : Around := F.Ab.deeper F.env
abbrev Fm.M (F : Fm) : Model := model F.P F.w
def Fm.cx (F : Fm) (s0 : Shared) (H0 : Hp) : Cx where
  prog := F.P
  w := F.w
  K := F.K
  mg := F.mg
  base := F.base
  A := F.A
  N := F.N
  s_0 := s0
  H_0 := H0
  env := F.env
  outer := F.outer
  stack := F.env :: F.outer
  ex := []
  fn := fun _ => true
  calm := true
  pn := []
  xe := nevr
structure Fm.Ok (F : Fm) : Prop where
  mod : Mod F.K F.mg F.base
  kind : F.env.scope.kind = .function
  glob : F.env.globals = mainGlobals
  blt : F.env.builtins = builtinsNs
  above : F.n0 ≤ F.env.locals
  inj : ∀ x y c, F.env.cells.lookup x = some c → F.env.cells.lookup y = some c → x = y
  has : ∀ x, (F.env.kindOf x = some .cell ∨ F.env.kindOf x = some .free) → ∃ c, F.env.cells.lookup x = some c
  cab : ∀ p ∈ F.env.cells, F.n0 ≤ p.2
  celln : ∀ p ∈ F.env.cells, F.env.cells.lookup p.1 = some p.2
  hd : F.A.handled = none
  frames : F.A.frames = some (F.env :: F.outer)
  frame : F.env.frame = some F.env.locals
  bsz : F.base.objs.size ≤ F.n0
  frlt : ∀ b ∈ frs F.outer, b < F.n0
/-- the world as the generator needs it when it is woken -/
structure Awake (F : Fm) (s : Shared) : Prop where
  os : s.os = F.os
  bare : AllBare s.gens
  bs : ∀ b o, F.base.get? b = some o → s.heap.get? b = some o
  funs : s.heap.FunFrames F.base F.outer
  gsz : F.g < s.gens.size
/-- where it was woken: the state, its own objects, what it keeps and never changes, what else it may read -/
structure Wk where
  s : Shared
  own : List Addr
  kd : List (Addr × Obj × HO)
  rd : List (Addr × Obj × HO)
abbrev Wk.all (wk : Wk) : List (Addr × Obj × HO) := wk.kd ++ wk.rd
/-- a description that leans on its object alone -/
def Lean1 : HO → Prop
  | .lst _ => True
  | .tup _ => True
  | _ => False
theorem lean_stay {P : Program} {w : World} {H H' : Hp} {h h' : Heap} {b : Addr} {u : HO} (hu : Lean1 u) (k : ∀ o, h.get? b = some o → h'.get? b = some o) (x : ObjOk P w H h b u) : ObjOk P w H' h' b u := by
  cases u with
  | lst xs => obtain ⟨z, its, n, r, e⟩ := x; exact ⟨z, its, n, r, k _ e⟩
  | tup xs => obtain ⟨z, its, r, ob, e, c⟩ := x; exact ⟨z, its, r, ob, k _ e, c⟩
  | _ => exact hu.elim
theorem lean_obj {P : Program} {w : World} {H : Hp} {h : Heap} {b : Addr} {u : HO} (hu : Lean1 u) (x : ObjOk P w H h b u) : ∃ o, h.get? b = some o ∧ ∀ v, o.data ≠ .cell v := by
  cases u with
  | lst xs => obtain ⟨z, its, n, r, e⟩ := x; exact ⟨_, e, fun v q => by cases q⟩
  | tup xs =>
    obtain ⟨z, its, r, ob, e, c⟩ := x
    obtain ⟨_, n, e2⟩ := c
    exact ⟨_, e, fun v q => by rw [e2] at q; cases q⟩
  | _ => exact hu.elim
structure WkOk (F : Fm) (wk : Wk) : Prop where
  aw : Awake F wk.s
  sz : F.n0 ≤ wk.s.heap.objs.size
  own : ∀ b ∈ wk.own, F.n0 ≤ b
  uniq : ∀ r ∈ wk.all, ∀ r' ∈ wk.all, r.1 = r'.1 → r = r'
  rd : ∀ r ∈ wk.all, wk.s.heap.get? r.1 = some r.2.1 ∧ Lean1 r.2.2 ∧ (∀ H, ObjOk F.P F.w H wk.s.heap r.1 r.2.2) ∧ r.1 ∉ wk.own ∧ F.base.get? r.1 = none ∧ r.1 ∉ frs F.outer
/-- all that is not its own stands frozen -/
def froz (F : Fm) (wk : Wk) : Hp := fun b =>
  match wk.all.find? (fun r => r.1 == b) with
  | some r => some (.frz r.2.1 r.2.2)
  | none => if F.n0 ≤ b ∧ b ∉ wk.own then (wk.s.heap.get? b).map fun o => HO.frz o (.ext fun h => h.get? b = some o) else none
def wkS (F : Fm) (wk : Wk) : Shared := { wk.s with heap := cut F.n0 wk.s.heap }
abbrev Fm.at (F : Fm) (wk : Wk) : Cx := F.cx (wkS F wk) (froz F wk)

section
variable {F : Fm} {wk : Wk}
theorem froz_cases (O : F.Ok) (W : WkOk F wk) {b : Addr} {u : HO} (h : froz F wk b = some u) : ∃ o v, u = .frz o v ∧ wk.s.heap.get? b = some o ∧ b ∉ wk.own ∧ F.base.get? b = none ∧ b ∉ frs F.outer ∧ (∀ H h', h'.get? b = some o → ObjOk F.P F.w H h' b v) := by
  unfold froz at h
  split at h
  · rename_i r hr
    have hm := List.mem_of_find?_eq_some hr
    have e1 : r.1 = b := by simpa using List.find?_some hr
    obtain ⟨a1, a2, a3, a4, a5, a6⟩ := W.rd r hm
    cases h
    rw [e1] at a1 a3 a4 a5 a6
    refine ⟨_, _, rfl, a1, a4, a5, a6, fun H h' e => lean_stay a2 (fun o q => ?_) (a3 H)⟩
    rw [a1] at q; cases q; exact e
  · split at h
    · rename_i hb
      cases e : wk.s.heap.get? b with
      | none => rw [e] at h; cases h
      | some o =>
        rw [e] at h
        cases h
        refine ⟨o, _, rfl, rfl, hb.2, ?_, fun z => ?_, fun H h' q => ⟨q, ⟨o, q⟩, fun h1 h2 q1 q2 => q2 _ q1⟩⟩
        · cases q : F.base.get? b with
          | none => rfl
          | some o' => exact absurd (Nat.lt_of_lt_of_le (Heap.lt_size q) (Nat.le_trans O.bsz hb.1)) (Nat.lt_irrefl _)
        · exact absurd (Nat.lt_of_lt_of_le (O.frlt b z) hb.1) (Nat.lt_irrefl _)
    · cases h
theorem froz_far (W : WkOk F wk) {b : Addr} {o : Obj} (h1 : F.n0 ≤ b) (h2 : b ∉ wk.own) (e : wk.s.heap.get? b = some o) : ∃ o' v, froz F wk b = some (.frz o' v) := by
  unfold froz
  split
  · exact ⟨_, _, rfl⟩
  · rw [if_pos ⟨h1, h2⟩, e]
    exact ⟨_, _, rfl⟩
theorem froz_own (W : WkOk F wk) {b : Addr} (h : b ∈ wk.own) : froz F wk b = none := by
  unfold froz
  split
  · rename_i r hr
    have hm := List.mem_of_find?_eq_some hr
    have e1 : r.1 = b := by simpa using List.find?_some hr
    exact absurd h (e1 ▸ (W.rd r hm).2.2.2.1)
  · rw [if_neg fun z => z.2 h]
theorem froz_rd (W : WkOk F wk) {r : Addr × Obj × HO} (h : r ∈ wk.all) : froz F wk r.1 = some (.frz r.2.1 r.2.2) := by
  unfold froz
  cases e : wk.all.find? (fun r' => r'.1 == r.1) with
  | some r' =>
    have e1 : r'.1 = r.1 := by simpa using List.find?_some e
    have := W.uniq r' (List.mem_of_find?_eq_some e) r h e1
    rw [this]
  | none =>
    have := List.find?_eq_none.mp e r h
    simp at this
theorem funs_cut (O : F.Ok) (W : WkOk F wk) : (cut F.n0 wk.s.heap).FunFrames F.base F.outer := by
  have all : ∀ l : List Env, (∀ b ∈ frs l, b < F.n0) → wk.s.heap.FunFrames F.base l → (cut F.n0 wk.s.heap).FunFrames F.base l := by
    intro l
    induction l with
    | nil => intro _ _; trivial
    | cons env r ih =>
      intro hs hl
      obtain ⟨hk, ⟨L, o, hf, hn, ho, hd⟩, hr⟩ := hl
      have hL : L < F.n0 := hs L (by unfold frs; rw [List.filterMap_cons, hf]; exact List.mem_cons_self)
      exact ⟨hk, ⟨L, o, hf, hn, by rw [cut_get hL]; exact ho, hd⟩, ih (fun b hb => hs b (by unfold frs; rw [List.filterMap_cons, hf]; exact List.mem_cons_of_mem _ hb)) hr⟩
  exact all F.outer O.frlt W.aw.funs
/-- the context is sound -/
theorem at_ok (O : F.Ok) (W : WkOk F wk) : (F.at wk).Ok where
  mod := O.mod
  kind := O.kind
  glob := O.glob
  blt := O.blt
  above := by show (cut F.n0 wk.s.heap).objs.size ≤ _; rw [cut_size W.sz]; exact O.above
  inj := O.inj
  has := O.has
  cab := fun x c _ h => by show (cut F.n0 wk.s.heap).objs.size ≤ _; rw [cut_size W.sz]; exact O.cab (x, c) (PySem.mem_of_lookup h)
  hd := fun _ => O.hd
  frames := O.frames
  stk := .inr ⟨rfl, O.frame⟩
  exf := fun b hb => absurd hb (List.not_mem_nil)
  bs := fun b o e => by
    have hb : b < F.n0 := Nat.lt_of_lt_of_le (Heap.lt_size e) O.bsz
    refine ⟨by show (cut F.n0 wk.s.heap).get? b = _; rw [cut_get hb]; exact W.aw.bs b o e, ?_⟩
    cases q : froz F wk b with
    | none => exact q
    | some u =>
      obtain ⟨_, _, _, _, _, z, _⟩ := froz_cases O W q
      have e' : F.base.get? b = some o := e
      rw [e'] at z; cases z
  bsz := by show _ ≤ (cut F.n0 wk.s.heap).objs.size; rw [cut_size W.sz]; exact O.bsz
  noex := fun b o _ hb => absurd hb (List.not_mem_nil)
  exfs := fun b hb => absurd hb (List.not_mem_nil)
  funs := funs_cut O W
  frf := fun b hb => by
    cases q : froz F wk b with
    | none => exact q
    | some u =>
      obtain ⟨_, _, _, _, _, _, z, _⟩ := froz_cases O W q
      exact absurd hb z
end

/-- the invariant does not look at the table of generators, the draws, the tokens -/
theorem inv_gens {X : Cx} {pins : List (Addr × Obj)} {σ : L2.St} {H : Hp} {s s' : Shared} (I : Inv X pins σ H s) (hh : s'.heap = s.heap) (ho : s'.os = s.os) (hb : AllBare s'.gens) : Inv X pins σ H s' :=
  ⟨I.ok, ho.trans I.os, hb, by rw [hh]; exact I.base, by rw [hh]; exact I.loc, by rw [hh]; exact I.cell, I.free, I.freeC, by rw [hh]; exact I.pin, by rw [hh]; exact I.hok, I.len⟩

/-- a sleeper -/
def Sleeps (gs : GenState) : Prop := ∃ k l c q f, gs = GenState.suspended k l c q f false
/-- the generator's code runs: woken at wk; ip: its own records, as they stand; gl: generators of its own that sleep -/
structure GRun (F : Fm) (wk : Wk) (ip : List (Addr × Obj)) (gl : List (Nat × GenState)) (σ : L2.St) (H : Hp) (s : Shared) : Prop where
  inv : Inv (F.at wk) ip σ H s
  wk : WkOk F wk
  ipn : ∀ p ∈ ip, F.n0 ≤ p.1
  gsz : F.g < s.gens.size
  gl : ∀ q ∈ gl, s.gens[q.1]? = some q.2 ∧ Sleeps q.2 ∧ q.1 ≠ F.g
/-- all else is kept -/
structure Eff (F : Fm) (wk : Wk) (s1 : Shared) : Prop where
  os : s1.os = wk.s.os
  bare : AllBare s1.gens
  keep : ∀ b o, wk.s.heap.get? b = some o → b ∉ wk.own → b ∉ frs F.outer → s1.heap.get? b = some o
  slot : ∀ b o, wk.s.heap.get? b = some o → b ∈ frs F.outer → ∃ sl, s1.heap.get? b = some { o with slots := sl }
section
variable {F : Fm} {wk : Wk} {ip : List (Addr × Obj)} {gl : List (Nat × GenState)} {σ : L2.St} {H : Hp} {s : Shared}
theorem GRun.frz (r : GRun F wk ip gl σ H s) {b : Addr} {o : Obj} {u : HO} (h : froz F wk b = some (.frz o u)) : H b = some (.frz o u) := r.inv.base.frzs b o u h
theorem GRun.eff (O : F.Ok) (r : GRun F wk ip gl σ H s) : Eff F wk s where
  os := r.inv.os
  bare := r.inv.bare
  keep := fun b o e h1 h2 => by
    cases q : froz F wk b with
    | some u =>
      obtain ⟨o', v, rfl, e', _⟩ := froz_cases O r.wk q
      rw [e] at e'; cases e'
      exact (r.inv.hok b _ (r.frz q)).1
    | none =>
      by_cases hb : b < F.n0
      · exact r.inv.base.keep b o (by show (cut F.n0 wk.s.heap).get? b = _; rw [cut_get hb]; exact e) q h2 (List.not_mem_nil)
      · obtain ⟨_, _, z⟩ := froz_far r.wk (Nat.le_of_not_lt hb) h1 e
        rw [z] at q; cases q
  slot := fun b o e h => by
    have hb := O.frlt b h
    have q : froz F wk b = none := (at_ok O r.wk).frf b h
    exact r.inv.base.slot b o (by show (cut F.n0 wk.s.heap).get? b = _; rw [cut_get hb]; exact e) q h (List.not_mem_nil)
/-- what is not frozen, and not old, is its own or new -/
theorem GRun.young (r : GRun F wk ip gl σ H s) {b : Addr} (h1 : F.n0 ≤ b) (h2 : ∀ o u, H b ≠ some (.frz o u)) : wk.s.heap.get? b = none ∨ b ∈ wk.own := by
  by_cases h : b ∈ wk.own
  · exact .inr h
  · left
    cases e : wk.s.heap.get? b with
    | none => rfl
    | some o =>
      obtain ⟨o', v, z⟩ := froz_far r.wk h1 h e
      exact absurd (r.frz z) (h2 _ _)
/-- a new thing that is tracked is no old one -/
theorem GRun.new (O : F.Ok) (r : GRun F wk ip gl σ H s) {b : Addr} {u : HO} (hu : Lean1 u) (e : H b = some u) : wk.s.heap.get? b = none ∨ b ∈ wk.own := by
  by_cases hb : b < F.n0
  · left
    cases q : wk.s.heap.get? b with
    | none => rfl
    | some o =>
      cases z : froz F wk b with
      | some v =>
        obtain ⟨o', v', rfl, _⟩ := froz_cases O r.wk z
        have := r.frz z
        rw [e] at this; cases this; exact hu.elim
      | none =>
        have := r.inv.base.free b o (by show (cut F.n0 wk.s.heap).get? b = _; rw [cut_get hb]; exact q) z (List.not_mem_nil)
        rw [e] at this; cases this
  · exact r.young (Nat.le_of_not_lt hb) fun o v q => by rw [e] at q; cases q; exact hu.elim

/-- the addresses of what sleeps: the frame, its cells, its records, what it keeps -/
def nest (F : Fm) (ip : List (Addr × Obj)) (trk : List (Addr × HO)) : List Addr := F.env.locals :: (F.env.cells.map (·.2) ++ (ip.map (·.1) ++ trk.map (·.1)))
/-- what is tracked, over what is frozen -/
def laid (trk : List (Addr × HO)) (H : Hp) : Hp := fun b => match trk.find? (fun q => q.1 == b) with
  | some q => some q.2
  | none => H b
theorem laid_off {trk : List (Addr × HO)} {H : Hp} {b : Addr} (h : ∀ q ∈ trk, q.1 ≠ b) : laid trk H b = H b := by
  unfold laid
  split
  · rename_i q hq
    exact absurd (by simpa using List.find?_some hq) (h q (List.mem_of_find?_eq_some hq))
  · rfl
theorem laid_cases {trk : List (Addr × HO)} {H : Hp} {b : Addr} {u : HO} (h : laid trk H b = some u) : (b, u) ∈ trk ∨ H b = some u := by
  unfold laid at h
  split at h
  · rename_i q hq
    have e1 : q.1 = b := by simpa using List.find?_some hq
    cases h
    exact .inl (e1 ▸ List.mem_of_find?_eq_some hq)
  · exact .inr h
theorem laid_at {trk : List (Addr × HO)} {H H' : Hp} (ht : ∀ q ∈ trk, H' q.1 = some q.2) {q : Addr × HO} (hq : q ∈ trk) : laid trk H q.1 = some q.2 := by
  unfold laid
  split
  · rename_i q' hq'
    have e1 : q'.1 = q.1 := by simpa using List.find?_some hq'
    have e2 := ht q' (List.mem_of_find?_eq_some hq')
    rw [e1, ht q hq] at e2
    exact e2.symm
  · rename_i hn
    have := List.find?_eq_none.mp hn q hq
    simp at this
/-- a tuple that it keeps: made in this segment, or kept before -/
def Mine (wk : Wk) (H : Hp) (q : Addr × HO) : Prop := (∃ xs, q.2 = .tup xs) ∧ (H q.1 = some q.2 ∨ ∃ o, (q.1, o, q.2) ∈ wk.kd ∧ H q.1 = some (.frz o q.2))
def keepAt (kt : List (Addr × HO)) (h : Heap) : List (Addr × Obj × HO) := kt.filterMap fun q => (h.get? q.1).map fun o => (q.1, o, q.2)
theorem of_keepAt {kt : List (Addr × HO)} {h : Heap} {r : Addr × Obj × HO} (hr : r ∈ keepAt kt h) : (r.1, r.2.2) ∈ kt ∧ h.get? r.1 = some r.2.1 := by
  obtain ⟨q, hq, e⟩ := List.mem_filterMap.mp hr
  cases z : h.get? q.1 with
  | none => rw [z] at e; cases e
  | some o =>
    rw [z] at e
    cases e
    exact ⟨hq, z⟩
theorem mem_keepAt {kt : List (Addr × HO)} {h : Heap} {q : Addr × HO} {o : Obj} (hq : q ∈ kt) (e : h.get? q.1 = some o) : (q.1, o, q.2) ∈ keepAt kt h := List.mem_filterMap.mpr ⟨q, hq, by rw [e]; rfl⟩
theorem GRun.mine (O : F.Ok) (r : GRun F wk ip gl σ H s) {q : Addr × HO} (h : Mine wk H q) : H q.1 ≠ none ∧ (∀ xs, H q.1 ≠ some (.lst xs)) ∧ ∃ o, s.heap.get? q.1 = some o ∧ ObjOk F.P F.w H s.heap q.1 q.2 ∧ (wk.s.heap.get? q.1 = none ∨ q.1 ∈ wk.own ∨ (q.1, o, q.2) ∈ wk.kd) := by
  obtain ⟨⟨xs, e⟩, h⟩ := h
  rcases h with h | ⟨o, hm, h⟩
  · have ok := r.inv.hok _ _ h
    have hl : Lean1 q.2 := by rw [e]; trivial
    obtain ⟨o, ho, _⟩ := lean_obj hl ok
    refine ⟨by rw [h]; simp, fun ys z => (by rw [h, e] at z; cases z), o, ho, ok, ?_⟩
    rcases r.new O hl h with z | z
    · exact .inl z
    · exact .inr (.inl z)
  · obtain ⟨ho, ok⟩ := r.inv.hok _ _ h
    exact ⟨by rw [h]; simp, fun ys z => (by rw [h] at z; cases z), o, ho, ok, .inr (.inr hm)⟩
theorem GRun.wake (O : F.Ok) (r : GRun F wk ip gl σ H s) {trk : List (Addr × HO)} (ht : ∀ q ∈ trk, H q.1 = some q.2 ∧ F.n0 ≤ q.1 ∧ ∃ xs, q.2 = .lst xs) {kt : List (Addr × HO)} (hk : ∀ q ∈ kt, Mine wk H q) {s2 : Shared} (aw : Awake F s2)
    (h1 : ∀ p ∈ pinsAt (nest F ip trk) s.heap, s2.heap.get? p.1 = some p.2) (h2 : ∀ q ∈ gl, s2.gens[q.1]? = some q.2) (h3 : ∀ r ∈ keepAt kt s.heap, s2.heap.get? r.1 = some r.2.1) :
    ∃ H2, GRun F ⟨s2, nest F ip trk, keepAt kt s.heap, []⟩ ip gl σ H2 s2 ∧ (∀ q ∈ trk, H2 q.1 = some q.2) ∧ ∀ q ∈ kt, ∃ o, (q.1, o, q.2) ∈ keepAt kt s.heap ∧ H2 q.1 = some (.frz o q.2) := by
  have at1 : ∀ b o, b ∈ nest F ip trk → s.heap.get? b = some o → s2.heap.get? b = some o := fun b o hb e => h1 (b, o) (mem_pinsAt hb e)
  obtain ⟨m, hns, hloc⟩ := r.inv.loc
  obtain ⟨oL, es, ep, hoL, rL⟩ := id hns
  have hL : F.env.locals ∈ nest F ip trk := List.mem_cons_self
  have hC : ∀ x c, F.env.cells.lookup x = some c → c ∈ nest F ip trk := fun x c e => List.mem_cons_of_mem _ (List.mem_append_left _ (List.mem_map.mpr ⟨(x, c), PySem.mem_of_lookup e, rfl⟩))
  have hP : ∀ p ∈ ip, p.1 ∈ nest F ip trk := fun p hp => List.mem_cons_of_mem _ (List.mem_append_right _ (List.mem_append_left _ (List.mem_map.mpr ⟨p, hp, rfl⟩)))
  have hT : ∀ q ∈ trk, q.1 ∈ nest F ip trk := fun p hp => List.mem_cons_of_mem _ (List.mem_append_right _ (List.mem_append_right _ (List.mem_map.mpr ⟨p, hp, rfl⟩)))
  have eL : s2.heap.get? F.env.locals = some oL := at1 _ _ hL hoL
  have cellOf : ∀ x c v, F.env.cells.lookup x = some c → s.heap.IsCell c v → s2.heap.IsCell c v := fun x c v e ⟨o, ho, d⟩ => ⟨o, at1 c o (hC x c e) ho, d⟩
  have W2 : WkOk F ⟨s2, nest F ip trk, keepAt kt s.heap, []⟩ := by
    have inK : ∀ q ∈ (⟨s2, nest F ip trk, keepAt kt s.heap, []⟩ : Wk).all, q ∈ keepAt kt s.heap := fun q hq => by
      rcases List.mem_append.mp hq with z | z
      · exact z
      · exact absurd z (List.not_mem_nil)
    refine ⟨aw, Nat.le_trans O.above (Nat.le_of_lt (Heap.lt_size eL)), fun b hb => ?_, fun q hq q' hq' e => ?_, fun q hq => ?_⟩
    rotate_left
    · obtain ⟨m1, e1⟩ := of_keepAt (inK _ hq)
      obtain ⟨m2, e2⟩ := of_keepAt (inK _ hq')
      obtain ⟨a1, a2, a3⟩ := q
      obtain ⟨b1, b2, b3⟩ := q'
      simp only at e e1 e2 m1 m2
      subst e
      rw [e1] at e2; cases e2
      obtain ⟨⟨xs, x1⟩, x2⟩ := hk _ m1
      obtain ⟨⟨ys, y1⟩, y2⟩ := hk _ m2
      have : a3 = b3 := by
        rcases x2 with x2 | ⟨_, _, x2⟩ <;> rcases y2 with y2 | ⟨_, _, y2⟩ <;> simp only at x1 y1 x2 y2 <;> rw [x2] at y2 <;> cases y2 <;> first | rfl | (cases x1; done) | (cases y1; done)
      rw [this]
    · obtain ⟨m1, e1⟩ := of_keepAt (inK _ hq)
      obtain ⟨n1, n2, o, ho, ok, _⟩ := r.mine O (hk _ m1)
      obtain ⟨xs, x1⟩ := (hk _ m1).1
      have hl : Lean1 q.2.2 := by
        have : q.2.2 = .tup xs := x1
        rw [this]; trivial
      refine ⟨h3 _ (inK _ hq), hl, fun H' => lean_stay hl (fun o' e' => ?_) ok, fun hb => ?_, ?_, fun hb => ?_⟩
      · rw [e1] at e'; cases e'
        exact h3 _ (inK _ hq)
      · rcases List.mem_cons.mp hb with z | z
        · exact n1 (z ▸ r.inv.free)
        · rcases List.mem_append.mp z with z | z
          · obtain ⟨x, hx, z⟩ := List.mem_map.mp z
            exact n1 (z ▸ r.inv.freeC x.1 x.2 (O.celln x hx))
          · rcases List.mem_append.mp z with z | z
            · obtain ⟨x, hx, z⟩ := List.mem_map.mp z
              exact n1 (z ▸ (r.inv.pin x (List.mem_append_right _ hx)).2.1)
            · obtain ⟨x, hx, z⟩ := List.mem_map.mp z
              obtain ⟨y1, _, ys, y3⟩ := ht x hx
              rw [y3, z] at y1
              exact n2 ys y1
      · cases z : F.base.get? q.1 with
        | none => rfl
        | some ob => exact absurd (r.inv.bs q.1 ob z).2 n1
      · exact n1 (r.inv.stkFree q.1 (by unfold frs at hb ⊢; exact List.mem_filterMap.mpr (let ⟨e, h1, h2⟩ := List.mem_filterMap.mp hb; ⟨e, List.mem_cons_of_mem _ h1, h2⟩)))
    rcases List.mem_cons.mp hb with z | z
    · rw [z]; exact O.above
    · rcases List.mem_append.mp z with z | z
      · obtain ⟨x, hx, rfl⟩ := List.mem_map.mp z
        exact O.cab x hx
      · rcases List.mem_append.mp z with z | z
        · obtain ⟨x, hx, rfl⟩ := List.mem_map.mp z
          exact r.ipn x hx
        · obtain ⟨x, hx, rfl⟩ := List.mem_map.mp z
          exact (ht x hx).2.1
  have offT : ∀ b, H b = none → ∀ q ∈ trk, q.1 ≠ b := fun b n q hq z => by
    have := (ht q hq).1
    rw [z, n] at this; cases this
  have own0 : ∀ b, b ∈ nest F ip trk → H b = none → laid trk (froz F ⟨s2, nest F ip trk, keepAt kt s.heap, []⟩) b = none := fun b hb n => by
    rw [laid_off (offT b n)]
    exact froz_own W2 hb
  have lowT : ∀ b, b < F.n0 → ∀ q ∈ trk, q.1 ≠ b := fun b hb q hq z => absurd (ht q hq).2.1 (by rw [z]; exact Nat.not_le.mpr hb)
  refine ⟨laid trk (froz F ⟨s2, nest F ip trk, keepAt kt s.heap, []⟩), ⟨⟨at_ok O W2, rfl, aw.bare, ⟨fun b o e _ _ _ => (of_cut e).2, fun b o e _ _ _ => ⟨o.slots, (of_cut e).2⟩, fun b o e n _ => ?_, fun b o e _ => ⟨o, (of_cut e).2⟩, fun b xs e => ?_, fun b o u e => ?_, fun b ps e => ?_⟩,
    ⟨m, ⟨oL, es, ep, eL, rL⟩, fun i x v e1 e2 e3 => ?_⟩, fun x c e => ?_, own0 _ hL r.inv.free, fun x c e => own0 _ (hC x c e) (r.inv.freeC x c e), fun p hp => ?_, fun b u e => ?_, r.inv.len⟩, W2, r.ipn, aw.gsz, fun q hq => ⟨h2 q hq, (r.gl q hq).2⟩⟩, fun q hq => laid_at (fun q hq => (ht q hq).1) hq, fun q hq => ?_⟩
  · rw [laid_off (lowT b (of_cut e).1)]; exact n
  · obtain ⟨_, _, z, _⟩ := froz_cases O W2 e
    cases z
  · obtain ⟨_, _, _, _, z, _⟩ := froz_cases O W2 e
    rw [laid_off fun q hq y => by have x := hT q hq; rw [y] at x; exact z x]
    exact e
  · obtain ⟨_, _, z, _⟩ := froz_cases O W2 e
    cases z
  · obtain ⟨u, rv, l⟩ := hloc i x v e1 e2 e3
    refine ⟨u, rv, ?_⟩
    rcases l with l | ⟨k, c, e, z⟩
    · exact .inl l
    · exact .inr ⟨k, c, e, cellOf x c _ e z⟩
  · obtain ⟨v, z⟩ := r.inv.cell x c e
    exact ⟨v, cellOf x c v e z⟩
  · have hp' : p ∈ ip := by
      rcases List.mem_append.mp hp with z | z
      · exact absurd z (List.not_mem_nil)
      · exact z
    obtain ⟨a1, a2, a3, a4, a5⟩ := r.inv.pin p (List.mem_append_right _ hp')
    exact ⟨at1 _ _ (hP p hp') a1, own0 _ (hP p hp') a2, a3, a4, a5⟩
  · rcases laid_cases e with z | z
    · exact lean_stay (by obtain ⟨xs, q⟩ := (ht _ z).2.2; rw [show u = .lst xs from q]; trivial) (fun o q => at1 b o (hT _ z) q) (r.inv.hok b u (ht _ z).1)
    · obtain ⟨o, v, rfl, e1, _, _, _, k⟩ := froz_cases O W2 z
      exact ⟨e1, k _ _ e1⟩
  · obtain ⟨n1, n2, o, ho, _⟩ := r.mine O (hk q hq)
    refine ⟨o, mem_keepAt hq ho, ?_⟩
    rw [laid_off fun t hm y => ?_]
    · exact froz_rd W2 (r := (q.1, o, q.2)) (List.mem_append_left _ (mem_keepAt hq ho))
    · obtain ⟨y1, _, ys, y3⟩ := ht t hm
      rw [y3, y] at y1
      exact n2 ys y1
end
end GK
section
set_option maxHeartbeats 1000000
/-! The promise of a sleeping generator that hands out tuples; the statements of such a generator's body. -/
namespace GK
open PySem PySem.Spec PyProof.Rows L2

structure Held (F : Fm) (wk : Wk) (pt : Addr) (s1 : Shared) (ad : List Addr) (kd : List (Addr × Obj × HO)) (gl : List (Nat × GenState)) : Prop where
  own : ∀ b ∈ ad, F.n0 ≤ b ∧ (wk.s.heap.get? b = none ∨ b ∈ wk.own) ∧ b ≠ pt ∧ ∃ o, s1.heap.get? b = some o ∧ (F.env.cells = [] → ∀ v, o.data ≠ .cell v)
  kept : ∀ r ∈ kd, (wk.s.heap.get? r.1 = none ∨ r.1 ∈ wk.own ∨ r ∈ wk.kd) ∧ s1.heap.get? r.1 = some r.2.1 ∧ r.1 ≠ pt
  none : F.env.cells = [] → kd = [] ∧ gl = []
  naps : ∀ q ∈ gl, s1.gens[q.1]? = some q.2 ∧ Sleeps q.2 ∧ q.1 ≠ F.g
/-- from wk on the tuples ws are handed out, one at each waking; all that is not its own is kept; then it ends -/
def Phi (F : Fm) : List (List V) → Wk → End → Shared → Prop
  | [], wk, e, s1 => ∃ f, e = .ret (.ok f) ∧ (f = .ret .none ∨ f = .next) ∧ Eff F wk s1
  | x :: ws, wk, e, s1 => ∃ l k c p fs pt its ad kd gl, e = .susp (.ref pt) false l k c p fs ∧ fs.any Frame.guarded = false ∧ Vals x its ∧ IsTup s1.heap pt its.toArray ∧ x.length ≤ sizeLine ∧
      (wk.s.heap.get? pt = none ∨ pt ∈ wk.own) ∧ Eff F wk s1 ∧ Held F wk pt s1 ad kd gl ∧ F.g < s1.gens.size ∧
      ∀ s2, Awake F s2 → (∀ q ∈ pinsAt ad s1.heap, s2.heap.get? q.1 = some q.2) → (∀ r ∈ kd, s2.heap.get? r.1 = some r.2.1) → (∀ q ∈ gl, s2.gens[q.1]? = some q.2) →
        SegG F.M F.Ab (Phi F ws ⟨s2, ad, kd, []⟩) c (k (.send .none)) fs s2

/-- what is kept, the tuples still to come, the slots, the heap -/
abbrev GQ := List (Addr × Obj × HO) → List (List V) → L2.St → Hp → Prop
structure GD where
  nx : GQ
  rt : List (List V) → Prop
  bk : GQ := fun _ _ _ _ => False
  ct : GQ := fun _ _ _ _ => False
abbrev TGj := GD → GQ
/-- where the generator's code stands -/
structure GC (F : Fm) (c : Code) (fs : List Frame) (gd : Bool → Bool) : Prop where
  over : F.Ab.over c fs = F.A
  split : splitAtGen fs = none
  guard : fs.any Frame.guarded = false
  gd : gd false = false
def GPost (F : Fm) (ip : List (Addr × Obj)) (gl : List (Nat × GenState)) (D : GD) (ws : List (List V)) (wk : Wk) (f : Flow) (s : Shared) : Prop :=
  match f with
  | .next => ∃ σ H, GRun F wk ip gl σ H s ∧ D.nx wk.kd ws σ H
  | .brk => ∃ σ H, GRun F wk ip gl σ H s ∧ D.bk wk.kd ws σ H
  | .cont => ∃ σ H, GRun F wk ip gl σ H s ∧ D.ct wk.kd ws σ H
  | .ret u => u = .none ∧ ∃ σ H, GRun F wk ip gl σ H s ∧ D.rt ws
structure GJ (F : Fm) (top : Bool) (st : Stmt) (t : TGj) : Prop where
  run : ∀ (ip : List (Addr × Obj)) (gl : List (Nat × GenState)) (c : Code) (fs : List Frame) (K : Flow → Sem PySem.Fin) (J : Value → Sem PySem.Fin) (gd : Bool → Bool) (lv : List Value → List Value) (D : GD) (ws : List (List V)) (wk : Wk) (σ : L2.St) (H : Hp) (s : Shared), (top = true → gl = []) → GC F c fs gd →
    (∀ ws' wk' f s', GPost F ip gl D ws' wk' f s' → SegG F.M F.Ab (Phi F ws' wk') c (K f) fs s') → GRun F wk ip gl σ H s → t D wk.kd ws σ H → SegG F.M F.Ab (Phi F ws wk) c ((exec st F.env).wrap K J gd lv) fs s
structure GJs (F : Fm) (top : Bool) (sts : List Stmt) (t : TGj) : Prop where
  run : ∀ (ip : List (Addr × Obj)) (gl : List (Nat × GenState)) (c : Code) (fs : List Frame) (K : Flow → Sem PySem.Fin) (J : Value → Sem PySem.Fin) (gd : Bool → Bool) (lv : List Value → List Value) (D : GD) (ws : List (List V)) (wk : Wk) (σ : L2.St) (H : Hp) (s : Shared), (top = true → gl = []) → GC F c fs gd →
    (∀ ws' wk' f s', GPost F ip gl D ws' wk' f s' → SegG F.M F.Ab (Phi F ws' wk') c (K f) fs s') → GRun F wk ip gl σ H s → t D wk.kd ws σ H → SegG F.M F.Ab (Phi F ws wk) c ((execs sts F.env).wrap K J gd lv) fs s

section
variable {F : Fm} {top : Bool} {wk : Wk} {ip : List (Addr × Obj)} {gl : List (Nat × GenState)} {σ : L2.St} {H : Hp} {s : Shared}
/-- the run with the sleepers back -/
theorem GRun.back (r : GRun F wk ip gl σ H s) {s1 : Shared} {σ' : L2.St} {H' : Hp} {ip' : List (Addr × Obj)} (hn : ∀ p ∈ ip', F.n0 ≤ p.1) (d : Drugged s.gens s1) (hsz : F.g + 1 ≤ (GK.back s.gens s1).gens.size) (I : Inv (F.at wk) ip' σ' H' s1) : GRun F wk ip' gl σ' H' (GK.back s.gens s1) := by
  refine ⟨inv_gens I rfl rfl (bare_back r.inv.bare I.bare), r.wk, hn, hsz, fun q hq => ?_⟩
  obtain ⟨a1, a2, a3⟩ := r.gl q hq
  refine ⟨?_, a2, a3⟩
  obtain ⟨k, l, c, p, f, e⟩ := a2
  rw [e] at a1 ⊢
  exact sleeper_back d a1
/-- code that wakes none of the sleepers -/
theorem GRun.plain {α : Type} {m : Sem α} {R : α → L2.St → Hp → Prop} (r : GRun F wk ip gl σ H s) (h : ∀ s', Inv (F.at wk) ip σ H s' → wpAny F.M F.A m (fun a s'' => ∃ σ' H', Inv (F.at wk) ip σ' H' s'' ∧ R a σ' H') nevr s') :
    wpAny F.M F.A m (fun a s'' => ∃ σ' H', GRun F wk ip gl σ' H' s'' ∧ R a σ' H') nevr s := by
  refine GenW.wpAny_gsz (n := F.g + 1) r.gsz ?_
  refine wpAny_mono (wpAny_asleep (h (drug s) (inv_gens r.inv rfl rfl (bare_drug r.inv.bare)))) (fun a s' q => ?_) fun x s' q => ?_
  · obtain ⟨s1, rfl, d, _, σ', H', I, q⟩ := q
    exact fun hsz => ⟨σ', H', r.back r.ipn d hsz I, q⟩
  · obtain ⟨_, _, _, _, z⟩ := q
    exact z.elim

/-! ### the statements -/
variable {st : Stmt} {rest : List Stmt} {pos : Pos}
def tPl (t : Wk → TS) : TGj := fun D kd ws σ H => ∀ wk, t wk { nx := D.nx kd ws, rt := fun v _ => v = .non ∧ D.rt ws, bk := D.bk kd ws, ct := D.ct kd ws } σ H
theorem gj_ps {t : Wk → TS} (h : ∀ wk, PS (F.at wk) st (t wk)) : GJ F top st (tPl t) := by
  refine ⟨fun ip gl c fs K J gd lv D ws wk σ H s h0 g hk r ht => ?_⟩
  refine sg_wrap ?_
  rw [g.over]
  refine wpAny_mono (r.plain (R := fun f σ' H' => match f with
    | .next => D.nx wk.kd ws σ' H'
    | .brk => D.bk wk.kd ws σ' H'
    | .cont => D.ct wk.kd ws σ' H'
    | .ret u => u = .none ∧ D.rt ws) fun s' I => wpAny_mono ((h wk).run ip s' σ H _ I (ht wk)) (fun f s'' q => ?_) fun x s'' q => q) (fun f s' q => ?_) fun x s' q => q
  · cases f with
    | next => exact q
    | brk => exact q
    | cont => exact q
    | ret u =>
      obtain ⟨v, σ', H', I', rv, hv, q⟩ := q
      subst hv
      exact ⟨σ', H', I', rv, q⟩
  · obtain ⟨σ', H', r', q⟩ := q
    refine hk ws wk f s' ?_
    cases f with
    | next => exact ⟨σ', H', r', q⟩
    | brk => exact ⟨σ', H', r', q⟩
    | cont => exact ⟨σ', H', r', q⟩
    | ret u => exact ⟨q.1, σ', H', r', q.2⟩
def tJ0 : TGj := fun D kd ws σ H => D.nx kd ws σ H
theorem gj_nil : GJs F top [] tJ0 := ⟨fun ip gl c fs K J gd lv D ws wk σ H s h0 g hk r ht => sg_nil (hk ws wk .next s ⟨σ, H, r, ht⟩)⟩
def tJThen (t u : TGj) : TGj := fun D kd ws σ H => t { D with nx := u D } kd ws σ H
theorem gj_cons {t u : TGj} (a : GJ F top st t) (b : GJs F top rest u) : GJs F top (st :: rest) (tJThen t u) := by
  refine ⟨fun ip gl c fs K J gd lv D ws wk σ H s h0 g hk r ht => ?_⟩
  refine sg_cons (a.run ip gl c fs _ J gd lv { D with nx := u D } ws wk σ H s h0 g (fun ws' wk' f s' q => ?_) r ht)
  cases f with
  | next =>
    obtain ⟨σ', H', r', q⟩ := q
    exact b.run ip gl c fs K J gd lv D ws' wk' σ' H' s' h0 g hk r' q
  | brk => exact hk ws' wk' .brk s' q
  | cont => exact hk ws' wk' .cont s' q
  | ret u => exact hk ws' wk' (.ret u) s' q
theorem gj_one {t : TGj} (a : GJ F top st t) : GJs F top [st] t := by
  refine ⟨fun ip gl c fs K J gd lv D ws wk σ H s h0 g hk r ht => ?_⟩
  refine sg_cons (a.run ip gl c fs _ J gd lv D ws wk σ H s h0 g (fun ws' wk' f s' q => ?_) r ht)
  cases f with
  | next => exact sg_nil (hk ws' wk' .next s' q)
  | brk => exact hk ws' wk' .brk s' q
  | cont => exact hk ws' wk' .cont s' q
  | ret u => exact hk ws' wk' (.ret u) s' q
def tJIf (c : Wk → TT) (t u : TGj) : TGj := fun D kd ws σ H => ∀ wk, c wk σ H fun b H1 => if b = true then t D kd ws σ H1 else u D kd ws σ H1
theorem gj_if {test : Expr} {a b : List Stmt} {tc : Wk → TT} {t u : TGj} (hc : ∀ wk, PT (F.at wk) test (tc wk)) (ha : GJs F top a t) (hb : GJs F top b u) : GJ F top (.If test a b pos) (tJIf tc t u) := by
  refine ⟨fun ip gl c fs K J gd lv D ws wk σ H s h0 g hk r ht => ?_⟩
  refine sg_if ?_
  rw [g.over]
  refine wpAny_mono (r.plain (R := fun x σ' H' => σ' = σ ∧ if x = true then t D wk.kd ws σ H' else u D wk.kd ws σ H') fun s' I => wpAny_mono ((hc wk).run ip s' σ H _ I (ht wk)) (fun x s'' q => ?_) fun x s'' q => q) (fun x s' q => ?_) fun x s' q => q
  · obtain ⟨H', I', q⟩ := q
    exact ⟨σ, H', I', rfl, q⟩
  · obtain ⟨σ', H', r', rfl, q⟩ := q
    cases x with
    | true =>
      rw [if_pos rfl] at q ⊢
      exact ha.run ip gl c fs K J gd lv D ws wk σ' H' s' h0 g hk r' q
    | false =>
      rw [if_neg Bool.false_ne_true] at q ⊢
      exact hb.run ip gl c fs K J gd lv D ws wk σ' H' s' h0 g hk r' q
/-- yield e: the tuple goes out; behind it only what is its own is known -/
def YPost (cs : Bool) (n0 : Nat) (nx : GQ) (kd : List (Addr × Obj × HO)) (ws : List (List V)) (σ : L2.St) (x : V) (H1 : Hp) : Prop :=
  ∃ (p : Addr) (xs : List V) (ws' : List (List V)) (trk kt : List (Addr × HO)), x = .ref p ∧ H1 p = some (.tup xs) ∧ ws = xs :: ws' ∧ (∀ q ∈ trk, H1 q.1 = some q.2 ∧ n0 ≤ q.1 ∧ ∃ ys, q.2 = HO.lst ys) ∧
  (∀ q ∈ kt, ((∃ ys, q.2 = HO.tup ys) ∧ (H1 q.1 = some q.2 ∨ ∃ o, (q.1, o, q.2) ∈ kd ∧ H1 q.1 = some (.frz o q.2))) ∧ q.1 ≠ p) ∧ (cs = true → kt = []) ∧
  ∀ kd' H2, (∀ q ∈ trk, H2 q.1 = some q.2) → (∀ q ∈ kt, ∃ o, (q.1, o, q.2) ∈ kd' ∧ H2 q.1 = some (.frz o q.2)) → nx kd' ws' σ H2
def tJYield (te : Wk → TE) (cs : Bool) (n0 : Nat) : TGj := fun D kd ws σ H => ∀ wk, te wk σ H fun x H1 => YPost cs n0 D.nx kd ws σ x H1
theorem gj_yield {e : Expr} {yp : Pos} {te : Wk → TE} (O : F.Ok) (hs : F.env.cells = [] → top = true) (he : ∀ wk, PE (F.at wk) e (te wk)) (hco : F.env.scope.isCoroutine = false := by rfl) : GJ F top (.Expr (.Yield (some e) yp) pos) (tJYield te F.env.cells.isEmpty F.n0) := by
  refine ⟨fun ip gl c fs K J gd lv D ws wk σ H s h0 g hk r ht => ?_⟩
  refine sg_stYield g.split ?_ hco (by simp [interactive, O.kind])
  rw [g.over, g.gd]
  refine wpAny_mono (r.plain (R := fun u σ' H1 => σ' = σ ∧ ∃ x, RelV x u ∧ YPost F.env.cells.isEmpty F.n0 D.nx wk.kd ws σ x H1) fun s' I => wpAny_mono ((he wk).run ip s' σ H _ I (ht wk)) (fun u s'' q => ?_) fun x s'' q => q) (fun u s1 q => ?_) fun x s' q => q
  · obtain ⟨x, H1, I1, rx, q⟩ := q
    exact ⟨σ, H1, I1, rfl, x, rx, q⟩
  · obtain ⟨σ', H1, r1, rfl, x, rx, pt, xs, ws', trk, kt, rfl, hpt, rfl, ht, hkt, hk0, cont⟩ := q
    intro l k p hgo
    obtain rfl : u = Value.ref pt := rx
    obtain ⟨hlen, its, rv, it⟩ := r1.inv.hok _ _ hpt
    obtain ⟨m, ⟨oL, es, ep, hoL, dL⟩, _⟩ := r1.inv.loc
    have hP0 : H1 pt ≠ none := by rw [hpt]; simp
    have fL : H1 F.env.locals = none := r1.inv.free
    refine ⟨l, k, c, p, fs, pt, its, nest F ip trk, keepAt kt s1.heap, gl, rfl, g.guard, rv, it, hlen, r1.new O (u := .tup xs) trivial hpt, r1.eff O, ⟨fun b hb => ?_, fun q hq => ?_, fun e => ⟨by rw [hk0 (by rw [e]; rfl)]; rfl, h0 (hs e)⟩, r1.gl⟩, r1.gsz, fun s2 aw h1 h3 h2 => ?_⟩
    · rcases List.mem_cons.mp hb with z | z
      · rw [z]
        exact ⟨O.above, r1.young O.above fun o u q => (by rw [fL] at q; cases q), fun e => hP0 (e ▸ fL), oL, hoL, fun _ v q => by rw [dL.1] at q; cases q⟩
      · rcases List.mem_append.mp z with z | z
        · obtain ⟨y, hy, rfl⟩ := List.mem_map.mp z
          have fr := r1.inv.freeC y.1 y.2 (O.celln y hy)
          obtain ⟨v, oc, hoc, _⟩ := r1.inv.cell y.1 y.2 (O.celln y hy)
          exact ⟨O.cab y hy, r1.young (O.cab y hy) fun o u q => (by rw [fr] at q; cases q), fun e => hP0 (e ▸ fr), oc, hoc, fun e => by rw [e] at hy; cases hy⟩
        · rcases List.mem_append.mp z with z | z
          · obtain ⟨y, hy, rfl⟩ := List.mem_map.mp z
            obtain ⟨a1, a2, a3, a4, a5⟩ := r1.inv.pin y (List.mem_append_right _ hy)
            exact ⟨r1.ipn y hy, r1.young (r1.ipn y hy) fun o u q => (by rw [a2] at q; cases q), fun e => hP0 (e ▸ a2), y.2, a1, fun _ => a5⟩
          · obtain ⟨y, hy, rfl⟩ := List.mem_map.mp z
            obtain ⟨a1, a2, ys, a3⟩ := ht y hy
            rw [a3] at a1
            obtain ⟨ob, hob, hd⟩ := lean_obj (u := .lst ys) trivial (r1.inv.hok _ _ a1)
            exact ⟨a2, r1.young a2 fun o u q => (by rw [a1] at q; cases q), fun e => (by rw [e, hpt] at a1; cases a1), ob, hob, fun _ => hd⟩
    · obtain ⟨m1, e1⟩ := of_keepAt hq
      obtain ⟨_, _, o, ho, _, z⟩ := r1.mine O (hkt _ m1).1
      rw [e1] at ho
      cases ho
      exact ⟨z, e1, (hkt _ m1).2⟩
    · obtain ⟨H2, r2, t2, k2⟩ := r1.wake O ht (fun q hq => (hkt q hq).1) aw h1 h2 h3
      exact hgo _ _ (hk ws' _ .next s2 ⟨σ', H2, r2, cont _ H2 t2 k2⟩)

/-! ### loops -/
theorem gc_in {c c' : Code} {fs : List Frame} {gd : Bool → Bool} {k : Result → Sem PySem.Fin} {l kp : List Value} {p : Pos} (g : GC F c fs gd) (hw : c'.weight = 0) (hu : c'.cUnits = 0) : GC F c' (.ret k none (gd false) l c p kp :: fs) id where
  over := (GenW.over_loop hw hu).trans g.over
  split := by
    show (splitAtGen fs).map _ = none
    rw [g.split]; rfl
  guard := by
    show (gd false || fs.any Frame.guarded) = false
    rw [g.gd, g.guard]; rfl
  gd := rfl
def tJWhile (tc : Wk → TT) (tb : TGj) : TGj := fun D kd ws σ H => ∃ W : Nat → GQ, (∃ m, W m kd ws σ H) ∧ ∀ m kd ws σ H, W m kd ws σ H → ∀ wk,
  tc wk σ H fun b H1 => if b = true then ∃ N : GQ, (∀ kd' ws' σ' H', N kd' ws' σ' H' → ∃ m', m' < m ∧ W m' kd' ws' σ' H') ∧ tb { D with nx := N, ct := N, bk := D.nx } kd ws σ H1 else D.nx kd ws σ H1
theorem gj_while {test : Expr} {body : List Stmt} {tc : Wk → TT} {tb : TGj} (hc : ∀ wk, PT (F.at wk) test (tc wk)) (hb : GJs F top body tb) : GJ F top (.While test body [] pos) (tJWhile tc tb) := by
  refine ⟨fun ip gl c fs K J gd lv D ws wk σ H s h0 g hk r ht => ?_⟩
  obtain ⟨W, ⟨m0, w0⟩, turn⟩ := ht
  refine sg_stWhile trivial fun k p hkk => ?_
  have gl' := fun (lv' : List Value) => gc_in (k := k) (c' := .whileLoop test body [] F.env) (l := lv') (kp := []) (p := p) g rfl rfl
  suffices loop : ∀ (m : Nat) (ws : List (List V)) (wk : Wk) (σ : L2.St) (H : Hp) (s : Shared), GRun F wk ip gl σ H s → W m wk.kd ws σ H →
      SegG F.M F.Ab (Phi F ws wk) (.whileLoop test body [] F.env) (F.M.den (.whileLoop test body [] F.env)) (.ret k none (gd false) (lv []) c p [] :: fs) s from loop m0 ws wk σ H s r w0
  intro m
  induction m using Nat.strongRecOn with
  | ind m ih =>
    intro ws wk σ H s r w
    refine sg_whileLoop ?_
    rw [(gl' _).over]
    refine wpAny_mono (r.plain (R := fun x σ' H' => σ' = σ ∧ if x = true then ∃ N : GQ, (∀ kd' ws' σ' H', N kd' ws' σ' H' → ∃ m', m' < m ∧ W m' kd' ws' σ' H') ∧ tb { D with nx := N, ct := N, bk := D.nx } wk.kd ws σ H' else D.nx wk.kd ws σ H')
      fun s' I => wpAny_mono ((hc wk).run ip s' σ H _ I (turn m wk.kd ws σ H w wk)) (fun x s'' q => ?_) fun x s'' q => q) (fun x s' q => ?_) fun x s' q => q
    · obtain ⟨H', I', q⟩ := q
      exact ⟨σ, H', I', rfl, q⟩
    · obtain ⟨σ', H', r', rfl, q⟩ := q
      cases x with
      | true =>
        rw [if_pos rfl] at q ⊢
        obtain ⟨N, hN, q⟩ := q
        refine hb.run ip gl _ _ _ _ id id { D with nx := N, ct := N, bk := D.nx } ws wk σ' H' s' h0 (gl' _) (fun ws' wk' f s2 q2 => ?_) r' q
        cases f with
        | next =>
          obtain ⟨σ2, H2, r2, n2⟩ := q2
          obtain ⟨m', hm, w2⟩ := hN _ _ _ _ n2
          exact sg_again rfl (ih m' hm ws' wk' σ2 H2 s2 r2 w2)
        | cont =>
          obtain ⟨σ2, H2, r2, n2⟩ := q2
          obtain ⟨m', hm, w2⟩ := hN _ _ _ _ n2
          exact sg_again rfl (ih m' hm ws' wk' σ2 H2 s2 r2 w2)
        | brk => exact sg_leaf (.ok .next) (by rw [hkk]; exact hk ws' wk' .next s2 q2)
        | ret v => exact sg_leaf (.ok (.ret v)) (by rw [hkk]; exact hk ws' wk' (.ret v) s2 q2)
      | false =>
        rw [if_neg Bool.false_ne_true] at q ⊢
        exact sg_leaf (.ok .next) (by rw [hkk]; exact hk ws wk .next s' ⟨σ', H', r', q⟩)
end
end GK
end
section
set_option maxHeartbeats 1000000
/-! A generator def's call; what its caller holds. -/
namespace GK
open PySem PySem.Spec PyProof.Rows L2

/-! ### the invariant with other things tracked -/
/-- nothing of the context's own stands there -/
structure Loose (X : Cx) (pins : List (Addr × Obj)) (b : Addr) : Prop where
  old : X.s_0.heap.get? b = none
  loc : b ≠ X.env.locals
  cell : ∀ x c, X.env.cells.lookup x = some c → c ≠ b
  pin : ∀ p ∈ X.pn ++ pins, p.1 ≠ b
  tup : ∀ xs, X.H_0 b ≠ some (.tup xs)
  frz : ∀ o u, X.H_0 b ≠ some (.frz o u)
  tbl : ∀ ps, X.H_0 b ≠ some (.tbl ps)
theorem loose_of {X : Cx} {pins : List (Addr × Obj)} {σ : L2.St} {H : Hp} {s : Shared} (I : Inv X pins σ H s) {b : Addr} (h0 : X.s_0.heap.get? b = none) (h1 : H b = none) (h2 : b ≠ X.env.locals) (h3 : ∀ x c, X.env.cells.lookup x = some c → c ≠ b) (h4 : ∀ p ∈ X.pn ++ pins, p.1 ≠ b) : Loose X pins b :=
  ⟨h0, h2, h3, h4, fun xs e => (by rw [I.base.tups b xs e] at h1; cases h1), fun o u e => (by rw [I.base.frzs b o u e] at h1; cases h1), fun ps e => (by obtain ⟨more, z⟩ := I.base.tbls b ps e; rw [z] at h1; cases h1)⟩
theorem inv_re {X : Cx} {pins : List (Addr × Obj)} {σ : L2.St} {H H' : Hp} {s : Shared} (I : Inv X pins σ H s) (h : ∀ b, H' b ≠ H b → Loose X pins b) (hok : HOk X.prog X.w H' s.heap) : Inv X pins σ H' s := by
  have same : ∀ b, ¬ Loose X pins b → H' b = H b := fun b n => Classical.byContradiction fun z => n (h b z)
  have old : ∀ b o, X.s_0.heap.get? b = some o → H' b = H b := fun b o e => same b fun l => by rw [l.old] at e; cases e
  refine ⟨I.ok, I.os, I.bare, ⟨I.base.keep, I.base.slot, fun b o e n x => by rw [old b o e]; exact I.base.free b o e n x, I.base.there, fun b xs e => ?_, fun b o u e => ?_, fun b ps e => ?_⟩, I.loc, I.cell, ?_, fun x c e => ?_, fun p hp => ?_, hok, I.len⟩
  · rw [same b fun l => l.tup _ e]; exact I.base.tups b xs e
  · rw [same b fun l => l.frz _ _ e]; exact I.base.frzs b o u e
  · rw [same b fun l => l.tbl _ e]; exact I.base.tbls b ps e
  · rw [same _ fun l => l.loc rfl]; exact I.free
  · rw [same _ fun l => l.cell x c e rfl]; exact I.freeC x c e
  · obtain ⟨a1, a2, a3⟩ := I.pin p hp
    exact ⟨a1, by rw [same _ fun l => l.pin p hp rfl]; exact a2, a3⟩
/-- a tracked thing stands -/
theorem obj_there {P : Program} {w : World} {H : Hp} {h : Heap} {a : Addr} {o : HO} (x : ObjOk P w H h a o) : ∃ ob, h.get? a = some ob := by
  induction o with
  | lst xs => obtain ⟨_, _, _, _, e⟩ := x; exact ⟨_, e⟩
  | tup xs => obtain ⟨_, _, _, ob, e, _⟩ := x; exact ⟨_, e⟩
  | dK kvs => obtain ⟨_, _, _, _, o, _, _, e, _⟩ := x; exact ⟨_, e⟩
  | dT kvs => obtain ⟨_, _, _, _, o, _, _, e, _⟩ := x; exact ⟨_, e⟩
  | set S n => obtain ⟨o, _, _, _, e, _⟩ := x; exact ⟨_, e⟩
  | ins C dx fs => obtain ⟨_, _, _, e, _⟩ := x; exact ⟨_, e⟩
  | own y => exact x
  | xd fs => obtain ⟨_, ⟨_, _, _, e, _⟩, _⟩ := x; exact ⟨_, e⟩
  | rng lo hi => obtain ⟨_, _, _, e⟩ := x; exact ⟨_, e⟩
  | frz ob u => exact ⟨_, x.1⟩
  | tbl ps => exact ⟨_, x⟩
  | met f y => exact ⟨_, x⟩
  | ext φ => exact x.2.1
theorem off_of {P : Program} {w : World} {H : Hp} {h : Heap} (x : HOk P w H h) {a : Addr} (e : h.get? a = none) : H a = none := by
  cases q : H a with
  | none => rfl
  | some u =>
    obtain ⟨o, z⟩ := obj_there (x a u q)
    rw [e] at z; cases z
/-- what does not stand is loose -/
theorem loose_new {X : Cx} {pins : List (Addr × Obj)} {σ : L2.St} {H : Hp} {s : Shared} (I : Inv X pins σ H s) (hex : X.ex = []) {b : Addr} (e : s.heap.get? b = none) : Loose X pins b := by
  refine loose_of I ?_ (off_of I.hok e) (fun z => ?_) (fun x c hc z => ?_) fun p hp z => ?_
  · cases q : X.s_0.heap.get? b with
    | none => rfl
    | some o =>
      obtain ⟨o', z⟩ := I.base.there b o q (by rw [hex]; exact List.not_mem_nil)
      rw [e] at z; cases z
  · obtain ⟨m, ⟨o, _, _, ho, _⟩, _⟩ := I.loc
    rw [z, ho] at e; cases e
  · obtain ⟨v, o, ho, _⟩ := I.cell x c hc
    rw [z, e] at ho; cases ho
  · have := (I.pin p hp).1
    rw [z, e] at this; cases this
theorem loose_fp {X : Cx} {pins : List (Addr × Obj)} {σ : L2.St} {H : Hp} {s : Shared} (I : Inv X pins σ H s) (hex : X.ex = []) {b : Addr} (f : FpOk X pins H b) : Loose X pins b := by
  obtain ⟨f0, f1, f2, f3, f4, f5⟩ := f
  refine loose_of I ?_ f0 f1 f4 f5
  rcases f3 with z | z
  · rw [hex] at z; cases z
  · exact Heap.get?_none_of_le z

/-! ### next -/
/-- the generator at a sleeps: it will hand out ws -/
structure Nap (F : Fm) (a : Addr) (ws : List (List V)) (gs : GenState) (ad : List Addr) (kd rd : List (Addr × Obj × HO)) (gl : List (Nat × GenState)) (s : Shared) : Prop where
  ok : F.Ok
  gen : s.heap.IsGen a F.g
  ent : s.gens[F.g]? = some gs
  fit : (∃ c, gs = .fresh c) ∨ Sleeps gs
  own : ∀ b ∈ ad, F.n0 ≤ b ∧ b ≠ a ∧ ∃ o, s.heap.get? b = some o ∧ (F.env.cells = [] → ∀ v, o.data ≠ .cell v)
  kept : ∀ r ∈ kd ++ rd, s.heap.get? r.1 = some r.2.1
  none : F.env.cells = [] → kd = [] ∧ gl = []
  naps : ∀ q ∈ gl, s.gens[q.1]? = some q.2 ∧ Sleeps q.2 ∧ q.1 ≠ F.g
  wakes : ∀ s2, Awake F s2 → (∀ q ∈ pinsAt ad s.heap, s2.heap.get? q.1 = some q.2) → (∀ r ∈ kd ++ rd, s2.heap.get? r.1 = some r.2.1) → (∀ q ∈ gl, s2.gens[q.1]? = some q.2) → GoesG F.M F.Ab (Phi F ws ⟨s2, ad, kd, rd⟩) (.send .none) s2 gs
/-- the caller's side -/
structure Mate (F : Fm) (X : Cx) : Prop where
  P : F.P = X.prog
  w : F.w = X.w
  base : F.base = X.base
  os : F.os = X.s_0.os
  outer : F.outer = X.stack
  ex : X.ex = []
  n0 : X.s_0.heap.objs.size ≤ F.n0
theorem awake_of_inv {F : Fm} {X : Cx} {pins : List (Addr × Obj)} {σ : L2.St} {H : Hp} {s s2 : Shared} (m : Mate F X) (I : Inv X pins σ H s) (hh : s2.heap = s.heap) (ho : s2.os = s.os) (hb : AllBare s2.gens) (hg : F.g < s2.gens.size) : Awake F s2 where
  os := by rw [ho, I.os, m.os]
  bare := hb
  bs := fun b o e => by rw [hh]; rw [m.base] at e; exact I.bk b o e
  funs := by rw [hh, m.base, m.outer]; exact I.stack
  gsz := hg
theorem eff_inv {F : Fm} {X : Cx} {pins : List (Addr × Obj)} {σ : L2.St} {H : Hp} {s s1 : Shared} {wk : Wk} (m : Mate F X) (I : Inv X pins σ H s) (hh : wk.s.heap = s.heap) (ho : wk.s.os = s.os) (e : Eff F wk s1) (hch : ∀ b ∈ wk.own, FpOk X pins H b) : Inv X pins σ H s1 := by
  have kp := e.keep
  have sl := e.slot
  rw [hh, m.outer] at kp sl
  refine I.call' (ch := wk.own) (e.os.trans ho) ⟨fun b o q _ h1 h2 => kp b o q h2 h1, fun b o q _ h1 _ => sl b o q h1, fun _ _ _ n _ => n, fun b o q h2 => ?_, fun _ _ q => q, fun _ _ _ q => q, fun b ps q => ⟨#[], by rw [q]; simp⟩⟩ (fun b u q => ?_) e.bare fun b hb => ?_
  · by_cases h1 : b ∈ frs X.stack
    · obtain ⟨z, y⟩ := sl b o q h1
      exact ⟨_, y⟩
    · exact ⟨o, kp b o q h2 h1⟩
  · have far : ∀ c v, H c = some v → ∀ o, s.heap.get? c = some o → s1.heap.get? c = some o := fun c v z o q => by
      refine kp c o q (fun y => ?_) fun y => ?_
      · rw [(hch c y).1] at z; cases z
      · rw [I.stkFree c y] at z; cases z
    refine (I.hok b u q).stay (fun c v hc z => ?_) (fun _ z => z) fun _ _ z => z
    rcases hc with rfl | hc
    · exact far _ _ q v z
    · exact far _ _ hc v z
  · obtain ⟨f0, f1, f2, f3, f4, f5⟩ := hch b hb
    exact ⟨f3, f1, f4, f5⟩
/-- what it hands out next -/
def NextIs (F : Fm) (X : Cx) (pins : List (Addr × Obj)) (σ : L2.St) (H : Hp) (a : Addr) (s : Shared) (ad : List Addr) (kd : List (Addr × Obj × HO)) : List (List V) → Option Value → Shared → Prop
  | [], r, s1 => r = none ∧ Inv X pins σ H s1
  | x :: ws, r, s1 => ∃ p gs' ad' kd' gl', r = some (.ref p) ∧ H p = none ∧ Inv X pins σ (upd H p (.tup x)) s1 ∧ Nap F a ws gs' ad' kd' [] gl' s1 ∧ Sleeps gs' ∧ (∀ b ∈ ad', b ≠ p ∧ (b ∈ ad ∨ s.heap.get? b = none)) ∧
      ∀ r' ∈ kd', r'.1 ≠ p ∧ (s.heap.get? r'.1 = none ∨ r'.1 ∈ ad ∨ r' ∈ kd)
theorem nap_next {F : Fm} {X : Cx} {pins : List (Addr × Obj)} {σ : L2.St} {H : Hp} {s : Shared} {a : Addr} {ws : List (List V)} {gs : GenState} {ad : List Addr} {kd rd : List (Addr × Obj × HO)} {gl : List (Nat × GenState)} {A : Around}
    (m : Mate F X) (I : Inv X pins σ H s) (hh : A.handled = none) (hroom : A.depth < recursionLimit) (hA : F.Ab = A.in1) (N : Nap F a ws gs ad kd rd gl s) (ha : FpOk X pins H a) (hd : ∀ b ∈ ad, FpOk X pins H b) :
    wpAny F.M A (pyNext (.ref a)) (NextIs F X pins σ H a s ad kd ws) nevr s := by
  have hgl : F.g < s.gens.size := (Array.getElem?_eq_some_iff.mp N.ent).1
  have hb2 : AllBare (s.setGen F.g .running).gens := L2.allBare_setGen I.bare rfl
  have aw : Awake F (s.setGen F.g .running) := awake_of_inv m I rfl rfl hb2 (by rw [GenW.setGen_size]; exact hgl)
  have go := N.wakes (s.setGen F.g .running) aw (fun q hq => (of_pinsAt hq).2) N.kept fun q hq => by
    show (s.setGen F.g .running).gens[q.1]? = some q.2
    show (s.gens.setIfInBounds F.g GenState.running)[q.1]? = some q.2
    rw [Array.getElem?_setIfInBounds_ne (Ne.symm (N.naps q hq).2.2)]
    exact (N.naps q hq).1
  rw [hA] at go
  refine next_gen hh I.nolimit hroom N.gen N.ent go fun e s1 he => ?_
  obtain ⟨og, nm, qn, hog, hcg, hdg, hsg⟩ := N.gen
  have neA : a ∉ ad := fun z => (N.own a z).2.1 rfl
  have nfA : a ∉ frs F.outer := fun z => by
    rw [m.outer] at z
    rcases List.mem_cons.mp (I.stkSub a z) with y | y
    · exact ha.2.1 y
    · exact ha.2.2.1 y
  cases ws with
  | nil =>
    obtain ⟨f, rfl, hf, ef⟩ := he
    refine ⟨hf, fun h' hk => ⟨rfl, ?_⟩⟩
    have I1 : Inv X pins σ H s1 := eff_inv (wk := ⟨s.setGen F.g .running, ad, kd, rd⟩) m I rfl rfl ef hd
    have I2 := I1.kept (t' := s1.toks) hk
    exact inv_gens I2 rfl rfl (L2.allBare_setGen (s := s1) ef.bare rfl)
  | cons x ws =>
    obtain ⟨l, k, c, p, fs, pt, its, ad', kd', gl', rfl, hgd, rv, it, hlen, hpt, ef, hl, hsz, wake'⟩ := he
    have I1 : Inv X pins σ H s1 := eff_inv (wk := ⟨s.setGen F.g .running, ad, kd, rd⟩) m I rfl rfl ef hd
    have hpt' : s.heap.get? pt = none ∨ pt ∈ ad := hpt
    have Hp0 : H pt = none := by
      rcases hpt' with z | z
      · exact off_of I.hok z
      · exact (hd pt z).1
    have lp : Loose X pins pt := by
      rcases hpt' with z | z
      · exact loose_new I m.ex z
      · exact loose_fp I m.ex (hd pt z)
    have hok1 : HOk X.prog X.w (upd H pt (.tup x)) s1.heap := fun b u q => by
      by_cases hb : b = pt
      · subst hb
        rw [upd_same] at q; cases q
        exact ⟨hlen, its, rv, it⟩
      · rw [upd_ne hb] at q
        exact (I1.hok b u q).stay (fun c v _ z => z) (fun c z => by rw [upd_ne (ne_of_none z Hp0)]; exact z) fun c xs z => by rw [upd_ne (ne_of_none z Hp0)]; exact z
    have I2 : Inv X pins σ (upd H pt (.tup x)) s1 := inv_re I1 (fun b hb => by
      by_cases z : b = pt
      · rw [z]; exact lp
      · exact absurd (upd_ne z) hb) hok1
    have hb3 : AllBare (s1.setGen F.g (End.susp (.ref pt) false l k c p fs).genState).gens := L2.allBare_setGen (s := s1) ef.bare (by simp [End.genState, GenState.bare, hgd])
    have slp : Sleeps (End.susp (.ref pt) false l k c p fs).genState := ⟨k, l, c, p, fs, by simp [End.genState, hgd]⟩
    refine ⟨by simp [End.quiet, hgd], pt, _, ad', kd', gl', rfl, Hp0, inv_gens I2 rfl rfl hb3, ⟨N.ok, ?_, L2.setGen_at hsz, .inr slp, fun b hb => ?_, fun r hr => ?_, hl.none, fun q hq => ?_, fun s2 aw2 h1 h3 h2 => ?_⟩, slp, fun b hb => ?_, fun r hr => ?_⟩
    · exact ⟨og, nm, qn, ef.keep a og hog neA nfA, hcg, hdg, hsg⟩
    · obtain ⟨a1, a2, a3, o, ho, hc⟩ := hl.own b hb
      refine ⟨a1, fun z => ?_, o, ho, hc⟩
      have a2' : s.heap.get? b = none ∨ b ∈ ad := a2
      rcases a2' with y | y
      · rw [z, hog] at y; cases y
      · exact neA (z ▸ y)
    · rcases List.mem_append.mp hr with z | z
      · exact (hl.kept r z).2.1
      · cases z
    · obtain ⟨a1, a2, a3⟩ := hl.naps q hq
      refine ⟨?_, a2, a3⟩
      show (s1.gens.setIfInBounds F.g _)[q.1]? = some q.2
      rw [Array.getElem?_setIfInBounds_ne (Ne.symm a3)]
      exact a1
    · exact wake' s2 aw2 h1 (fun r hr => h3 r (List.mem_append_left _ hr)) h2
    · obtain ⟨a1, a2, a3, _⟩ := hl.own b hb
      refine ⟨a3, ?_⟩
      have a2' : s.heap.get? b = none ∨ b ∈ ad := a2
      exact a2'.symm
    · obtain ⟨a1, _, a3⟩ := hl.kept r hr
      exact ⟨a3, a1⟩
end GK
end
section
set_option maxHeartbeats 1000000
/-! A generator def by its body; its call. -/
namespace GK
open PySem PySem.Spec PyProof.Rows L2

/-- a generator that has not begun: it will hand out ws -/
def Made (P : Program) (w : World) (base : Heap) (k : Nat) (outer : List Env) (s : Shared) (ws : List (List V)) (cs : Bool) (u : Value) (s' : Shared) : Prop :=
  ∃ (a : Addr) (g : Nat) (gs : GenState) (ad : List Addr) (rd : List (Addr × Obj × HO)), u = .ref a ∧ s.heap.objs.size ≤ a ∧ s.gens.size ≤ g ∧ s'.os = s.os ∧ AllBare s'.gens ∧ (∀ b o, s.heap.get? b = some o → s'.heap.get? b = some o) ∧ (∀ b ∈ ad, s.heap.objs.size ≤ b) ∧
    ∀ (Ab : Around), Room k Ab → Ab.frames = some outer → ∃ F : Fm, F.P = P ∧ F.w = w ∧ F.base = base ∧ F.os = s.os ∧ F.outer = outer ∧ F.n0 = s.heap.objs.size ∧ F.g = g ∧ F.Ab = Ab ∧ F.env.cells.isEmpty = cs ∧ Nap F a ws gs ad [] rd [] s'
/-- a generator def's promise: the arguments, the heap, what of it is read, the tuples that come -/
abbrev SpT := List V → Hp → List (Addr × HO) → List (List V) → Prop
structure GDef (P : Program) (w : World) (K : PySem.W.Frag) (mg : Str → Option Value) (base : Heap) (k : Nat) (f : Addr) (fd : FuncData) (ps : List Str) (cs : Bool) (sp : SpT) : Prop where
  len : ∀ vs H ra ws, sp vs H ra ws → vs.length = ps.length
  run : ∀ (A : Around) (outer : List Env) (s : Shared) (H : Hp) (args : Args) (us : List Value) (vs : List V) (ra : List (Addr × HO)) (ws : List (List V)), Room k A → Env0 P w K mg base A outer s H → BindsTo s fd args (ps.zip us) → Vals vs us → sp vs H ra ws → (∀ q ∈ ra, H q.1 = some q.2 ∧ Lean1 q.2) →
    codeAny (model P w) A (.call (.ref f) args) (fun r s' => match r with | .ok (.ret u) => Made P w base k outer s ws cs u s' | _ => False) s
/-- the first waking -/
theorem start_run {F : Fm} (O : F.Ok) {wk : Wk} (W : WkOk F wk) {σ : L2.St} {s1 : Shared} (hloc : ∃ m, s1.heap.Ns F.env.locals m ∧ ∀ (i : Nat) (x : Str) (v : V), F.N[i]? = some x → σ[i]? = some (some v) → Vis F.env.scope x → ∃ u, L2.RelV v u ∧ Look F.env s1.heap m x u)
    (hcell : ∀ x c, F.env.cells.lookup x = some c → ∃ v, s1.heap.IsCell c v) (hlen : σ.length = F.N.length) (hL : F.env.locals ∈ wk.own) (hC : ∀ p ∈ F.env.cells, p.2 ∈ wk.own) (hk : ∀ b o, b ∈ wk.own → s1.heap.get? b = some o → wk.s.heap.get? b = some o) :
    GRun F wk [] [] σ (froz F wk) wk.s := by
  obtain ⟨m, ⟨oL, es, ep, hoL, rL⟩, hl⟩ := hloc
  have eL := hk _ _ hL hoL
  have cellOf : ∀ x c v, F.env.cells.lookup x = some c → s1.heap.IsCell c v → wk.s.heap.IsCell c v := fun x c v e ⟨o, ho, d⟩ => ⟨o, hk c o (hC (x, c) (PySem.mem_of_lookup e)) ho, d⟩
  refine ⟨⟨at_ok O W, rfl, W.aw.bare, ⟨fun b o e _ _ _ => (of_cut e).2, fun b o e _ _ _ => ⟨o.slots, (of_cut e).2⟩, fun b o e n _ => n, fun b o e _ => ⟨o, (of_cut e).2⟩, fun _ _ e => e, fun _ _ _ e => e, fun b ps e => (by obtain ⟨_, _, z, _⟩ := froz_cases O W e; cases z)⟩,
    ⟨m, ⟨oL, es, ep, eL, rL⟩, fun i x v e1 e2 e3 => ?_⟩, fun x c e => ?_, froz_own W hL, fun x c e => froz_own W (hC (x, c) (PySem.mem_of_lookup e)), fun p hp => ?_, fun b u e => ?_, hlen⟩, W, fun p hp => absurd hp List.not_mem_nil, W.aw.gsz, fun q hq => absurd hq List.not_mem_nil⟩
  · obtain ⟨u, rv, l⟩ := hl i x v e1 e2 e3
    refine ⟨u, rv, ?_⟩
    rcases l with l | ⟨k, c, e, z⟩
    · exact .inl l
    · exact .inr ⟨k, c, e, cellOf x c _ e z⟩
  · obtain ⟨v, z⟩ := hcell x c e
    exact ⟨v, cellOf x c v e z⟩
  · have : p ∈ ([] : List (Addr × Obj)) := by
      rcases List.mem_append.mp hp with z | z
      · exact z
      · exact z
    cases this
  · obtain ⟨o, v, rfl, e1, _, _, _, k⟩ := froz_cases O W e
    exact ⟨e1, k _ _ e1⟩
/-- the arguments that are read, as they stand -/
def readAt (ra : List (Addr × HO)) (h : Heap) : List (Addr × Obj × HO) := ra.filterMap fun q => (h.get? q.1).map fun o => (q.1, o, q.2)
theorem of_readAt {ra : List (Addr × HO)} {h : Heap} {r : Addr × Obj × HO} (hr : r ∈ readAt ra h) : (r.1, r.2.2) ∈ ra ∧ h.get? r.1 = some r.2.1 := of_keepAt hr

theorem gdef_of {P : Program} {w : World} {K : PySem.W.Frag} {mg : Str → Option Value} {base : Heap} {k : Nat} {f : Addr} {name qual : Str} {params : Arguments} {body : List Stmt} {scope : Scope} {dV kV doc pm cdv ct oc : Value} {an od : Option Addr} {osl : Array (Option Value)} {N ps : List Str} {cs : Bool} {sp : SpT}
    (lk : K.lookup f = some ⟨oc, od, .func (PySem.W.fnOf name qual params body scope dV kV doc pm an cdv ct), osl⟩) (hcd : PySem.W.codeIn K cdv qual = true) (S : GScope N ps scope) (len : ∀ vs H ra ws, sp vs H ra ws → vs.length = ps.length)
    (hcl : ∀ L : Nat, (cellsFrom (L + 1) scope.names []).isEmpty = cs ∧ ∀ p ∈ cellsFrom (L + 1) scope.names [], L ≤ p.2 ∧ (cellsFrom (L + 1) scope.names []).lookup p.1 = some p.2)
    (hbody : ∀ (F : Fm) (H : Hp) (vs : List V) (ra : List (Addr × HO)) (ws : List (List V)), F.Ok → F.P = P → F.w = w → F.K = K → F.mg = mg → F.base = base → F.N = N → F.env = envOfC qual scope F.n0 f cdv → F.env.cells.isEmpty = cs → Room k F.A → sp vs H ra ws →
      ∃ t, GJs F true body t ∧ ∀ H', (∀ q ∈ ra, ∃ o, H' q.1 = some (.frz o q.2)) → t { nx := fun _ ws _ _ => ws = [], rt := fun ws => ws = [] } [] ws (start N vs) H') :
    GDef P w K mg base (k + 1) f (PySem.W.fnOf name qual params body scope dV kV doc pm an cdv ct) ps cs sp := by
  refine ⟨len, fun A outer s H args us vs ra ws hr e0 hb r hsp hra => ?_⟩
  have hl := len _ _ _ _ hsp
  have KX : K.In s.heap := e0.mod.kin.keeps fun b o e => (e0.bs b o e).1
  have lim : s.heap.NoLimit := e0.mod.nolimit.keeps fun b o e => (e0.bs b o e).1
  have hkind : ∀ y ∈ ps.zip us, scope.names.lookup y.1 = some .local ∨ (scope.names.lookup y.1 = some .cell ∧ ((cellsFrom (s.heap.objs.size + 1) scope.names []).lookup y.1).isSome = true) := fun y hy => by
    rcases S.par y.1 (List.of_mem_zip (a := y.1) (b := y.2) hy).1 with q | q
    · exact .inl q
    · exact .inr ⟨q, PySem.W.cellsFrom_some _ _ _ (.inl q)⟩
  refine codeAny_call_generator hr.depth (KX _ _ lk) rfl S.co S.gen rfl (PySem.W.codeRec_of KX hcd) (hb _ _ _ _ ?_)
  refine wpAny_newFunctionEnv_cells S.kind hkind fun env he s1 x => ?_
  subst he
  have lim1 : s1.heap.NoLimit := lim.keeps x.toInCall.keep
  refine ⟨lim1, ?_⟩
  obtain ⟨h1, tk, es1, hk1⟩ := x.done
  have os1 : s1.os = s.os := by rw [es1]
  have gen1 : s1.gens = s.gens := by rw [es1]
  have lt1 : s.heap.objs.size < s1.heap.objs.size := x.toInCall.ns.lt
  have kp1 : ∀ b o, s.heap.get? b = some o → s1.heap.get? b = some o := x.toInCall.keep
  obtain ⟨env, henv⟩ : ∃ env, env = envOfC qual scope s.heap.objs.size f cdv := ⟨_, rfl⟩
  have main : ∀ (go : Obj) (nm qn : Value) (tk2 : Nat), go.cls = .type "generator" → go.data = .fields #[.int s1.gens.size 0, nm, qn] → go.slots = #[] → (∀ h : Heap, (h.push go).get? h.objs.size = some go) →
      Made P w base (k + 1) outer s ws cs (.ref s1.heap.objs.size) { s1 with gens := s1.gens.push (.fresh (.func body (envOfC qual scope s.heap.objs.size f cdv))), toks := tk2, heap := s1.heap.push go } := by
    intro go nm qn tk2 hgc hgd0 hgs hgp
    have hpush : ∀ b o, s1.heap.get? b = some o → (s1.heap.push go).get? b = some o := fun b o e => Heap.get?_push_of_some _ e
    have hcl' := (hcl s.heap.objs.size).2
    refine ⟨s1.heap.objs.size, s1.gens.size, .fresh (.func body (envOfC qual scope s.heap.objs.size f cdv)), s.heap.objs.size :: (cellsFrom (s.heap.objs.size + 1) scope.names []).map (·.2), readAt ra s.heap, rfl, Nat.le_of_lt lt1, by rw [gen1]; exact Nat.le_refl _, os1, AllBare.push (by rw [gen1]; exact e0.bare) rfl, fun b o e => hpush b o (kp1 b o e), fun b hb => ?_, fun Ab hrb hfr => ?_⟩
    · rcases List.mem_cons.mp hb with z | z
      · rw [z]; exact Nat.le_refl _
      · obtain ⟨p, hp, rfl⟩ := List.mem_map.mp z
        exact (hcl' p hp).1
    have e0b : Env0 P w K mg base Ab outer s H := ⟨hfr, e0.mod, e0.bs, e0.bsz, e0.funs, e0.frf, e0.hok, e0.bare⟩
    have I1 : Inv (gcxOf P w K mg base N qual scope f cdv Ab outer s H (fun _ _ _ => False) []) [] (start N vs) H s1 := inv_startG S hrb.hd e0b hl r x
    have ok1 := I1.ok
    obtain ⟨F, hF⟩ : ∃ F : Fm, F = { P := P, w := w, K := K, mg := mg, base := base, N := N, env := envOfC qual scope s.heap.objs.size f cdv, outer := outer, n0 := s.heap.objs.size, Ab := Ab, g := s1.gens.size, os := s.os } := ⟨_, rfl⟩
    have FO : F.Ok := by
      subst hF
      exact ⟨ok1.mod, ok1.kind, ok1.glob, ok1.blt, Nat.le_refl _, ok1.inj, ok1.has, fun p hp => (hcl' p hp).1, fun p hp => (hcl' p hp).2, ok1.hd rfl, ok1.frames, rfl, e0.bsz, fun b hb => by
        obtain ⟨_, o, ho, _⟩ := e0.funs.mem hb
        exact Heap.lt_size ho⟩
    have hloc := I1.loc
    have hcell := I1.cell
    have rdOk : ∀ q ∈ readAt ra s.heap, s.heap.get? q.1 = some q.2.1 ∧ H q.1 = some q.2.2 ∧ Lean1 q.2.2 := fun q hq => by
      obtain ⟨m1, e1⟩ := of_readAt hq
      obtain ⟨y1, y2⟩ := hra _ m1
      exact ⟨e1, y1, y2⟩
    refine ⟨F, by rw [hF], by rw [hF], by rw [hF], by rw [hF], by rw [hF], by rw [hF], by rw [hF], by rw [hF], by rw [hF]; exact (hcl _).1, FO, ?_, ?_, .inl ⟨_, rfl⟩, fun b hb => ?_, fun q hq => ?_, fun _ => ⟨rfl, rfl⟩, fun q hq => absurd hq List.not_mem_nil, fun s2 aw h1 h3 _ => ?_⟩
    · subst hF
      exact ⟨go, nm, qn, hgp _, hgc, hgd0, hgs⟩
    · subst hF
      exact Array.getElem?_push_size ..
    · subst hF
      rcases List.mem_cons.mp hb with z | z
      · obtain ⟨m, ⟨oL, es, ep, hoL, dL⟩, _⟩ := hloc
        rw [z]
        exact ⟨Nat.le_refl _, Nat.ne_of_lt lt1, oL, hpush _ _ hoL, fun _ v q => by rw [dL.1] at q; cases q⟩
      · obtain ⟨p, hp, rfl⟩ := List.mem_map.mp z
        obtain ⟨v, o, ho, _⟩ := hcell p.1 p.2 (hcl' p hp).2
        refine ⟨(hcl' p hp).1, Nat.ne_of_lt (Heap.lt_size ho), o, hpush _ _ ho, fun e => ?_⟩
        have e' : cellsFrom (s.heap.objs.size + 1) scope.names [] = [] := e
        rw [e'] at hp; cases hp
    · have hq' : q ∈ readAt ra s.heap := by
        rcases List.mem_append.mp hq with z | z
        · cases z
        · exact z
      exact hpush _ _ (kp1 _ _ (rdOk q hq').1)
    · -- it is woken for the first time
      refine ⟨rfl, ?_⟩
      subst hF
      have W : WkOk { P := P, w := w, K := K, mg := mg, base := base, N := N, env := envOfC qual scope s.heap.objs.size f cdv, outer := outer, n0 := s.heap.objs.size, Ab := Ab, g := s1.gens.size, os := s.os } ⟨s2, s.heap.objs.size :: (cellsFrom (s.heap.objs.size + 1) scope.names []).map (·.2), [], readAt ra s.heap⟩ := by
        have hL2 : ∃ o, s2.heap.get? s.heap.objs.size = some o := by
          obtain ⟨m, ⟨oL, es, ep, hoL, dL⟩, _⟩ := hloc
          exact ⟨oL, h1 (s.heap.objs.size, oL) (mem_pinsAt List.mem_cons_self (hpush _ _ hoL))⟩
        obtain ⟨oL, hoL⟩ := hL2
        refine ⟨aw, Nat.le_of_lt (Heap.lt_size hoL), fun b hb => ?_, fun q hq q' hq' e => ?_, fun q hq => ?_⟩
        · rcases List.mem_cons.mp hb with z | z
          · rw [z]; exact Nat.le_refl _
          · obtain ⟨p, hp, rfl⟩ := List.mem_map.mp z
            exact (hcl' p hp).1
        · obtain ⟨a1, a2, a3⟩ := q
          obtain ⟨b1, b2, b3⟩ := q'
          obtain ⟨x1, x2, _⟩ := rdOk _ (by rcases List.mem_append.mp hq with z | z; cases z; exact z)
          obtain ⟨y1, y2, _⟩ := rdOk _ (by rcases List.mem_append.mp hq' with z | z; cases z; exact z)
          simp only at e x1 x2 y1 y2
          subst e
          rw [x1] at y1; cases y1
          rw [x2] at y2; cases y2
          rfl
        · have hq' : q ∈ readAt ra s.heap := by
            rcases List.mem_append.mp hq with z | z
            · cases z
            · exact z
          obtain ⟨x1, x2, x3⟩ := rdOk q hq'
          have lt := Heap.lt_size x1
          refine ⟨h3 q hq, x3, fun H' => lean_stay x3 (fun o e => ?_) (e0.hok _ _ x2), fun hb => ?_, ?_, fun hb => ?_⟩
          · rw [x1] at e; cases e
            exact h3 q hq
          · rcases List.mem_cons.mp hb with z | z
            · rw [z] at lt; exact absurd lt (Nat.lt_irrefl _)
            · obtain ⟨p, hp, z⟩ := List.mem_map.mp z
              have := (hcl' p hp).1
              rw [z] at this
              exact absurd (Nat.lt_of_lt_of_le lt this) (Nat.lt_irrefl _)
          · cases z : base.get? q.1 with
            | none => rfl
            | some ob => rw [(e0.bs _ _ z).2] at x2; cases x2
          · rw [e0.frf _ hb] at x2; cases x2
      obtain ⟨t, ht, hq⟩ := hbody _ H vs ra ws FO rfl rfl rfl rfl rfl rfl rfl (hcl _).1 (hrb.deeper _) hsp
      have G0 := start_run FO W (σ := start N vs) hloc hcell I1.len List.mem_cons_self (fun p hp => List.mem_cons_of_mem _ (List.mem_map.mpr ⟨p, hp, rfl⟩)) fun b o hb e => h1 (b, o) (mem_pinsAt hb (hpush _ _ e))
      refine sg_func ?_
      refine ht.run [] [] _ [] _ _ id id _ ws _ _ _ s2 (fun _ => rfl) ⟨GenW.over_func, rfl, rfl, rfl⟩ (fun ws' wk' fl s' q => ?_) G0 (hq _ fun q hq => ?_)
      · cases fl with
        | next =>
          obtain ⟨σ', H', r', e⟩ := q
          rw [show ws' = [] from e]
          exact sg_end (.ok (.ret .none)) ⟨_, rfl, .inl rfl, r'.eff FO⟩
        | brk => obtain ⟨_, _, _, q⟩ := q; exact q.elim
        | cont => obtain ⟨_, _, _, q⟩ := q; exact q.elim
        | ret u =>
          obtain ⟨rfl, σ', H', r', e⟩ := q
          rw [show ws' = [] from e]
          exact sg_end (.ok (.ret .none)) ⟨_, rfl, .inl rfl, r'.eff FO⟩
      · obtain ⟨y1, y2⟩ := hra q hq
        obtain ⟨o, ho⟩ := obj_there (e0.hok _ _ y1)
        exact ⟨o, froz_rd W (r := (q.1, o, q.2)) (List.mem_append_right _ (mem_keepAt hq ho))⟩
  exact main _ _ _ _ rfl rfl rfl fun h => Heap.get?_push_size _ rfl
end GK
end
section
set_option maxHeartbeats 1000000
/-! for x in g(..): over a generator's call, in a def's body and in another generator's body. -/
namespace GK
open PySem PySem.Spec PyProof.Rows L2

abbrev TGn2 := L2.St → Hp → (List (List V) → Hp → Prop) → Prop
/-- an expression whose value is a generator that has not begun -/
structure PGn (X : Cx) (k : Nat) (e : Expr) (cs : Bool) (tg : TGn2) : Prop where
  run : ∀ (pins : List (Addr × Obj)) (s : Shared) (σ : L2.St) (H : Hp) (cont : List (List V) → Hp → Prop), Inv X pins σ H s → tg σ H cont →
    wpAny (model X.prog X.w) X.A (eval e X.env) (fun u s' => ∃ H1 sc ws, Inv X pins σ H1 sc ∧ Made X.prog X.w X.base k X.stack sc ws cs u s' ∧ cont ws H1 ∧ s.gens.size ≤ sc.gens.size) X.xe s
def tCallN (sp : SpT) (t : TA) : TGn2 := fun σ H cont => t σ H fun vs H1 => ∃ ra ws, sp vs H1 ra ws ∧ (∀ q ∈ ra, H1 q.1 = some q.2 ∧ Lean1 q.2) ∧ cont ws H1
section
variable {X : Cx} {k : Nat} {f : Addr} {fd : FuncData} {ps ks : List Str} {cs : Bool} {sp : SpT} {x : Str} {p pos : Pos} {e : Expr} {es : List Expr} {t tk : TA} {kws : List Keyword}
theorem run_gdef {n : Nat} {pins : List (Addr × Obj)} {σ : L2.St} {H : Hp} {s : Shared} {args : Args} {us : List Value} {vs : List V} {cont : List (List V) → Hp → Prop} {E1 : Value → Shared → Prop} (F : GDef X.prog X.w X.K X.mg X.base k f fd ps cs sp) (hr : Room k X.A)
    (I : Inv X pins σ H s) (hb : BindsTo s fd args (ps.zip us)) (r : Vals vs us) (h : ∃ ra ws, sp vs H ra ws ∧ (∀ q ∈ ra, H q.1 = some q.2 ∧ Lean1 q.2) ∧ cont ws H) (hn : n ≤ s.gens.size) :
    codeAny (model X.prog X.w) X.A (.call (.ref f) args) (fun r s' => match r with | .ok (.ret u) => ∃ H1 sc ws, Inv X pins σ H1 sc ∧ Made X.prog X.w X.base k X.stack sc ws cs u s' ∧ cont ws H1 ∧ n ≤ sc.gens.size | _ => False) s := by
  obtain ⟨ra, ws, h1, h2, h3⟩ := h
  refine codeAny_mono (F.run X.A X.stack s H args us vs ra ws hr I.env0 hb r h1 h2) fun r s' hq => ?_
  cases r with
  | error e => exact hq.elim
  | ok fl =>
    cases fl with
    | ret u => exact ⟨H, s, ws, I, hq, h3, hn⟩
    | next => exact hq.elim
    | brk => exact hq.elim
    | cont => exact hq.elim
theorem of_gdef {n : Nat} {pins : List (Addr × Obj)} {σ : L2.St} {s : Shared} {args : Args} {cont : List (List V) → Hp → Prop} {E1 : Value → Shared → Prop} {f : Addr} (h : codeAny (model X.prog X.w) X.A (.call (.ref f) args) (fun r s' => match r with | .ok (.ret u) => ∃ H1 sc ws, Inv X pins σ H1 sc ∧ Made X.prog X.w X.base k X.stack sc ws cs u s' ∧ cont ws H1 ∧ n ≤ sc.gens.size | _ => False) s) :
    wpAny (model X.prog X.w) X.A (call (.ref f) args.pos args.kw) (fun u s' => ∃ H1 sc ws, Inv X pins σ H1 sc ∧ Made X.prog X.w X.base k X.stack sc ws cs u s' ∧ cont ws H1 ∧ n ≤ sc.gens.size) E1 s := by
  refine wpAny_call (codeAny_mono h fun r s' hq => ?_)
  cases r with
  | error e => exact hq.elim
  | ok fl =>
    cases fl with
    | ret u => exact hq
    | next => exact hq.elim
    | brk => exact hq.elim
    | cont => exact hq.elim
/-- f(e, ..) -/
theorem pgn_call (F : GDef X.prog X.w X.K X.mg X.base k f fd ps cs sp) (hr : Room k X.A) (hg : Gl X x) (hm : X.mg x = some (.ref f)) (hk : PySem.W.keepIn X.K (.ref f) = true) (hb : Binds X.K fd ps []) (ha : PA X (e :: es) t)
    (hdb : (x == ("__debug__" : Str)) = false := by decide) (he : starEach (e :: es) X.env = (false, eval e X.env) :: starEach es X.env := by rfl) (hpl : (backTo pos (starEach es X.env)).any (·.1) = false := by rfl) :
    PGn X k (.Call (.Name x p) (e :: es) [] pos) cs (tCallN sp t) := by
  refine ⟨fun pins s σ H cont I h => ?_⟩
  refine wpAny_Call_Name_kw (ld_glob I hg hm ?_ hdb)
  refine PySem.W.callWith_K (h₀ := X.base) I.ok.mod.kin hk (GenW.wpAny_gsz (n := s.gens.size) (Nat.le_refl _) (wpAny_mono (ha.run pos pins s σ H _ I h) (fun us s1 q0 hn => ?_) fun x s' q _ => q)) he hpl
  obtain ⟨vs, H1, I1, r, q⟩ := q0
  refine ⟨I1.kIn, ?_⟩
  have hl : (us ++ []).length = ps.length := by
    obtain ⟨ra, ws, h1, _⟩ := id q
    rw [List.append_nil, ← r.length]
    exact F.len _ _ _ _ h1
  have b1 := hb s1 us I1.kIn hl
  rw [List.append_nil] at b1
  exact of_gdef (args := ⟨us, []⟩) (run_gdef (E1 := X.xe) F hr I1 b1 r q hn)
/-- f(k = v, ..), nothing by position -/
theorem pgn_callK0 {g : List Value → List Value → List Value} {gV : List V → List V → List V} (F : GDef X.prog X.w X.K X.mg X.base k f fd ps cs sp) (hr : Room k X.A) (hg : Gl X x) (hm : X.mg x = some (.ref f)) (hk : PySem.W.keepIn X.K (.ref f) = true) (hb : KBinds X.K fd ps ks g gV) (hkw : PK X kws tk)
    (hall : (backToKw pos (keywordEach kws X.env)).all (·.1.isSome) = true := by rfl) (hks : (backToKw pos (keywordEach kws X.env)).filterMap (·.1) = ks := by rfl)
    (hpl : ((backTo pos (starEach [] X.env)).any (·.1) || (backToKw pos (keywordEach kws X.env)).any (·.1.isNone)) = false := by rfl) (hdb : (x == ("__debug__" : Str)) = false := by decide) :
    PGn X k (.Call (.Name x p) [] kws pos) cs (tCallN sp fun σ H Q => tk σ H fun zs H1 => Q (gV [] zs) H1) := by
  refine ⟨fun pins s σ H cont I h => ?_⟩
  refine wpAny_Call_Name_kw (ld_glob I hg hm ?_ hdb)
  refine PySem.W.callWith_KW0 (h₀ := X.base) I.ok.mod.kin hk hall (GenW.wpAny_gsz (n := s.gens.size) (Nat.le_refl _) (wpAny_mono (hkw.run pos pins s σ H _ I h) (fun ws s1 q0 hn => ?_) fun x s' q _ => q)) hpl
  obtain ⟨zs, H1, I1, r, q⟩ := q0
  refine ⟨I1.kIn, ?_⟩
  rw [hks]
  have r2 := hb.rel (vs := []) (us := []) .nil r
  have hl : (g [] ws).length = ps.length := by
    obtain ⟨ra, w', h1, _⟩ := id q
    rw [← r2.length]
    exact F.len _ _ _ _ h1
  exact of_gdef (args := ⟨[], ks.zip ws⟩) (run_gdef (E1 := X.xe) F hr I1 (hb.to s1 [] ws I1.kIn hl) r2 q hn)
end

/-! ### what is loose -/
theorem fp_new {F : Fm} {X : Cx} {pins : List (Addr × Obj)} {σ : L2.St} {H : Hp} {s : Shared} (m : Mate F X) (I : Inv X pins σ H s) {b : Addr} (hb : F.n0 ≤ b) (e : s.heap.get? b = none) : FpOk X pins H b := by
  have l := loose_new I m.ex e
  refine ⟨off_of I.hok e, l.loc, fun z => ?_, .inr (Nat.le_trans m.n0 hb), l.cell, l.pin⟩
  obtain ⟨_, o, ho, _⟩ := I.funs.mem z
  rw [e] at ho; cases ho
theorem fp_upd {X : Cx} {pins : List (Addr × Obj)} {H : Hp} {b p : Addr} {o : HO} (f : FpOk X pins H b) (h : b ≠ p) : FpOk X pins (upd H p o) b := ⟨by rw [upd_ne h]; exact f.1, f.2⟩
theorem fp_heap {X : Cx} {pins : List (Addr × Obj)} {H H' : Hp} {b : Addr} (f : FpOk X pins H b) (h : H' b = none) : FpOk X pins H' b := ⟨h, f.2⟩
/-- the caller made it: its side -/
theorem mate_of {F : Fm} {X : Cx} {pins : List (Addr × Obj)} {σ : L2.St} {H : Hp} {s : Shared} (I : Inv X pins σ H s) (hex : X.ex = []) (h1 : F.P = X.prog) (h2 : F.w = X.w) (h3 : F.base = X.base) (h4 : F.os = s.os) (h5 : F.outer = X.stack) (h6 : F.n0 = s.heap.objs.size) : Mate F X :=
  ⟨h1, h2, h3, h4.trans I.os, h5, hex, by rw [h6]; exact I.sz⟩

/-! ### with the sleeper's own things beside -/
def over (E H : Hp) : Hp := fun b => match E b with | some u => some u | none => H b
def strip (E H : Hp) : Hp := fun b => match E b with | some _ => none | none => H b
theorem over_on {E H : Hp} {b : Addr} {u : HO} (h : E b = some u) : over E H b = some u := by unfold over; rw [h]
theorem over_off {E H : Hp} {b : Addr} (h : E b = none) : over E H b = H b := by unfold over; rw [h]
theorem strip_on {E H : Hp} {b : Addr} {u : HO} (h : E b = some u) : strip E H b = none := by unfold strip; rw [h]
theorem strip_off {E H : Hp} {b : Addr} (h : E b = none) : strip E H b = H b := by unfold strip; rw [h]
/-- the things at l, just as they stand -/
def still (l : List Addr) (h : Heap) : Hp := fun b => if b ∈ l then (h.get? b).map fun o => HO.ext fun h' => h'.get? b = some o else none
theorem still_in {l : List Addr} {h : Heap} {b : Addr} {o : Obj} (hb : b ∈ l) (e : h.get? b = some o) : still l h b = some (.ext fun h' => h'.get? b = some o) := by unfold still; rw [if_pos hb, e]; rfl
theorem still_out {l : List Addr} {h : Heap} {b : Addr} (hb : b ∉ l) : still l h b = none := by unfold still; rw [if_neg hb]
theorem of_still {l : List Addr} {h : Heap} {b : Addr} {u : HO} (e : still l h b = some u) : b ∈ l ∧ ∃ o, h.get? b = some o ∧ u = .ext fun h' => h'.get? b = some o := by
  unfold still at e
  split at e
  · rename_i hb
    cases q : h.get? b with
    | none => rw [q] at e; cases e
    | some o => rw [q] at e; cases e; exact ⟨hb, o, rfl, rfl⟩
  · cases e
theorem inv_over {X : Cx} {pins : List (Addr × Obj)} {σ : L2.St} {H : Hp} {s : Shared} {l : List Addr} (I : Inv X pins σ H s) (h : ∀ b ∈ l, Loose X pins b ∧ H b = none) : Inv X pins σ (over (still l s.heap) H) s := by
  refine inv_re I (fun b hb => ?_) fun b u e => ?_
  · cases q : still l s.heap b with
    | none => exact absurd (over_off q) hb
    | some u => exact (h b (of_still q).1).1
  · cases q : still l s.heap b with
    | none =>
      rw [over_off q] at e
      refine (I.hok b u e).stay (fun _ _ _ z => z) (fun c z => ?_) fun c xs z => ?_
      · cases y : still l s.heap c with
        | none => rw [over_off y]; exact z
        | some v => rw [(h c (of_still y).1).2] at z; cases z
      · cases y : still l s.heap c with
        | none => rw [over_off y]; exact z
        | some v => rw [(h c (of_still y).1).2] at z; cases z
    | some v =>
      rw [over_on q] at e
      cases e
      obtain ⟨_, o, ho, rfl⟩ := of_still q
      exact ⟨ho, ⟨o, ho⟩, fun h1 h2 q1 q2 => q2 _ q1⟩
/-- a description of tuples leans on no ext -/
theorem inv_strip {X : Cx} {pins : List (Addr × Obj)} {σ : L2.St} {H : Hp} {s : Shared} {E : Hp} (I : Inv X pins σ H s) (h : ∀ b u, E b = some u → Loose X pins b) (hE : ∀ b u, E b = some u → (∀ c, H b ≠ some (.own c)) ∧ ∀ xs, H b ≠ some (.tup xs)) : Inv X pins σ (strip E H) s := by
  refine inv_re I (fun b hb => ?_) fun b u e => ?_
  · cases q : E b with
    | none => exact absurd (strip_off q) hb
    | some u => exact h b u q
  · cases q : E b with
    | some v => rw [strip_on q] at e; cases e
    | none =>
      rw [strip_off q] at e
      refine (I.hok b u e).stay (fun _ _ _ z => z) (fun c z => ?_) fun c xs z => ?_
      · cases y : E c with
        | none => rw [strip_off y]; exact z
        | some v => exact absurd z ((hE c v y).1 _)
      · cases y : E c with
        | none => rw [strip_off y]; exact z
        | some v => exact absurd z ((hE c v y).2 _)
/-- what it is to sleep leans on its own things and its entries alone -/
theorem Nap.moved {F : Fm} {a : Addr} {ws : List (List V)} {gs : GenState} {ad : List Addr} {kd rd : List (Addr × Obj × HO)} {gl : List (Nat × GenState)} {s s' : Shared} (N : Nap F a ws gs ad kd rd gl s) (ha : ∀ o, s.heap.get? a = some o → s'.heap.get? a = some o)
    (hd : ∀ b ∈ ad, ∀ o, s.heap.get? b = some o → s'.heap.get? b = some o) (hk : ∀ r ∈ kd ++ rd, s'.heap.get? r.1 = some r.2.1) (hg : s'.gens[F.g]? = some gs) (hl : ∀ q ∈ gl, s'.gens[q.1]? = some q.2) : Nap F a ws gs ad kd rd gl s' where
  ok := N.ok
  gen := by
    obtain ⟨o, nm, qn, ho, r⟩ := N.gen
    exact ⟨o, nm, qn, ha o ho, r⟩
  ent := hg
  fit := N.fit
  own := fun b hb => by
    obtain ⟨a1, a2, o, ho, hc⟩ := N.own b hb
    exact ⟨a1, a2, o, hd b hb o ho, hc⟩
  kept := hk
  none := N.none
  naps := fun q hq => ⟨hl q hq, (N.naps q hq).2⟩
  wakes := fun s2 aw h1 h3 h2 => N.wakes s2 aw (fun q hq => by
    obtain ⟨m1, e1⟩ := of_pinsAt hq
    exact h1 q (by
      have := mem_pinsAt m1 (hd q.1 m1 q.2 e1)
      exact this)) h3 h2

/-! ### in a def's body -/
def tForN (tg : TGn2) (g : TG) (tb : TS) : TS := fun D σ H => tg σ H fun ws H1 => ∃ W : Nat → L2.St → Hp → Prop, W 0 σ H1 ∧ (∀ σ H, W ws.length σ H → D.nx σ H) ∧ ∀ i x σ H, ws[i]? = some x → W i σ H → ∀ (E : Hp) (p : Addr),
  (∀ b u, E b = some u → H b = none ∧ b ≠ p ∧ ∃ φ, u = .ext φ) → H p = none → g (.ref p) σ (upd (over E H) p (.tup x)) fun σ2 H2 =>
    tb { nx := fun σ' H' => (∀ b u, E b = some u → H' b = some u) ∧ W (i + 1) σ' (strip E H'), ct := fun σ' H' => (∀ b u, E b = some u → H' b = some u) ∧ W (i + 1) σ' (strip E H'),
         bk := fun σ' H' => (∀ b u, E b = some u → H' b = some u) ∧ D.nx σ' (strip E H'), rt := D.rt } σ2 H2
theorem ps_forN {X : Cx} {k : Nat} {tg iter : Expr} {body : List Stmt} {cs : Bool} {wi : TGn2} {g : TG} {tb : TS} {pos : Pos} (hxe : X.xe = fun _ _ => False) (hex : X.ex = []) (hc : X.calm = true) (hr : Room (k + 1) X.A) (hi : PGn X k iter cs wi) (hg : PG X tg g) (hb : PSs X body tb)
    (hs : ∀ x, foldedSetIterable iter X.env x = pure x := by intro _; rfl) : PS X (.For tg iter body [] pos) (tForN wi g tb) := by
  refine ⟨fun pins s σ H D I h => ?_⟩
  rw [hxe]
  have hpo : PassesOwn (model X.prog X.w) X.A X.env (fun _ _ => False) := PassesOwn.never
  refine wpAny_For (wpAny_mono (hi.run pins s σ H _ I h) (fun u s1 q => ?_) fun x s' q => by rw [hxe] at q; exact q) hs
  obtain ⟨H1, sc, ws, I1, M, ⟨W, w0, wend, turn⟩, _⟩ := q
  obtain ⟨a, gn, gs, ad, rd, rfl, ha, hgn, os1, hb1, kp1, hadn, mk⟩ := M
  have frIn : X.A.in1.frames = some X.stack := by
    have := I1.ok.frames
    exact this
  obtain ⟨F, f1, f2, f3, f4, f5, f6, f7, f8, f9, N⟩ := mk X.A.in1 hr.in1 frIn
  have m : Mate F X := mate_of I1 hex f1 f2 f3 f4 f5 f6
  have I1' : Inv X pins σ H1 s1 := inv_gens (s := { s1 with gens := sc.gens }) (by
    have := I1.kept (t' := s1.toks) kp1
    exact inv_gens this rfl os1 I1.bare) rfl rfl hb1
  have loose1 : ∀ b, sc.heap.objs.size ≤ b → FpOk X pins H1 b := fun b hb => I1.fpOk hb (I1.hok.fresh hb)
  refine wpAny_pyIter_gen N.gen ?_
  have hlN : 0 < 1 := Nat.one_pos
  refine codeAny_forLoop_any (fun n s' => ∃ i σ' H' gs ad kd rd gl, n + i = ws.length + 1 ∧ i ≤ ws.length ∧ Inv X pins σ' H' s' ∧ Nap F a (ws.drop i) gs ad kd rd gl s' ∧ FpOk X pins H' a ∧ (∀ b ∈ ad, FpOk X pins H' b) ∧ (∀ r ∈ kd, Loose X pins r.1 ∧ H' r.1 = none ∧ r.1 ≠ a) ∧ W i σ' H') ?_ (ws.length + 1)
    ⟨0, σ, H1, gs, ad, [], rd, [], rfl, Nat.zero_le _, I1', by rw [List.drop_zero]; exact N, loose1 a ha, fun b hb => loose1 b (hadn b hb), fun r hr => absurd hr List.not_mem_nil, w0⟩
  rintro n s3 ⟨i, σ3, H3, gs, ad, kd, rd, gl, hn, hi3, I3, N3, fa, fd, lk, w3⟩
  have nx := nap_next m I3 (hr.hd) (by have := hr.dp; show X.A.depth < _; omega) f8 N3 fa fd
  rw [show F.M = model X.prog X.w by show model F.P F.w = _; rw [f1, f2]] at nx
  refine wpAny_passesOwn hpo (wpAny_mono nx (fun r s4 q => ?_) fun _ _ q => q)
  by_cases hi : i < ws.length
  · obtain ⟨x, hx⟩ : ∃ x, ws[i]? = some x := ⟨ws[i], List.getElem?_eq_getElem hi⟩
    have hdrop : ws.drop i = x :: ws.drop (i + 1) := by
      rw [List.drop_eq_getElem_cons hi]
      congr 1
      rw [List.getElem?_eq_getElem hi] at hx
      exact Option.some.inj hx
    rw [hdrop] at q
    obtain ⟨p, gs', ad', kd', gl', rfl, hp0, I4, N4, sl4, ha4, hk4⟩ := q
    obtain ⟨og, nm, qn, hog, hcg, hdg, hsg⟩ := id N4.gen
    have nea : a ≠ p := fun z => by
      have h1 := I4.hok p _ upd_same
      obtain ⟨_, its, _, ob, e1, cl, _⟩ := h1
      rw [← z, hog] at e1
      cases e1
      rw [hcg] at cl
      exact absurd cl (by decide)
    -- its own things, as they stand
    obtain ⟨l, hl⟩ : ∃ l : List Addr, l = a :: (ad' ++ kd'.map (·.1)) := ⟨_, rfl⟩
    have fd4 : ∀ b ∈ ad', FpOk X pins (upd H3 p (.tup x)) b := fun b hb => by
      obtain ⟨n1, n2⟩ := ha4 b hb
      refine fp_upd ?_ n1
      rcases n2 with z | z
      · exact fd b z
      · exact fp_new m I3 (N4.own b hb).1 z
    have lk4 : ∀ r ∈ kd', Loose X pins r.1 ∧ upd H3 p (.tup x) r.1 = none ∧ r.1 ≠ a := fun r hr => by
      obtain ⟨n1, n2⟩ := hk4 r hr
      obtain ⟨og3, _, _, hog3, _⟩ := N3.gen
      rcases n2 with z | z | z
      · exact ⟨loose_new I3 hex z, by rw [upd_ne n1]; exact off_of I3.hok z, fun e => by rw [e, hog3] at z; cases z⟩
      · exact ⟨loose_fp I3 hex (fd r.1 z), by rw [upd_ne n1]; exact (fd r.1 z).1, (N3.own r.1 z).2.1⟩
      · exact ⟨(lk r z).1, by rw [upd_ne n1]; exact (lk r z).2.1, (lk r z).2.2⟩
    have fa4 : FpOk X pins (upd H3 p (.tup x)) a := fp_upd fa nea
    have all4 : ∀ b ∈ l, Loose X pins b ∧ upd H3 p (.tup x) b = none := fun b hb => by
      rw [hl] at hb
      rcases List.mem_cons.mp hb with z | z
      · rw [z]; exact ⟨loose_fp I4 hex fa4, fa4.1⟩
      · rcases List.mem_append.mp z with z | z
        · exact ⟨loose_fp I4 hex (fd4 b z), (fd4 b z).1⟩
        · obtain ⟨r, hr, rfl⟩ := List.mem_map.mp z
          exact ⟨(lk4 r hr).1, (lk4 r hr).2.1⟩
    have pl : p ∉ l := fun z => by
      have := (all4 p z).2
      rw [upd_same] at this; cases this
    obtain ⟨E, hE⟩ : ∃ E : Hp, E = still l s4.heap := ⟨_, rfl⟩
    have I4E : Inv X pins σ3 (over E (upd H3 p (.tup x))) s4 := by rw [hE]; exact inv_over I4 all4
    have eqH : over E (upd H3 p (.tup x)) = upd (over E H3) p (.tup x) := by
      funext b
      by_cases z : b = p
      · rw [z, upd_same, over_off (by rw [hE]; exact still_out pl), upd_same]
      · rw [upd_ne z]
        cases y : E b with
        | some u => rw [over_on y, over_on y]
        | none => rw [over_off y, over_off y, upd_ne z]
    rw [eqH] at I4E
    have Efact : ∀ b u, E b = some u → H3 b = none ∧ b ≠ p ∧ ∃ φ, u = .ext φ := fun b u e => by
      rw [hE] at e
      obtain ⟨hb, o, ho, rfl⟩ := of_still e
      have nb : b ≠ p := fun z => pl (by rw [← z]; exact hb)
      refine ⟨?_, nb, _, rfl⟩
      have := (all4 b hb).2
      rw [upd_ne nb] at this
      exact this
    have st := turn i x σ3 H3 hx w3 E p Efact hp0
    have hgo : ∀ (s' : Shared) (Q' : Unit → Shared → Prop) (E' : Value → Shared → Prop), s'.heap = s4.heap → Q' () s' → wpAny (model X.prog X.w) X.A (letOwnedTupleGo tg (.ref a) (.ref p)) Q' E' s' := fun s' Q' E' e q => go_of (by rw [e]; exact hog) hcg hdg (by decide) q
    refine wpAny_passesOwn hpo (hgo s4 _ _ rfl ?_)
    -- the target is stored, the body runs: nothing of it wakes the sleeper
    have Id : Inv X pins σ3 (upd (over E H3) p (.tup x)) (drug s4) := inv_gens I4E rfl rfl (bare_drug I4.bare)
    have a1 := hg.run pins (drug s4) σ3 _ (.ref p) (.ref p) _ Id rfl st
    rw [hxe] at a1
    refine wpAny_passesOwn hpo (wpAny_mono (wpAny_asleep a1) (fun _ s5 q5 => ?_) fun _ _ q => by obtain ⟨_, _, _, _, z⟩ := q; exact z)
    obtain ⟨s5, rfl, d5, n5, σ5, H5, I5, q5⟩ := q5
    have a2 := hb.run pins s5 σ5 H5 _ I5 q5
    rw [hxe] at a2
    refine wpAny_passesOwn hpo (wpAny_mono (wpAny_back d5 n5 a2) (fun f s6 q6 => ?_) fun _ _ q => by obtain ⟨_, _, _, _, z⟩ := q; exact z)
    obtain ⟨s6, rfl, d6, n6, q6⟩ := q6
    have extOff : ∀ {H6 : Hp}, (∀ b u, E b = some u → H6 b = some u) → ∀ b u, E b = some u → (∀ c, H6 b ≠ some (.own c)) ∧ ∀ xs, H6 b ≠ some (.tup xs) := fun {H6} hh b u e => by
      obtain ⟨_, _, φ, rfl⟩ := Efact b u e
      exact ⟨fun c z => (by rw [hh b _ e] at z; cases z), fun xs z => (by rw [hh b _ e] at z; cases z)⟩
    have looseE : ∀ b u, E b = some u → Loose X pins b := fun b u e => by
      rw [hE] at e
      exact (all4 b (of_still e).1).1
    have Iback : ∀ {σ6 : L2.St} {H6 : Hp}, Inv X pins σ6 H6 s6 → Inv X pins σ6 H6 (back s4.gens s6) := fun {σ6 H6} I6 => inv_gens I6 rfl rfl (bare_back I4.bare I6.bare)
    have stripI : ∀ {σ6 : L2.St} {H6 : Hp}, Inv X pins σ6 H6 s6 → (∀ b u, E b = some u → H6 b = some u) → Inv X pins σ6 (strip E H6) (back s4.gens s6) := fun {σ6 H6} I6 hh => inv_strip (Iback I6) looseE (extOff hh)
    have again : ∀ {σ6 : L2.St} {H6 : Hp}, Inv X pins σ6 H6 s6 → (∀ b u, E b = some u → H6 b = some u) → W (i + 1) σ6 (strip E H6) → ∃ n', n' < n ∧ ∃ i σ' H' gs ad kd rd gl, n' + i = ws.length + 1 ∧ i ≤ ws.length ∧ Inv X pins σ' H' (back s4.gens s6) ∧ Nap F a (ws.drop i) gs ad kd rd gl (back s4.gens s6) ∧ FpOk X pins H' a ∧ (∀ b ∈ ad, FpOk X pins H' b) ∧ (∀ r ∈ kd, Loose X pins r.1 ∧ H' r.1 = none ∧ r.1 ≠ a) ∧ W i σ' H' := fun {σ6 H6} I6 hh w6 => by
      have keepE : ∀ b ∈ l, ∀ o, s4.heap.get? b = some o → s6.heap.get? b = some o := fun b hb o e => by
        have e1 : E b = some (.ext fun h' => h'.get? b = some o) := by rw [hE]; exact still_in hb e
        exact (I6.hok b _ (hh b _ e1)).1
      have inl : ∀ b ∈ l, strip E H6 b = none := fun b hb => by
        cases y : E b with
        | some u => exact strip_on y
        | none =>
          exfalso
          have : ∃ o, s4.heap.get? b = some o := by
            rw [hl] at hb
            rcases List.mem_cons.mp hb with z | z
            · rw [z]; exact ⟨og, hog⟩
            · rcases List.mem_append.mp z with z | z
              · obtain ⟨_, _, o, ho, _⟩ := N4.own b z
                exact ⟨o, ho⟩
              · obtain ⟨r, hr, rfl⟩ := List.mem_map.mp z
                exact ⟨_, N4.kept r (List.mem_append_left _ hr)⟩
          obtain ⟨o, ho⟩ := this
          rw [hE, still_in hb ho] at y; cases y
      have mem_a : a ∈ l := by rw [hl]; exact List.mem_cons_self
      have mem_d : ∀ b ∈ ad', b ∈ l := fun b hb => by rw [hl]; exact List.mem_cons_of_mem _ (List.mem_append_left _ hb)
      have mem_k : ∀ r ∈ kd', r.1 ∈ l := fun r hr => by rw [hl]; exact List.mem_cons_of_mem _ (List.mem_append_right _ (List.mem_map.mpr ⟨r, hr, rfl⟩))
      have slept : ∀ j z, s4.gens[j]? = some z → Sleeps z → (back s4.gens s6).gens[j]? = some z := fun j z e ⟨k', l', c', q', f', e'⟩ => by
        rw [e'] at e ⊢
        exact sleeper_back d6 e
      refine ⟨n - 1, by omega, i + 1, σ6, strip E H6, gs', ad', kd', [], gl', by omega, by omega, stripI I6 hh, N4.moved (fun o e => keepE a mem_a o e) (fun b hb o e => keepE b (mem_d b hb) o e) (fun r hr => ?_) (slept _ _ N4.ent sl4) (fun q hq => slept _ _ (N4.naps q hq).1 (N4.naps q hq).2.1), fp_heap fa4 (inl a mem_a), fun b hb => fp_heap (fd4 b hb) (inl b (mem_d b hb)), fun r hr => ⟨(lk4 r hr).1, inl r.1 (mem_k r hr), (lk4 r hr).2.2⟩, w6⟩
      have hr' : r ∈ kd' := by
        rcases List.mem_append.mp hr with z | z
        · exact z
        · cases z
      exact keepE r.1 (mem_k r hr') _ (N4.kept r hr)
    cases f with
    | next => obtain ⟨σ6, H6, I6, hh, w6⟩ := q6; exact again I6 hh w6
    | cont => obtain ⟨σ6, H6, I6, hh, w6⟩ := q6; exact again I6 hh w6
    | brk => obtain ⟨σ6, H6, I6, hh, q⟩ := q6; exact ⟨σ6, strip E H6, stripI I6 hh, q⟩
    | ret v => obtain ⟨x6, σ6, H6, I6, rv, q⟩ := q6; exact ⟨x6, σ6, H6, Iback I6, rv, q⟩
  · have hie : i = ws.length := by omega
    rw [List.drop_eq_nil_of_le (by omega)] at q
    obtain ⟨rfl, I4⟩ := q
    exact wpAny_execs_nil ⟨σ3, H3, I4, wend σ3 H3 (hie ▸ w3)⟩
end GK
end
section
set_option maxHeartbeats 1000000
/-! Loops in a generator's body: over what a def may walk, and over another generator. -/
namespace GK
open PySem PySem.Spec PyProof.Rows L2

/-- all sleepers of G are out of use -/
structure Lull (G : Array GenState) (s : Shared) : Prop where
  d : Drugged G s
  n : Neat s
theorem lull_run {α : Type} {M : Model} {A : Around} {m : Sem α} {Q : α → Shared → Prop} {G : Array GenState} {s : Shared} {n : Nat} (l : Lull G s) (hsz : n ≤ (back G s).gens.size) (h : wpAny M A m Q nevr s) :
    wpAny M A m (fun a s' => ∃ s2, s' = back G s2 ∧ Lull G s2 ∧ n ≤ (back G s2).gens.size ∧ Q a s2) nevr (back G s) := by
  refine GenW.wpAny_gsz hsz (wpAny_mono (wpAny_back l.d l.n h) (fun a s' q hs => ?_) fun _ _ q => ?_)
  · obtain ⟨s2, rfl, d, n', q⟩ := q
    exact ⟨s2, rfl, ⟨d, n'⟩, hs, q⟩
  · obtain ⟨_, _, _, _, z⟩ := q
    exact z.elim
theorem lull_start {s : Shared} : Lull s.gens (drug s) := ⟨drugged_drug, neat_drug⟩
theorem run_awake {α : Type} {M : Model} {A : Around} {m : Sem α} {Q : α → Shared → Prop} {s : Shared} {n : Nat} (hsz : n ≤ s.gens.size) (h : wpAny M A m Q nevr (drug s)) :
    wpAny M A m (fun a s' => ∃ s2, s' = back s.gens s2 ∧ Lull s.gens s2 ∧ n ≤ (back s.gens s2).gens.size ∧ Q a s2) nevr s := by
  have := lull_run (lull_start (s := s)) (n := n) (by rw [back_drug]; exact hsz) h
  rw [back_drug] at this
  exact this

section
variable {F : Fm} {top : Bool} {wk : Wk} {ip : List (Addr × Obj)} {gl : List (Nat × GenState)} {σ : L2.St} {H : Hp} {s : Shared} {pos : Pos}
theorem GRun.more (r : GRun F wk ip gl σ H s) {ip' : List (Addr × Obj)} (h : ∀ p ∈ ip', F.n0 ≤ p.1 ∧ s.heap.get? p.1 = some p.2 ∧ H p.1 = none ∧ p.1 ≠ F.env.locals ∧ p.1 ∉ frs F.outer ∧ ∀ v, p.2.data ≠ .cell v) {gl' : List (Nat × GenState)} (hg : ∀ q ∈ gl', s.gens[q.1]? = some q.2 ∧ Sleeps q.2 ∧ q.1 ≠ F.g) : GRun F wk (ip ++ ip') (gl' ++ gl) σ H s where
  inv := r.inv.pins_of fun p hp => (List.mem_append.mp hp).elim (fun z => r.inv.pin p (List.mem_append_right _ z)) fun z => (h p z).2
  wk := r.wk
  ipn := fun p hp => (List.mem_append.mp hp).elim (fun z => r.ipn p z) fun z => (h p z).1
  gsz := r.gsz
  gl := fun q hq => (List.mem_append.mp hq).elim (fun z => hg q z) fun z => r.gl q z
theorem GRun.less {ip' : List (Addr × Obj)} {gl' : List (Nat × GenState)} (r : GRun F wk (ip ++ ip') (gl' ++ gl) σ H s) : GRun F wk ip gl σ H s where
  inv := r.inv.unpinned
  wk := r.wk
  ipn := fun p hp => r.ipn p (List.mem_append_left _ hp)
  gsz := r.gsz
  gl := fun q hq => r.gl q (List.mem_append_right _ hq)
/-- what of FpOk stays through all wakings -/
structure Fp0 (F : Fm) (ip : List (Addr × Obj)) (b : Addr) : Prop where
  n0 : F.n0 ≤ b
  loc : b ≠ F.env.locals
  fs : b ∉ frs F.outer
  cell : ∀ x c, F.env.cells.lookup x = some c → c ≠ b
  pin : ∀ p ∈ ip, p.1 ≠ b
theorem fp0_of (W : WkOk F wk) {b : Addr} (f : FpOk (F.at wk) ip H b) : Fp0 F ip b := by
  obtain ⟨_, f1, f2, f3, f4, f5⟩ := f
  refine ⟨?_, f1, f2, f4, f5⟩
  rcases f3 with z | z
  · cases z
  · have z' : (cut F.n0 wk.s.heap).objs.size ≤ b := z
    rw [cut_size W.sz] at z'; exact z'
theorem Fp0.ok (f : Fp0 F ip b) (W : WkOk F wk) (h : H b = none) : FpOk (F.at wk) ip H b :=
  ⟨h, f.loc, f.fs, .inr (by show (cut F.n0 wk.s.heap).objs.size ≤ b; rw [cut_size W.sz]; exact f.n0), f.cell, f.pin⟩

def tJFor (wi : Wk → TI) (g : TG) (tb : TGj) : TGj := fun D kd ws σ H => ∀ wk, wi wk σ H fun J H1 => ∃ W : Nat → Nat → GQ, (∃ m, W 0 m kd ws σ H1) ∧ ∀ i m kd ws σ H, W i m kd ws σ H →
  (J.stop i H ∧ D.nx kd ws σ H) ∨ (J.go i H ∧ ∃ N : GQ, (∀ kd' ws' σ' H', N kd' ws' σ' H' → ∃ m', m' < m ∧ W (i + 1) m' kd' ws' σ' H') ∧ ∀ x H', J.yld i H x H' → g x σ H' fun σ2 H2 => tb { D with nx := N, ct := N, bk := D.nx } kd ws σ2 H2)
theorem gj_for {tg iter : Expr} {body : List Stmt} {wi : Wk → TI} {g : TG} {tb : TGj} (hi : ∀ wk, PI (F.at wk) tg iter (wi wk)) (hg : ∀ wk, PG (F.at wk) tg g) (hb : GJs F top body tb) (hs : ∀ x, foldedSetIterable iter F.env x = pure x := by intro _; rfl) : GJ F top (.For tg iter body [] pos) (tJFor wi g tb) := by
  refine ⟨fun ip gl c fs K J gd lv D ws wk σ H s h0 gc hk r ht => ?_⟩
  refine sg_stFor ?_ hs
  rw [gc.over]
  refine wpAny_mono (run_awake (n := F.g + 1) r.gsz ((hi wk).run ip (drug s) σ H _ (inv_gens r.inv rfl rfl (bare_drug r.inv.bare)) (ht wk))) (fun v s1 q => ?_) fun _ _ q => q
  obtain ⟨s1, rfl, l1, z1, q⟩ := q
  refine wpAny_mono (lull_run l1 z1 q) (fun itv s2 q => ?_) fun _ _ q => q
  obtain ⟨s2, rfl, l2, z2, it, fp, tn, Jt, H2, rfl, I2, T, st2, f2, W, ⟨m0, w0⟩, turn⟩ := q
  have r2 : GRun F wk ip gl σ H2 (back s.gens s2) := r.back r.ipn l2.d z2 I2
  have fp0 : ∀ b ∈ fp, Fp0 F ip b := fun b hb => fp0_of r.wk (f2 b hb)
  intro k p lv' hkk
  have gcl := gc_in (k := k) (c' := .forLoop tg (.ref it) body [] F.env) (l := lv') (kp := []) (p := p) gc rfl rfl
  suffices loop : ∀ (m i : Nat) (ws : List (List V)) (wk : Wk) (σ : L2.St) (H : Hp) (s : Shared), GRun F wk ip gl σ H s → tn i s.heap → (∀ b ∈ fp, H b = none) → W i m wk.kd ws σ H →
      SegG F.M F.Ab (Phi F ws wk) (.forLoop tg (.ref it) body [] F.env) (F.M.den (.forLoop tg (.ref it) body [] F.env)) (.ret k none (gd false) lv' c p [] :: fs) s from
    loop m0 0 ws wk σ H2 _ r2 st2 (fun b hb => (f2 b hb).1) w0
  intro m
  induction m using Nat.strongRecOn with
  | ind m ih =>
    intro i ws wk σ H s r st fr w
    refine sg_forLoop ?_
    rw [gcl.over]
    have fpk : ∀ {H' : Hp}, (∀ b ∈ fp, H' b = none) → ∀ b ∈ fp, FpOk (F.at wk) ip H' b := fun hn b hb => (fp0 b hb).ok r.wk (hn b hb)
    have Id : Inv (F.at wk) ip σ H (drug s) := inv_gens r.inv rfl rfl (bare_drug r.inv.bare)
    rcases turn i m wk.kd ws σ H w with ⟨stop, qn⟩ | ⟨go, N, hN, step⟩
    · refine wpAny_mono (run_awake (n := F.g + 1) r.gsz (T.done (F.at wk) rfl rfl rfl rfl i ip (drug s) σ H nevr Id (fpk fr) st stop)) (fun x s4 q => ?_) fun _ _ q => q
      obtain ⟨s4, rfl, l4, z4, rfl, I4⟩ := q
      refine sg_block ?_
      rw [hkk]
      exact hk ws wk .next _ ⟨σ, H, r.back r.ipn l4.d z4 I4, qn⟩
    · refine wpAny_mono (run_awake (n := F.g + 1) r.gsz (T.item (F.at wk) rfl rfl rfl rfl i ip (drug s) σ H nevr Id (fpk fr) st go)) (fun x s4 q => ?_) fun _ _ q => q
      obtain ⟨s4, rfl, l4, z4, u, rfl, q⟩ := q
      refine wpAny_mono (lull_run l4 z4 q) (fun _ s5 q => ?_) fun _ _ q => q
      obtain ⟨s5, rfl, l5, z5, x, H5, I5, r5, y5, st5, fr5⟩ := q
      have I5' := I5.pinned (fpk fr5) (T.obj _ _ st5)
      refine wpAny_mono (lull_run l5 z5 ((hg wk).run _ s5 σ H5 x u _ I5' r5 (step x H5 y5))) (fun _ s6 q => ?_) fun _ _ q => q
      obtain ⟨s6, rfl, l6, z6, σ6, H6, I6, q6⟩ := q
      have n6 : ∀ p ∈ ip ++ pinsAt fp s5.heap, F.n0 ≤ p.1 := fun p hp => (List.mem_append.mp hp).elim (fun z => r.ipn p z) fun z => (fp0 p.1 (of_pinsAt z).1).n0
      have r6 : GRun F wk (ip ++ pinsAt fp s5.heap) gl σ6 H6 (back s.gens s6) := r.back n6 l6.d z6 I6
      refine hb.run _ gl _ _ _ _ id id _ ws wk σ6 H6 _ h0 gcl (fun ws' wk' f s7 q7 => ?_) r6 q6
      have again : ∀ {σ7 : L2.St} {H7 : Hp}, GRun F wk' (ip ++ pinsAt fp s5.heap) gl σ7 H7 s7 → N wk'.kd ws' σ7 H7 → SegG F.M F.Ab (Phi F ws' wk') (.forLoop tg (.ref it) body [] F.env) (.pure (.again (.forLoop tg (.ref it) body [] F.env))) (.ret k none (gd false) lv' c p [] :: fs) s7 := fun {σ7 H7} r7 n7 => by
        obtain ⟨m', hm, w7⟩ := hN _ _ _ _ n7
        have pn : ∀ b ∈ fp, ∀ o, s5.heap.get? b = some o → s7.heap.get? b = some o ∧ H7 b = none := fun b hb o e => by
          obtain ⟨a1, a2, _⟩ := r7.inv.pin (b, o) (List.mem_append_right _ (List.mem_append_right _ (mem_pinsAt hb e)))
          exact ⟨a1, a2⟩
        refine sg_again rfl (ih m' hm (i + 1) ws' wk' σ7 H7 s7 (GRun.less (ip' := pinsAt fp s5.heap) (gl' := []) r7) (T.keep _ _ _ st5 fun b hb o e => (pn b hb o e).1) (fun b hb => ?_) w7)
        obtain ⟨o, e, _⟩ := T.obj _ _ st5 b hb
        exact (pn b hb o e).2
      cases f with
      | next => obtain ⟨σ7, H7, r7, n7⟩ := q7; exact again r7 n7
      | cont => obtain ⟨σ7, H7, r7, n7⟩ := q7; exact again r7 n7
      | brk =>
        obtain ⟨σ7, H7, r7, n7⟩ := q7
        exact sg_leaf (.ok .next) (by rw [hkk]; exact hk ws' wk' .next s7 ⟨σ7, H7, GRun.less (ip' := pinsAt fp s5.heap) (gl' := []) r7, n7⟩)
      | ret v =>
        obtain ⟨ev, σ7, H7, r7, n7⟩ := q7
        exact sg_leaf (.ok (.ret v)) (by rw [hkk]; exact hk ws' wk' (.ret v) s7 ⟨ev, σ7, H7, GRun.less (ip' := pinsAt fp s5.heap) (gl' := []) r7, n7⟩)

/-- over a generator that keeps no cells: its things are pinned while the body runs -/
def tJForN (tg : Wk → TGn2) (g : TG) (tb : TGj) : TGj := fun D kd ws σ H => ∀ wk, tg wk σ H fun wi H1 => ∃ W : Nat → GQ, W 0 kd ws σ H1 ∧ (∀ kd ws σ H, W wi.length kd ws σ H → D.nx kd ws σ H) ∧ ∀ i x kd ws σ H, wi[i]? = some x → W i kd ws σ H → ∀ p, H p = none →
  g (.ref p) σ (upd H p (.tup x)) fun σ2 H2 => tb { D with nx := W (i + 1), ct := W (i + 1), bk := D.nx } kd ws σ2 H2
theorem gj_forN {k : Nat} {tg iter : Expr} {body : List Stmt} {wi : Wk → TGn2} {g : TG} {tb : TGj} (O : F.Ok) (hr : Room (k + 1) F.A) (hi : ∀ wk, PGn (F.at wk) k iter true (wi wk)) (hg : ∀ wk, PG (F.at wk) tg g) (hb : GJs F false body tb) (hs : ∀ x, foldedSetIterable iter F.env x = pure x := by intro _; rfl) :
    GJ F true (.For tg iter body [] pos) (tJForN wi g tb) := by
  refine ⟨fun ip gl c fs K J gd lv D ws wk σ H s h0 gc hk r ht => ?_⟩
  have hgl : gl = [] := h0 rfl
  subst hgl
  refine sg_stFor ?_ hs
  rw [gc.over]
  refine GenW.wpAny_gsz (n := F.g + 1) r.gsz (wpAny_mono ((hi wk).run ip s σ H _ r.inv (ht wk)) (fun u s1 q hz1 => ?_) fun _ _ q _ => q)
  obtain ⟨H1, sc, wi, I1, M, ⟨W, w0, wend, turn⟩, hsz⟩ := q
  obtain ⟨a, gn, gs, ad, rd, rfl, ha, hgn, os1, hb1, kp1, hadn, mk⟩ := M
  obtain ⟨G, f1, f2, f3, f4, f5, f6, f7, f8, f9, N⟩ := mk F.A.in1 hr.in1 (by exact O.frames)
  have cell0 : G.env.cells = [] := List.isEmpty_iff.mp f9
  have hgne : G.g ≠ F.g := by
    have := r.gsz
    rw [f7]
    omega
  have gos : G.os = F.os := by rw [f4, I1.os]; exact r.wk.aw.os
  have gn0 : F.n0 ≤ G.n0 := by
    have h1 := I1.sz
    have h2 : (cut F.n0 wk.s.heap).objs.size ≤ sc.heap.objs.size := h1
    rw [cut_size r.wk.sz] at h2
    rw [f6]; exact h2
  have mate : ∀ {wk : Wk}, WkOk F wk → Mate G (F.at wk) := fun {wk} W => ⟨f1, f2, f3, by rw [gos]; exact W.aw.os.symm, f5, rfl, by show (cut F.n0 wk.s.heap).objs.size ≤ _; rw [cut_size W.sz]; exact gn0⟩
  have r1 : GRun F wk ip [] σ H1 s1 := by
    refine ⟨?_, r.wk, r.ipn, hz1, fun q hq => absurd hq List.not_mem_nil⟩
    have := I1.kept (t' := s1.toks) kp1
    exact inv_gens this rfl os1 hb1
  have fp1 : ∀ b, sc.heap.objs.size ≤ b → FpOk (F.at wk) ip H1 b := fun b hb => I1.fpOk hb (I1.hok.fresh hb)
  refine wpAny_pyIter_gen N.gen ?_
  intro k' p lv' hkk
  have gcl := gc_in (k := k') (c' := .forLoop tg (.ref a) body [] F.env) (l := lv') (kp := []) (p := p) gc rfl rfl
  have fa0 : Fp0 F ip a := fp0_of r.wk (fp1 a ha)
  suffices loop : ∀ (m i : Nat) (ws : List (List V)) (wk : Wk) (σ : L2.St) (H : Hp) (s : Shared) (gs : GenState) (ad : List Addr) (rd : List (Addr × Obj × HO)), m + i = wi.length → GRun F wk ip [] σ H s → Nap G a (wi.drop i) gs ad [] rd [] s → H a = none → (∀ b ∈ ad, Fp0 F ip b ∧ H b = none) → W i wk.kd ws σ H →
      SegG F.M F.Ab (Phi F ws wk) (.forLoop tg (.ref a) body [] F.env) (F.M.den (.forLoop tg (.ref a) body [] F.env)) (.ret k' none (gd false) lv' c p [] :: fs) s from
    loop wi.length 0 ws wk σ H1 s1 gs ad rd (by omega) r1 (by rw [List.drop_zero]; exact N) (fp1 a ha).1 (fun b hb => ⟨fp0_of r.wk (fp1 b (hadn b hb)), (fp1 b (hadn b hb)).1⟩) w0
  intro m
  induction m with
  | zero =>
    intro i ws wk σ H s gs ad rd hm r N ha0 hd w
    have hi : i = wi.length := by omega
    refine sg_forLoop ?_
    rw [gcl.over]
    have nx := nap_next (mate r.wk) r.inv hr.hd (by have := hr.dp; omega) f8 N (fa0.ok r.wk ha0) fun b hb => (hd b hb).1.ok r.wk (hd b hb).2
    rw [show G.M = F.M by show model G.P G.w = model F.P F.w; rw [f1, f2]; rfl] at nx
    refine GenW.wpAny_gsz (n := F.g + 1) r.gsz (wpAny_mono nx (fun x s4 q hz => ?_) fun _ _ q _ => q)
    rw [List.drop_eq_nil_of_le (by omega)] at q
    obtain ⟨rfl, I4⟩ := q
    refine sg_block ?_
    rw [hkk]
    exact hk ws wk .next _ ⟨σ, H, ⟨I4, r.wk, r.ipn, hz, fun q hq => absurd hq List.not_mem_nil⟩, wend _ _ _ _ (hi ▸ w)⟩
  | succ m ih =>
    intro i ws wk σ H s gs ad rd hm r N ha0 hd w
    have hi : i < wi.length := by omega
    obtain ⟨x, hx⟩ : ∃ x, wi[i]? = some x := ⟨wi[i], List.getElem?_eq_getElem hi⟩
    have hdrop : wi.drop i = x :: wi.drop (i + 1) := by
      rw [List.drop_eq_getElem_cons hi]
      congr 1
      rw [List.getElem?_eq_getElem hi] at hx
      exact Option.some.inj hx
    refine sg_forLoop ?_
    rw [gcl.over]
    have nx := nap_next (mate r.wk) r.inv hr.hd (by have := hr.dp; omega) f8 N (fa0.ok r.wk ha0) fun b hb => (hd b hb).1.ok r.wk (hd b hb).2
    rw [show G.M = F.M by show model G.P G.w = model F.P F.w; rw [f1, f2]; rfl] at nx
    refine GenW.wpAny_gsz (n := F.g + 1) r.gsz (wpAny_mono nx (fun x' s4 q hz => ?_) fun _ _ q _ => q)
    rw [hdrop] at q
    obtain ⟨pt, gs', ad', kd', gl', rfl, hp0, I4, N4, sl4, ha4, hk4⟩ := q
    obtain ⟨rfl, rfl⟩ := N4.none cell0
    obtain ⟨og, nm, qn, hog, hcg, hdg, hsg⟩ := id N4.gen
    have nea : a ≠ pt := fun z => by
      have h1 := I4.hok pt _ upd_same
      obtain ⟨_, its, _, ob, e1, cl, _⟩ := h1
      rw [← z, hog] at e1
      cases e1
      rw [hcg] at cl
      exact absurd cl (by decide)
    have fd4 : ∀ b ∈ ad', Fp0 F ip b ∧ upd H pt (.tup x) b = none := fun b hb => by
      obtain ⟨n1, n2⟩ := ha4 b hb
      rcases n2 with z | z
      · exact ⟨(hd b z).1, by rw [upd_ne n1]; exact (hd b z).2⟩
      · have f := fp_new (mate r.wk) r.inv (N4.own b hb).1 z
        exact ⟨fp0_of r.wk f, by rw [upd_ne n1]; exact f.1⟩
    have ha4' : upd H pt (.tup x) a = none := by rw [upd_ne nea]; exact ha0
    have r4 : GRun F wk ip [] σ (upd H pt (.tup x)) s4 := ⟨I4, r.wk, r.ipn, hz, fun q hq => absurd hq List.not_mem_nil⟩
    refine go_of hog hcg hdg (by decide) ?_
    -- while the body runs its things are pinned, its entry is kept
    have pinOk : ∀ q ∈ pinsAt (a :: ad') s4.heap, F.n0 ≤ q.1 ∧ s4.heap.get? q.1 = some q.2 ∧ upd H pt (.tup x) q.1 = none ∧ q.1 ≠ F.env.locals ∧ q.1 ∉ frs F.outer ∧ ∀ v, q.2.data ≠ .cell v := fun q hq => by
      obtain ⟨m1, e1⟩ := of_pinsAt hq
      rcases List.mem_cons.mp m1 with z | z
      · rw [z] at e1 ⊢
        rw [hog] at e1
        cases e1
        exact ⟨fa0.n0, by rw [← z] at hog ⊢; exact hog, ha4', fa0.loc, fa0.fs, fun v y => by rw [hdg] at y; cases y⟩
      · obtain ⟨y1, y2⟩ := fd4 q.1 z
        obtain ⟨_, _, o, ho, hc⟩ := N4.own q.1 z
        rw [e1] at ho
        cases ho
        exact ⟨y1.n0, e1, y2, y1.loc, y1.fs, hc cell0⟩
    have r4' : GRun F wk (ip ++ pinsAt (a :: ad') s4.heap) ([(G.g, gs')] ++ []) σ (upd H pt (.tup x)) s4 := r4.more pinOk fun q hq => by
      rw [List.mem_singleton.mp hq]
      exact ⟨N4.ent, sl4, hgne⟩
    refine wpAny_mono (r4'.plain (R := fun _ σ' H' => tb { D with nx := W (i + 1), ct := W (i + 1), bk := D.nx } wk.kd ws σ' H') fun s' I => wpAny_mono ((hg wk).run _ s' σ _ (.ref pt) (.ref pt) _ I rfl (turn i x wk.kd ws σ H hx w pt hp0)) (fun _ s'' q => q) fun _ _ q => q) (fun _ s5 q => ?_) fun _ _ q => q
    obtain ⟨σ5, H5, r5, q5⟩ := q
    refine hb.run _ _ _ _ _ _ id id _ ws wk σ5 H5 s5 (fun e => nomatch e) gcl (fun ws' wk' f s7 q7 => ?_) r5 q5
    have again : ∀ {σ7 : L2.St} {H7 : Hp}, GRun F wk' (ip ++ pinsAt (a :: ad') s4.heap) ([(G.g, gs')] ++ []) σ7 H7 s7 → W (i + 1) wk'.kd ws' σ7 H7 → SegG F.M F.Ab (Phi F ws' wk') (.forLoop tg (.ref a) body [] F.env) (.pure (.again (.forLoop tg (.ref a) body [] F.env))) (.ret k' none (gd false) lv' c p [] :: fs) s7 := fun {σ7 H7} r7 w7 => by
      have pn : ∀ b ∈ a :: ad', ∀ o, s4.heap.get? b = some o → s7.heap.get? b = some o ∧ H7 b = none := fun b hb o e => by
        obtain ⟨a1, a2, _⟩ := r7.inv.pin (b, o) (List.mem_append_right _ (List.mem_append_right _ (mem_pinsAt hb e)))
        exact ⟨a1, a2⟩
      refine sg_again rfl (ih (i + 1) ws' wk' σ7 H7 s7 gs' ad' [] (by omega) (GRun.less (ip' := pinsAt (a :: ad') s4.heap) (gl' := [(G.g, gs')]) r7) (N4.moved (fun o e => (pn a List.mem_cons_self o e).1) (fun b hb o e => (pn b (List.mem_cons_of_mem _ hb) o e).1) (fun r hr => absurd hr List.not_mem_nil) (r7.gl (G.g, gs') List.mem_cons_self).1 fun q hq => absurd hq List.not_mem_nil) (pn a List.mem_cons_self og hog).2 (fun b hb => ?_) w7)
      obtain ⟨_, _, o, ho, _⟩ := N4.own b hb
      exact ⟨(fd4 b hb).1, (pn b (List.mem_cons_of_mem _ hb) o ho).2⟩
    cases f with
    | next => obtain ⟨σ7, H7, r7, n7⟩ := q7; exact again r7 n7
    | cont => obtain ⟨σ7, H7, r7, n7⟩ := q7; exact again r7 n7
    | brk =>
      obtain ⟨σ7, H7, r7, n7⟩ := q7
      exact sg_leaf (.ok .next) (by rw [hkk]; exact hk ws' wk' .next s7 ⟨σ7, H7, GRun.less (ip' := pinsAt (a :: ad') s4.heap) (gl' := [(G.g, gs')]) r7, n7⟩)
    | ret v =>
      obtain ⟨ev, σ7, H7, r7, n7⟩ := q7
      exact sg_leaf (.ok (.ret v)) (by rw [hkk]; exact hk ws' wk' (.ret v) s7 ⟨ev, σ7, H7, GRun.less (ip' := pinsAt (a :: ad') s4.heap) (gl' := [(G.g, gs')]) r7, n7⟩)
end
end GK
end
section
set_option maxHeartbeats 1000000
/-! list(g(..)); a list of one's own in a generator's body. -/
namespace GK
open PySem PySem.Spec PyProof.Rows L2

/-- the tuples ws stand at ps, all else as before -/
structure Told (H1 H2 : Hp) (ps : List Addr) (ws : List (List V)) : Prop where
  same : ∀ b o, H1 b = some o → H2 b = some o
  len : ps.length = ws.length
  tup : ∀ (i : Nat) (p : Addr) (x : List V), ps[i]? = some p → ws[i]? = some x → H2 p = some (.tup x)
theorem Told.nil {H : Hp} : Told H H [] [] := ⟨fun _ _ e => e, rfl, fun i p x e => by simp at e⟩
theorem Told.snoc {H1 H2 : Hp} {ps : List Addr} {ws : List (List V)} {p : Addr} {x : List V} (t : Told H1 H2 ps ws) (hp : H2 p = none) : Told H1 (upd H2 p (.tup x)) (ps ++ [p]) (ws ++ [x]) where
  same := fun b o e => by
    have := t.same b o e
    rw [upd_ne (ne_of_none this hp)]
    exact this
  len := by rw [List.length_append, List.length_append, t.len]; rfl
  tup := fun i q y e1 e2 => by
    by_cases hi : i < ps.length
    · rw [List.getElem?_append_left hi] at e1
      rw [List.getElem?_append_left (by rw [← t.len]; exact hi)] at e2
      have := t.tup i q y e1 e2
      rw [upd_ne (ne_of_none this hp)]
      exact this
    · have hi2 : i = ps.length := by
        have := (List.getElem?_eq_some_iff.mp e1).1
        rw [List.length_append, List.length_singleton] at this
        omega
      subst hi2
      rw [List.getElem?_append_right (Nat.le_refl _), Nat.sub_self] at e1
      rw [t.len, List.getElem?_append_right (Nat.le_refl _), Nat.sub_self] at e2
      cases e1
      cases e2
      exact upd_same

theorem drainN {X : Cx} {pins : List (Addr × Obj)} {σ : L2.St} {A : Around} {R : Result → Shared → Prop} {a S : Addr} {res : Value} {F : Fm} {H1 : Hp} {all : List (List V)} (m : Mate F X) (hh : A.handled = none) (hroom : A.depth < recursionLimit) (hA : F.Ab = A.in1.in1) (hSa : S ≠ a)
    (hend : ∀ s' acc c H' ps, Inv X pins σ H' s' → s'.heap.get? S = some (lstObj acc c) → H' S = none → Vals (ps.map V.ref) acc.toList → Told H1 H' ps all → R (.ok (.ret res)) s') :
    ∀ (ws done : List (List V)) (s : Shared) (H : Hp) (ps : List Addr) (acc : Array Value) (c : Nat) (gs : GenState) (ad : List Addr) (kd rd : List (Addr × Obj × HO)) (gl : List (Nat × GenState)), all = done ++ ws → all.length < sizeLine → Inv X (pins ++ [(S, lstObj acc c)]) σ H s → FpOk X pins H S →
      Vals (ps.map V.ref) acc.toList → Told H1 H ps done → Nap F a ws gs ad kd rd gl s → FpOk X pins H a → (∀ b ∈ ad, FpOk X pins H b ∧ b ≠ S) → (∀ r ∈ kd, r.1 ≠ S) →
      codeAny F.M A (.builtin "list.extend.loop" ⟨[.ref S, .ref a, res], []⟩) R s := by
  intro ws
  induction ws with
  | nil =>
    intro done s H ps acc c gs ad kd rd gl hall hsl I fS rv tl N fa fd fk
    have fp : ∀ b, FpOk X pins H b → b ≠ S → FpOk X (pins ++ [(S, lstObj acc c)]) H b := fun b f n => ⟨f.1, f.2.1, f.2.2.1, f.2.2.2.1, f.2.2.2.2.1, fun p hp => by
      rcases List.mem_append.mp hp with z | z
      · exact f.2.2.2.2.2 p (List.mem_append_left _ z)
      · rcases List.mem_append.mp z with z | z
        · exact f.2.2.2.2.2 p (List.mem_append_right _ z)
        · rw [List.mem_singleton.mp z]; exact Ne.symm n⟩
    refine codeAny_builtin PySem.F.entry_extend_loop ?_
    rw [Around.under_plainId PySem.F.plain_extend_loop _]
    show wpAny F.M A.in1 (pyNext (.ref a) >>= _) _ _ s
    refine wpAny_bind (wpAny_mono (nap_next (A := A.in1) m I hh hroom hA N (fp a fa (Ne.symm hSa)) fun b hb => fp b (fd b hb).1 (fd b hb).2) (fun r s4 q => ?_) fun _ _ q => q.elim)
    obtain ⟨rfl, I4⟩ := q
    obtain ⟨e4, n4, _⟩ := I4.pin (S, lstObj acc c) (List.mem_append_right _ (List.mem_append_right _ (List.mem_singleton.mpr rfl)))
    rw [List.append_nil] at hall
    exact wpAny_pure (hend s4 acc c H ps I4.unpinned e4 n4 rv (hall ▸ tl))
  | cons x ws ih =>
    intro done s H ps acc c gs ad kd rd gl hall hsl I fS rv tl N fa fd fk
    have fp : ∀ b, FpOk X pins H b → b ≠ S → FpOk X (pins ++ [(S, lstObj acc c)]) H b := fun b f n => ⟨f.1, f.2.1, f.2.2.1, f.2.2.2.1, f.2.2.2.2.1, fun p hp => by
      rcases List.mem_append.mp hp with z | z
      · exact f.2.2.2.2.2 p (List.mem_append_left _ z)
      · rcases List.mem_append.mp z with z | z
        · exact f.2.2.2.2.2 p (List.mem_append_right _ z)
        · rw [List.mem_singleton.mp z]; exact Ne.symm n⟩
    refine codeAny_builtin PySem.F.entry_extend_loop ?_
    rw [Around.under_plainId PySem.F.plain_extend_loop _]
    show wpAny F.M A.in1 (pyNext (.ref a) >>= _) _ _ s
    refine wpAny_bind (wpAny_mono (nap_next (A := A.in1) m I hh hroom hA N (fp a fa (Ne.symm hSa)) fun b hb => fp b (fd b hb).1 (fd b hb).2) (fun r s4 q => ?_) fun _ _ q => q.elim)
    obtain ⟨p, gs', ad', kd', gl', rfl, hp0, I4, N4, sl4, ha4, hk4⟩ := q
    obtain ⟨e4, n4, nL, _, _⟩ := I4.pin (S, lstObj acc c) (List.mem_append_right _ (List.mem_append_right _ (List.mem_singleton.mpr rfl)))
    have nSp : S ≠ p := fun z => by
      have n4' : upd H p (.tup x) S = none := n4
      rw [z, upd_same] at n4'; cases n4'
    have hsz : acc.size = done.length := by
      have z1 := rv.length
      rw [List.length_map, tl.len] at z1
      have z2 : acc.toList.length = acc.size := by simp
      omega
    have hlt : acc.size < sizeLine := by
      have z1 : all.length = done.length + (ws.length + 1) := by rw [hall, List.length_append]; rfl
      omega
    have nea : a ≠ p := fun z => by
      obtain ⟨og, nm, qn, hog, hcg, _⟩ := id N4.gen
      have h1 := I4.hok p _ upd_same
      obtain ⟨_, its, _, ob, e1, cl, _⟩ := h1
      rw [← z, hog] at e1
      cases e1
      rw [hcg] at cl
      exact absurd cl (by decide)
    show wpAny F.M A.in1 (updateSeq S (·.push (.ref p)) >>= fun _ => again (.builtin "list.extend.loop" ⟨[.ref S, .ref a, res], []⟩)) _ _ s4
    refine wpAny_bind (wpAny_updateSeq e4 rfl (wpAny_pure ⟨plainId_quiet PySem.F.plain_extend_loop _, ?_⟩) (Nat.le_of_lt hlt) (by show (acc.push (.ref p)).size ≤ sizeLine + 1; rw [Array.size_push]; omega))
    have off : ∀ b o, b ≠ S → s4.heap.get? b = some o → (s4.heap.update S (Obj.mapSeq (·.push (.ref p)))).get? b = some o := fun b o hb e => (Heap.get?_update_other _ _ (Ne.symm hb)).trans e
    obtain ⟨c2, eS2⟩ := (L2.Slept.push (v := Value.ref p) (G := s4.gens) e4 I4.bare).own acc c e4
    have eS2' : (s4.heap.update S (Obj.mapSeq (·.push (.ref p)))).get? S = some (lstObj (acc.push (.ref p)) c2) := eS2
    obtain ⟨g0, g1, g2, g3, g4, g5⟩ := fS
    have I5 : Inv X pins σ (upd H p (.tup x)) { s4 with heap := s4.heap.update S (Obj.mapSeq (·.push (.ref p))) } := I4.unpinned.turned (t' := s4.toks) off (by rw [upd_ne nSp]; exact g0) g1 g3 g4 g5
    have fS5 : FpOk X pins (upd H p (.tup x)) S := ⟨by rw [upd_ne nSp]; exact g0, g1, g2, g3, g4, g5⟩
    refine ih (done ++ [x]) _ (upd H p (.tup x)) (ps ++ [p]) (acc.push (.ref p)) c2 gs' ad' kd' [] gl' (by rw [hall, List.append_assoc]; rfl) hsl (I5.pins_of fun q hq => ?_) fS5 ?_ (tl.snoc hp0) (N4.moved (fun o e => off a o (Ne.symm hSa) e) (fun b hb o e => off b o ?_ e) (fun r hr => ?_) N4.ent fun q hq => (N4.naps q hq).1) (fp_upd fa nea) (fun b hb => ?_) fun r hr y => ?_
    · rcases List.mem_append.mp hq with z | z
      · exact I5.pin q (List.mem_append_right _ z)
      · rw [List.mem_singleton.mp z]
        exact ⟨eS2', by rw [upd_ne nSp]; exact g0, g1, g2, fun v y => by cases y⟩
    · rw [List.map_append, Array.toList_push]
      exact rv.append (.cons rfl .nil)
    · obtain ⟨n1, n2⟩ := ha4 b hb
      rcases n2 with z | z
      · exact (fd b z).2
      · intro y
        obtain ⟨e0, _⟩ := I.pin (S, lstObj acc c) (List.mem_append_right _ (List.mem_append_right _ (List.mem_singleton.mpr rfl)))
        rw [y] at z
        rw [z] at e0; cases e0
    · have hr' : r ∈ kd' := by
        rcases List.mem_append.mp hr with z | z
        · exact z
        · cases z
      refine off r.1 _ (fun y => ?_) (N4.kept r hr)
      obtain ⟨n1, n2⟩ := hk4 r hr'
      obtain ⟨e0, _⟩ := I.pin (S, lstObj acc c) (List.mem_append_right _ (List.mem_append_right _ (List.mem_singleton.mpr rfl)))
      rcases n2 with z | z | z
      · rw [y] at z
        rw [z] at e0; cases e0
      · exact (fd r.1 z).2 y
      · exact fk r z y
    · obtain ⟨n1, n2⟩ := ha4 b hb
      rcases n2 with z | z
      · exact ⟨fp_upd (fd b z).1 n1, (fd b z).2⟩
      · refine ⟨fp_upd (fp_new m I.unpinned (N4.own b hb).1 z) n1, fun y => ?_⟩
        obtain ⟨e0, _⟩ := I.pin (S, lstObj acc c) (List.mem_append_right _ (List.mem_append_right _ (List.mem_singleton.mpr rfl)))
        rw [y] at z
        rw [z] at e0; cases e0
    · obtain ⟨n1, n2⟩ := hk4 r hr
      obtain ⟨e0, _⟩ := I.pin (S, lstObj acc c) (List.mem_append_right _ (List.mem_append_right _ (List.mem_singleton.mpr rfl)))
      rcases n2 with z | z | z
      · rw [y] at z
        rw [z] at e0; cases e0
      · exact (fd r.1 z).2 y
      · exact fk r z y

/-! ### list(g) -/
theorem list_new {P : Program} {w : World} {A : Around} {a : Addr} {g : Nat} {z : Shared} {Q : Value → Shared → Prop} (hg : z.heap.IsGen a g) (hl : z.heap.NoLimit) (ha : a < z.heap.objs.size)
    (h : ∀ (h' : Heap) (c : Nat), h'.get? z.heap.objs.size = some (lstObj #[] c) → (∀ b o, z.heap.get? b = some o → h'.get? b = some o) →
      codeAny (model P w) A.in1 (.builtin "list.extend.loop" ⟨[.ref z.heap.objs.size, .ref a, .none], []⟩) (fun r s' => r = .ok (.ret .none) ∧ Q (.ref z.heap.objs.size) s') { z with heap := h' }) :
    wpAny (model P w) A (call (.type "list") [.ref a]) Q nevr z := by
  have hSa : z.heap.objs.size ≠ a := Nat.ne_of_gt ha
  refine callType_codes (Q₁ := fun obj z₁ => obj = .ref z.heap.objs.size ∧ z₁ = { z with heap := z.heap.push { cls := .type "list", data := .seq #[] } }) PySem.F.called_list (PySem.F.typeCall_list_1 _) PySem.F.entry_list_init (code_list_new _ ⟨rfl, rfl⟩) fun obj z₁ h₁ => ?_
  obtain ⟨rfl, rfl⟩ := h₁
  have eS0 : (z.heap.push { cls := .type "list", data := .seq #[] }).get? z.heap.objs.size = some { cls := .type "list", data := .seq #[] } := Heap.get?_push_size _ rfl
  refine ⟨⟨_, eS0, rfl⟩, PySem.F.args_list_init_2 _ _, ?_⟩
  show wpAny _ A.in1.in1 (do let old ← Builtin.List.listItems (.ref z.heap.objs.size); Builtin.List.listUpdate (.ref z.heap.objs.size) (fun _ => #[]); letGo old.toList.reverse; Builtin.List.listExtendWith (.ref z.heap.objs.size) (.ref a) .none) _ _ _
  refine wpAny_bind ?_
  unfold Builtin.List.listItems
  refine wpAny_bind (wpAny_seqItems eS0 rfl (wpAny_pure ?_))
  show wpAny _ A.in1.in1 (updateSeq z.heap.objs.size (fun _ => #[]) >>= fun _ => letGo (#[] : Array Value).toList.reverse >>= fun _ => Builtin.List.listExtendWith (.ref z.heap.objs.size) (.ref a) .none) _ _ _
  refine wpAny_bind (wpAny_updateSeq eS0 rfl ?_)
  have eS2 := Heap.get?_update_self (Obj.mapSeq (fun _ => (#[] : Array Value))) eS0 rfl
  refine wpAny_bind (wpAny_letGo ?_)
  unfold Builtin.List.listExtendWith
  have off : ∀ (h : Heap) (f : Obj → Obj), (∀ b o, z.heap.get? b = some o → h.get? b = some o) → ∀ b o, z.heap.get? b = some o → (h.update z.heap.objs.size f).get? b = some o := fun h f q b o e =>
    (Heap.get?_update_other _ _ (Ne.symm (Nat.ne_of_lt (Heap.lt_size e)))).trans (q b o e)
  have q1 : ∀ b o, z.heap.get? b = some o → (z.heap.push { cls := .type "list", data := .seq #[] }).get? b = some o := fun b o e => Heap.get?_push_of_some _ e
  have q2 := off _ (Obj.mapSeq (fun _ => (#[] : Array Value))) q1
  refine wpAny_bind (wpAny_typeOf (Heap.IsGen.typeIs (s := { z with heap := _ }) (hg.keeps q2)) ?_)
  have n1 : Builtin.List.listSameRef (.ref z.heap.objs.size) (.ref a) = false := by simp [Builtin.List.listSameRef, hSa]
  have n2 : (Value.type "generator" == Value.type "list") = false := by decide
  have n3 : (Value.type "generator" == Value.type "tuple") = false := by decide
  simp only [n1, n2, n3, Bool.or_false, Bool.false_eq_true, if_false]
  refine wpAny_bind (wpAny_pyIter_gen (s := { z with heap := _ }) (hg.keeps q2) ?_)
  refine wpAny_bind (wpAny_holding ?_)
  unfold Builtin.List.listLengthHint
  refine wpAny_bind (wpAny_specialOf (Heap.IsGen.typeIs (s := { z with heap := _ }) (hg.keeps q2)) PySem.F.gen_no_len ?_)
  show wpAny (model P w) A.in1.in1 (specialOf (Value.ref a) (Str.ofString "__length_hint__") >>= _) _ _ _
  refine wpAny_bind (wpAny_specialOf (Heap.IsGen.typeIs (s := { z with heap := _ }) (hg.keeps q2)) PySem.F.gen_no_hint ?_)
  refine wpAny_pure ?_
  show wpAny _ A.in1.in1 (rule "list.extend.makes-room" >>= fun _ => Builtin.List.listTouch (.ref z.heap.objs.size) >>= fun _ => again (.builtin "list.extend.loop" ⟨[.ref z.heap.objs.size, .ref a, .none], []⟩)) _ _ _
  refine wpAny_bind (wpAny_rule ?_)
  refine wpAny_bind ?_
  show wpAny _ A.in1.in1 (updateSeq z.heap.objs.size (·.push .none) >>= fun _ => updateSeq z.heap.objs.size (·.pop)) _ _ _
  refine wpAny_bind (wpAny_updateSeq eS2 rfl ?_)
  have eS3 := Heap.get?_update_self (Obj.mapSeq (·.push Value.none)) eS2 rfl
  refine wpAny_updateSeq (hz := by seq_fits) eS3 rfl ?_
  have eS4 := Heap.get?_update_self (Obj.mapSeq (·.pop)) eS3 rfl
  have q4 := off _ (Obj.mapSeq (·.pop)) (off _ (Obj.mapSeq (·.push Value.none)) q2)
  refine wpAny_pure ⟨plainId_quiet PySem.F.plain_extend_loop _, ?_⟩
  refine codeAny_mono (h _ _ eS4 q4) fun r s' q => ?_
  obtain ⟨rfl, q⟩ := q
  exact ⟨rfl, q⟩
def tListN (tg : TGn2) : TE := fun σ H Q => tg σ H fun ws H1 => ws.length < sizeLine ∧ ∀ (ps : List Addr) (S : Addr) (H2 : Hp), Told H1 H2 ps ws → H2 S = none → Q (.ref S) (upd H2 S (.lst (ps.map V.ref)))
theorem pe_listN {X : Cx} {k : Nat} {e : Expr} {cs : Bool} {tg : TGn2} {nm : Str} {p pos : Pos} (hex : X.ex = []) (hr : Room (k + 3) X.A) (hi : PGn X k e cs tg) (hg : Gl X nm) (hmg : X.mg nm = none) (hv : bootBuiltins nm = some (.type "list")) (hnm : nm ≠ "__name__" := by decide) (hdb : (nm == ("__debug__" : Str)) = false := by decide)
    (he : starEach [e] X.env = (false, eval e X.env) :: starEach [] X.env := by rfl) : PE X (.Call (.Name nm p) [e] [] pos) (tListN tg) := by
  refine ⟨fun pins s σ H Q I hq => ?_⟩
  refine wpAny_Call_Name_kw (ld_blt I hg hmg hv ?_ hnm hdb)
  refine PyProof.Rows.callWith_type1 ?_ he rfl
  rw [he]
  show wpAny _ _ (spliced ((false, eval e X.env) :: backTo pos (starEach [] X.env))) _ _ s
  refine Calls.spliced_cons (thn (hi.run pins s σ H _ I hq) fun u s1 q => ?_)
  obtain ⟨H1, sc, ws, I1, M, ⟨hlen, fin⟩, _⟩ := q
  refine Calls.spliced_nil ?_
  obtain ⟨a, gn, gs, ad, rd, rfl, ha, hgn, os1, hb1, kp1, hadn, mk⟩ := M
  have hr3 : Room k X.A.in1.in1.in1 := ((hr.in1).in1).in1
  obtain ⟨F, f1, f2, f3, f4, f5, f6, f7, f8, f9, N⟩ := mk X.A.in1.in1.in1 hr3 (by exact I1.ok.frames)
  have m : Mate F X := mate_of I1 hex f1 f2 f3 f4 f5 f6
  have I1' : Inv X pins σ H1 s1 := by
    have := I1.kept (t' := s1.toks) kp1
    exact inv_gens this rfl os1 hb1
  have fp1 : ∀ b, sc.heap.objs.size ≤ b → FpOk X pins H1 b := fun b hb => I1.fpOk hb (I1.hok.fresh hb)
  obtain ⟨og, nm', qn, hog, _⟩ := id N.gen
  have hlt := Heap.lt_size hog
  refine wpAny_mono (list_new N.gen I1'.nolimit hlt fun h' c eS kp => ?_) (fun _ _ q => q) fun _ _ q => q.elim
  have eM : model X.prog X.w = F.M := by show _ = model F.P F.w; rw [f1, f2]
  rw [eM]
  have I2 : Inv X pins σ H1 { s1 with heap := h' } := I1'.kept (t' := s1.toks) kp
  have fS : FpOk X pins H1 s1.heap.objs.size := I1'.fpOk (Nat.le_refl _) (I1'.hok.fresh (Nat.le_refl _))
  refine drainN (pins := pins) (σ := σ) (H1 := H1) (all := ws) m (A := X.A.in1) hr.hd (by have := hr.dp; show X.A.depth < _; omega) f8 (Nat.ne_of_gt hlt) (fun s' acc c' H' ps I' e' n' rv tl => ⟨rfl, ?fin⟩) ws [] { s1 with heap := h' } H1 [] #[] c gs ad [] rd [] rfl hlen (I2.pins_of fun q hq => ?pin) fS .nil .nil (N.moved (fun o e => kp a o e) (fun b hb o e => kp b o e) (fun r hr => kp _ _ (N.kept r hr)) N.ent fun q hq => absurd hq List.not_mem_nil) (fp1 a ha) (fun b hb => ⟨fp1 b (hadn b hb), fun z => ?ne⟩) fun r hr => absurd hr List.not_mem_nil
  case fin =>
    have hl : ps.length ≤ sizeLine := by rw [tl.len]; exact Nat.le_of_lt hlen
    refine ⟨.ref s1.heap.objs.size, upd H' s1.heap.objs.size (.lst (ps.map V.ref)), inv_re I' (fun b hb => ?_) fun b u e => ?_, rfl, fin ps _ H' tl n'⟩
    · by_cases z : b = s1.heap.objs.size
      · rw [z]
        exact loose_fp I1' hex fS
      · exact absurd (upd_ne z) hb
    · by_cases z : b = s1.heap.objs.size
      · subst z
        rw [upd_same] at e
        cases e
        exact ⟨by rw [List.length_map]; exact hl, acc.toList, c', rv, by rw [e']⟩
      · rw [upd_ne z] at e
        exact (I'.hok b u e).stay (fun _ _ _ y => y) (fun d y => by rw [upd_ne (ne_of_none y n')]; exact y) fun d xs y => by rw [upd_ne (ne_of_none y n')]; exact y
  case pin =>
    rcases List.mem_append.mp hq with z | z
    · exact I2.pin q (List.mem_append_right _ z)
    · rw [List.mem_singleton.mp z]
      exact ⟨eS, fS.1, fS.2.1, fS.2.2.1, fun v y => by cases y⟩
  case ne =>
    obtain ⟨_, _, o, ho, _⟩ := N.own b hb
    exact absurd (z ▸ Heap.lt_size ho) (Nat.lt_irrefl _)

/-! ### a list of one's own, and where it stands -/
def tLstN (n : Nat) (t : TA) : TE := fun σ H Q => t σ H fun xs H1 => xs.length ≤ sizeLine ∧ ∀ p, H1 p = none → n ≤ p → Q (.ref p) (upd H1 p (.lst xs))
theorem pe_lstN {X : Cx} {n : Nat} {es : List Expr} {t : TA} {pos : Pos} (hn : n ≤ X.env.locals) (h : PA X es t) : PE X (.List es pos) (tLstN n t) := by
  refine ⟨fun pins s σ H Q I hq => ?_⟩
  refine wpAny_List_spliced (thn (h.run pos pins s σ H _ I hq) fun us s1 q => ?_)
  obtain ⟨xs, H1, I1, r, z, q⟩ := q
  refine ⟨by rw [← r.length]; exact z, ?_⟩
  refine ⟨.ref s1.heap.objs.size, upd H1 s1.heap.objs.size (.lst xs), I1.laid (t' := s1.toks) (fun b u e => Heap.get?_push_of_some _ e) (Nat.le_refl _) ⟨z, us, 0, r, Heap.get?_push_size _ rfl⟩, rfl, q _ (I1.hok.fresh (Nat.le_refl _)) (Nat.le_trans hn (Nat.le_of_lt I1.lt))⟩
end GK
end
/-! try with several clauses, each 'except C as n' -/
namespace GK
open PySem PySem.Spec PyProof.Rows L2
/-- what such clauses wish of an exception of the body: (class, slot, suite) each -/
def wManyAs (K : PySem.W.Frag) (Wout : WX) (D : Ends) : List (Value × Nat × (Addr → Value → Option Addr → TS)) → WX
  | [] => Wout
  | (c, i, ts) :: r => fun cls d σ H => ∃ b, PySem.W.exmOne K cls c = some b ∧
      (b = true → ∀ a, H a = none → ts a cls d { nx := fun σ' H' => D.nx (σ'.set i none) H', rt := D.rt, bk := fun σ' H' => D.bk (σ'.set i none) H', ct := fun σ' H' => D.ct (σ'.set i none) H' } (σ.set i (some (.ref a))) H) ∧
      (b = false → wManyAs K Wout D r cls d σ H)
inductive HdsAs (X : Cx) : List ExceptHandler → List (Value × Nat × (Addr → Value → Option Addr → TS)) → Prop
  | nil : HdsAs X [] []
  | cons {x n : Str} {i : Nat} {c : Value} {ts : Addr → Value → Option Addr → TS} {b₀ : Stmt} {suite : List Stmt} {np pos' : Pos} {hds : List ExceptHandler} {l : List (Value × Nat × (Addr → Value → Option Addr → TS))}
      (hi : X.N[i]? = some n) (hln : X.env.kindOf n = some .local) (hc : Names X x c)
      (hsu : ∀ (a : Addr) (oe : Obj) (cls : Value) (d : Option Addr) (pn : List (Addr × Obj)), Zc cls d oe → (∃ vs, oe.data = .fields vs) → PSs (X.suite a ((a, oe) :: pn)) (b₀ :: suite) (ts a cls d))
      (r : HdsAs X hds l) : HdsAs X (.ExceptHandler (some (.Name x np)) (some n) (b₀ :: suite) pos' :: hds) ((c, i, ts) :: l)
section
variable {X : Cx} {body : List Stmt} {h₀ : ExceptHandler} {hds : List ExceptHandler} {l : List (Value × Nat × (Addr → Value → Option Addr → TS))} {pos : Pos} {tb : WX → TS} {Wout : WX}
theorem ps_try_manyAs (hN : X.N.Nodup) (hs : X.stack = X.env :: X.outer) (hf : X.env.frame = some X.env.locals) (tk : Takes X Wout)
    (hb : ∀ (W : WX) (pn : List (Addr × Obj)) (xe : Value → Shared → Prop), Takes (X.tr pn xe) W → PassesOwn (model X.prog X.w) X.A X.env xe → PSs (X.tr pn xe) body (tb W))
    (hh : HdsAs X (h₀ :: hds) l) : PS X (.Try body (h₀ :: hds) [] [] pos) (fun D σ H => tb (wManyAs X.K Wout D l) D σ H) := by
  refine ⟨fun pz s σ H D I h => ?_⟩
  have okx := I.ok
  have hfz : X.A.frames = some (X.env :: X.outer) := by rw [okx.frames, hs]
  refine wpAny_Try_except ?_
  refine wpAny_mono ((hb (wManyAs X.K Wout D l) (X.pn ++ pz) (fun e s₁ => wpAny (model X.prog X.w) X.A (noteFrame e X.env) (fun _ s₂ => wpAny (model X.prog X.w) X.A (setFlight e none) (fun _ s₃ =>
    wpAny (model X.prog X.w) X.A (handleBy e X.env (h₀ :: hds)) (SP X pz D) X.xe s₃) X.xe s₂) X.xe s₁) (fun u s' xx => ?_) PassesOwn.looking).run [] s σ H D (I.toTry _) h) (fun f s1 hz9 => ?_) (fun e s1 he => he)
  · -- the catch
    obtain ⟨a, B, sI, pz', σ', H', cls, d, rfl, Y', nb0, up, sk, na0, os0, ag0, w⟩ := xx
    have Y : Inv X pz σ' H' sI := Y'.ofTry okx
    have sk' : Sky B (X.env :: X.outer) a (Zc cls d) X.env.locals s'.heap := by rw [← hs]; exact sk
    show wpAny (model X.prog X.w) X.A (noteFrame (.ref a) X.env) _ _ _
    refine Sky.land Zc.steady hfz hf sk' fun h3 f3 u3 => ?_
    have Y3 : Inv X pz σ' H' { s' with heap := h3 } := Y.landed nb0 f3.1 (up.trans u3) os0 ag0
    obtain ⟨o3, v3, e3, z3, d3⟩ := f3.there
    have nofr : ∀ {h : Heap} {o : Obj} {vs : Array Value}, h.FunFrames B (X.env :: X.outer) → h.get? a = some o → o.data = .fields vs → a ∉ frs (X.env :: X.outer) := fun {h o vs} ff e dd hmm => by
      obtain ⟨_, o', e', hnz⟩ := ff.mem hmm
      rw [e] at e'; cases e'
      exact hnz _ dd
    have nfz := nofr f3.2.2.1 e3 d3
    have nL : a ≠ X.env.locals := fun z => nfz (List.mem_filterMap.mpr ⟨X.env, List.mem_cons_self, by rw [hf, z]⟩)
    have nF : a ∉ X.fs := fun hmm => by
      obtain ⟨e, he, q⟩ := List.mem_filterMap.mp hmm
      exact nfz (List.mem_filterMap.mpr ⟨e, List.mem_cons_of_mem _ he, q⟩)
    have Z3 := Y3.suite e3 d3 na0 nL nF
    have goz : ∀ {hds' : List ExceptHandler} {l' : List (Value × Nat × (Addr → Value → Option Addr → TS))}, HdsAs X hds' l' → wManyAs X.K Wout D l' cls d σ' H' →
        wpAny (model X.prog X.w) X.A (handleBy (.ref a) X.env hds') (SP X pz D) X.xe { s' with heap := h3 } := by
      intro hds' l' hk
      induction hk with
      | nil =>
        intro w
        refine wpAny_handleBy_nil ?_
        obtain ⟨k1, k2, k3, oe, vs, T, oT, ts', he, hz, hd, h1, hr⟩ := id f3
        unfold PySem.passOn
        refine wpAny_bind (wpAny_field he hd h1 ?_)
        rw [if_neg (show ¬ ((Value.ref T == Value.none) = true) from by simp)]
        have fin : wpAny (model X.prog X.w) X.A (setFlight (.ref a) X.env.frame) (fun _ s4 => wpAny (model X.prog X.w) X.A (throw (.ref a) : Sem Flow) (SP X pz D) X.xe s4) X.xe { s' with heap := h3 } := by
          rw [hf]
          refine HandSPX.setFlight_upZ f3 fun h4 hh4 u4 => wpAny_throw (tk _ _ ?_)
          exact ⟨a, B, sI, pz, σ', H', cls, d, rfl, Y, nb0, (up.trans u3).trans u4, .inr (.inr (by rw [hs]; exact hh4)), na0, os0, ag0, w⟩
        first
          | exact wpAny_bind (wpAny_pure (wpAny_bind fin))
          | exact wpAny_bind fin
      | @cons x n i c ts b₀ suite np pos' hdt l2 hi hln hc hsu r ih =>
        intro w
        obtain ⟨b, hbb, hy, hn0⟩ := w
        refine wpAny_handleBy_cons (codeAny_handlers_test ?_) (by intro q; cases q)
        have lt : PySem.W.Looks (model X.prog X.w) h3 (typeOf (.ref a)) cls := fun A Q E s k q => wpAny_typeOf_ref (k _ _ e3) (by rw [z3.1]; exact q)
        have lm := PySem.W.exm_one (M := model X.prog X.w) (Y3.kIn) lt hbb
        have tst : ∀ {Q : Value → Shared → Prop} {E : Value → Shared → Prop}, Q c { s' with heap := h3 } → wpAny (model X.prog X.w) (X.A.mark (some (.ref a))) (eval (.Name x np) X.env) Q E { s' with heap := h3 } := fun {Q E} q => by
          obtain ⟨hg, hdbg, hmm | ⟨hmm, hv, hnn⟩⟩ := hc
          · exact ld_glob (X := X.suite a ((a, o3) :: (X.pn ++ pz))) Z3 hg hmm q hdbg
          · exact ld_blt (X := X.suite a ((a, o3) :: (X.pn ++ pz))) Z3 hg hmm hv q hnn hdbg
        refine tst (lm.here ?_)
        cases b with
        | true =>
          refine codeAny_handlers_suite_as ?_
          refine HandSPX.lands_againZ f3 fun h4 f4 u4 => ?_
          have Y4 : Inv X pz σ' H' { s' with heap := h4 } := Y.landed nb0 f4.1 ((up.trans u3).trans u4) os0 ag0
          obtain ⟨o4, v4, e4, z4, d4⟩ := f4.there
          have Z4 := Y4.suite e4 d4 na0 nL nF
          refine store_ok (X := X.suite a ((a, o4) :: (X.pn ++ pz))) (v := .ref a) Z4 hN hi (.inl hln) rfl (fun s5 Z5 => ?_) (.inr hln)
          refine wpAny_mono ((hsu a o4 cls d (X.pn ++ pz) z4 ⟨_, d4⟩).run [] s5 _ H' _ Z5 (hy rfl a na0)) (fun f s6 hz9 => ?_) (fun _ _ z => False.elim z)
          have fin_ : ∀ {σ6 : L2.St} {H6 : Hp} {Q : Shared → Prop}, Inv (X.suite a ((a, o4) :: (X.pn ++ pz))) [] σ6 H6 s6 → (∀ s7, Inv X pz (σ6.set i none) H6 s7 → Q s7) →
              wpAny (model X.prog X.w) X.A (do bindName X.env n .none; unbindBehindTheSuite X.env n pos') (fun _ s7 => Q s7) X.xe s6 := fun {σ6 H6 Q} Z6 hq => gone_ok (Z6.unsuite okx) hN hi hln hq
          cases f with
          | next =>
            obtain ⟨σ6, H6, Z6, q9⟩ := hz9
            exact fin_ Z6 fun s7 Y7 => ⟨_, _, Y7, q9⟩
          | brk =>
            obtain ⟨σ6, H6, Z6, q9⟩ := hz9
            exact fin_ Z6 fun s7 Y7 => ⟨_, _, Y7, q9⟩
          | cont =>
            obtain ⟨σ6, H6, Z6, q9⟩ := hz9
            exact fin_ Z6 fun s7 Y7 => ⟨_, _, Y7, q9⟩
          | ret u =>
            obtain ⟨v6, σ6, H6, Z6, r6, q9⟩ := hz9
            exact fin_ Z6 fun s7 Y7 => ⟨_, _, _, Y7, r6, q9⟩
        | false =>
          show wpAny _ X.A (handleBy (.ref a) X.env hdt) _ _ _
          exact ih (hn0 rfl)
    exact goz hh w
  · cases f with
    | next =>
      obtain ⟨σ', H', Y', q⟩ := hz9
      exact wpAny_execs_nil ⟨σ', H', Y'.ofTry okx, q⟩
    | brk =>
      obtain ⟨σ', H', Y', q⟩ := hz9
      exact ⟨σ', H', Y'.ofTry okx, q⟩
    | cont =>
      obtain ⟨σ', H', Y', q⟩ := hz9
      exact ⟨σ', H', Y'.ofTry okx, q⟩
    | ret u =>
      obtain ⟨v, σ', H', Y', r, q⟩ := hz9
      exact ⟨v, σ', H', Y'.ofTry okx, r, q⟩
end
end GK
namespace T80
open PySem L2
def top (i : Nat) : Stmt := PySem.Challenge.pw_leastknobs_k80_whole_words_cut_falling.main.body.getD i (.Pass ⟨0, 0, 0, 0⟩)
section
variable {X : Cx}
theorem get_list : PGet X (rIxL X.K) := by
  intro pins s σ H o i ov iv Q I ro ri h
  obtain ⟨p, xs, k, z, rfl, rfl, hq, he, q⟩ := h
  cases ro
  obtain ⟨t, rfl⟩ := ri
  obtain ⟨its, r, pl, hz⟩ := I.list hq
  obtain ⟨j, h1, h2, h3, h4, h5⟩ := atI_get he
  obtain ⟨w, ew, rw'⟩ := r.get h2
  have hl := r.length
  have hn := line63
  have fin : EP X pins σ Q w s := ⟨z, H, I, rw', q⟩
  by_cases h0 : 0 ≤ k
  · have hj : k.toNat = j := by
      rw [seqIndex_of h0 h5] at h1
      exact Option.some.inj h1
    exact wpAny_getItem_list pl.isList h0 (by omega) (by rw [hj]; simpa using ew) fin
  · have hj : (k + (its.toArray.size : Int)).toNat = j := by
      rw [seqIndex_neg (by omega) h4] at h1
      rw [List.size_toArray, ← hl]
      exact Option.some.inj h1
    exact wpAny_getItem_list_neg pl.isList (by omega) (by rw [List.size_toArray] <;> omega) (by omega) (by rw [hj]; simpa using ew) fin
end
theorem dpInts {K : PySem.W.Frag} {H : Hp} : ∀ ns : List Int, DpAll K H (ns.map V.int) (ns.map PyData.int)
  | [] => .nil
  | n :: r => .cons (.int n) (dpInts r)
theorem laysInts : ∀ ns : List Int, PyData.canLayAll0 (ns.map PyData.int) = true ∧ PyData.depthAll (ns.map PyData.int) = 0
  | [] => by simp [PyData.canLayAll0, PyData.depthAll]
  | n :: r => by
    have h := laysInts r
    simp [PyData.canLayAll0, PyData.depthAll, PyData.canLay0, PyData.depth, h.1, h.2]
theorem shapedInts (ns : List Int) : SeqAt.shaped (.list (ns.map PyData.int)) = true := by
  have h := laysInts ns
  show (PyData.canLay0 (.list (ns.map PyData.int)) && decide (PyData.depth (.list (ns.map PyData.int)) ≤ 64)) = true
  simp [PyData.canLay0, PyData.depth, h.1, h.2]
theorem fm0 (i : Int) {m : Int} (h : 0 < m) : 0 ≤ i.fmod m := by
  rw [Int.fmod_eq_emod_of_nonneg i (by omega)]
  exact Int.emod_nonneg _ (by omega)
theorem fm1 (i : Int) {m : Int} (h : 0 < m) : i.fmod m < m := by
  rw [Int.fmod_eq_emod_of_nonneg i (by omega)]
  exact Int.emod_lt_of_pos _ h
/-- all but the object at b stays -/
def Keep (b : Addr) (H H' : Hp) : Prop := ∀ p o, p ≠ b → H p = some o → H' p = some o
theorem Keep.refl {b : Addr} {H : Hp} : Keep b H H := fun _ _ _ h => h
theorem Keep.trans {b : Addr} {H H' H'' : Hp} (h : Keep b H H') (g : Keep b H' H'') : Keep b H H'' := fun p o n e => g p o n (h p o n e)
theorem Keep.put {b : Addr} {H H' : Hp} {o : HO} (h : Keep b H H') : Keep b H (upd H' b o) := fun p o n e => by rw [upd_ne n]; exact h p o n e
theorem Keep.new {b l : Addr} {H H' : Hp} {o : HO} (h : Keep b H H') (hl : H' l = none) : Keep b H (upd H' l o) := fun p o n e => by rw [upd_ne (ne_of_none (h p o n e) hl)]; exact h p o n e
theorem same_new {l : Addr} {H H' : Hp} {o : HO} (h : Same H H') (hl : H' l = none) : Same H (upd H' l o) := fun p o e => by rw [upd_ne (ne_of_none (h p o e) hl)]; exact h p o e
theorem seq_cut {t u : TS} {D : Ends} {σ : St} {H : Hp} (I : St → Hp → Prop) (h1 : ∀ n : St → Hp → Prop, (∀ σ' H', I σ' H' → n σ' H') → t { D with nx := n } σ H) (h2 : ∀ σ' H', I σ' H' → u D σ' H') : tSeq t u D σ H := h1 _ h2
theorem if_cut {c : TT} {t u : TS} {D : Ends} {σ : St} {H : Hp} (I : Bool → Hp → Prop) (h1 : ∀ Q : Bool → Hp → Prop, (∀ b H', I b H' → Q b H') → c σ H Q) (h2 : ∀ H', I true H' → t D σ H') (h3 : ∀ H', I false H' → u D σ H') : tIfS c t u D σ H :=
  h1 _ fun b H' hi => by
    cases b with
    | true => exact iteT (h2 H' hi)
    | false => exact iteF (h3 H' hi)
theorem ex_cut {t : TE} {σ : St} {H : Hp} {Q : VK} (I : V → Hp → Prop) (h1 : ∀ Q' : VK, (∀ v H', I v H' → Q' v H') → t σ H Q') (h2 : ∀ v H', I v H' → Q v H') : t σ H Q := h1 _ h2
/-- the box of the draws: how many were made is told -/
def Box (b c : Addr) (ns : List Int) (k : Int) (H : Hp) : Prop :=
  b ≠ c ∧ ns.length ≤ 63 ∧ ∃ a1 a2 a4 : Int, 0 ≤ a1 ∧ H b = some (.lst [.ref c, .int a1, .int a2, .int k, .int a4]) ∧ H c = some (.lst (ns.map V.int))
abbrev sDraw : Stmt := top 24
theorem scDraw : FnScope ["box", "size", "cells", "digit", "cell", "low", "once", "twice"] ["box", "size"] (defScope sDraw) := ⟨rfl, rfl, rfl, by decide +kernel, rfl, by decide +kernel, by decide +kernel⟩
def spDraw : Sp := fun vs H Q _ => ∃ (b c : Addr) (ns : List Int) (k m : Int), vs = [.ref b, .int m] ∧ Box b c ns k H ∧ 0 ≤ k ∧ k ≤ 1000 ∧ 0 < m ∧ m < 1000000 ∧ ∀ (H' : Hp) (r : Int), 0 ≤ r → r < m → Box b c ns (k + 1) H' → Keep b H H' → Q (.int r) H'
structure TDraw (mg : Str → Option Value) : Prop where
  len : mg "len" = none
  int : mg "int" = none
section
variable {P : Program} {w : World} {K : PySem.W.Frag} {mg : Str → Option Value} {base : Heap}
theorem ok_draw {f : Addr} {fd : FuncData} (F : Fun K "_law_draw" "_law_draw" sDraw f fd) (T : TDraw mg) : FnOk P w K mg base CX0 1 f fd ["box", "size"] spDraw := by
  refine F.ok scDraw (fun vs H Q E h => ?_) (fun cdv A outer s H vs Q E hr h => ?_)
  · obtain ⟨b, c, ns, k, m, rfl, _⟩ := h
    rfl
  · obtain ⟨b, c, ns, k, m, rfl, ⟨nbc, hlen, a1, a2, a4, h1, hb, hc⟩, hk, hk2, hm, hm2, kk⟩ := h
    have nd := scDraw.nd
    have hu := hu_of hr
    refine ⟨_, (pss_cons (ps_set (i := 2) nd rfl (Or.inl rfl) (pe_ix ix_list (pv 0) pe_int (fun _ _ => rfl)))
    (pss_cons (ps_augS (pv 0) pe_int get_list pe_int ip_add set_list)
    (pss_cons (ps_if (PW.pt (pw_and (pt_cmpR op_lt (pe_ix ix_list (pv 0) pe_int (fun _ _ => rfl)) pe_int (nomark _)) (pw_and (pt_cmpR op_lt (pe_ix ix_list (pv 0) pe_int (fun _ _ => rfl)) (pe_callB call_len_seq (by rfl) T.len (by decide +kernel) (pa_cons (pv 2) pa_nil)) (nomark _)) (pw_and (pt_cmpR op_eq (pe_ix ix_list (pv 0) pe_int (fun _ _ => rfl)) pe_int (nomark _)) (pw_and1 (pt_cmpR op_ge (pe_ix ix_list (pv 2) (pe_ix ix_list (pv 0) pe_int (fun _ _ => rfl)) (fun _ _ => rfl)) (pe_op op_pow pe_int pe_int) (nomark _)))))))
      (pss_cons (ps_asg (pe_ix ix_list (pv 2) (pe_ix ix_list (pv 0) pe_int (fun _ _ => rfl)) (fun _ _ => rfl)) (pg_sub (pv 0) pe_int set_list))
        (pss_one (ps_augS (pv 0) pe_int get_list pe_int ip_add set_list)))
      pss_nil)
    (pss_cons (ps_if (pt_cmpR op_gt (pe_ix ix_list (pv 0) pe_int (fun _ _ => rfl)) pe_int (nomark _))
      (pss_cons (ps_set (i := 3) nd rfl (Or.inl rfl) (pe_op op_modN (pe_callTy call_int1 (by rfl) T.int (by decide +kernel) (pa_cons (pe_ix ix_list (pv 0) pe_int (fun _ _ => rfl)) pa_nil)) (pv 1)))
        (pss_cons (ps_asg (pe_op op_fdivN (pe_ix ix_list (pv 0) pe_int (fun _ _ => rfl)) (pv 1)) (pg_sub (pv 0) pe_int set_list))
        (pss_one (ps_ret (pv 3)))))
      pss_nil)
    (pss_cons (ps_set (i := 4) nd rfl (Or.inl rfl) pe_int)
    (pss_cons (ps_if (pt_cmpR op_lt (pe_ix ix_list (pv 0) pe_int (fun _ _ => rfl)) (pe_callB call_len_seq (by rfl) T.len (by decide +kernel) (pa_cons (pv 2) pa_nil)) (nomark _))
      (pss_cons (ps_set (i := 4) nd rfl (Or.inl rfl) (pe_ix ix_list (pv 2) (pe_ix ix_list (pv 0) pe_int (fun _ _ => rfl)) (fun _ _ => rfl)))
        (pss_cons (ps_augS (pv 0) pe_int get_list pe_int ip_add set_list)
        (pss_one (ps_if (pt_cmpR op_eq (pe_ix ix_list (pv 0) pe_int (fun _ _ => rfl)) pe_int (nomark _))
          (pss_cons (ps_asg pe_int (pg_sub (pv 0) pe_int set_list))
            (pss_one (ps_augS (pv 0) pe_int get_list pe_int ip_add set_list)))
          pss_nil))))
      (pss_one (ps_if (pt_cmpR (op_neD hr.units) (pv 2) (pe_lst pa_nil) (nomark _))
          (pss_one (ps_set (i := 4) nd rfl (Or.inl rfl) (pe_ix ix_list (pv 2) (pe_op op_modN (pe_callTy call_int1 (by rfl) T.int (by decide +kernel) (pa_cons (pe_ix ix_list (pv 0) pe_int (fun _ _ => rfl)) pa_nil)) (pe_callB call_len_seq (by rfl) T.len (by decide +kernel) (pa_cons (pv 2) pa_nil))) (fun _ _ => rfl))))
          pss_nil)))
    (pss_cons (ps_set (i := 5) nd rfl (Or.inl rfl) (pe_op op_mod (pe_callTy call_int1 (by rfl) T.int (by decide +kernel) (pa_cons (pv 4) pa_nil)) pe_int))
    (pss_cons (ps_set (i := 6) nd rfl (Or.inl rfl) (pe_op op_mod (pe_callTy call_int1 (by rfl) T.int (by decide +kernel) (pa_cons (pe_op op_add (pe_op op_add (pe_op op_mul (pv 5) pe_int) (pe_op op_mul (pe_ix ix_list (pv 0) pe_int (fun _ _ => rfl)) pe_int)) pe_int) pa_nil)) pe_int))
    (pss_cons (ps_set (i := 7) nd rfl (Or.inl rfl) (pe_op op_mod (pe_callTy call_int1 (by rfl) T.int (by decide +kernel) (pa_cons (pe_op op_add (pe_op op_add (pe_op op_mul (pv 6) (pv 6)) (pe_op op_mul (pv 5) pe_int)) (pe_op op_mul (pe_ix ix_list (pv 0) pe_int (fun _ _ => rfl)) pe_int)) pa_nil)) pe_int))
    (pss_one (ps_ret (pe_op op_modN (pe_callTy call_int1 (by rfl) T.int (by decide +kernel) (pa_cons (pe_op op_fdivN (pv 7) pe_int) pa_nil)) (pv 1))))))))))))), ?_⟩
    have atc : ∀ i : Int, 0 ≤ i → i < ns.length → ∃ x : Int, atI (ns.map V.int) i = some (.int x) := fun i h0 h1 => by
      have hh : i.toNat < (ns.map V.int).length := by rw [List.length_map]; omega
      have e := atI_nat (xs := ns.map V.int) (j := i.toNat) (v := .int (ns[i.toNat]'(by omega))) (by simp)
      rw [show ((i.toNat : Nat) : Int) = i by omega] at e
      exact ⟨_, e⟩
    have bx : ∀ (H' : Hp) (x1 x2 x4 : Int), 0 ≤ x1 → H' c = some (.lst (ns.map V.int)) → Box b c ns (k + 1) (upd H' b (.lst [.ref c, .int x1, .int x2, .int (k + 1), .int x4])) := fun H' x1 x2 x4 h0 hc' => ⟨nbc, hlen, x1, x2, x4, h0, upd_same, by rw [upd_ne nbc.symm]; exact hc'⟩
    refine seq_cut (fun σ' H' => σ' = [some (.ref b), some (.int m), some (.ref c), none, none, none, none, none] ∧ H = H') (fun n hn => ?_) (fun σ0 H0 ⟨eσ, eH⟩ => ?_)
    · refine ⟨_, rfl, _, _, _, _, rfl, rfl, SqL.of hb, rfl, ?_⟩
      exact hn _ _ ⟨rfl, rfl⟩
    subst eσ eH
    refine seq_cut (fun σ' H' => σ' = [some (.ref b), some (.int m), some (.ref c), none, none, none, none, none] ∧ Box b c ns (k + 1) H' ∧ Keep b H H') (fun n hn => ?_) (fun σ1 H1 ⟨eσ, B1, K1⟩ => ?_)
    · refine ⟨_, rfl, _, _, _, _, rfl, rfl, SqL.of hb, rfl, _, _, rfl, rfl, _, _, _, _, rfl, rfl, hb, rfl, ?_⟩
      exact hn _ _ ⟨rfl, bx _ _ _ _ h1 hc, Keep.refl.put⟩
    subst eσ
    refine seq_cut (fun σ' H' => σ' = [some (.ref b), some (.int m), some (.ref c), none, none, none, none, none] ∧ Box b c ns (k + 1) H' ∧ Keep b H H') (fun n hn => ?_) (fun σ2 H2 ⟨eσ, B2, K2⟩ => ?_)
    · obtain ⟨_, _, a1, a2, a4, h1, hb, hc⟩ := id B1
      refine if_cut (fun t H' => H' = H1 ∧ (t = true → a1 < ns.length)) (fun Q' hQ => ?_) (fun H' ⟨e, hl⟩ => ?_) (fun H' ⟨e, _⟩ => ?_)
      · refine ⟨_, rfl, _, _, _, _, rfl, rfl, SqL.of hb, rfl, _, _, rfl, rfl, _, rfl, ite2 (fun _ => ?_) (fun _ => hQ _ _ ⟨rfl, fun z => by cases z⟩)⟩
        refine ⟨_, rfl, _, _, _, _, rfl, rfl, SqL.of hb, rfl, _, rfl, _, _, rfl, .inl (SqL.of hc), _, _, rfl, rfl, _, rfl, ite2 (fun hl => ?_) (fun _ => hQ _ _ ⟨rfl, fun z => by cases z⟩)⟩
        have hl' : a1 < ns.length := by simpa using hl
        refine ⟨_, rfl, _, _, _, _, rfl, rfl, SqL.of hb, rfl, rfl, _, rfl, ite2 (fun _ => ?_) (fun _ => hQ _ _ ⟨rfl, fun z => by cases z⟩)⟩
        obtain ⟨x, hx⟩ := atc a1 h1 hl'
        refine ⟨_, rfl, _, rfl, _, _, _, _, rfl, rfl, SqL.of hb, rfl, _, _, _, _, rfl, rfl, SqL.of hc, hx, _, _, rfl, rfl, ⟨by decide, by decide, by decide⟩, _, _, rfl, rfl, _, rfl, ?_⟩
        exact hQ _ _ ⟨rfl, fun _ => hl'⟩
      · subst e
        obtain ⟨x, hx⟩ := atc a1 h1 (hl rfl)
        refine ⟨_, rfl, _, rfl, _, _, _, _, rfl, rfl, SqL.of hb, rfl, _, _, _, _, rfl, rfl, SqL.of hc, hx, _, rfl, _, _, _, _, rfl, rfl, hb, rfl, ?_⟩
        refine ⟨_, rfl, _, _, _, _, rfl, rfl, SqL.of upd_same, rfl, _, _, rfl, rfl, _, _, _, _, rfl, rfl, upd_same, rfl, ?_⟩
        exact hn _ _ ⟨rfl, bx _ (a1 + 1) _ _ (by omega) (by rw [upd_ne nbc.symm]; exact hc), K1.put.put⟩
      · subst e
        exact hn _ _ ⟨rfl, B1, K1⟩
    subst eσ
    refine seq_cut (fun σ' H' => σ' = [some (.ref b), some (.int m), some (.ref c), none, none, none, none, none] ∧ Box b c ns (k + 1) H' ∧ Keep b H H') (fun n hn => ?_) (fun σ3 H3 ⟨eσ, B3, K3⟩ => ?_)
    · obtain ⟨_, _, a1, a2, a4, h1, hb, hc⟩ := id B2
      refine ⟨_, rfl, _, _, _, _, rfl, rfl, SqL.of hb, rfl, _, _, rfl, rfl, _, rfl, ite2 (fun _ => ?_) (fun _ => hn _ _ ⟨rfl, B2, K2⟩)⟩
      refine ⟨_, rfl, _, _, _, _, rfl, rfl, SqL.of hb, rfl, .inl ⟨_, rfl, ?_⟩⟩
      refine ⟨_, rfl, _, _, rfl, rfl, by omega, ?_⟩
      refine ⟨_, rfl, _, _, _, _, rfl, rfl, SqL.of hb, rfl, _, rfl, _, _, rfl, rfl, ⟨by omega, by omega⟩, ?_⟩
      refine ⟨_, rfl, _, _, _, _, rfl, rfl, hb, rfl, ?_⟩
      refine ⟨_, rfl, ?_⟩
      exact kk _ _ (fm0 _ hm) (fm1 _ hm) (bx _ _ _ _ h1 hc) K2.put
    subst eσ
    refine seq_cut (fun σ' H' => ∃ x : Int, σ' = [some (.ref b), some (.int m), some (.ref c), none, some (.int x), none, none, none] ∧ Box b c ns (k + 1) H' ∧ Keep b H H') (fun n hn => ?_) (fun σ4 H4 ⟨x, eσ, B4, K4⟩ => ?_)
    · exact hn _ _ ⟨0, rfl, B3, K3⟩
    subst eσ
    refine seq_cut (fun σ' H' => ∃ x : Int, σ' = [some (.ref b), some (.int m), some (.ref c), none, some (.int x), none, none, none] ∧ Box b c ns (k + 1) H' ∧ Keep b H H') (fun n hn => ?_) (fun σ5 H5 ⟨x, eσ, B5, K5⟩ => ?_)
    · obtain ⟨_, _, a1, a2, a4, h1, hb, hc⟩ := id B4
      refine ⟨_, rfl, _, _, _, _, rfl, rfl, SqL.of hb, rfl, _, rfl, _, _, rfl, .inl (SqL.of hc), _, _, rfl, rfl, _, rfl, ite2 (fun hl => ?_) (fun hl => ?_)⟩
      · have hl' : a1 < ns.length := by simpa using hl
        obtain ⟨y, hy⟩ := atc a1 h1 hl'
        refine ⟨_, rfl, _, rfl, _, _, _, _, rfl, rfl, SqL.of hb, rfl, _, _, _, _, rfl, rfl, SqL.of hc, hy, ?_⟩
        refine ⟨_, rfl, _, _, _, _, rfl, rfl, SqL.of hb, rfl, _, _, rfl, rfl, _, _, _, _, rfl, rfl, hb, rfl, ?_⟩
        refine ⟨_, rfl, _, _, _, _, rfl, rfl, SqL.of upd_same, rfl, rfl, _, rfl, ite2 (fun _ => ?_) (fun _ => ?_)⟩
        · refine ⟨_, rfl, _, _, _, _, rfl, rfl, upd_same, rfl, ?_⟩
          refine ⟨_, rfl, _, _, _, _, rfl, rfl, SqL.of upd_same, rfl, _, _, rfl, rfl, _, _, _, _, rfl, rfl, upd_same, rfl, ?_⟩
          exact hn _ _ ⟨y, rfl, bx _ (a1 + 1) _ _ (by omega) (by rw [upd_ne nbc.symm, upd_ne nbc.symm]; exact hc), K4.put.put.put⟩
        · exact hn _ _ ⟨y, rfl, bx _ _ _ _ h1 hc, K4.put⟩
      · refine ⟨_, rfl, Nat.zero_le _, fun l hl => ?_⟩
        have nbl : b ≠ l := ne_of_none hb hl
        have ncl : c ≠ l := ne_of_none hc hl
        have hc' : (upd H4 l (.lst [])) c = some (.lst (ns.map V.int)) := by rw [upd_ne ncl]; exact hc
        have hb' := (upd_ne (H := H4) (o := .lst []) nbl).trans hb
        refine ⟨_, _, .lst (SqL.of hc') (dpInts ns), .lst (SqL.of upd_same) .nil, ?_, rfl, _, rfl, ite2 (fun hne => ?_) (fun _ => ?_)⟩
        · exact shapedInts ns
        · have hpos : 0 < ns.length := by
            cases ns with
            | nil => exact absurd hne (by decide)
            | cons _ _ => simp
          obtain ⟨y, hy⟩ := atc ((k + 1).fmod ns.length) (fm0 _ (by omega)) (fm1 _ (by omega))
          refine ⟨_, rfl, _, rfl, _, _, _, _, rfl, rfl, SqL.of hb', rfl, .inl ⟨_, rfl, _, rfl, _, _, rfl, .inl (SqL.of hc'), _, _, rfl, rfl, ?_, ?_⟩⟩
          · rw [List.length_map]
            omega
          refine ⟨_, _, _, _, rfl, rfl, SqL.of hc', by rw [List.length_map]; exact hy, ?_⟩
          exact hn _ _ ⟨y, rfl, ⟨nbc, hlen, a1, a2, a4, h1, hb', hc'⟩, K4.new hl⟩
        · exact hn _ _ ⟨x, rfl, ⟨nbc, hlen, a1, a2, a4, h1, hb', hc'⟩, K4.new hl⟩
    subst eσ
    obtain ⟨_, _, a1, a2, a4, h1, hb, hc⟩ := id B5
    refine ⟨_, rfl, .inl ⟨_, rfl, _, _, rfl, rfl, by show (0 : Int) < 2305843009213693951; decide, ?_⟩⟩
    have l0 : 0 ≤ x % 2305843009213693951 := Int.emod_nonneg _ (by decide)
    have l1 : x % 2305843009213693951 < 2305843009213693951 := Int.emod_lt_of_pos _ (by decide)
    generalize x % 2305843009213693951 = low at l0 l1 ⊢
    refine ⟨_, rfl, _, _, rfl, rfl, .inl ⟨by omega, by omega⟩, _, rfl, _, _, _, _, rfl, rfl, SqL.of hb, rfl, _, _, rfl, rfl, .inl ⟨by omega, by omega⟩, _, _, rfl, rfl, _, _, rfl, rfl, .inl ⟨_, rfl, _, _, rfl, rfl, by show (0 : Int) < 2147483647; decide, ?_⟩⟩
    generalize ho : (low * 1000003 + (k + 1) * 7919 + 104729) % 2147483647 = once
    have o0 : 0 ≤ once := ho ▸ Int.emod_nonneg _ (by decide)
    have o1 : once < 2147483647 := ho ▸ Int.emod_lt_of_pos _ (by decide)
    refine ⟨_, rfl, _, rfl, _, _, rfl, rfl, .inl ⟨by omega, by omega⟩, _, rfl, _, _, rfl, rfl, .inl ⟨by omega, by omega⟩, _, _, rfl, rfl, _, rfl, _, _, _, _, rfl, rfl, SqL.of hb, rfl, _, _, rfl, rfl, .inl ⟨by omega, by omega⟩, _, _, rfl, rfl, .inl ⟨_, rfl, _, _, rfl, rfl, by show (0 : Int) < 2305843009213693951; decide, ?_⟩⟩
    refine ⟨_, rfl, _, _, rfl, rfl, ⟨by decide, by decide⟩, .inl ⟨_, rfl, _, rfl, _, _, rfl, rfl, by omega, ?_⟩⟩
    exact kk _ _ (fm0 _ hm) (fm1 _ hm) B5 K5
end
end T80
namespace T80
open PySem L2
theorem lt1 (a b : Nat) : (([a] : List Nat) < [b]) ↔ a < b := by
  constructor
  · intro h
    rcases h with _ | h | h
    · assumption
    · cases h
  · intro h
    exact List.Lex.rel h
def isDig (c : Nat) : Bool := decide (48 ≤ c) && decide (c ≤ 57)
def isLet (c : Nat) : Bool := (decide (65 ≤ c) && decide (c ≤ 90)) || (decide (97 ≤ c) && decide (c ≤ 122))
def isInn (c : Nat) : Bool := isLet c || isDig c || c == 95
def Sg (c : Nat) : Str := ⟨#[c]⟩
theorem le_sg (a c : Nat) : (!decide (([c] : List Nat) < [a])) = decide (a ≤ c) := by
  by_cases h : a ≤ c
  · have : ¬ ([c] : List Nat) < [a] := fun z => by have := (lt1 c a).mp z; omega
    simp [h, this]
  · have : ([c] : List Nat) < [a] := (lt1 c a).mpr (by omega)
    simp [h, this]
abbrev s_is_digit : Stmt := top 6
abbrev s_is_letter : Stmt := top 7
abbrev s_is_inner : Stmt := top 8
def spS (f : Nat → Bool) : Sp := fun vs H Q _ => ∃ c : Nat, vs = [.str (Sg c)] ∧ Q (.bl (f c)) H
theorem scDig : FnScope ["sign"] ["sign"] (defScope s_is_digit) := ⟨rfl, rfl, rfl, by decide +kernel, rfl, by decide +kernel, by decide +kernel⟩
theorem scLet : FnScope ["sign"] ["sign"] (defScope s_is_letter) := ⟨rfl, rfl, rfl, by decide +kernel, rfl, by decide +kernel, by decide +kernel⟩
theorem scInn : FnScope ["sign"] ["sign"] (defScope s_is_inner) := ⟨rfl, rfl, rfl, by decide +kernel, rfl, by decide +kernel, by decide +kernel⟩
section
variable {P : Program} {w : World} {K : PySem.W.Frag} {mg : Str → Option Value} {base : Heap}
theorem ok_digit {f : Addr} {fd : FuncData} (F : Fun K "is_digit" "is_digit" s_is_digit f fd) : FnOk P w K mg base CX0 1 f fd ["sign"] (spS isDig) := by
  refine F.ok scDig (fun vs H Q E h => ?_) (fun cdv A outer s H vs Q E hr h => ?_)
  · obtain ⟨c, rfl, _⟩ := h
    rfl
  · obtain ⟨c, rfl, q⟩ := h
    have nd := scDig.nd
    refine ⟨_, (pss_one (ps_ret (pe_chain op_le_str op_le_str pe_str (pv 0) pe_str))), ?_⟩
    refine ⟨_, rfl, _, _, rfl, rfl, _, rfl, ite2 (fun h => ⟨_, _, rfl, rfl, ?_⟩) (fun h => ?_)⟩
    · have h' : decide (48 ≤ c) = true := (le_sg 48 c).symm.trans h
      have e : isDig c = !decide (([57] : List Nat) < [c]) := by rw [le_sg, isDig, h', Bool.true_and]
      rw [e] at q
      exact q
    · have h' : decide (48 ≤ c) = false := (le_sg 48 c).symm.trans (eq_false_of_ne_true h)
      have e : isDig c = false := by rw [isDig, h', Bool.false_and]
      rw [e] at q
      exact q
theorem ok_letter {f : Addr} {fd : FuncData} (F : Fun K "is_letter" "is_letter" s_is_letter f fd) : FnOk P w K mg base CX0 1 f fd ["sign"] (spS isLet) := by
  refine F.ok scLet (fun vs H Q E h => ?_) (fun cdv A outer s H vs Q E hr h => ?_)
  · obtain ⟨c, rfl, _⟩ := h
    rfl
  · obtain ⟨c, rfl, q⟩ := h
    have nd := scLet.nd
    refine ⟨_, (pss_one (ps_ret (pe_or (pe_chain op_le_str op_le_str pe_str (pv 0) pe_str) (pe_one (pe_chain op_le_str op_le_str pe_str (pv 0) pe_str))))), ?_⟩
    have fin : (decide (65 ≤ c) && decide (c ≤ 90)) = false → (∃ i j : Str, V.str "a" = .str i ∧ V.str (Sg c) = .str j ∧ ∃ k, V.bl (!decide (j.cps.toList < i.cps.toList)) = .bl k ∧ if k = true then (∃ i j : Str, V.str (Sg c) = .str i ∧ V.str "z" = .str j ∧ Q (.bl (!decide (j.cps.toList < i.cps.toList))) H) else Q (.bl false) H) := fun hn => by
      refine ⟨_, _, rfl, rfl, _, rfl, ite2 (fun h => ⟨_, _, rfl, rfl, ?_⟩) (fun h => ?_)⟩
      · have h' : decide (97 ≤ c) = true := (le_sg 97 c).symm.trans h
        have e : isLet c = !decide (([122] : List Nat) < [c]) := by rw [le_sg, isLet, hn, h', Bool.true_and, Bool.false_or]
        rw [e] at q
        exact q
      · have h' : decide (97 ≤ c) = false := (le_sg 97 c).symm.trans (eq_false_of_ne_true h)
        have e : isLet c = false := by rw [isLet, hn, h', Bool.false_and, Bool.false_or]
        rw [e] at q
        exact q
    refine ⟨_, rfl, _, _, rfl, rfl, _, rfl, ite2 (fun h => ⟨_, _, rfl, rfl, _, rfl, ite2 (fun g => ?_) (fun g => ⟨_, rfl, fin ?_⟩)⟩) (fun h => ⟨_, rfl, iteF ⟨_, rfl, fin ?_⟩⟩)⟩
    · have h' : decide (65 ≤ c) = true := (le_sg 65 c).symm.trans h
      have g' : decide (c ≤ 90) = true := (le_sg c 90).symm.trans g
      have e : isLet c = true := by rw [isLet, h', g']; rfl
      rw [e] at q
      exact q
    · rw [(le_sg c 90).symm.trans (eq_false_of_ne_true g), Bool.and_false]
    · rw [(le_sg 65 c).symm.trans (eq_false_of_ne_true h), Bool.false_and]
theorem ok_inner {f fl fg : Addr} {fd fdl fdg : FuncData} (F : Fun K "is_inner" "is_inner" s_is_inner f fd) (m_is_letter : mg "is_letter" = some (.ref fl)) (m_is_digit : mg "is_digit" = some (.ref fg))
    (FL : FnOk P w K mg base CX0 1 fl fdl ["sign"] (spS isLet)) (FG : FnOk P w K mg base CX0 1 fg fdg ["sign"] (spS isDig)) (kl : PySem.W.keepIn K (.ref fl) = true) (kg : PySem.W.keepIn K (.ref fg) = true) (bl : Binds K fdl ["sign"] []) (bg : Binds K fdg ["sign"] []) :
    FnOk P w K mg base CX0 2 f fd ["sign"] (spS isInn) := by
  refine F.ok scInn (fun vs H Q E h => ?_) (fun cdv A outer s H vs Q E hr h => ?_)
  · obtain ⟨c, rfl, _⟩ := h
    rfl
  · obtain ⟨c, rfl, q⟩ := h
    have nd := scInn.nd
    refine ⟨_, pss_one (ps_ret (pe_or (pe_call FL hr (by rfl) m_is_letter kl bl .nil pass0 (pa_cons (pv 0) pa_nil)) (pe_or (pe_call FG hr (by rfl) m_is_digit kg bg .nil pass0 (pa_cons (pv 0) pa_nil)) (pe_one (pe_cmpR op_eq (pv 0) pe_str (nomark _)))))), ?_⟩
    refine ⟨_, rfl, c, rfl, _, rfl, ite2 (fun h => ?_) (fun h => ⟨_, rfl, c, rfl, _, rfl, ite2 (fun g => ?_) (fun g => ⟨_, rfl, rfl, ?_⟩)⟩)⟩
    · rw [show isInn c = true by rw [isInn, h]; rfl] at q
      exact q
    · rw [show isInn c = true by rw [isInn, g]; simp] at q
      exact q
    · rw [show isInn c = decide (V.str (Sg c) = V.str "_") by
        rw [isInn, eq_false_of_ne_true h, eq_false_of_ne_true g, Bool.false_or, Bool.false_or]
        by_cases e : c = 95
        · subst e
          rfl
        · have : ¬ V.str (Sg c) = V.str "_" := fun z => by
            injection z with z
            have z2 : (Sg c).cps.toList = [95] := congrArg (fun s : Str => s.cps.toList) z
            injection z2 with z3
            exact e z3
          simp [e, this]] at q
      exact q
end
end T80
namespace T80
open PySem L2
open SX (S S_inj S_beq S_len split_S)
def kept : List (List Nat) := [[97, 110, 115, 119, 101, 114], [109, 97, 99, 104, 105, 110, 101], [119, 111, 114, 116, 104, 115], [112, 97, 99, 107], [109, 111, 100, 101, 108], [107, 110, 111, 98, 115], [110, 117, 109, 98, 101, 114], [116, 117, 114, 110], [115, 105, 103, 104, 116], [98, 97, 114], [98, 114, 97, 99, 107, 101, 116], [119, 111, 114, 100], [100, 111, 110, 101], [105, 110, 116], [100], [115, 116, 105, 108, 108]]
def vS (x : List Nat) : V := .str (S x)
def wordsOf (a : List Nat) : List (List Nat) := (TL.spl [32] 0 [] a).filter fun x => !decide (x = [])
def isName (z : List Nat) : Bool := !decide (z = []) && decide (z.length ≤ 16) && !(kept.any fun k => k == z) && isLet (z.headD 0) && z.all isInn
theorem vS_eq (a b : List Nat) : decide (vS a = .str (S b)) = decide (a = b) := by
  by_cases h : a = b
  · subst h
    simp [vS]
  · have : ¬ vS a = .str (S b) := fun z => by
      injection z with z
      exact h (S_inj z)
    simp [h, this]
theorem eqV_vS (a b : List Nat) : eqV (vS a) (vS b) = (a == b) := by
  show (S a == S b) = _
  exact S_beq a b
theorem inV_vS (z : List Nat) (ks : List (List Nat)) : inV (vS z) (ks.map vS) = ks.any fun k => k == z := by
  unfold inV
  rw [List.any_map]
  congr 1
  funext k
  exact eqV_vS k z
theorem flat_vS (ks : List (List Nat)) : (ks.map vS).all flatV = true := by
  rw [List.all_map, List.all_eq_true]
  intro _ _
  rfl
theorem same_at {D : Addr} {H H' : Hp} {o : HO} (h : Same H H') (hD : H D = none) : Same H (upd H' D o) := fun p o e => by rw [upd_ne (ne_of_none e hD)]; exact h p o e
theorem map_take_succ {α β : Type} {xs : List α} {i : Nat} {x : α} (h : xs[i]? = some x) (f : α → β) : (xs.take (i + 1)).map f = (xs.take i).map f ++ [f x] := by
  rw [List.take_add_one, h, List.map_append]
  rfl
theorem filter_take_succ {α : Type} {xs : List α} {i : Nat} {x : α} (h : xs[i]? = some x) (f : α → Bool) : (xs.take (i + 1)).filter f = (xs.take i).filter f ++ (if f x = true then [x] else []) := by
  rw [List.take_add_one, h, List.filter_append]
  congr 1
  show List.filter f [x] = _
  by_cases hf : f x = true <;> simp [hf]
abbrev s_words_of : Stmt := top 9
abbrev N_words_of : List Str := ["line", "word"]
theorem scWords : FnScope N_words_of ["line"] (defScope s_words_of) := ⟨rfl, rfl, rfl, by decide +kernel, rfl, by decide +kernel, by decide +kernel⟩
def spWords : Sp := fun vs H Q _ => ∃ a : List Nat, vs = [vS a] ∧ a.length ≤ 1000 ∧ ∀ (H' : Hp) (l : Addr), Same H H' → H l = none → H' l = some (.lst ((wordsOf a).map vS)) → Q (.ref l) H'
theorem spl_len (S : List Nat) : ∀ (k : Nat) (acc l : List Nat), (TL.spl S k acc l).length ≤ l.length + 1
  | k, acc, [] => by rw [TL.spl_nil]; simp
  | 0, acc, c :: r => by
    by_cases h : TL.pre S (c :: r) = true
    · rw [TL.spl_hit h, List.length_cons]
      have := spl_len S (S.length - 1) [] r
      simp; omega
    · rw [TL.spl_miss (eq_false_of_ne_true h)]
      have := spl_len S 0 (acc ++ [c]) r
      simp; omega
  | k + 1, acc, _ :: r => by
    have := spl_len S k acc r
    rw [TL.spl]
    simp; omega
section
variable {P : Program} {w : World} {K : PySem.W.Frag} {mg : Str → Option Value} {base : Heap}
theorem ok_words {f : Addr} {fd : FuncData} (F : Fun K "words_of" "words_of" s_words_of f fd) : FnOk P w K mg base CX0 1 f fd ["line"] spWords := by
  refine F.ok scWords (fun vs H Q E h => ?_) (fun cdv A outer s H vs Q E hr h => ?_)
  · obtain ⟨a, rfl, _⟩ := h
    rfl
  · obtain ⟨a, rfl, hl, q⟩ := h
    have nd := scWords.nd
    refine ⟨_, (pss_one (ps_ret (pe_lc (own := [("word", 1)]) (g := gName 1) (by rfl) nd (pi_list (pe_split (pv 0) pe_str)) (blkOk_by (own := [("word", 1)]) (N := N_words_of) (sc := defScope s_words_of) (by decide +kernel)) (fun _ _ _ _ _ => pg_name (i := 1) nd rfl (Or.inl rfl)) (fun _ _ _ _ _ => pts_one (pt_cmpR op_ne (pv 1) pe_str (nomark _))) (fun _ _ _ _ _ => (pv 1))))), ?_⟩
    refine ⟨_, rfl, ⟨_, rfl⟩, _, _, rfl, rfl, rfl, by rw [S_len]; exact Nat.le_trans (Nat.add_le_add_right hl 2) (by decide), fun p hp => ?_⟩
    have es : (Txt.split (S a) " ").map V.str = (TL.spl [32] 0 [] a).map vS := by
      rw [show Txt.split (S a) " " = (TL.spl [32] 0 [] a).map S from split_S (b := [32]) (by decide) (by decide), List.map_map]
      rfl
    rw [es]
    have hsz := spl_len [32] 0 [] a
    generalize hx : TL.spl [32] 0 [] a = xs at hsz
    have ew : wordsOf a = xs.filter fun x => !decide (x = []) := by rw [← hx]; rfl
    rw [ew] at q
    refine ⟨p, rfl, ⟨_, SqL.of upd_same⟩, fun D hD => ?_⟩
    have nDp : D ≠ p := fun z => by rw [z, upd_same] at hD; cases hD
    have hD0 : H D = none := by rw [upd_ne nDp] at hD; exact hD
    refine lc_list (K := K) (a := p) (xs := xs.map vS) (fun i H' => Same H H' ∧ H' p = some (.lst (xs.map vS)) ∧ H' D = some (.lst (((xs.take i).filter fun x => !decide (x = [])).map vS)))
      ⟨same_new (same_new (fun _ _ h => h) hp) hD, by rw [upd_ne nDp.symm, upd_same], upd_same⟩ (fun i H' _ ⟨_, h, _⟩ => SqL.of h) ?_ ?_
    · rintro i y H' hi ⟨h1, h2, h3⟩
      have hi' : i < xs.length := by
        have z := (List.getElem?_eq_some_iff.mp hi).1
        rw [List.length_map] at z
        exact z
      rw [List.getElem?_map] at hi
      obtain ⟨x, hx, rfl⟩ : ∃ x, xs[i]? = some x ∧ vS x = y := by
        cases e : xs[i]? with
        | none => rw [e] at hi; cases hi
        | some x => rw [e] at hi; exact ⟨x, rfl, Option.some.inj hi⟩
      refine ⟨rfl, _, rfl, rfl, _, rfl, ?_⟩
      have ed : (!decide (vS x = V.str "")) = !decide (x = []) := congrArg not (vS_eq x [])
      refine ite2 (fun h => ?_) (fun h => ?_)
      · refine ⟨_, rfl, _, h3, ?_, same_at h1 hD0, by rw [upd_ne nDp.symm]; exact h2, ?_⟩
        · have q := List.length_filter_le (fun x => !decide (x = [])) (xs.take i)
          rw [List.length_take] at q
          rw [List.length_map]
          exact Nat.lt_of_le_of_lt (show _ ≤ 1001 by omega) (by decide)
        · rw [upd_same, filter_take_succ hx, if_pos (ed.symm.trans h), List.map_append]
          rfl
      · refine ⟨h1, h2, ?_⟩
        rw [h3, filter_take_succ hx, if_neg (fun z => h (ed.trans z)), List.append_nil]
    · rintro H' ⟨h1, h2, h3⟩
      refine q _ _ h1 hD0 ?_
      rw [h3, List.length_map, List.take_length]
end
end T80
namespace T80
open PySem L2
open SX (S S_inj S_beq S_len split_S)
/-- a def of the text, by name, with what it promises -/
structure Cl (P : Program) (w : World) (K : PySem.W.Frag) (mg : Str → Option Value) (base : Heap) (CX : CXT) (x : Str) (k : Nat) (ps : List Str) (sp : Sp) : Prop where
  ex : ∃ (f : Addr) (fd : FuncData), mg x = some (.ref f) ∧ FnOk P w K mg base CX k f fd ps sp ∧ PySem.W.keepIn K (.ref f) = true ∧ Binds K fd ps []
theorem passF {X : Cx} {E : XK} : Passes CX0 X E := fun _ _ _ _ _ _ _ h => h.elim
section
variable {X : Cx} {CX : CXT} {x : Str} {k : Nat} {ps : List Str} {sp : Sp} {e : Expr} {es : List Expr} {t : TA} {p pos : Pos} {E : XK}
theorem pe_cl (c : Cl X.prog X.w X.K X.mg X.base CX x k ps sp) (hr : Room k X.A) (hg : Gl X x) (hx : Passes CX X E) (ha : PA X (e :: es) t) (hdb : (x == ("__debug__" : Str)) = false := by decide)
    (he : starEach (e :: es) X.env = (false, eval e X.env) :: starEach es X.env := by rfl) (hpl : (backTo pos (starEach es X.env)).any (·.1) = false := by rfl) : PE X (.Call (.Name x p) (e :: es) [] pos) (tCall sp [] E t) := by
  obtain ⟨f, fd, h1, h2, h3, h4⟩ := c.ex
  exact pe_call h2 hr hg h1 h3 h4 .nil hx ha hdb he hpl
theorem pe_clS {E : St → XK} (c : Cl X.prog X.w X.K X.mg X.base CX x k ps sp) (hr : Room k X.A) (hg : Gl X x) (hx : ∀ σ, PassesAt CX X σ (E σ)) (ha : PA X (e :: es) t) (hdb : (x == ("__debug__" : Str)) = false := by decide)
    (he : starEach (e :: es) X.env = (false, eval e X.env) :: starEach es X.env := by rfl) (hpl : (backTo pos (starEach es X.env)).any (·.1) = false := by rfl) : PE X (.Call (.Name x p) (e :: es) [] pos) (tCallS sp E t) := by
  obtain ⟨f, fd, h1, h2, h3, h4⟩ := c.ex
  exact pe_callS h2 hr hg h1 h3 h4 hx ha hdb he hpl
end
abbrev s_is_name : Stmt := top 13
abbrev N_is_name : List Str := ["value", "sign"]
theorem scName : FnScope N_is_name ["value"] (defScope s_is_name) := ⟨rfl, rfl, rfl, by decide +kernel, rfl, by decide +kernel, by decide +kernel⟩
def spName : Sp := fun vs H Q _ => ∃ a : List Nat, vs = [vS a] ∧ a.length ≤ 1000 ∧ ∀ H' : Hp, Same H H' → Q (.bl (isName a)) H'
structure TName (K : PySem.W.Frag) (mg : Str → Option Value) : Prop where
  len : mg "len" = none
  str : mg "str" = none
  all : mg "all" = none
  isinstance : mg "isinstance" = none
  lon : ∃ t, mg "LONGEST" = some (.int 16 t)
  kep : ∃ a, mg "KEPT_WORDS" = some (.ref a) ∧ ∀ H : Hp, SqT K H a (kept.map vS)
section
variable {P : Program} {w : World} {K : PySem.W.Frag} {mg : Str → Option Value} {base : Heap}
theorem ok_name {f : Addr} {fd : FuncData} (F : Fun K "is_name" "is_name" s_is_name f fd) (T : TName K mg) (c_is_letter : Cl P w K mg base CX0 "is_letter" 1 ["sign"] (spS isLet)) (c_is_inner : Cl P w K mg base CX0 "is_inner" 2 ["sign"] (spS isInn)) :
    FnOk P w K mg base CX0 3 f fd ["value"] spName := by
  obtain ⟨tl, g_LONGEST⟩ := T.lon
  obtain ⟨ak, g_KEPT_WORDS, hk⟩ := T.kep
  refine F.ok scName (fun vs H Q E h => ?_) (fun cdv A outer s H vs Q E hr h => ?_)
  · obtain ⟨a, rfl, _⟩ := h
    rfl
  · obtain ⟨a, rfl, hl, q⟩ := h
    have nd := scName.nd
    have hr1 : Room 1 _ := hr.mono (by decide)
    have hlz : (S a).length ≤ sizeLine := by rw [S_len]; exact Nat.le_trans hl (by decide)
    refine ⟨_, (pss_cons (ps_if (pt_not (pt_val (pe_callB call_isi (by rfl) T.isinstance (by decide +kernel) (pa_cons (pv 0) (pa_cons (pe_bltn (v := .ty "str") (u := .type "str") (by rfl) T.str (by decide +kernel) rfl) pa_nil)))))
      (pss_one (ps_ret pe_bl))
      pss_nil)
    (pss_cons (ps_if (PW.pt (pw_or (pt_cmpR op_eq (pe_callB call_len_str (by rfl) T.len (by decide +kernel) (pa_cons (pv 0) pa_nil)) pe_int (nomark _)) (pw_or (pt_cmpR op_gt (pe_callB call_len_str (by rfl) T.len (by decide +kernel) (pa_cons (pv 0) pa_nil)) (pe_glob (v := .int 16) rfl g_LONGEST ⟨_, rfl⟩) (nomark _)) (pw_or1 (pt_cmpR op_in_seq (pv 0) (pe_glob (v := .ref ak) rfl g_KEPT_WORDS rfl) (by rfl))))))
      (pss_one (ps_ret pe_bl))
      pss_nil)
    (pss_one (ps_ret (pe_and (pe_cl c_is_letter hr1 (by rfl) pass0 (pa_cons (pe_ix ix_str (pv 0) pe_int (fun _ _ => rfl)) pa_nil)) (pe_one (pe_callB (cr_all rfl) (by rfl) T.all (by decide +kernel) (pa_cons (pe_lc (own := [("sign", 1)]) (g := gName 1) (by rfl) nd (pi_str (pv 0)) (blkOk_by (own := [("sign", 1)]) (N := N_is_name) (sc := defScope s_is_name) (by decide +kernel)) (fun _ _ _ _ _ => pg_name (i := 1) nd rfl (Or.inl rfl)) (fun _ _ _ _ _ => pts_nil) (fun _ _ _ _ _ => (pe_cl c_is_inner hr (by rfl) pass0 (pa_cons (pv 1) pa_nil)))) pa_nil)))))))), ?_⟩
    refine seq_cut (fun σ' H' => start N_is_name [vS a] = σ' ∧ H = H') (fun n hn => ?_) (fun σ' H' ⟨e1, e2⟩ => ?_)
    · refine ⟨_, rfl, _, _, .type "str", _, true, rfl, .ty _, .base (.str _), kit_ty (by decide +kernel), _, rfl, ?_⟩
      exact iteF (hn _ _ ⟨rfl, rfl⟩)
    subst e1 e2
    have eany : inV (vS a) (kept.map vS) = kept.any fun k => k == a := inV_vS a kept
    refine seq_cut (fun σ' H' => start N_is_name [vS a] = σ' ∧ H = H' ∧ a ≠ [] ∧ a.length ≤ 16 ∧ (kept.any fun k => k == a) = false) (fun n hn => ?_) (fun σ' H' ⟨e1, e2, e3, e4, e5⟩ => ?_)
    · refine ⟨_, rfl, _, rfl, hlz, rfl, _, rfl, ite2 (fun h => ?_) (fun h => ?_)⟩
      · have e : isName a = false := by
          have z : ((S a).length : Int) = 0 := by simpa using h
          rw [S_len] at z
          have : a = [] := List.eq_nil_of_length_eq_zero (by omega)
          subst this
          rfl
        have q' := q H (fun _ _ h => h)
        rw [e] at q'
        exact iteT q'
      · have z : a ≠ [] := fun z => h (by subst z; rfl)
        refine ⟨_, rfl, _, rfl, hlz, _, _, rfl, rfl, _, rfl, ite2 (fun h => ?_) (fun h => ?_)⟩
        · have e : isName a = false := by
            have z : ¬ a.length ≤ 16 := by
              have : (16 : Int) < ((S a).length : Int) := by simpa using h
              rw [S_len] at this
              omega
            simp [isName, z]
          have q' := q H (fun _ _ h => h)
          rw [e] at q'
          exact iteT q'
        · have z2 : a.length ≤ 16 := by
            have : ¬ (16 : Int) < ((S a).length : Int) := by simpa using h
            rw [S_len] at this
            omega
          refine ⟨_, rfl, ak, _, rfl, .inr (hk H), rfl, flat_vS kept, _, rfl, ite2 (fun h => ?_) (fun h => ?_)⟩
          · have e : isName a = false := by
              have : (kept.any fun k => k == a) = true := by rw [← eany]; exact h
              simp only [isName, this, Bool.not_true, Bool.and_false, Bool.false_and]
            have q' := q H (fun _ _ h => h)
            rw [e] at q'
            exact q'
          · exact hn _ _ ⟨rfl, rfl, z, z2, by rw [← eany]; exact eq_false_of_ne_true h⟩
    subst e1 e2
    obtain ⟨c, r, rfl⟩ : ∃ c r, a = c :: r := by
      cases a with
      | nil => exact absurd rfl e3
      | cons c r => exact ⟨c, r, rfl⟩
    have en : isName (c :: r) = (isLet c && (c :: r).all isInn) := by
      rw [isName, e5, decide_eq_true e4, decide_eq_false e3]
      rfl
    refine ⟨_, rfl, _, _, c, rfl, rfl, hlz, (by exact atI_nat (j := 0) rfl), c, rfl, _, rfl, ite2 (fun h => ?_) (fun h => ?_)⟩
    · rw [en, h, Bool.true_and] at q
      refine ⟨_, rfl, _, rfl, fun D hD => ?_⟩
      generalize c :: r = a at hl q
      refine lc_it walk_str (fun i H' => Same H H' ∧ H' D = some (.lst (((a.take i).map isInn).map V.bl))) ⟨same_new (fun _ _ h => h) hD, upd_same⟩ (fun _ _ _ _ => trivial) ?_ ?_
      · rintro i x H1 H2 hi ⟨h1, h2⟩ ⟨rfl, y, hy, rfl⟩
        have hy' : a[i]? = some y := by rw [← hy]; simp
        refine ⟨rfl, ?_⟩
        rw [tYes, if_pos rfl]
        refine ⟨_, rfl, y, rfl, _, h2, ?_, same_at h1 hD, ?_⟩
        · rw [List.length_map, List.length_map, List.length_take]
          exact Nat.lt_of_le_of_lt (show _ ≤ 1000 by omega) (by decide)
        · rw [upd_same, map_take_succ hy', List.map_append]
          rfl
      · rintro H1 ⟨h1, h2⟩
        refine ⟨D, a.map isInn, rfl, SqL.of ?_, ?_⟩
        · rw [h2]
          simp
        · rw [show (a.map isInn).all id = a.all isInn by rw [List.all_map]; rfl]
          exact q H1 h1
    · rw [en, eq_false_of_ne_true h, Bool.false_and] at q
      exact q H fun _ _ h => h
end
end T80
namespace T80
open PySem L2
open SX (S S_inj S_beq S_len split_S)
/-! ### the two refusals -/
abbrev s_BadName : Stmt := inClass (top 2) 0
abbrev s_TooMany : Stmt := inClass (top 3) 0
theorem scBad : FnScope ["self", "why"] ["self", "why"] (defScope s_BadName) := ⟨rfl, rfl, rfl, by decide +kernel, rfl, by decide +kernel, by decide +kernel⟩
theorem scMany : FnScope ["self", "what", "most"] ["self", "what", "most"] (defScope s_TooMany) := ⟨rfl, rfl, rfl, by decide +kernel, rfl, by decide +kernel, by decide +kernel⟩
def spBad (C : Addr) : Sp := fun vs H Q _ => ∃ (a : Addr) (v : V), vs = [.ref a, v] ∧ H a = some (exo a C none) ∧ ∀ d, H d = none → d ≠ a → Q .non (upd (upd H d (exd d [("why", v)])) a (exo a C (some d)))
def spMany (C : Addr) : Sp := fun vs H Q _ => ∃ (a : Addr) (v u : V), vs = [.ref a, v, u] ∧ H a = some (exo a C none) ∧ ∀ d, H d = none → d ≠ a → Q .non (upd (upd (upd H d (exd d [("what", v)])) a (exo a C (some d))) d (exd d [("most", u), ("what", v)]))
structure Xc (P : Program) (w : World) (K : PySem.W.Frag) (mg : Str → Option Value) (base : Heap) (x : Str) (C : Addr) (ps : List Str) (sp : Sp) : Prop where
  mgC : mg x = some (.ref C)
  T : OexC K C
  ini : ∃ (fI : Addr) (fd : FuncData), PySem.W.findIn K (.ref C) "__init__" = some (some (.ref fI)) ∧ PySem.W.typeIn K (.ref fI) = some (.type "function") ∧ FnOk P w K mg base CX0 1 fI fd ps sp ∧ Binds K fd ps []
section
variable {P : Program} {w : World} {K : PySem.W.Frag} {mg : Str → Option Value} {base : Heap}
theorem ok_bad {f C : Addr} {fd : FuncData} (F : Fun K "__init__" "BadName.__init__" s_BadName f fd) (T : OexC K C) (h1 : PySem.W.findIn K (.ref C) "why" = some none) : FnOk P w K mg base CX0 1 f fd ["self", "why"] (spBad C) := by
  refine F.ok scBad (fun vs H Q E h => ?_) (fun cdv A outer s H vs Q E hr h => ?_)
  · obtain ⟨a, v, rfl, _⟩ := h
    rfl
  · obtain ⟨a, v, rfl, ha, q⟩ := h
    refine ⟨_, pss_one (ps_ost (pv 0) (pv 1)), ?_⟩
    exact ⟨_, rfl, _, rfl, a, C, rfl, T, h1, .inl ⟨ha, fun d hd nd => q d hd nd⟩⟩
theorem ok_many {f C : Addr} {fd : FuncData} (F : Fun K "__init__" "TooMany.__init__" s_TooMany f fd) (T : OexC K C) (h1 : PySem.W.findIn K (.ref C) "what" = some none) (h2 : PySem.W.findIn K (.ref C) "most" = some none) :
    FnOk P w K mg base CX0 1 f fd ["self", "what", "most"] (spMany C) := by
  refine F.ok scMany (fun vs H Q E h => ?_) (fun cdv A outer s H vs Q E hr h => ?_)
  · obtain ⟨a, v, u, rfl, _⟩ := h
    rfl
  · obtain ⟨a, v, u, rfl, ha, q⟩ := h
    refine ⟨_, pss_cons (ps_ost (pv 0) (pv 1)) (pss_one (ps_ost (pv 0) (pv 2))), ?_⟩
    refine ⟨_, rfl, _, rfl, a, C, rfl, T, h1, .inl ⟨ha, fun d hd nd => ?_⟩⟩
    exact ⟨_, rfl, _, rfl, a, C, rfl, T, h2, .inr ⟨d, _, upd_same, by rw [upd_ne nd, upd_same], (by show 1 ≤ 900; decide), q d hd nd⟩⟩
end
section
variable {X : Cx} {C : Addr} {x : Str} {ps : List Str} {sp : Sp} {e : Expr} {es : List Expr} {ta : TA} {p pos pos' : Pos} {W : WX}
theorem ps_raiseX (c : Xc X.prog X.w X.K X.mg X.base x C ps sp) (hr : Room 2 X.A) (hg : Gl X x) (tk : Takes X W) (ha : PA X (e :: es) ta) (hc : X.calm = true := by rfl)
    (hdb : (x == ("__debug__" : Str)) = false := by decide) (he : starEach (e :: es) X.env = (false, eval e X.env) :: starEach es X.env := by rfl) (hpl : (backTo pos (starEach es X.env)).any (·.1) = false := by rfl) :
    PS X (.Raise (some (.Call (.Name x p) (e :: es) [] pos)) none pos') (fun _ σ H => tMkO C sp [] ta σ H fun cls d H' => W cls d σ H') := by
  obtain ⟨fI, fd, h1, h2, h3, h4⟩ := c.ini
  exact ps_raise hc tk (pmk_oex c.T h1 h2 h3 hr h4 .nil passF hg c.mgC ha hdb he hpl)
end
theorem xd_same {H : Hp} {a d : Addr} {o1 o2 o3 o4 o5 : HO} (ha : H a = none) (hd : (upd H a o1) d = none) (nd : d ≠ a) : Same H (upd (del (upd (upd (upd H a o1) d o2) a o3) a) d o4) ∧ Same H (upd (del (upd (upd (upd (upd H a o1) d o2) a o3) d o5) a) d o4) := by
  have hd0 : H d = none := by rw [upd_ne nd] at hd; exact hd
  constructor <;> intro p o e
  · have n1 := ne_of_none e ha
    have n2 := ne_of_none e hd0
    rw [upd_ne n2, del_ne n1, upd_ne n1, upd_ne n2, upd_ne n1]
    exact e
  · have n1 := ne_of_none e ha
    have n2 := ne_of_none e hd0
    rw [upd_ne n2, del_ne n1, upd_ne n2, upd_ne n1, upd_ne n2, upd_ne n1]
    exact e
/-- what raising BadName(v) asks -/
theorem rd_bad {C : Addr} {v : V} {H : Hp} {Q : XK} (k : ∀ (H' : Hp) (d : Addr), Same H H' → H d = none → H' d = some (.xd [("why", v)]) → Q (.ref C) (some d) H') :
    ([v] : List V).length ≤ 1000 ∧ ∀ a, H a = none → spBad C (.ref a :: ([v] ++ [])) (upd H a (exo a C none)) (fun v H2 => v = .non ∧ ∃ (d : Addr) (fs : List (Str × V)), H2 a = some (exo a C (some d)) ∧ H2 d = some (exd d fs) ∧ H d = none ∧ Q (.ref C) (some d) (upd (del H2 a) d (.xd fs))) (fun _ _ _ => False) :=
  ⟨by show 1 ≤ 1000; decide, fun a ha => ⟨a, v, rfl, upd_same, fun d hd nd => ⟨rfl, d, _, upd_same, (upd_ne nd).trans upd_same, (upd_ne nd).symm.trans hd, k _ d (xd_same (o5 := .lst []) ha hd nd).1 ((upd_ne nd).symm.trans hd) upd_same⟩⟩⟩
theorem rd_many {C : Addr} {v u : V} {H : Hp} {Q : XK} (k : ∀ (H' : Hp) (d : Addr), Same H H' → H d = none → H' d = some (.xd [("most", u), ("what", v)]) → Q (.ref C) (some d) H') :
    ([v, u] : List V).length ≤ 1000 ∧ ∀ a, H a = none → spMany C (.ref a :: ([v, u] ++ [])) (upd H a (exo a C none)) (fun v H2 => v = .non ∧ ∃ (d : Addr) (fs : List (Str × V)), H2 a = some (exo a C (some d)) ∧ H2 d = some (exd d fs) ∧ H d = none ∧ Q (.ref C) (some d) (upd (del H2 a) d (.xd fs))) (fun _ _ _ => False) :=
  ⟨by show 2 ≤ 1000; decide, fun a ha => ⟨a, v, u, rfl, upd_same, fun d hd nd => ⟨rfl, d, _, (upd_ne nd.symm).trans upd_same, upd_same, (upd_ne nd).symm.trans hd, k _ d (xd_same ha hd nd).2 ((upd_ne nd).symm.trans hd) upd_same⟩⟩⟩
/-! ### name_list -/
abbrev s_name_list : Stmt := top 14
theorem scNL : FnScope ["value"] ["value"] (defScope s_name_list) := ⟨rfl, rfl, rfl, by decide +kernel, rfl, by decide +kernel, by decide +kernel⟩
/-- the names that are handed in as v -/
def Src (H : Hp) (v : V) (ns : List (List Nat)) : Prop := (∃ a, v = vS a ∧ a.length ≤ 1000 ∧ ns = wordsOf a) ∨ (∃ p, v = .ref p ∧ ns.length ≤ 1000 ∧ (∃ u : HO, (u = .lst (ns.map vS) ∨ u = .tup (ns.map vS)) ∧ (H p = some u ∨ ∃ o, H p = some (.frz o u))))
def spNL (C : Addr) : Sp := fun vs H Q E => ∃ v, vs = [v] ∧ ((∃ ns, Src H v ns ∧ ∀ (H' : Hp) (l : Addr), Same H H' → H l = none → H' l = some (.lst (ns.map vS)) → Q (.ref l) H') ∨
  ((v = .non ∨ ∃ i, v = .int i) ∧ ∀ (H' : Hp) (d : Addr) (x : Str), x ≠ "" → Same H H' → H d = none → H' d = some (.xd [("why", .str x)]) → E (.ref C) (some d) H'))
structure TNL (mg : Str → Option Value) : Prop where
  list : mg "list" = none
  tuple : mg "tuple" = none
  str : mg "str" = none
  isinstance : mg "isinstance" = none
section
variable {P : Program} {w : World} {K : PySem.W.Frag} {mg : Str → Option Value} {base : Heap}
theorem ok_nl {f C : Addr} {fd : FuncData} (F : Fun K "name_list" "name_list" s_name_list f fd) (T : TNL mg) (c_words_of : Cl P w K mg base CX0 "words_of" 1 ["line"] spWords) (x_BadName : Xc P w K mg base "BadName" C ["self", "why"] (spBad C)) :
    FnOk P w K mg base (L2.CX P w) 3 f fd ["value"] (spNL C) := by
  refine F.okX scNL (fun vs H Q E h => ?_) (fun cdv A outer s H vs Q E hr h => ?_)
  · obtain ⟨v, rfl, _⟩ := h
    rfl
  · obtain ⟨v, rfl, h⟩ := h
    have nd := scNL.nd
    have hr1 : Room 1 _ := hr.mono (by decide)
    have hrR : Room 2 _ := hr
    refine ⟨_, (pss_cons (ps_if (pt_val (pe_callB call_isi (by rfl) T.isinstance (by decide +kernel) (pa_cons (pv 0) (pa_cons (pe_bltn (v := .ty "str") (u := .type "str") (by rfl) T.str (by decide +kernel) rfl) pa_nil))))
      (pss_one (ps_ret (pe_cl c_words_of hr1 (by rfl) pass0 (pa_cons (pv 0) pa_nil))))
      pss_nil)
    (pss_cons (ps_if (pt_val (pe_callB call_isiT (by rfl) T.isinstance (by decide +kernel) (pa_cons (pv 0) (pa_cons (pe_tup (pa_cons (pe_bltn (v := .ty "list") (u := .type "list") (by rfl) T.list (by decide +kernel) rfl) (pa_cons (pe_bltn (v := .ty "tuple") (u := .type "tuple") (by rfl) T.tuple (by decide +kernel) rfl) pa_nil))) pa_nil))))
      (pss_one (ps_ret (pe_callTy call_list_of (by rfl) T.list (by decide +kernel) (pa_cons (pv 0) pa_nil))))
      pss_nil)
    (pss_one (ps_raiseX x_BadName hrR (by rfl) (takes_of rfl rfl rfl rfl) (pa_cons pe_str pa_nil))))), ?_⟩
    rcases h with ⟨ns, hs, q⟩ | ⟨hv, q⟩
    · rcases hs with ⟨a, rfl, ha, rfl⟩ | ⟨p, rfl, hz, hp⟩
      · refine ⟨_, rfl, _, _, .type "str", _, true, rfl, .ty _, .base (.str _), kit_ty (by decide +kernel), _, rfl, ?_⟩
        exact iteT ⟨_, rfl, a, rfl, ha, fun H' l h1 h2 h3 => q H' l h1 h2 h3⟩
      · have ty : ∃ b : String, (b = "list" ∨ b = "tuple") ∧ ∀ H' : Hp, Same H H' → TyX K H' (.ref p) (.type b) := by
          obtain ⟨u, rfl | rfl, hp | ⟨o, hp⟩⟩ := hp
          · exact ⟨"list", .inl rfl, fun H' h => .base (.lst (h _ _ hp))⟩
          · exact ⟨"list", .inl rfl, fun H' h => .base (.frz (h _ _ hp))⟩
          · exact ⟨"tuple", .inr rfl, fun H' h => .base (.tup (h _ _ hp))⟩
          · exact ⟨"tuple", .inr rfl, fun H' h => .fTuple (h _ _ hp)⟩
        have sq : ∀ H' : Hp, Same H H' → SqL K H' p (ns.map vS) ∨ SqT K H' p (ns.map vS) := fun H' h => by
          obtain ⟨u, rfl | rfl, hp | ⟨o, hp⟩⟩ := hp
          · exact .inl (.inl (.inl (h _ _ hp)))
          · exact .inl (.inl (.inr ⟨o, h _ _ hp⟩))
          · exact .inr (.inl (.inl (h _ _ hp)))
          · exact .inr (.inl (.inr ⟨o, h _ _ hp⟩))
        obtain ⟨b, hb, ty⟩ := ty
        have k1 : PySem.W.kitOne K (.type b) (.type "str") = some false := by rcases hb with rfl | rfl <;> exact kit_ty (by decide +kernel)
        have k2 : PySem.W.kitAny K (.type b) [.type "list", .type "tuple"] = some true := by
          rcases hb with rfl | rfl
          · exact kitAny_cons (b := true) (kit_ty (by decide +kernel)) (fun z => nomatch z) fun _ => rfl
          · exact kitAny_cons (b := false) (kit_ty (by decide +kernel)) (fun _ => kitAny_cons (b := true) (kit_ty (by decide +kernel)) (fun z => nomatch z) fun _ => rfl) (fun z => nomatch z)
        refine ⟨_, rfl, _, _, .type b, _, false, rfl, .ty _, ty H (fun _ _ h => h), k1, _, rfl, iteF ?_⟩
        refine ⟨_, rfl, by show 2 ≤ sizeLine; decide, fun tp htp => ?_⟩
        have sm : Same H (upd H tp (.tup [.ty "list", .ty "tuple"])) := same_new (fun _ _ h => h) htp
        refine ⟨_, tp, _, .type b, [.type "list", .type "tuple"], true, rfl, upd_same, .cons (.ty _) (.cons (.ty _) .nil), ty _ sm, k2, _, rfl, iteT ?_⟩
        refine ⟨_, rfl, p, ns.map vS, rfl, sq _ sm, fun l hl => q _ l (same_new sm hl) ?_ upd_same⟩
        rw [upd_ne] at hl
        · exact hl
        · intro z
          rw [z, upd_same] at hl
          cases hl
    · have ty : ∃ b : String, (b = "NoneType" ∨ b = "int") ∧ ∀ H' : Hp, TyX K H' v (.type b) := by
        rcases hv with rfl | ⟨i, rfl⟩
        · exact ⟨"NoneType", .inl rfl, fun H' => .base .non⟩
        · exact ⟨"int", .inr rfl, fun H' => .base (.int i)⟩
      obtain ⟨b, hb, ty⟩ := ty
      have k1 : PySem.W.kitOne K (.type b) (.type "str") = some false := by rcases hb with rfl | rfl <;> exact kit_ty (by decide +kernel)
      have k2 : PySem.W.kitAny K (.type b) [.type "list", .type "tuple"] = some false := by
        rcases hb with rfl | rfl <;> exact kitAny_cons (b := false) (kit_ty (by decide +kernel)) (fun _ => kitAny_cons (b := false) (kit_ty (by decide +kernel)) (fun _ => rfl) (fun z => nomatch z)) (fun z => nomatch z)
      refine ⟨_, rfl, _, _, .type b, _, false, rfl, .ty _, ty H, k1, _, rfl, iteF ?_⟩
      refine ⟨_, rfl, by show 2 ≤ sizeLine; decide, fun tp htp => ?_⟩
      have sm : Same H (upd H tp (.tup [.ty "list", .ty "tuple"])) := same_new (fun _ _ h => h) htp
      refine ⟨_, tp, _, .type b, [.type "list", .type "tuple"], false, rfl, upd_same, .cons (.ty _) (.cons (.ty _) .nil), ty _, k2, _, rfl, iteF ?_⟩
      refine rd_bad fun H' d h1 h2 h3 => q H' d _ (by decide +kernel) (fun p o e => h1 p o (sm p o e)) ?_ h3
      rw [upd_ne] at h2
      · exact h2
      · intro z
        rw [z, upd_same] at h2
        cases h2
end
end T80
namespace T80
open PySem L2
open SX (S S_inj S_beq S_len split_S)
def good (ns : List (List Nat)) : Bool := ns.all isName && decide ns.Nodup
def seen (ns : List (List Nat)) : List (Key × V) := ns.map fun x => (Sum.inr (S x), V.bl true)
theorem seen_val (x : List Nat) : ∀ ns : List (List Nat), (valV (seen ns) (Sum.inr (S x))).isSome = decide (x ∈ ns)
  | [] => rfl
  | y :: r => by
    by_cases h : y = x
    · subst h
      rw [seen, List.map_cons, valV_pos rfl]
      simp
    · have hn : ¬ ((Sum.inr (S y) : Key) = Sum.inr (S x)) := fun z => h (S_inj (Sum.inr.inj z))
      rw [seen, List.map_cons, valV_neg hn]
      have := seen_val x r
      rw [seen] at this
      rw [this]
      have h' : ¬ x = y := fun z => h z.symm
      simp [h']
theorem not_good_name {ns : List (List Nat)} {i : Nat} {x : List Nat} (hx : ns[i]? = some x) (h : isName x = false) : good ns = false := by
  have : ns.all isName = false := by
    rw [List.all_eq_false]
    exact ⟨x, List.mem_of_getElem? hx, by simp [h]⟩
  rw [good, this, Bool.false_and]
theorem take_nodup {ns : List (List Nat)} {i : Nat} {x : List Nat} (hx : ns[i]? = some x) : ns.Nodup → x ∉ ns.take i := by
  intro hn hm
  have h1 : (ns.take (i + 1)).Nodup := hn.sublist (List.take_sublist _ _)
  rw [List.take_add_one, hx] at h1
  exact (List.nodup_append.mp h1).2.2 x hm x (by simp) rfl
theorem not_good_dup {ns : List (List Nat)} {i : Nat} {x : List Nat} (hx : ns[i]? = some x) (h : x ∈ ns.take i) : good ns = false := by
  rw [good, decide_eq_false (fun z => take_nodup hx z h), Bool.and_false]
abbrev s_checked : Stmt := top 15
abbrev N_checked : List Str := ["value", "row", "known", "name"]
theorem scChk : FnScope N_checked ["value"] (defScope s_checked) := ⟨rfl, rfl, rfl, by decide +kernel, rfl, by decide +kernel, by decide +kernel⟩
def spChk (CB CM : Addr) : Sp := fun vs H Q E => ∃ v, vs = [v] ∧
  ((∃ ns, Src H v ns ∧ ns.length ≤ 1000 ∧ (∀ x ∈ ns, x.length ≤ 1000) ∧
      (good ns = true → ns.length ≤ 6 → ∀ (H' : Hp) (t : Addr), Same H H' → H t = none → H' t = some (.tup (ns.map vS)) → Q (.ref t) H') ∧
      (good ns = true → 6 < ns.length → ∀ (H' : Hp) (d : Addr), Same H H' → H d = none → H' d = some (.xd [("most", .int 6), ("what", .str "knobs")]) → E (.ref CM) (some d) H') ∧
      (good ns = false → ∀ (H' : Hp) (d : Addr) (x : Str), x ≠ "" → Same H H' → H d = none → H' d = some (.xd [("why", .str x)]) → E (.ref CB) (some d) H')) ∨
  ((v = .non ∨ ∃ i, v = .int i) ∧ ∀ (H' : Hp) (d : Addr) (x : Str), x ≠ "" → Same H H' → H d = none → H' d = some (.xd [("why", .str x)]) → E (.ref CB) (some d) H'))
structure TChk (K : PySem.W.Frag) (w : World) (mg : Str → Option Value) : Prop where
  len : mg "len" = none
  tuple : mg "tuple" = none
  most : ∃ am, mg "MOST" = some (.ref am) ∧ KDct K w am "knobs" (.int 6)
theorem sn {H H' : Hp} (h : Same H H') {a : Addr} (e : H' a = none) : H a = none := by
  cases q : H a with
  | none => rfl
  | some o => rw [h a o q] at e; cases e
section
variable {P : Program} {w : World} {K : PySem.W.Frag} {mg : Str → Option Value} {base : Heap}
theorem ok_chk {f CB CM : Addr} {fd : FuncData} (F : Fun K "checked_knobs" "checked_knobs" s_checked f fd) (T : TChk K w mg) (c_name_list : Cl P w K mg base (L2.CX P w) "name_list" 3 ["value"] (spNL CB)) (c_is_name : Cl P w K mg base CX0 "is_name" 3 ["value"] spName)
    (x_BadName : Xc P w K mg base "BadName" CB ["self", "why"] (spBad CB)) (x_TooMany : Xc P w K mg base "TooMany" CM ["self", "what", "most"] (spMany CM)) :
    FnOk P w K mg base (L2.CX P w) 4 f fd ["value"] (spChk CB CM) := by
  obtain ⟨am, g_MOST, hmost⟩ := T.most
  refine F.okX scChk (fun vs H Q E h => ?_) (fun cdv A outer s H vs Q E hr h => ?_)
  · obtain ⟨v, rfl, _⟩ := h
    rfl
  · obtain ⟨v, rfl, h⟩ := h
    have nd := scChk.nd
    have hu := hu_of hr
    have hrR : Room 2 _ := hr.mono (by decide)
    refine ⟨_, (pss_cons (ps_set (i := 1) nd rfl (Or.inl rfl) (pe_cl c_name_list (hr.mono (by decide)) (by rfl) (L2.passes_call (takes_of rfl rfl rfl rfl) (fun _ _ _ _ h => h)) (pa_cons (pv 0) pa_nil)))
    (pss_cons (ps_set (i := 2) nd rfl (Or.inl rfl) pe_dnewK)
    (pss_cons (ps_for PassesOwn.leaving rfl (pi_list (pv 1)) (pg_name (i := 3) nd rfl (Or.inl rfl))
      (pss_cons (ps_if (pt_not (pt_val (pe_cl c_is_name hr (by rfl) pass0 (pa_cons (pv 3) pa_nil))))
          (pss_one (ps_raiseX x_BadName hrR (by rfl) (takes_of rfl rfl rfl rfl) (pa_cons pe_str pa_nil)))
          pss_nil)
        (pss_cons (ps_if (pt_cmp (pc_din hu (pv 3) (pv 2)))
          (pss_one (ps_raiseX x_BadName hrR (by rfl) (takes_of rfl rfl rfl rfl) (pa_cons pe_str pa_nil)))
          pss_nil)
        (pss_one (ps_dput hu (pv 2) (pv 3) pe_bl rfl)))))
    (pss_cons (ps_if (pt_cmpR op_gt (pe_callB call_len_seq (by rfl) T.len (by decide +kernel) (pa_cons (pv 1) pa_nil)) (pe_ix ix_kdict (pe_glob (v := .ref am) rfl g_MOST rfl) pe_str (fun _ _ => rfl)) (nomark _))
      (pss_one (ps_raiseX x_TooMany hrR (by rfl) (takes_of rfl rfl rfl rfl) (pa_cons pe_str (pa_cons (pe_ix ix_kdict (pe_glob (v := .ref am) rfl g_MOST rfl) pe_str (fun _ _ => rfl)) pa_nil))))
      pss_nil)
    (pss_one (ps_ret (pe_callTy call_tuple_of (by rfl) T.tuple (by decide +kernel) (pa_cons (pv 1) pa_nil)))))))), ?_⟩
    rcases h with ⟨ns, hs, hlen, hlens, q1, q2, q3⟩ | ⟨hv, q⟩
    · refine ⟨_, rfl, _, rfl, .inl ⟨ns, hs, fun H1 l s1 l0 hl => ?_⟩⟩
      clear hs
      refine fun d hd => ?_
      have nld : l ≠ d := ne_of_none hl hd
      have d0 : H d = none := sn s1 hd
      refine ⟨_, rfl, l, rfl, ⟨_, SqL.of ((upd_ne nld).trans hl)⟩, for_it walk_list (fun i σ H' => ∃ x, σ = [some v, some (.ref l), some (.ref d), x] ∧ Same H H' ∧ H' l = some (.lst (ns.map vS)) ∧ H' d = some (.dK (seen (ns.take i))) ∧ (ns.take i).Nodup ∧ ∀ x ∈ ns.take i, isName x = true)
        ⟨none, rfl, same_new s1 hd, (upd_ne nld).trans hl, upd_same, List.nodup_nil, fun x hx => nomatch hx⟩ (fun i σ H' _ ⟨_, _, _, h, _⟩ => SqL.of h) ?_ ?_⟩
      · rintro i y σ H' H'' hi ⟨x0, rfl, s2, h2, h3, h4, h5⟩ ⟨rfl, hy⟩
        rw [List.length_map] at hi
        obtain ⟨x, hx, rfl⟩ : ∃ x, ns[i]? = some x ∧ vS x = y := by
          rw [List.getElem?_map] at hy
          cases e : ns[i]? with
          | none => rw [e] at hy; cases hy
          | some x => rw [e] at hy; exact ⟨x, rfl, Option.some.inj hy⟩
        refine ⟨_, rfl, x, rfl, hlens x (List.mem_of_getElem? hx), fun H2 s3 => ⟨_, rfl, ?_⟩⟩
        refine ite2 (fun h => ?_) (fun h => ?_)
        · refine rd_bad fun H' d h1 h2 h3 => q3 (not_good_name hx ?_) H' d _ (by decide +kernel) ((s2.trans s3).trans h1) (sn (s2.trans s3) h2) h3
          simpa using h
        · have hnx : isName x = true := by simpa using h
          refine ⟨_, rfl, _, rfl, d, _, rfl, DGet.k (k := Sum.inr (S x)) (s3 _ _ h3), _, rfl, ite2 (fun h => ?_) (fun h => ?_)⟩
          · rw [seen_val] at h
            exact rd_bad fun H' d h1 h2 h3 => q3 (not_good_dup hx (of_decide_eq_true h)) H' d _ (by decide +kernel) ((s2.trans s3).trans h1) (sn (s2.trans s3) h2) h3
          · have hnm : x ∉ ns.take i := by
              rw [seen_val] at h
              exact of_decide_eq_false (eq_false_of_ne_true h)
            have hv0 : valV (seen (ns.take i)) (Sum.inr (S x)) = none := by
              cases e : valV (seen (ns.take i)) (Sum.inr (S x)) with
              | none => rfl
              | some o => rw [e] at h; exact absurd rfl h
            refine ⟨_, rfl, _, rfl, d, _, rfl, DPut.k (k := Sum.inr (S x)) (s3 _ _ h3) ?_, ?_⟩
            · rw [seen, List.length_map, List.length_take]
              exact Nat.lt_of_le_of_lt (show _ ≤ 1000 by omega) (by decide)
            · refine ⟨_, rfl, same_at (s2.trans s3) d0, (upd_ne nld).trans (s3 _ _ h2), ?_, ?_, ?_⟩
              · rw [upd_same, putK_new _ hv0, seen, seen, map_take_succ hx]
              · rw [List.take_add_one, hx]
                exact List.nodup_append.mpr ⟨h4, by simp, fun a ha b hb => by
                  have : b = x := by simpa using hb
                  subst this
                  intro z
                  subst z
                  exact hnm ha⟩
              · intro z hz
                rw [List.take_add_one, hx] at hz
                rcases List.mem_append.mp hz with hz | hz
                · exact h5 z hz
                · have : z = x := by simpa using hz
                  rw [this]
                  exact hnx
      · rintro σ H' ⟨x0, rfl, s2, h2, h3, h4, h5⟩
        rw [List.length_map, List.take_length] at h4 h5
        have hg : good ns = true := by
          rw [good, List.all_eq_true.mpr h5, decide_eq_true h4]
          rfl
        refine ⟨_, rfl, l, _, rfl, .inl (SqL.of h2), am, _, _, rfl, rfl, hmost, _, _, rfl, rfl, _, rfl, ite2 (fun h => ?_) (fun h => ?_)⟩
        · have hlt : 6 < ns.length := by
            have : (6 : Int) < ((ns.map vS).length : Int) := by simpa using h
            rw [List.length_map] at this
            omega
          refine ⟨am, _, _, rfl, rfl, hmost, ?_⟩
          exact rd_many fun H' d h1 h2 h3 => q2 hg hlt H' d (s2.trans h1) (sn s2 h2) h3
        · have hle : ns.length ≤ 6 := by
            have : ¬ (6 : Int) < ((ns.map vS).length : Int) := by simpa using h
            rw [List.length_map] at this
            omega
          exact ⟨_, rfl, l, _, rfl, .inl ⟨SqL.of h2, fun t ht => q1 hg hle _ t (same_new s2 ht) (sn s2 ht) upd_same⟩⟩
    · exact ⟨_, rfl, _, rfl, .inr ⟨hv, q⟩⟩
end
end T80
namespace T80
open PySem L2 GK
open SX (S S_inj S_beq S_len split_S)
/-! ### within_depth -/
abbrev s_within : Stmt := top 18
theorem scWd : FnScope ["depth"] ["depth"] (defScope s_within) := ⟨rfl, rfl, rfl, by decide +kernel, rfl, by decide +kernel, by decide +kernel⟩
def spWd (CM : Addr) : Sp := fun vs H Q E => ∃ n : Int, vs = [.int n] ∧ (n ≤ 12 → Q .non H) ∧ (12 < n → ∀ (H' : Hp) (d : Addr), Same H H' → H d = none → H' d = some (.xd [("most", .int 12), ("what", .str "depth")]) → E (.ref CM) (some d) H')
section
variable {P : Program} {w : World} {K : PySem.W.Frag} {mg : Str → Option Value} {base : Heap}
theorem ok_wd {f CM : Addr} {fd : FuncData} (F : Fun K "within_depth" "within_depth" s_within f fd) {td : Tok} (g_DEEPEST : mg "DEEPEST" = some (.int 12 td)) (x_TooMany : Xc P w K mg base "TooMany" CM ["self", "what", "most"] (spMany CM)) :
    FnOk P w K mg base (L2.CX P w) 3 f fd ["depth"] (spWd CM) := by
  refine F.okX scWd (fun vs H Q E h => ?_) (fun cdv A outer s H vs Q E hr h => ?_)
  · obtain ⟨v, rfl, _⟩ := h
    rfl
  · obtain ⟨v, rfl, q1, q2⟩ := h
    have nd := scWd.nd
    have hrR : Room 2 _ := hr
    refine ⟨_, (pss_one (ps_if (pt_cmpR op_gt (pv 0) (pe_glob (v := .int 12) rfl g_DEEPEST ⟨_, rfl⟩) (nomark _))
      (pss_one (ps_raiseX x_TooMany hrR (by rfl) (takes_of rfl rfl rfl rfl) (pa_cons pe_str (pa_cons (pe_glob (v := .int 12) rfl g_DEEPEST ⟨_, rfl⟩) pa_nil))))
      pss_nil)), ?_⟩
    refine ⟨_, rfl, _, _, rfl, rfl, _, rfl, ite2 (fun h => ?_) (fun h => ?_)⟩
    · exact rd_many fun H' d h1 h2 h3 => q2 (by simpa using h) H' d h1 h2 h3
    · exact q1 (by have : ¬ (12 : Int) < v := by simpa using h
                   omega)
end
/-! ### the words of one length -/
def fillW : Nat → Nat → List Int → List Int
  | 0, _, w => w
  | k + 1, z, w => fillW k z (w ++ [w.getD (w.length - z) 0])
def trimW (m : Int) : Nat → List Int → List Int
  | 0, w => w
  | k + 1, w => if w.getLastD 0 = m - 1 then trimW m k w.dropLast else w
def runW (m : Int) (L : Nat) : Nat → List Int → Option (List (List Int))
  | 0, w => if w = [] then some [] else none
  | f + 1, w => if w = [] then some [] else
    let w1 := w.dropLast ++ [w.getLastD 0 + 1]
    let w2 := fillW (L - w1.length) w1.length w1
    (runW m L f (trimW m w2.length w2)).map fun r => (if w1.length = L then [w1] else []) ++ r
theorem fillW_len : ∀ (k z : Nat) (w : List Int), (fillW k z w).length = w.length + k
  | 0, _, w => rfl
  | k + 1, z, w => by
    rw [fillW, fillW_len, List.length_append, List.length_singleton]
    omega
theorem trimW_len (m : Int) : ∀ (k : Nat) (w : List Int), (trimW m k w).length ≤ w.length
  | 0, w => Nat.le_refl _
  | k + 1, w => by
    rw [trimW]
    split
    · exact Nat.le_trans (trimW_len m k _) (by rw [List.length_dropLast]; omega)
    · exact Nat.le_refl _
abbrev s_own_len : Stmt := top 19
abbrev N_own_len : List Str := ["many", "length", "word", "size"]
theorem scOL : GScope N_own_len ["many", "length"] (defScope s_own_len) := ⟨rfl, rfl, rfl, by decide +kernel, rfl, by decide +kernel, by decide +kernel⟩
def vI (x : Int) : V := .int x
def spOL : SpT := fun vs _ ra ws => ∃ (m : Int) (L : Nat), vs = [.int m, .int L] ∧ ra = [] ∧ ((m = 0 ∧ ws = []) ∨ (m ≠ 0 ∧ 1 ≤ L ∧ L ≤ 12 ∧ ∃ f us, runW m L f [-1] = some us ∧ ws = us.map fun u => u.map vI))
structure TOL (mg : Str → Option Value) : Prop where
  len : mg "len" = none
  tuple : mg "tuple" = none
theorem jcut {t u : TGj} {D : GD} {kd : List (Addr × Obj × HO)} {ws : List (List V)} {σ : L2.St} {H : Hp} (I : GQ) (h1 : ∀ n : GQ, (∀ kd ws σ H, I kd ws σ H → n kd ws σ H) → t { D with nx := n } kd ws σ H) (h2 : ∀ kd ws σ H, I kd ws σ H → u D kd ws σ H) : tJThen t u D kd ws σ H := h1 _ h2
theorem atI_last' {xs : List V} {v : V} (h : xs ≠ []) (e : xs.getLast? = some v) : atI xs (-1) = some v := by
  obtain ⟨ys, y, rfl⟩ : ∃ ys y, xs = ys ++ [y] := ⟨xs.dropLast, xs.getLast h, (List.dropLast_concat_getLast h).symm⟩
  rw [List.getLast?_concat] at e
  cases e
  exact atI_last ys _
theorem getLast_map {w : List Int} (h : w ≠ []) : (w.map V.int).getLast? = some (.int (w.getLastD 0)) := by
  rw [List.getLast?_map]
  cases w with
  | nil => exact absurd rfl h
  | cons a r => simp [List.getLast?_eq_some_getLast, List.getLastD_eq_getLast?]
theorem ixN_last {n : Nat} (h : 0 < n) : ixN n (-1) = some (n - 1) := by
  unfold ixN
  rw [if_neg (by omega), if_pos (by omega)]
  congr 1
  omega
theorem set_last {w : List Int} (h : w ≠ []) (x : Int) : (w.map V.int).set ((w.map V.int).length - 1) (.int x) = (w.dropLast ++ [x]).map V.int := by
  obtain ⟨ys, y, rfl⟩ : ∃ ys y, w = ys ++ [y] := ⟨w.dropLast, w.getLast h, (List.dropLast_concat_getLast h).symm⟩
  rw [List.dropLast_concat, List.map_append, List.map_append]
  simp
theorem atI_back {w : List Int} {z : Nat} (h0 : 0 < z) (h : z ≤ w.length) : atI (w.map V.int) (-(z : Int)) = some (.int (w.getD (w.length - z) 0)) := by
  unfold atI ixN
  rw [List.length_map, if_neg (by omega), if_pos (by omega)]
  have hj : (-(z : Int) + (w.length : Nat)).toNat = w.length - z := by omega
  have hlt : w.length - z < w.length := by omega
  rw [hj]
  simp [List.getElem?_map, List.getD_eq_getElem?_getD, List.getElem?_eq_getElem hlt]
section
variable {P : Program} {w : World} {K : PySem.W.Frag} {mg : Str → Option Value} {base : Heap}
theorem ok_ol {f : Addr} {fd : FuncData} (F : Fun K "own_words_of_length" "own_words_of_length" s_own_len f fd) (T : TOL mg) : GDef P w K mg base 1 f fd ["many", "length"] true spOL := by
  obtain ⟨oc, od, kV, doc, pm, an, cdv, ct, osl, rfl, lk, hcd⟩ := F.ex
  refine gdef_of lk hcd scOL (fun vs H ra ws h => ?_) (fun L => ?_) (fun G H vs ra ws O e1 e2 e3 e4 e5 e6 e7 e8 hr h => ?_)
  · obtain ⟨m, L, rfl, _⟩ := h
    rfl
  · exact ⟨rfl, fun p hp => by cases hp⟩
  · obtain ⟨gP, gw, gK, gmg, gbase, gN, genv, gouter, gn0, gAb, gg, gos⟩ := G
    change gP = P at e1
    change gw = w at e2
    change gK = K at e3
    change gmg = mg at e4
    change gbase = base at e5
    change gN = N_own_len at e6
    change genv = PyProof.Rows.envOfC "own_words_of_length" (defScope s_own_len) gn0 f cdv at e7
    subst e1 e2 e3 e4 e5 e6 e7
    have nd := scOL.nd
    obtain ⟨m, L, rfl, rfl, hh⟩ := h
    refine ⟨_, gj_cons (gj_if (fun wk => pt_cmpR op_eq (pv 0) pe_int (nomark _)) (gj_one (gj_ps fun wk => ps_retN)) gj_nil)
      (gj_cons (gj_ps fun wk => ps_set (i := 2) nd rfl (Or.inl rfl) (pe_lstN (n := gn0) O.above (pa_cons (pe_un un_neg pe_int) pa_nil)))
      (gj_one (gj_while (fun wk => pt_truth (pv 2) (by intro _; rfl))
        (gj_cons (gj_ps fun wk => ps_asg (pe_op op_add (pe_ix ix_list (pv 2) (pe_un un_neg pe_int) (fun _ _ => rfl)) pe_int) (pg_sub (pv 2) (pe_un un_neg pe_int) set_list))
        (gj_cons (gj_ps fun wk => ps_set (i := 3) nd rfl (Or.inl rfl) (pe_callB call_len_seq (by rfl) T.len PySem.boot_len (pa_cons (pv 2) pa_nil)))
        (gj_cons (gj_if (fun wk => pt_cmpR op_eq (pv 3) (pv 1) (nomark _)) (gj_one (gj_yield O (fun _ => rfl) (fun wk => pe_callTy call_tuple_of (by rfl) T.tuple (by decide +kernel) (pa_cons (pv 2) pa_nil)))) gj_nil)
        (gj_cons (gj_ps fun wk => ps_while PassesOwn.never (pt_cmpR op_lt (pe_callB call_len_seq (by rfl) T.len PySem.boot_len (pa_cons (pv 2) pa_nil)) (pv 1) (nomark _))
          (pss_one (ps_expr (pe_bm PySem.F.plainAttrs_list PySem.F.slot_list_append PySem.F.type_list_append mt_append (pv 2) (pa_cons (pe_ix ix_list (pv 2) (pe_un un_neg (pv 3)) (fun _ _ => rfl)) pa_nil)))))
        (gj_one (gj_ps fun wk => ps_while PassesOwn.never (PW.pt (pw_and (pt_truth (pv 2) (by intro _; rfl)) (pw_and1 (pt_cmpR op_eq (pe_ix ix_list (pv 2) (pe_un un_neg pe_int) (fun _ _ => rfl)) (pe_op op_sub (pv 0) pe_int) (nomark _)))))
          (pss_one (ps_expr (pe_bm0 PySem.F.plainAttrs_list PySem.F.slot_list_pop PySem.F.type_list_pop mt_pop (pv 2))))))))))))), fun H' _ => ?_⟩
    have hoi := scOL
    refine jcut (fun kd ws' σ H2 => m ≠ 0 ∧ ws' = ws ∧ σ = L2.start N_own_len [.int m, .int L]) (fun n hn => ?_) (fun kd ws' σ H2 ⟨hm, eW, eσ⟩ => ?_)
    · intro wk
      refine ⟨_, rfl, rfl, _, rfl, ite2 (fun h => ?_) (fun h => ?_)⟩
      · have hm : m = 0 := by
          have : V.int m = V.int 0 := of_decide_eq_true h
          injection this
        intro wk
        refine ⟨rfl, ?_⟩
        rcases hh with ⟨_, e⟩ | ⟨h0, _⟩
        · exact e
        · exact absurd hm h0
      · exact hn _ _ _ _ ⟨fun z => h (by rw [z]; rfl), rfl, rfl⟩
    subst eW eσ
    obtain ⟨hL1, hL2, f0, us, hrun, rfl⟩ : 1 ≤ L ∧ L ≤ 12 ∧ ∃ f us, runW m L f [-1] = some us ∧ ws' = us.map fun u => u.map vI := by
      rcases hh with ⟨e, _⟩ | ⟨_, h⟩
      · exact absurd e hm
      · exact h
    let J : Nat → GQ := fun f kd ws' σ H2 => ∃ (wd : List Int) (p : Addr) (us : List (List Int)) (sz : Option V), σ = [some (.int m), some (.int L), some (.ref p), sz] ∧ H2 p = some (.lst (wd.map V.int)) ∧ gn0 ≤ p ∧ wd.length ≤ L ∧ runW m L f wd = some us ∧ ws' = us.map fun u => u.map vI
    refine jcut (J f0) (fun n hn => ?_) (fun kd ws' σ H2 hj => ?_)
    · intro wk
      exact ⟨_, rfl, by show 1 ≤ sizeLine; decide, fun p hp hn0 => hn _ _ _ _ ⟨[-1], p, us, none, rfl, upd_same, hn0, hL1, hrun, rfl⟩⟩
    refine ⟨J, ⟨f0, hj⟩, ?_⟩
    rintro f kd ws' σ H2 ⟨wd, p, us, sz, rfl, hp, hn0, hlen, hrun, rfl⟩ wk
    refine ⟨_, rfl, !(wd.map V.int).isEmpty, .inl ⟨_, SqL.of hp, rfl⟩, ?_⟩
    cases hwd : (wd.map V.int).isEmpty with
    | true =>
      have hw0 : wd = [] := by simpa using hwd
      subst hw0
      have hus : us = [] := by
        cases f with
        | zero => exact (Option.some.inj hrun).symm
        | succ f => exact (Option.some.inj hrun).symm
      subst hus
      exact iteF rfl
    | false =>
      have hw0 : wd ≠ [] := by
        intro z
        subst z
        cases hwd
      obtain ⟨f, rfl⟩ : ∃ f', f = f' + 1 := by
        cases f with
        | zero =>
          rw [runW, if_neg hw0] at hrun
          cases hrun
        | succ f => exact ⟨f, rfl⟩
      rw [runW, if_neg hw0] at hrun
      refine iteT ⟨J f, fun _ _ _ _ h => ⟨f, Nat.lt_succ_self f, h⟩, ?_⟩
      -- word[-1] = word[-1] + 1
      generalize e1 : wd.dropLast ++ [wd.getLastD 0 + 1] = w1 at hrun
      have l1 : w1.length = wd.length := by
        rw [← e1, List.length_append, List.length_dropLast, List.length_singleton]
        have := List.length_pos_iff.mpr hw0
        omega
      have p1 : 0 < w1.length := by rw [l1]; exact List.length_pos_iff.mpr hw0
      refine jcut (fun kd' ws' σ H' => ws' = us.map (fun u => u.map vI) ∧ σ = [some (.int m), some (.int L), some (.ref p), sz] ∧ H' p = some (.lst (w1.map V.int))) (fun n hn => ?_) (fun kd' ws' σ H' ⟨eW, eσ, hp1⟩ => ?_)
      · intro wk
        refine ⟨_, rfl, _, rfl, _, _, _, _, rfl, rfl, SqL.of hp, atI_last' (by simpa using hw0) (getLast_map hw0), _, _, rfl, rfl, _, rfl, _, rfl, _, _, _, _, rfl, rfl, hp, ixN_last (by rw [List.length_map]; exact List.length_pos_iff.mpr hw0), ?_⟩
        refine hn _ _ _ _ ⟨rfl, rfl, ?_⟩
        rw [upd_same, set_last hw0, e1]
      subst eW eσ
      refine jcut (fun kd' ws' σ H' => ws' = us.map (fun u => u.map vI) ∧ σ = [some (.int m), some (.int L), some (.ref p), some (.int (w1.length : Nat))] ∧ H' p = some (.lst (w1.map V.int))) (fun n hn => ?_) (fun kd' ws' σ H' ⟨eW, eσ, hp1⟩ => ?_)
      · intro wk
        refine ⟨_, rfl, p, _, rfl, .inl (SqL.of hp1), ?_⟩
        refine hn _ _ _ _ ⟨rfl, ?_, hp1⟩
        rw [List.length_map]
        rfl
      subst eW eσ
      have hrun' := hrun
      simp only at hrun'
      obtain ⟨us2, hr2, hus⟩ : ∃ us2, runW m L f (trimW m (fillW (L - w1.length) w1.length w1).length (fillW (L - w1.length) w1.length w1)) = some us2 ∧ us = (if w1.length = L then [w1] else []) ++ us2 := by
        cases e : runW m L f (trimW m (fillW (L - w1.length) w1.length w1).length (fillW (L - w1.length) w1.length w1)) with
        | none => rw [e] at hrun'; cases hrun'
        | some us2 => rw [e] at hrun'; exact ⟨us2, rfl, (Option.some.inj hrun').symm⟩
      refine jcut (fun kd' ws' σ H' => ws' = us2.map (fun u => u.map vI) ∧ σ = [some (.int m), some (.int L), some (.ref p), some (.int (w1.length : Nat))] ∧ H' p = some (.lst (w1.map V.int))) (fun n hn => ?_) (fun kd' ws' σ H' ⟨eW, eσ, hp1⟩ => ?_)
      · intro wk
        refine ⟨_, rfl, _, rfl, rfl, _, rfl, ite2 (fun h => ?_) (fun h => ?_)⟩
        · have hLL : w1.length = L := by
            have : V.int (w1.length : Nat) = V.int (L : Nat) := of_decide_eq_true h
            injection this with this
            omega
          intro wk
          refine ⟨_, rfl, p, _, rfl, .inl ⟨SqL.of hp1, fun t ht => ?_⟩⟩
          have npt : p ≠ t := ne_of_none hp1 ht
          refine ⟨t, _, us2.map (fun u => u.map vI), [(p, HO.lst (w1.map V.int))], [], rfl, upd_same, ?_, fun q hq => ?_, fun q hq => absurd hq List.not_mem_nil, fun _ => rfl, fun kd' H2 h1 _ => ?_⟩
          · rw [hus, if_pos hLL]
            rfl
          · have : q = (p, HO.lst (w1.map V.int)) := by simpa using hq
            subst this
            exact ⟨(upd_ne npt).trans hp1, hn0, _, rfl⟩
          · exact hn _ _ _ _ ⟨rfl, rfl, h1 (p, HO.lst (w1.map V.int)) List.mem_cons_self⟩
        · have hLL : ¬ w1.length = L := fun z => h (by rw [z]; exact decide_eq_true rfl)
          refine hn _ _ _ _ ⟨?_, rfl, hp1⟩
          rw [hus, if_neg hLL]
          rfl
      subst eW eσ
      generalize e2 : fillW (L - w1.length) w1.length w1 = w2 at hr2
      have l2 : w2.length = L := by rw [← e2, fillW_len]; omega
      refine jcut (fun kd' ws' σ H' => ws' = us2.map (fun u => u.map vI) ∧ σ = [some (.int m), some (.int L), some (.ref p), some (.int (w1.length : Nat))] ∧ H' p = some (.lst (w2.map V.int))) (fun n hn => ?_) (fun kd' ws' σ H' ⟨eW, eσ, hp1⟩ => ?_)
      · intro wk
        refine ⟨fun k σ H' => σ = [some (.int m), some (.int L), some (.ref p), some (.int (w1.length : Nat))] ∧ ∃ v : List Int, H' p = some (.lst (v.map V.int)) ∧ w1.length ≤ v.length ∧ v.length + k = L ∧ fillW k w1.length v = w2, ⟨L - w1.length, rfl, w1, hp1, Nat.le_refl _, by omega, e2⟩, ?_⟩
        rintro k σ H' ⟨rfl, v, hv, h1, h2, h3⟩
        refine ⟨_, rfl, p, _, rfl, .inl (SqL.of hv), _, rfl, _, _, rfl, rfl, _, rfl, ?_⟩
        rw [List.length_map]
        cases k with
        | zero =>
          rw [decide_eq_false (by omega)]
          refine iteF (hn _ _ _ _ ⟨rfl, rfl, ?_⟩)
          rw [show v = w2 from h3] at hv
          exact hv
        | succ k =>
          rw [decide_eq_true (by omega)]
          refine iteT ⟨_, fun σ' H2 h => ⟨k, Nat.lt_succ_self k, h⟩, ?_⟩
          refine ⟨_, rfl, .inl ⟨rfl, _, SqL.of hv⟩, _, rfl, _, rfl, _, rfl, _, _, _, _, rfl, rfl, SqL.of hv, atI_back p1 h1, p, _, _, rfl, rfl, hv, ?_, ?_⟩
          · rw [List.length_map]
            exact Nat.lt_of_le_of_lt (show _ ≤ 12 by omega) (by decide)
          · refine ⟨rfl, v ++ [v.getD (v.length - w1.length) 0], ?_, ?_, ?_, h3⟩
            · rw [upd_same, List.map_append]
              rfl
            · rw [List.length_append]
              omega
            · rw [List.length_append, List.length_singleton]
              omega
      subst eW eσ
      -- the end is cut off
      intro wk
      refine ⟨fun k σ H' => σ = [some (.int m), some (.int L), some (.ref p), some (.int (w1.length : Nat))] ∧ ∃ v : List Int, H' p = some (.lst (v.map V.int)) ∧ v.length = k ∧ v.length ≤ L ∧ runW m L f (trimW m k v) = some us2, ⟨w2.length, rfl, w2, hp1, rfl, by omega, hr2⟩, ?_⟩
      rintro k σ H' ⟨rfl, v, hv, h1, h2, h3⟩
      refine ⟨_, rfl, !(v.map V.int).isEmpty, .inl ⟨_, SqL.of hv, rfl⟩, ?_⟩
      have out : trimW m k v = v → J f kd' (us2.map fun u => u.map vI) [some (.int m), some (.int L), some (.ref p), some (.int (w1.length : Nat))] H' := fun e => ⟨v, p, us2, _, rfl, hv, hn0, h2, by rw [← e]; exact h3, rfl⟩
      cases k with
      | zero =>
        have hv0 : v = [] := List.eq_nil_of_length_eq_zero h1
        subst hv0
        exact iteF (iteF (out rfl))
      | succ k =>
        have hv0 : v ≠ [] := fun z => by subst z; cases h1
        rw [show (!(v.map V.int).isEmpty) = true by cases v with | nil => exact absurd rfl hv0 | cons _ _ => rfl]
        refine iteT ⟨_, rfl, _, rfl, _, _, _, _, rfl, rfl, SqL.of hv, atI_last' (by simpa using hv0) (getLast_map hv0), _, rfl, _, _, rfl, rfl, rfl, _, rfl, ite2 (fun h => ?_) (fun h => ?_)⟩
        · have hl : v.getLastD 0 = m - 1 := by
            have : V.int (v.getLastD 0) = V.int (m - 1) := of_decide_eq_true h
            injection this
          refine ⟨_, fun σ' H2 h => ⟨k, Nat.lt_succ_self k, h⟩, ?_⟩
          refine ⟨_, rfl, .inl ⟨rfl, _, SqL.of hv⟩, p, _, .int (v.getLastD 0), rfl, rfl, hv, ?_, ?_⟩
          · rw [← List.getLast?_eq_getElem?]
            exact getLast_map hv0
          · refine ⟨rfl, v.dropLast, ?_, ?_, ?_, ?_⟩
            · rw [upd_same, List.map_dropLast]
            · rw [List.length_dropLast, h1]; rfl
            · rw [List.length_dropLast]; omega
            · rw [trimW, if_pos hl] at h3
              exact h3
        · refine out ?_
          rw [trimW, if_neg fun z => h (by rw [z]; exact decide_eq_true rfl)]
end
end T80
namespace T80
open PySem L2 GK
open SX (S S_inj S_beq S_len split_S)
abbrev s_own : Stmt := top 21
abbrev N_own : List Str := ["knobs", "depth", "names", "length", "word", "place"]
theorem scOw : GScope N_own ["knobs", "depth"] (defScope s_own) := ⟨rfl, rfl, rfl, by decide +kernel, rfl, by decide +kernel, by decide +kernel⟩
/-- a word of places, by names -/
def nm (ns : List (List Nat)) (u : List Int) : List V := u.map fun x => vS (ns.getD x.toNat [])
def rest (ns : List (List Nat)) (tab : Nat → List (List Int)) (depth i : Nat) : List (List V) := (List.range' i (depth - i)).flatMap fun j => (tab (j + 1)).map (nm ns)
def SrcR (v : V) (ns : List (List Nat)) (ra : List (Addr × HO)) : Prop := (∃ a, v = vS a ∧ a.length ≤ 1000 ∧ ns = wordsOf a ∧ ra = []) ∨ ∃ (p : Addr) (u : HO), v = .ref p ∧ (u = .lst (ns.map vS) ∨ u = .tup (ns.map vS)) ∧ ra = [(p, u)]
def TabOk (m : Nat) (tab : Nat → List (List Int)) (depth : Nat) : Prop := ∀ L, 1 ≤ L → L ≤ depth → (m = 0 ∧ tab L = []) ∨ (m ≠ 0 ∧ (∃ f, runW m L f [-1] = some (tab L)) ∧ ∀ u ∈ tab L, ∀ x ∈ u, (0 : Int) ≤ x ∧ x < m)
def spOw : SpT := fun vs _ ra ws => ∃ (v : V) (depth : Nat) (ns : List (List Nat)) (tab : Nat → List (List Int)), vs = [v, .int depth] ∧ depth ≤ 12 ∧ good ns = true ∧ ns.length ≤ 6 ∧ SrcR v ns ra ∧ TabOk ns.length tab depth ∧ (∀ L, ∀ u ∈ tab L, u.length ≤ 100) ∧ ws = rest ns tab depth 0
structure TOw (mg : Str → Option Value) : Prop where
  len : mg "len" = none
  tuple : mg "tuple" = none
  range : mg "range" = none
theorem good_len {ns : List (List Nat)} (h : good ns = true) : ∀ x ∈ ns, x.length ≤ 1000 := fun x hx => by
  have h1 := (Bool.and_eq_true_iff.mp h).1
  have h2 := List.all_eq_true.mp h1 x hx
  simp only [isName, Bool.and_eq_true, decide_eq_true_eq] at h2
  exact Nat.le_trans h2.1.1.1.2 (by decide)
/-- the tuple of the names, as it stands: tracked, or locked and kept -/
def NT (t : Addr) (xs : List V) (kd : List (Addr × Obj × HO)) (H : Hp) : Prop := H t = some (.tup xs) ∨ ∃ o, (t, o, HO.tup xs) ∈ kd ∧ H t = some (.frz o (.tup xs))
theorem NT.sq {K : PySem.W.Frag} {t : Addr} {xs : List V} {kd : List (Addr × Obj × HO)} {H : Hp} (h : NT t xs kd H) : SqT K H t xs := by
  rcases h with h | ⟨o, _, h⟩
  · exact .inl (.inl h)
  · exact .inl (.inr ⟨o, h⟩)
theorem NT.mono {t : Addr} {xs : List V} {kd : List (Addr × Obj × HO)} {H H' : Hp} (h : NT t xs kd H) (s : Same H H') : NT t xs kd H' := by
  rcases h with h | ⟨o, k, h⟩
  · exact .inl (s _ _ h)
  · exact .inr ⟨o, k, s _ _ h⟩
theorem NT.some {t : Addr} {xs : List V} {kd : List (Addr × Obj × HO)} {H : Hp} (h : NT t xs kd H) : ∃ o, H t = some o := by
  rcases h with h | ⟨o, _, h⟩
  · exact ⟨_, h⟩
  · exact ⟨_, h⟩
theorem rest_end (ns : List (List Nat)) (tab : Nat → List (List Int)) (d : Nat) : rest ns tab d d = [] := by
  rw [rest, Nat.sub_self]
  rfl
theorem rest_step {ns : List (List Nat)} {tab : Nat → List (List Int)} {d i : Nat} (h : i < d) : rest ns tab d i = (tab (i + 1)).map (nm ns) ++ rest ns tab d (i + 1) := by
  rw [rest, show d - i = (d - (i + 1)) + 1 by omega, List.range'_succ, List.flatMap_cons]
  rfl
/-- the generator def, as it is called -/
structure GCl (P : Program) (w : World) (K : PySem.W.Frag) (mg : Str → Option Value) (base : Heap) (x : Str) (k : Nat) (ps : List Str) (cs : Bool) (sp : SpT) : Prop where
  ex : ∃ (f : Addr) (fd : FuncData), mg x = some (.ref f) ∧ GDef P w K mg base k f fd ps cs sp ∧ PySem.W.keepIn K (.ref f) = true ∧ Binds K fd ps []
section
variable {X : Cx} {x : Str} {k : Nat} {ps : List Str} {cs : Bool} {sp : SpT} {e : Expr} {es : List Expr} {t : TA} {p pos : Pos}
theorem pgn_cl (c : GCl X.prog X.w X.K X.mg X.base x k ps cs sp) (hr : Room k X.A) (hg : Gl X x) (ha : PA X (e :: es) t) (hdb : (x == ("__debug__" : Str)) = false := by decide)
    (he : starEach (e :: es) X.env = (false, eval e X.env) :: starEach es X.env := by rfl) (hpl : (backTo pos (starEach es X.env)).any (·.1) = false := by rfl) : PGn X k (.Call (.Name x p) (e :: es) [] pos) cs (tCallN sp t) := by
  obtain ⟨f, fd, h1, h2, h3, h4⟩ := c.ex
  exact pgn_call h2 hr hg h1 h3 h4 ha hdb he hpl
end
section
variable {P : Program} {w : World} {K : PySem.W.Frag} {mg : Str → Option Value} {base : Heap}
theorem ok_ow {f CB CM : Addr} {fd : FuncData} (F : Fun K "own_words" "own_words" s_own f fd) (T : TOw mg) (c_chk : Cl P w K mg base (L2.CX P w) "checked_knobs" 4 ["value"] (spChk CB CM)) (c_wd : Cl P w K mg base (L2.CX P w) "within_depth" 3 ["depth"] (spWd CM))
    (c_ol : GCl P w K mg base "own_words_of_length" 1 ["many", "length"] true spOL) : GDef P w K mg base 5 f fd ["knobs", "depth"] false spOw := by
  obtain ⟨oc, od, kV, doc, pm, an, cdv, ct, osl, rfl, lk, hcd⟩ := F.ex
  refine gdef_of lk hcd scOw (fun vs H ra ws h => ?_) (fun L => ?_) (fun G H vs ra ws O e1 e2 e3 e4 e5 e6 e7 e8 hr h => ?_)
  · obtain ⟨v, d, _, _, rfl, _⟩ := h
    rfl
  · refine ⟨rfl, fun p hp => ?_⟩
    have : p = (("names" : Str), L + 1) := by
      have hp' : p ∈ [(("names" : Str), L + 1)] := hp
      simpa using hp'
    subst this
    exact ⟨Nat.le_succ _, rfl⟩
  · obtain ⟨gP, gw, gK, gmg, gbase, gN, genv, gouter, gn0, gAb, gg, gos⟩ := G
    change gP = P at e1
    change gw = w at e2
    change gK = K at e3
    change gmg = mg at e4
    change gbase = base at e5
    change gN = N_own at e6
    change genv = PyProof.Rows.envOfC "own_words" (defScope s_own) gn0 f cdv at e7
    subst e1 e2 e3 e4 e5 e6 e7
    have nd := scOw.nd
    obtain ⟨v, depth, ns, tab, rfl, hd, hg, hn6, hsrc, htab, hul, rfl⟩ := h
    have hr2 : Room 2 _ := hr.mono (by decide)
    have hr1 : Room 1 _ := hr.mono (by decide)
    have hr3 : Room 3 _ := hr.mono (by decide)
    refine ⟨_, gj_cons (gj_ps fun wk => ps_set (i := 2) nd rfl (Or.inr rfl) (pe_cl c_chk hr (by rfl) (L2.passes_call takes_none5 (fun _ _ _ _ h => h)) (pa_cons (pv 0) pa_nil)))
      (gj_cons (gj_ps fun wk => ps_expr (pe_cl c_wd hr3 (by rfl) (L2.passes_call takes_none5 (fun _ _ _ _ h => h)) (pa_cons (pv 1) pa_nil)))
      (gj_one (gj_for (fun wk => pi_range2 (by rfl) T.range (pa_cons pe_int (pa_cons (pe_op op_add (pv 1) pe_int) pa_nil))) (fun wk => pg_name (i := 3) nd rfl (Or.inl rfl))
        (gj_one (gj_forN O hr2 (fun wk => pgn_cl c_ol hr1 (by rfl) (pa_cons (pe_callB call_len_seq (by rfl) T.len PySem.boot_len (pa_cons (pv 2) pa_nil)) (pa_cons (pv 3) pa_nil))) (fun wk => pg_name (i := 4) nd rfl (Or.inl rfl))
          (gj_one (gj_yield O (fun e => by cases e) (fun wk => pe_callTy call_tuple_of (by rfl) T.tuple (by decide +kernel)
            (pa_cons (pe_lc (own := [("place", 5)]) (g := gName 5) (by rfl) nd (pi_tup (pv 4)) (blkOk_by (own := [("place", 5)]) (N := N_own) (sc := defScope s_own) (by decide +kernel)) (fun _ _ _ _ _ => pg_name (i := 5) nd rfl (Or.inl rfl)) (fun _ _ _ _ _ => pts_nil)
              (fun _ _ _ _ _ => pe_ix (show IxR _ (rIxT gK) from ix_tup) (pv 2) (pv 5) (fun _ _ => rfl))) pa_nil))))))))), fun H' hra => ?_⟩
    let J : Nat → GQ := fun i kd ws σ H2 => ∃ (t : Addr) (x3 x4 : Option V), σ = [some v, some (.int depth), some (.ref t), x3, x4, none] ∧ NT t (ns.map vS) kd H2 ∧ ws = rest ns tab depth i
    have hsrc' : Src H' v ns := by
      rcases hsrc with ⟨a, h1, h2, h3, _⟩ | ⟨p, u, h1, h2, rfl⟩
      · exact .inl ⟨a, h1, h2, h3⟩
      · obtain ⟨o, ho⟩ := hra (p, u) List.mem_cons_self
        exact .inr ⟨p, h1, by omega, u, h2, .inr ⟨o, ho⟩⟩
    refine jcut (J 0) (fun n hn => ?_) (fun kd ws' σ H2 ⟨t, x3, x4, eσ, ht, eW⟩ => ?_)
    · intro wk
      refine ⟨_, rfl, v, rfl, .inl ⟨ns, hsrc', by omega, good_len hg, fun _ _ H2 t h1 h2 h3 => hn _ _ _ _ ⟨t, none, none, rfl, .inl h3, rfl⟩, fun _ h => absurd h (by omega), fun h => by rw [hg] at h; cases h⟩⟩
    subst eσ eW
    refine jcut (J 0) (fun n hn => ?_) (fun kd ws' σ H2 hj => ?_)
    · intro wk
      exact ⟨_, rfl, depth, rfl, fun _ => hn _ _ _ _ ⟨t, x3, x4, rfl, ht, rfl⟩, fun h => absurd h (by omega)⟩
    intro wk
    obtain ⟨t0, y3, y4, rfl, ht0, rfl⟩ := hj
    refine ⟨_, rfl, _, _, rfl, rfl, _, _, rfl, ⟨by decide, by decide, by omega, by omega⟩, ?_⟩
    have en : ((depth : Int) + 1 - 1).toNat = depth := by omega
    rw [en]
    refine ⟨fun i m kd ws σ H => i + m = depth ∧ J i kd ws σ H, ⟨depth, by omega, t0, y3, y4, rfl, ht0, rfl⟩, ?_⟩
    rintro i m kd ws σ H2 ⟨him, t, x3, x4, rfl, ht, rfl⟩
    by_cases hi : i < depth
    · refine .inr ⟨hi, J (i + 1), fun kd' ws' σ' H' h => ⟨m - 1, by omega, by omega, h⟩, fun x H3 hy => ?_⟩
      obtain ⟨rfl, rfl⟩ := hy
      have hL : (1 : Int) + (i : Nat) = ((i + 1 : Nat) : Int) := by omega
      rw [hL]
      -- for word in own_words_of_length(len(names), length)
      intro wk
      refine ⟨_, rfl, t, _, rfl, .inr ht.sq, _, rfl, [], (tab (i + 1)).map (fun u => u.map vI), ?_, fun q hq => absurd hq List.not_mem_nil, ?_⟩
      · refine ⟨_, i + 1, by rw [List.length_map], rfl, ?_⟩
        rcases htab (i + 1) (by omega) (by omega) with ⟨h1, h2⟩ | ⟨h1, ⟨f, h2⟩, _⟩
        · exact .inl ⟨by omega, by rw [h2]; rfl⟩
        · exact .inr ⟨by omega, by omega, by omega, f, _, h2, rfl⟩
      · refine ⟨fun j kd ws σ H => ∃ (x4 : Option V), σ = [some v, some (.int depth), some (.ref t), some (.int ((i + 1 : Nat) : Int)), x4, none] ∧ NT t (ns.map vS) kd H ∧ ws = ((tab (i + 1)).drop j).map (nm ns) ++ rest ns tab depth (i + 1), ⟨x4, rfl, ht, rest_step hi⟩, ?_, ?_⟩
        · rintro kd ws σ H ⟨x4, rfl, ht, rfl⟩
          exact ⟨t, _, x4, rfl, ht, by rw [List.length_map, List.drop_length]; rfl⟩
        · rintro j x kd ws σ H hx ⟨x4, rfl, ht, rfl⟩ p hp wk
          obtain ⟨u, hu, rfl⟩ : ∃ u, (tab (i + 1))[j]? = some u ∧ u.map vI = x := by
            rw [List.getElem?_map] at hx
            cases e : (tab (i + 1))[j]? with
            | none => rw [e] at hx; cases hx
            | some u => rw [e] at hx; exact ⟨u, rfl, Option.some.inj hx⟩
          have hmem := List.mem_of_getElem? hu
          have hdr : (tab (i + 1)).drop j = u :: (tab (i + 1)).drop (j + 1) := by
            have hlt := (List.getElem?_eq_some_iff.mp hu).1
            rw [List.drop_eq_getElem_cons hlt]
            congr 1
            rw [List.getElem?_eq_getElem hlt] at hu
            exact Option.some.inj hu
          have hrange : ∀ x ∈ u, (0 : Int) ≤ x ∧ x < ns.length := by
            rcases htab (i + 1) (by omega) (by omega) with ⟨_, h2⟩ | ⟨_, _, h3⟩
            · rw [h2] at hmem; cases hmem
            · exact h3 u hmem
          have hul' := hul _ u hmem
          have sp : Same H (upd H p (.tup (u.map vI))) := same_new (fun _ _ h => h) hp
          refine ⟨_, rfl, p, rfl, ⟨_, .inl (.inl upd_same)⟩, fun D hD => ?_⟩
          have npD : p ≠ D := fun z => by rw [← z, upd_same] at hD; cases hD
          refine lc_it (walk_tup (K := gK) (xs := u.map vI)) (fun k H3 => Same (upd H p (.tup (u.map vI))) H3 ∧ H3 D = some (.lst ((u.take k).map fun x => vS (ns.getD x.toNat [])))) ⟨same_new (fun _ _ h => h) hD, upd_same⟩ (fun k H3 _ h => .inl (.inl (h.1 _ _ upd_same))) ?_ ?_
          · rintro k x H3 H4 hk ⟨h1, h2⟩ ⟨rfl, hx⟩
            obtain ⟨y, hy, rfl⟩ : ∃ y, u[k]? = some y ∧ vI y = x := by
              rw [List.getElem?_map] at hx
              cases e : u[k]? with
              | none => rw [e] at hx; cases hx
              | some y => rw [e] at hx; exact ⟨y, rfl, Option.some.inj hx⟩
            obtain ⟨y0, y1⟩ := hrange y (List.mem_of_getElem? hy)
            refine ⟨rfl, ?_⟩
            rw [tYes, if_pos rfl]
            refine ⟨_, rfl, _, rfl, t, _, y, vS (ns.getD y.toNat []), rfl, rfl, ((ht.mono sp).mono h1).sq, ?_, _, h2, ?_, same_at h1 hD, ?_⟩
            · have hlt : y.toNat < ns.length := by omega
              have e := atI_nat (xs := ns.map vS) (j := y.toNat) (v := vS (ns.getD y.toNat [])) (by rw [List.getElem?_map, List.getElem?_eq_getElem hlt, List.getD_eq_getElem?_getD, List.getElem?_eq_getElem hlt]; rfl)
              rw [show ((y.toNat : Nat) : Int) = y by omega] at e
              exact e
            · rw [List.length_map, List.length_take]
              exact Nat.lt_of_le_of_lt (show _ ≤ 100 by omega) (by decide)
            · rw [upd_same, map_take_succ hy]
          · rintro H3 ⟨h1, h2⟩
            rw [List.length_map, List.take_length] at h2
            refine ⟨D, _, rfl, .inl ⟨SqL.of h2, fun q hq => ?_⟩⟩
            have ht3 := (ht.mono sp).mono h1
            have nqt : t ≠ q := by
              obtain ⟨o, ho⟩ := ht3.some
              exact ne_of_none ho hq
            refine ⟨q, _, ((tab (i + 1)).drop (j + 1)).map (nm ns) ++ rest ns tab depth (i + 1), [], [(t, .tup (ns.map vS))], rfl, upd_same, ?_, fun q hq => absurd hq List.not_mem_nil, fun y hy => ?_, (fun e => by cases e), fun kd' H4 _ h4 => ?_⟩
            · rw [hdr]
              rfl
            · have : y = (t, HO.tup (ns.map vS)) := by simpa using hy
              subst this
              refine ⟨⟨⟨_, rfl⟩, ?_⟩, nqt⟩
              rcases ht3 with h | ⟨o, k, h⟩
              · exact .inl ((upd_ne nqt).trans h)
              · exact .inr ⟨o, k, (upd_ne nqt).trans h⟩
            · obtain ⟨o, k, h⟩ := h4 (t, .tup (ns.map vS)) List.mem_cons_self
              exact ⟨_, rfl, .inr ⟨o, k, h⟩, rfl⟩
    · have hie : i = depth := by omega
      subst hie
      exact .inl ⟨Nat.le_refl _, rest_end _ _ _⟩
end
end T80
namespace T80
open PySem L2
open SX (S S_inj S_beq S_len split_S)
def spOwX (CB CM : Addr) : SpG := fun vs H _ E => ∃ (v : V) (n : Int), vs = [v, .int n] ∧ spChk CB CM [v] H (fun _ H1 => 12 < n ∧ ∀ (H' : Hp) (d : Addr), Same H1 H' → H1 d = none → H' d = some (.xd [("most", .int 12), ("what", .str "depth")]) → E (.ref CM) (some d) H') E
section
variable {P : Program} {w : World} {K : PySem.W.Frag} {mg : Str → Option Value} {base : Heap}
theorem ok_owx {f CB CM : Addr} {fd : FuncData} (F : Fun K "own_words" "own_words" s_own f fd) (c_chk : Cl P w K mg base (L2.CX P w) "checked_knobs" 4 ["value"] (spChk CB CM)) (c_wd : Cl P w K mg base (L2.CX P w) "within_depth" 3 ["depth"] (spWd CM)) :
    GFn P w K mg base 5 f fd ["knobs", "depth"] (spOwX CB CM) := by
  obtain ⟨oc, od, kV, doc, pm, an, cdv, ct, osl, rfl, lk, hcd⟩ := F.ex
  refine gfn_of lk hcd scOw (fun vs H Q E h => ?_) (fun A outer s H vs Q E pn hr h => ?_)
  · obtain ⟨v, d, rfl, _⟩ := h
    rfl
  · obtain ⟨v, n, rfl, h⟩ := h
    have nd := scOw.nd
    have hr3 : Room 3 _ := hr.mono (by decide)
    refine ⟨_, gss_cons (gs_ps (ps_set (i := 2) nd rfl (Or.inr rfl) (pe_cl c_chk hr (by rfl) (L2.passes_call takes_gcx (fun _ _ _ _ h => h)) (pa_cons (pv 0) pa_nil))))
      (gss_cons (gs_ps (ps_expr (pe_cl c_wd hr3 (by rfl) (L2.passes_call takes_gcx (fun _ _ _ _ h => h)) (pa_cons (pv 1) pa_nil)))) (gss_pss pss_never)), ?_⟩
    refine ⟨_, rfl, ?_⟩
    obtain ⟨v', ev, h⟩ := h
    cases ev
    refine ⟨v, rfl, ?_⟩
    rcases h with ⟨ns, h1, h2, h3, h4, h5, h6⟩ | h
    · refine .inl ⟨ns, h1, h2, h3, fun hg hl H' t s1 t0 ht => ?_, h5, h6⟩
      obtain ⟨hn, q⟩ := h4 hg hl H' t s1 t0 ht
      exact ⟨_, rfl, n, rfl, fun h => absurd h (by omega), fun _ => q⟩
    · exact .inr h
end
end T80
namespace T80
open PySem L2
open SX (S S_inj S_beq S_len split_S)
theorem op_isX {X : Cx} : OpR X (compareOp .Is) (fun x y H Q => ∃ b : Bool, y = .bl b ∧ Q (.bl (decide (x = .bl b))) H) := by
  intro pins s σ H x y v u Q I rx ry h
  obtain ⟨b, rfl, q⟩ := h
  cases (show u = Value.bool b from ry)
  by_cases e : x = .bl b
  · subst e
    cases (show v = Value.bool b from rx)
    exact wpAny_is_self rfl ⟨.bl true, H, I, rfl, by simpa using q⟩
  · have hne : v ≠ Value.bool b := fun z => by
      subst z
      cases x <;> first
        | (obtain ⟨t, z⟩ := rx; cases z)
        | (cases rx; try exact e rfl)
    have hp : plainIs v (.bool b) = true := by
      cases x <;> first
        | (obtain ⟨t, rfl⟩ := rx; rfl)
        | (cases rx; rfl)
    exact wpAny_is_other hp hne ⟨.bl false, H, I, rfl, by simpa [e] using q⟩
/-! ### the box -/
abbrev s_law_box : Stmt := top 23
abbrev N_law_box : List Str := ["script", "cell"]
theorem scBox : FnScope N_law_box ["script"] (defScope s_law_box) := ⟨rfl, rfl, rfl, by decide +kernel, rfl, by decide +kernel, by decide +kernel⟩
def spBox (K : PySem.W.Frag) : Sp := fun vs H Q _ => ∃ (a : Addr) (ns : List Int), vs = [.ref a] ∧ SqL K H a (ns.map V.int) ∧ ns.length ≤ 63 ∧ ∀ (H' : Hp) (b c : Addr) (ns' : List Int), Same H H' → H b = none → H c = none → Box b c ns' 0 H' → Q (.ref b) H'
theorem cutV_ints (ns : List Int) (lo hi : Option Int) : ∃ ms : List Int, cutV (ns.map V.int) lo hi = ms.map V.int ∧ ms.length ≤ ns.length := by
  have h := cutV_length (ns.map V.int) lo hi
  rw [List.length_map] at h
  refine ⟨(ns.drop (HT.sIx (ns.map V.int).length 0 lo)).take (HT.sIx (ns.map V.int).length (ns.map V.int).length hi - HT.sIx (ns.map V.int).length 0 lo), ?_, ?_⟩
  · unfold cutV
    rw [List.map_take, List.map_drop]
  · have e : cutV (ns.map V.int) lo hi = ((ns.drop (HT.sIx (ns.map V.int).length 0 lo)).take (HT.sIx (ns.map V.int).length (ns.map V.int).length hi - HT.sIx (ns.map V.int).length 0 lo)).map V.int := by
      unfold cutV
      rw [List.map_take, List.map_drop]
    rw [e, List.length_map] at h
    exact h
/-! ### the kinds of names that are handed in -/
abbrev s_law_knobs : Stmt := top 26
abbrev N_law_knobs : List Str := ["names", "how"]
theorem scKn : FnScope N_law_knobs ["names", "how"] (defScope s_law_knobs) := ⟨rfl, rfl, rfl, by decide +kernel, rfl, by decide +kernel, by decide +kernel⟩
def sepOf (how : Int) : List Nat := if how = 3 then [32, 32] else [32]
def Kn (H H' : Hp) (how : Int) (ns : List (List Nat)) (v : V) : Prop := (how = 0 ∧ ∃ l, v = .ref l ∧ H l = none ∧ H' l = some (.lst (ns.map vS))) ∨ (how = 1 ∧ ∃ l, v = .ref l ∧ H l = none ∧ H' l = some (.tup (ns.map vS))) ∨ (how ≠ 0 ∧ how ≠ 1 ∧ v = vS (TL.joinL (sepOf how) ns))
def spKn : Sp := fun vs H Q _ => ∃ (p : Addr) (how : Int) (ns : List (List Nat)), vs = [.ref p, .int how] ∧ H p = some (.lst (ns.map vS)) ∧ ns.length ≤ 20 ∧ (∀ x ∈ ns, x.length ≤ 20) ∧ ∀ (H' : Hp) (v : V), Same H H' → Kn H H' how ns v → Q v H'
/-! ### is a word its own -/
abbrev s_law_own : Stmt := top 28
abbrev N_law_own : List Str := ["word", "k"]
theorem scLo : FnScope N_law_own ["word"] (defScope s_law_own) := ⟨rfl, rfl, rfl, by decide +kernel, rfl, by decide +kernel, by decide +kernel⟩
def ownM (u : List Int) : Bool := ((List.range' 1 (u.length - 1)).all fun k => HT.lexLt u (u.drop k)) && !decide (u = [])
def spLo : Sp := fun vs H Q _ => ∃ (p : Addr) (u : List Int), vs = [.ref p] ∧ H p = some (.tup (u.map vI)) ∧ u.length ≤ 100 ∧ ∀ H' : Hp, Same H H' → Q (.bl (ownM u)) H'
theorem sIx_le' {n k : Nat} (h : k ≤ n) (d : Nat) : HT.sIx n d (some (k : Int)) = k := by
  rw [HT.sIx_nat]
  omega
theorem cut_ints (u : List Int) {lo hi : Nat} (h1 : lo ≤ hi) (h2 : hi ≤ u.length) : cutV (u.map vI) (some lo) (some hi) = ((u.drop lo).take (hi - lo)).map vI := by
  unfold cutV
  rw [List.length_map, sIx_le' (n := u.length) (k := lo) (by omega) 0, sIx_le' h2 u.length, List.map_take, List.map_drop]
theorem rd_cut {K : PySem.W.Frag} {H : Hp} {p : Addr} {u : List Int} {lo hi : Nat} {Q : VK} (hp : H p = some (.tup (u.map vI))) (h1 : lo ≤ hi) (h2 : hi ≤ u.length)
    (k : ∀ (r : Addr) (H3 : Hp), Same H H3 → H3 r = some (.tup (((u.drop lo).take (hi - lo)).map vI)) → Q (.ref r) H3) : rSlA K (.ref p) (some (lo : Int)) (some (hi : Int)) H Q := by
  refine ⟨p, _, rfl, SqT.of hp, fun h => ?_, fun _ r hr => ?_⟩
  · rw [List.length_map, sIx_le' (n := u.length) (k := lo) (by omega) 0, sIx_le' h2 u.length] at h
    refine k p H (fun _ _ h => h) ?_
    rw [h.1, h.2, List.drop_zero, Nat.sub_zero, List.take_length]
    exact hp
  · refine k r _ (same_new (fun _ _ h => h) hr) ?_
    rw [upd_same, cut_ints u h1 h2]
theorem rd_tail {K : PySem.W.Frag} {H : Hp} {p : Addr} {u : List Int} {lo : Nat} {Q : VK} (hp : H p = some (.tup (u.map vI))) (h1 : lo ≤ u.length)
    (k : ∀ (r : Addr) (H3 : Hp), Same H H3 → H3 r = some (.tup ((u.drop lo).map vI)) → Q (.ref r) H3) : rSlA K (.ref p) (some (lo : Int)) none H Q := by
  refine ⟨p, _, rfl, SqT.of hp, fun h => ?_, fun _ r hr => ?_⟩
  · rw [List.length_map, sIx_le' h1] at h
    refine k p H (fun _ _ h => h) ?_
    rw [h.1, List.drop_zero]
    exact hp
  · refine k r _ (same_new (fun _ _ h => h) hr) ?_
    rw [upd_same]
    unfold cutV
    rw [List.length_map, sIx_le' h1, HT.sIx_none, List.map_drop, List.take_of_length_le (by rw [List.length_drop, List.length_map]; omega)]
theorem dpAllI {K : PySem.W.Frag} {H : Hp} : ∀ ns : List Int, DpAll K H (ns.map vI) (ns.map PyData.int)
  | [] => .nil
  | n :: r => .cons (.int n) (dpAllI r)
theorem shapedT (ns : List Int) : SeqAt.shaped (.tuple (ns.map PyData.int)) = true := by
  have h := laysInts ns
  show (PyData.canLay0 (.tuple (ns.map PyData.int)) && decide (PyData.depth (.tuple (ns.map PyData.int)) ≤ 64)) = true
  simp [PyData.canLay0, PyData.depth, h.1, h.2]
theorem eqv_nil (u : List Int) : PyData.eqv (.tuple (u.map PyData.int)) (.tuple []) = decide (u = []) := by
  cases u with
  | nil => rfl
  | cons a r => rfl
structure TLaw (mg : Str → Option Value) : Prop where
  len : mg "len" = none
  int : mg "int" = none
  list : mg "list" = none
  tuple : mg "tuple" = none
  range : mg "range" = none
section
variable {P : Program} {w : World} {K : PySem.W.Frag} {mg : Str → Option Value} {base : Heap}
theorem ok_box {f : Addr} {fd : FuncData} (F : Fun K "_law_box" "_law_box" s_law_box f fd) (T : TLaw mg) : FnOk P w K mg base CX0 1 f fd ["script"] (spBox K) := by
  refine F.ok scBox (fun vs H Q E h => ?_) (fun cdv A outer s H vs Q E hr h => ?_)
  · obtain ⟨a, ns, rfl, _⟩ := h
    rfl
  · obtain ⟨a, ns, rfl, hS, hlen, q⟩ := h
    have nd := scBox.nd
    refine ⟨_, (pss_one (ps_ret (pe_lst (pa_cons (pe_lc (own := [("cell", 1)]) (g := gName 1) (by rfl) nd (pi_list (pe_slice sl_list (pv 0) po_none (po_some pe_int))) (blkOk_by (own := [("cell", 1)]) (N := N_law_box) (sc := defScope s_law_box) (by decide +kernel)) (fun _ _ _ _ _ => pg_name (i := 1) nd rfl (Or.inl rfl)) (fun _ _ _ _ _ => pts_nil) (fun _ _ _ _ _ => (pe_callTy call_int1 (by rfl) T.int (by decide +kernel) (pa_cons (pv 1) pa_nil)))) (pa_cons pe_int (pa_cons pe_int (pa_cons pe_int (pa_cons pe_int pa_nil)))))))), ?_⟩
    obtain ⟨ms, em, lm⟩ := cutV_ints ns none (some 63)
    refine ⟨_, rfl, _, rfl, a, _, rfl, hS, fun p hp => ?_⟩
    rw [em]
    refine ⟨p, rfl, ⟨_, SqL.of upd_same⟩, fun D hD => ?_⟩
    have npD : p ≠ D := fun z => by rw [← z, upd_same] at hD; cases hD
    have hD0 : H D = none := by rw [upd_ne npD.symm] at hD; exact hD
    refine lc_it (walk_list (K := K) (xs := ms.map V.int)) (fun i H' => Same (upd H p (.lst (ms.map V.int))) H' ∧ H' D = some (.lst ((ms.take i).map V.int))) ⟨same_new (fun _ _ h => h) hD, upd_same⟩ (fun i H' _ h => SqL.of (h.1 _ _ upd_same)) ?_ ?_
    · rintro i y H1 H2 hi ⟨h1, h2⟩ ⟨rfl, hy⟩
      obtain ⟨x, hx, rfl⟩ : ∃ x, ms[i]? = some x ∧ V.int x = y := by
        rw [List.getElem?_map] at hy
        cases e : ms[i]? with
        | none => rw [e] at hy; cases hy
        | some x => rw [e] at hy; exact ⟨x, rfl, Option.some.inj hy⟩
      refine ⟨rfl, ?_⟩
      rw [tYes, if_pos rfl]
      refine ⟨_, rfl, .inl ⟨x, rfl, _, h2, ?_, same_at h1 hD, ?_⟩⟩
      · rw [List.length_map, List.length_take]
        exact Nat.lt_of_le_of_lt (show _ ≤ 63 by omega) (by decide)
      · rw [upd_same, map_take_succ hx]
    · rintro H1 ⟨h1, h2⟩
      rw [List.length_map, List.take_length] at h2
      refine ⟨by show 5 ≤ sizeLine; decide, fun b hb => ?_⟩
      have sH : Same H H1 := (same_new (fun _ _ h => h) hp).trans h1
      have nbD : b ≠ D := fun z => by rw [z, h2] at hb; cases hb
      exact q _ b D ms (same_new sH hb) (sn sH hb) hD0 ⟨nbD, by omega, 0, 0, 0, by decide, upd_same, (upd_ne nbD.symm).trans h2⟩
theorem ok_kn {f : Addr} {fd : FuncData} (F : Fun K "_law_knobs" "_law_knobs" s_law_knobs f fd) (T : TLaw mg) : FnOk P w K mg base CX0 1 f fd ["names", "how"] spKn := by
  refine F.ok scKn (fun vs H Q E h => ?_) (fun cdv A outer s H vs Q E hr h => ?_)
  · obtain ⟨p, how, ns, rfl, _⟩ := h
    rfl
  · obtain ⟨p, how, ns, rfl, hp, hl, hx, q⟩ := h
    have nd := scKn.nd
    refine ⟨_, (pss_cons (ps_if (pt_cmpR op_eq (pv 1) pe_int (nomark _))
      (pss_one (ps_ret (pe_callTy call_list_of (by rfl) T.list (by decide +kernel) (pa_cons (pv 0) pa_nil))))
      pss_nil)
    (pss_cons (ps_if (pt_cmpR op_eq (pv 1) pe_int (nomark _))
      (pss_one (ps_ret (pe_callTy call_tuple_of (by rfl) T.tuple (by decide +kernel) (pa_cons (pv 0) pa_nil))))
      pss_nil)
    (pss_one (ps_ret (pe_join (pe_ifExp (pt_cmpR op_eq (pv 1) pe_int (nomark _)) pe_str pe_str) (pv 0)))))), ?_⟩
    refine seq_cut (fun σ' H' => σ' = start N_law_knobs [.ref p, .int how] ∧ H = H' ∧ how ≠ 0) (fun n hn => ?_) (fun σ' H' ⟨e1, e2, h0⟩ => ?_)
    · refine ⟨_, rfl, rfl, _, rfl, ite2 (fun h => ?_) (fun h => ?_)⟩
      · have h0 : how = 0 := by
          have : V.int how = V.int 0 := of_decide_eq_true h
          injection this
        exact ⟨_, rfl, p, _, rfl, .inl (SqL.of hp), fun l hl => q _ _ (same_new (fun _ _ h => h) hl) (.inl ⟨h0, l, rfl, hl, upd_same⟩)⟩
      · exact hn _ _ ⟨rfl, rfl, fun z => h (by rw [z]; rfl)⟩
    subst e1 e2
    refine seq_cut (fun σ' H' => σ' = start N_law_knobs [.ref p, .int how] ∧ H = H' ∧ how ≠ 1) (fun n hn => ?_) (fun σ' H' ⟨e1, e2, h1⟩ => ?_)
    · refine ⟨_, rfl, rfl, _, rfl, ite2 (fun h => ?_) (fun h => ?_)⟩
      · have h0 : how = 1 := by
          have : V.int how = V.int 1 := of_decide_eq_true h
          injection this
        exact ⟨_, rfl, p, _, rfl, .inl ⟨SqL.of hp, fun l hl => q _ _ (same_new (fun _ _ h => h) hl) (.inr (.inl ⟨h0, l, rfl, hl, upd_same⟩))⟩⟩
      · exact hn _ _ ⟨rfl, rfl, fun z => h (by rw [z]; rfl)⟩
    subst e1 e2
    have hsum : ∀ ys : List (List Nat), (∀ x ∈ ys, x.length ≤ 20) → ((ys.map S).map (·.length)).sum ≤ ys.length * 20 := fun ys => by
      induction ys with
      | nil => intro _; exact Nat.le_refl _
      | cons y r ih =>
        intro h
        have h1 := ih fun x hx => h x (List.mem_cons_of_mem _ hx)
        have h2 := h y List.mem_cons_self
        simp only [List.map_cons, List.sum_cons, List.length_cons, S_len]
        have h3 : ((r.map S).map (·.length)).sum ≤ r.length * 20 := h1
        omega
    have fin : ∀ sep : List Nat, sep.length ≤ 2 → sepOf how = sep → (∃ a p', ∃ ys : List Str, V.str (S sep) = .str a ∧ [V.ref p] = [.ref p'] ∧ (SqL K H p' (ys.map V.str) ∨ SqT K H p' (ys.map V.str)) ∧ (ys.map (·.length)).sum + ys.length * a.length ≤ 16777216 ∧ Q (.str (Txt.join a ys)) H) := fun sep hs es => by
      refine ⟨_, p, ns.map S, rfl, rfl, .inl (SqL.of ?_), ?_, ?_⟩
      · rw [List.map_map]
        exact hp
      · rw [S_len, List.length_map]
        have h3 := hsum ns hx
        have h4 : ns.length * sep.length ≤ 20 * 2 := Nat.mul_le_mul hl hs
        omega
      · rw [SX.join_S]
        exact q _ _ (fun _ _ h => h) (.inr (.inr ⟨h0, h1, by rw [es]; rfl⟩))
    refine ⟨_, rfl, rfl, _, rfl, ite2 (fun h => ?_) (fun h => ?_)⟩
    · have h3 : how = 3 := by
        have : V.int how = V.int 3 := of_decide_eq_true h
        injection this
      exact ⟨⟨_, rfl⟩, _, rfl, fin [32, 32] (by decide) (by rw [sepOf, if_pos h3])⟩
    · have h3 : ¬ how = 3 := fun z => h (by rw [z]; rfl)
      exact ⟨⟨_, rfl⟩, _, rfl, fin [32] (by decide) (by rw [sepOf, if_neg h3])⟩
theorem ok_lo {f : Addr} {fd : FuncData} (F : Fun K "_law_own" "_law_own" s_law_own f fd) (T : TLaw mg) : FnOk P w K mg base CX0 1 f fd ["word"] spLo := by
  refine F.ok scLo (fun vs H Q E h => ?_) (fun cdv A outer s H vs Q E hr h => ?_)
  · obtain ⟨p, u, rfl, _⟩ := h
    rfl
  · obtain ⟨p, u, rfl, hp, hl, q⟩ := h
    have nd := scLo.nd
    refine ⟨_, (pss_cons (ps_for PassesOwn.never rfl (pi_range2 (by rfl) T.range (pa_cons pe_int (pa_cons (pe_callB call_len_seq (by rfl) T.len (by decide +kernel) (pa_cons (pv 0) pa_nil)) pa_nil))) (pg_name (i := 1) nd rfl (Or.inl rfl))
      (pss_one (ps_if (pt_not (pt_cmpR (op_ltT hr.units0) (pv 0) (pe_slice sl_tupA (pv 0) (po_some (pv 1)) po_none) (nomark _)))
          (pss_one (ps_ret pe_bl))
          pss_nil)))
    (pss_one (ps_ret (pe_cmpR (op_neD hr.units) (pv 0) (pe_tup pa_nil) (nomark _))))), ?_⟩
    have hw : ∀ H' : Hp, Same H H' → SqT K H' p (u.map vI) := fun H' h => SqT.of (h _ _ hp)
    refine ⟨_, rfl, p, _, rfl, .inr (hw H fun _ _ h => h), 1, _, rfl, ⟨by decide, by decide, by rw [List.length_map]; omega, by rw [List.length_map]; omega⟩, ?_⟩
    have en : (((u.map vI).length : Int) - 1).toNat = u.length - 1 := by rw [List.length_map]; omega
    rw [en]
    refine for_it walk_range (fun i σ H' => (∃ x, σ = [some (.ref p), x]) ∧ Same H H' ∧ ((List.range' 1 i).all fun k => HT.lexLt u (u.drop k)) = true) ⟨⟨none, rfl⟩, fun _ _ h => h, rfl⟩ (fun _ _ _ _ _ => trivial) ?_ ?_
    · rintro i x σ H1 H2 hi ⟨⟨x0, rfl⟩, s1, ha⟩ ⟨rfl, rfl⟩
      have hk : (1 : Int) + (i : Nat) = ((i + 1 : Nat) : Int) := by omega
      rw [show (fun i : Nat => V.int (1 + (i : Int))) i = V.int ((i + 1 : Nat) : Int) from congrArg V.int hk]
      refine ⟨_, rfl, _, rfl, _, rfl, _, rfl, ?_⟩
      have hp1 := s1 _ _ hp
      simp only [tNoPart]
      refine rd_tail (lo := i + 1) hp1 (by omega) fun r H3 s3 hr3 => ?_
      refine ⟨p, r, u, u.drop (i + 1), rfl, rfl, SqT.of (s3 _ _ hp1), SqT.of hr3, _, rfl, ?_⟩
      have s13 : Same H H3 := s1.trans s3
      cases hx : HT.lexLt u (u.drop (i + 1)) with
      | true =>
        refine iteF ⟨⟨_, rfl⟩, s13, ?_⟩
        rw [List.range'_concat, List.all_append, ha]
        simp [hx, Nat.add_comm 1 i]
      | false =>
        refine iteT ?_
        have e : ownM u = false := by
          have : ((List.range' 1 (u.length - 1)).all fun k => HT.lexLt u (u.drop k)) = false := by
            rw [List.all_eq_false]
            exact ⟨i + 1, by rw [List.mem_range'_1]; omega, by simp [hx]⟩
          rw [ownM, this, Bool.false_and]
        have q' := q H3 s13
        rw [e] at q'
        exact q'
    · rintro σ H1 ⟨⟨x0, rfl⟩, s1, ha⟩
      refine ⟨_, rfl, Nat.zero_le _, fun t ht => ?_⟩
      have s2 : Same H (upd H1 t (.tup [])) := same_new s1 ht
      refine ⟨_, _, .tup (SqT.of (s2 _ _ hp)) (dpAllI u), .tup (SqT.of upd_same) .nil, shapedT u, rfl, ?_⟩
      rw [eqv_nil]
      have q' := q _ s2
      rw [ownM, ha, Bool.true_and] at q'
      exact q'
end
end T80
namespace T80
open PySem L2
open SX (S S_inj S_beq S_len split_S)
/-! ### how many own words there are -/
abbrev s_law_many : Stmt := top 31
abbrev N_law_many : List Str := ["knobs", "size", "total", "part", "sign", "prime", "power", "step"]
theorem scMy : FnScope N_law_many ["knobs", "size"] (defScope s_law_many) := ⟨rfl, rfl, rfl, by decide +kernel, rfl, by decide +kernel, by decide +kernel⟩
def muStep (part sign prime : Int) : Int := if part.fmod prime = 0 then (if part.fmod (prime * prime) = 0 then 0 else -sign) else sign
def mu5 (part : Int) : Int := [2, 3, 5, 7, 11].foldl (muStep part) 1
def manyT (m : Nat) (z : Nat) : Nat → Int
  | 0 => 0
  | n + 1 => manyT m z n + (if (z : Int).fmod ((n + 1 : Nat) : Int) = 0 then mu5 ((n + 1 : Nat) : Int) * (m : Int) ^ ((z : Int).fdiv ((n + 1 : Nat) : Int)).toNat else 0)
def manyM (m z : Nat) : Int := (manyT m z z).fdiv z
theorem mu_small {part s p : Int} (h : -1 ≤ s ∧ s ≤ 1) : -1 ≤ muStep part s p ∧ muStep part s p ≤ 1 := by
  unfold muStep
  split
  · split <;> omega
  · exact h
theorem mus_small (part : Int) : ∀ (ps : List Int) (s : Int), -1 ≤ s ∧ s ≤ 1 → -1 ≤ ps.foldl (muStep part) s ∧ ps.foldl (muStep part) s ≤ 1
  | [], _, h => h
  | p :: r, s, h => mus_small part r _ (mu_small h)
def spMy : Sp := fun vs H Q _ => ∃ m z : Nat, vs = [.int m, .int z] ∧ m ≤ 6 ∧ 1 ≤ z ∧ z ≤ 12 ∧ ∀ H' : Hp, Same H H' → Q (.int (manyM m z)) H'
theorem pow_small {m j : Nat} (hm : m ≤ 6) (hj : j ≤ 12) : m ^ j ≤ 2176782336 := by
  have h1 : m ^ j ≤ 6 ^ j := Nat.pow_le_pow_left hm j
  have h2 : 6 ^ j ≤ 6 ^ 12 := Nat.pow_le_pow_right (by decide) hj
  exact Nat.le_trans h1 (Nat.le_trans h2 (by decide))
section
variable {P : Program} {w : World} {K : PySem.W.Frag} {mg : Str → Option Value} {base : Heap}
theorem ok_my {f : Addr} {fd : FuncData} (F : Fun K "_law_many" "_law_many" s_law_many f fd) (T : TLaw mg) : FnOk P w K mg base CX0 1 f fd ["knobs", "size"] spMy := by
  refine F.ok scMy (fun vs H Q E h => ?_) (fun cdv A outer s H vs Q E hr h => ?_)
  · obtain ⟨m, z, rfl, _⟩ := h
    rfl
  · obtain ⟨m, z, rfl, hm, hz1, hz2, q⟩ := h
    have nd := scMy.nd
    refine ⟨_, (pss_cons (ps_set (i := 2) nd rfl (Or.inl rfl) pe_int)
    (pss_cons (ps_for PassesOwn.never rfl (pi_range2 (by rfl) T.range (pa_cons pe_int (pa_cons (pe_op op_add (pv 1) pe_int) pa_nil))) (pg_name (i := 3) nd rfl (Or.inl rfl))
      (pss_one (ps_if (pt_cmpR op_eq (pe_op op_modN (pe_callTy call_int1 (by rfl) T.int (by decide +kernel) (pa_cons (pv 1) pa_nil)) (pv 3)) pe_int (nomark _))
          (pss_cons (ps_set (i := 4) nd rfl (Or.inl rfl) pe_int)
            (pss_cons (ps_for PassesOwn.never rfl (pi_list (pe_lst (pa_cons pe_int (pa_cons pe_int (pa_cons pe_int (pa_cons pe_int (pa_cons pe_int pa_nil))))))) (pg_name (i := 5) nd rfl (Or.inl rfl))
              (pss_one (ps_if (pt_cmpR op_eq (pe_op op_modN (pe_callTy call_int1 (by rfl) T.int (by decide +kernel) (pa_cons (pv 3) pa_nil)) (pv 5)) pe_int (nomark _))
                  (pss_one (ps_set (i := 4) nd rfl (Or.inl rfl) (pe_ifExp (pt_cmpR op_eq (pe_op op_modN (pe_callTy call_int1 (by rfl) T.int (by decide +kernel) (pa_cons (pv 3) pa_nil)) (pe_op op_mul (pv 5) (pv 5))) pe_int (nomark _)) pe_int (pe_un un_neg (pv 4)))))
                  pss_nil)))
            (pss_cons (ps_set (i := 6) nd rfl (Or.inl rfl) (pv 4))
            (pss_cons (ps_for PassesOwn.never rfl (pi_range1 (by rfl) T.range (pa_cons (pe_op op_fdivN (pv 1) (pv 3)) pa_nil)) (pg_name (i := 7) nd rfl (Or.inl rfl))
              (pss_one (ps_set (i := 6) nd rfl (Or.inl rfl) (pe_op op_mul (pv 6) (pv 0)))))
            (pss_one (ps_set (i := 2) nd rfl (Or.inl rfl) (pe_op op_add (pv 2) (pv 6))))))))
          pss_nil)))
    (pss_one (ps_ret (pe_op op_fdivN (pv 2) (pv 1)))))), ?_⟩
    refine ⟨_, rfl, _, _, rfl, rfl, _, _, rfl, ⟨by decide, by decide, by omega, by omega⟩, ?_⟩
    have en : ((z : Int) + 1 - 1).toNat = z := by omega
    rw [en]
    refine for_it walk_range (fun i σ H' => (∃ x3 x4 x5 x6 x7, σ = [some (.int m), some (.int z), some (.int (manyT m z i)), x3, x4, x5, x6, x7]) ∧ Same H H') ⟨⟨none, none, none, none, none, rfl⟩, fun _ _ h => h⟩ (fun _ _ _ _ _ => trivial) ?_ ?_
    · rintro i x σ H1 H2 hi ⟨⟨x3, x4, x5, x6, x7, rfl⟩, s1⟩ ⟨rfl, rfl⟩
      have hk : (1 : Int) + (i : Nat) = ((i + 1 : Nat) : Int) := by omega
      rw [show (fun i : Nat => V.int (1 + (i : Int))) i = V.int ((i + 1 : Nat) : Int) from congrArg V.int hk]
      generalize hpt : ((i + 1 : Nat) : Int) = part
      have p0 : 0 < part := by omega
      have p1 : part ≤ 12 := by omega
      refine ⟨_, rfl, .inl ⟨_, rfl, _, rfl, _, _, rfl, rfl, by omega, rfl, _, rfl, ite2 (fun h => ?_) (fun h => ?_)⟩⟩
      · have hd : (z : Int).fmod part = 0 := by
          have : V.int ((z : Int).fmod part) = V.int 0 := of_decide_eq_true h
          injection this
        refine seq_cut (fun σ' H' => (∃ x5 x6 x7, σ' = [some (.int m), some (.int z), some (.int (manyT m z i)), some (.int part), some (.int 1), x5, x6, x7]) ∧ Same H H') (fun n hn => hn _ _ ⟨⟨x5, x6, x7, rfl⟩, s1⟩) (fun σ' H' ⟨⟨x5, x6, x7, eσ⟩, s2⟩ => ?_)
        subst eσ
        refine seq_cut (fun σ' H' => (∃ x5 x6 x7, σ' = [some (.int m), some (.int z), some (.int (manyT m z i)), some (.int part), some (.int (mu5 part)), x5, x6, x7]) ∧ Same H H') (fun n hn => ?_) (fun σ' H' ⟨⟨x5, x6, x7, eσ⟩, s3⟩ => ?_)
        · refine ⟨by show 5 ≤ sizeLine; decide, fun l hl => ⟨l, rfl, ⟨_, SqL.of upd_same⟩, ?_⟩⟩
          refine for_it (walk_list (K := K) (xs := [V.int 2, V.int 3, V.int 5, V.int 7, V.int 11])) (fun j σ H3 => (∃ x5 x6 x7, σ = [some (.int m), some (.int z), some (.int (manyT m z i)), some (.int part), some (.int (([2, 3, 5, 7, 11] : List Int).take j |>.foldl (muStep part) 1)), x5, x6, x7]) ∧ Same H H3 ∧ H3 l = some (.lst [V.int 2, V.int 3, V.int 5, V.int 7, V.int 11]))
            ⟨⟨x5, x6, x7, rfl⟩, same_new s2 hl, upd_same⟩ (fun _ _ _ _ h => SqL.of h.2.2) ?_ ?_
          · rintro j x σ H3 H4 hj ⟨⟨x5, x6, x7, rfl⟩, s4, hl4⟩ ⟨rfl, hx⟩
            obtain ⟨pr, hpr, rfl⟩ : ∃ pr, ([2, 3, 5, 7, 11] : List Int)[j]? = some pr ∧ V.int pr = x := by
              have hx' : (([2, 3, 5, 7, 11] : List Int).map V.int)[j]? = some x := hx
              rw [List.getElem?_map] at hx'
              cases e : ([2, 3, 5, 7, 11] : List Int)[j]? with
              | none => rw [e] at hx'; cases hx'
              | some y => rw [e] at hx'; exact ⟨y, rfl, Option.some.inj hx'⟩
            have hb : (2 : Int) ≤ pr ∧ pr ≤ 11 := by
              have := List.mem_of_getElem? hpr
              simp at this
              omega
            have hf : (([2, 3, 5, 7, 11] : List Int).take (j + 1)).foldl (muStep part) 1 = muStep part ((([2, 3, 5, 7, 11] : List Int).take j).foldl (muStep part) 1) pr := by
              rw [List.take_add_one, hpr, List.foldl_append]
              rfl
            have hm1 := mus_small part (([2, 3, 5, 7, 11] : List Int).take j) 1 ⟨by decide, by decide⟩
            generalize (([2, 3, 5, 7, 11] : List Int).take j).foldl (muStep part) 1 = sg at hf hm1 ⊢
            refine ⟨_, rfl, .inl ⟨_, rfl, _, rfl, _, _, rfl, rfl, by omega, rfl, _, rfl, ite2 (fun h => ?_) (fun h => ?_)⟩⟩
            · have h1 : part.fmod pr = 0 := by
                have : V.int (part.fmod pr) = V.int 0 := of_decide_eq_true h
                injection this
              have hpp : pr * pr ≠ 0 := by
                have : 0 < pr * pr := Int.mul_pos (by omega) (by omega)
                omega
              refine ⟨_, rfl, .inl ⟨_, rfl, _, rfl, _, rfl, _, _, rfl, rfl, .inl ⟨by omega, by omega⟩, _, _, rfl, rfl, hpp, rfl, _, rfl, ite2 (fun h => ?_) (fun h => ?_)⟩⟩
              · have h2 : part.fmod (pr * pr) = 0 := by
                  have : V.int (part.fmod (pr * pr)) = V.int 0 := of_decide_eq_true h
                  injection this
                refine ⟨⟨some (.int pr), x6, x7, ?_⟩, s4, hl4⟩
                rw [hf, muStep, if_pos h1, if_pos h2]
                rfl
              · have h2 : ¬ part.fmod (pr * pr) = 0 := fun z => h (decide_eq_true (congrArg V.int z))
                refine ⟨_, rfl, _, rfl, ⟨some (.int pr), x6, x7, ?_⟩, s4, hl4⟩
                rw [hf, muStep, if_pos h1, if_neg h2]
                rfl
            · have h1 : ¬ part.fmod pr = 0 := fun z => h (decide_eq_true (congrArg V.int z))
              refine ⟨⟨some (.int pr), x6, x7, ?_⟩, s4, hl4⟩
              rw [hf, muStep, if_neg h1]
              rfl
          · rintro σ H3 ⟨⟨x5, x6, x7, rfl⟩, s4, hl4⟩
            exact hn _ _ ⟨⟨x5, x6, x7, rfl⟩, s4⟩
        subst eσ
        have hm1 := mus_small part [2, 3, 5, 7, 11] 1 ⟨by decide, by decide⟩
        have hmu : ([2, 3, 5, 7, 11] : List Int).foldl (muStep part) 1 = mu5 part := rfl
        rw [hmu] at hm1
        generalize hmg : mu5 part = mu at hm1 ⊢
        have hdn : (z : Int).fdiv part = (z : Int) / part := Int.fdiv_eq_ediv_of_nonneg _ (by omega)
        have hd0 : 0 ≤ (z : Int) / part := Int.ediv_nonneg (by omega) (by omega)
        have hd1 : (z : Int) / part ≤ z := Int.ediv_le_self _ (by omega)
        refine seq_cut (fun σ' H' => (∃ x5 x7, σ' = [some (.int m), some (.int z), some (.int (manyT m z i)), some (.int part), some (.int mu), x5, some (.int (mu * (m : Int) ^ 0)), x7]) ∧ Same H H') (fun n hn => ?_) (fun σ' H' ⟨⟨x5, x7, eσ⟩, s4⟩ => ?_)
        · refine ⟨_, rfl, hn _ _ ⟨⟨x5, x7, ?_⟩, s3⟩⟩
          rw [Int.pow_zero, Int.mul_one]
          rfl
        subst eσ
        refine seq_cut (fun σ' H' => (∃ x5 x7, σ' = [some (.int m), some (.int z), some (.int (manyT m z i)), some (.int part), some (.int mu), x5, some (.int (mu * (m : Int) ^ ((z : Int).fdiv part).toNat)), x7]) ∧ Same H H') (fun n hn => ?_) (fun σ' H' ⟨⟨x5, x7, eσ⟩, s5⟩ => ?_)
        · refine ⟨_, rfl, _, rfl, _, _, rfl, rfl, ⟨by omega, by omega⟩, _, rfl, by omega, by omega, ?_⟩
          refine for_it walk_range (fun j σ H3 => (∃ x5 x7, σ = [some (.int m), some (.int z), some (.int (manyT m z i)), some (.int part), some (.int mu), x5, some (.int (mu * (m : Int) ^ j)), x7]) ∧ Same H H3) ⟨⟨x5, x7, rfl⟩, s4⟩ (fun _ _ _ _ _ => trivial) ?_ ?_
          · rintro j x σ H3 H4 hj ⟨⟨x5, x7, rfl⟩, s6⟩ ⟨rfl, rfl⟩
            have hj12 : j ≤ 12 := by omega
            have hpw := pow_small hm hj12
            have hpw0 : (0 : Int) ≤ (m : Int) ^ j := by rw [← Int.natCast_pow]; exact Int.natCast_nonneg _
            have hpw1 : (m : Int) ^ j ≤ 2176782336 := by rw [← Int.natCast_pow]; omega
            refine ⟨_, rfl, _, rfl, _, _, rfl, rfl, .inl ?_, ⟨x5, some (.int (0 + (j : Nat))), ?_⟩, s6⟩
            · have : mu = -1 ∨ mu = 0 ∨ mu = 1 := by omega
              rcases this with h | h | h <;> subst h <;> omega
            · rw [Int.pow_succ, ← Int.mul_assoc]
              rfl
          · rintro σ H3 ⟨⟨x5, x7, rfl⟩, s6⟩
            exact hn _ _ ⟨⟨x5, x7, rfl⟩, s6⟩
        subst eσ
        refine ⟨_, rfl, _, rfl, _, _, rfl, rfl, ⟨some (.int part), some (.int mu), x5, some (.int (mu * (m : Int) ^ ((z : Int).fdiv part).toNat)), x7, ?_⟩, s5⟩
        rw [manyT, hpt, if_pos hd, hmg]
        rfl
      · have hd : ¬ (z : Int).fmod part = 0 := fun z => h (decide_eq_true (congrArg V.int z))
        refine ⟨⟨some (.int part), x4, x5, x6, x7, ?_⟩, s1⟩
        rw [manyT, hpt, if_neg hd, Int.add_zero]
        rfl
    · rintro σ H1 ⟨⟨x3, x4, x5, x6, x7, rfl⟩, s1⟩
      exact ⟨_, rfl, _, rfl, _, _, rfl, rfl, ⟨by omega, by omega⟩, q H1 s1⟩
end
end T80
namespace T80
open PySem L2
open SX (S S_inj S_beq S_len split_S)
/-! ### all words to a depth -/
abbrev s_law_words : Stmt := top 27
abbrev N_law_words : List Str := ["many", "depth", "rows", "level", "step", "longer", "word", "knob"]
theorem scWs : FnScope N_law_words ["many", "depth"] (defScope s_law_words) := ⟨rfl, rfl, rfl, by decide +kernel, rfl, by decide +kernel, by decide +kernel⟩
def nxt (m : Nat) (w : List Int) : List (List Int) := (List.range m).map fun k => w ++ [((k : Nat) : Int)]
def lvl (m : Nat) : Nat → List (List Int)
  | 0 => [[]]
  | n + 1 => (lvl m n).flatMap (nxt m)
def rowsM (m : Nat) : Nat → List (List Int)
  | 0 => []
  | n + 1 => rowsM m n ++ lvl m (n + 1)
/-- a list of tuples stands: ps their places, us what they hold -/
abbrev Tups (H : Hp) (ps : List Addr) (us : List (List Int)) : Prop := PySem.Paired (fun (p : Addr) (u : List Int) => H p = some (.tup (u.map vI))) ps us
theorem Tups.same {H H' : Hp} {ps : List Addr} {us : List (List Int)} (h : Tups H ps us) (s : Same H H') : Tups H' ps us := PySem.Paired.mono (fun _ _ e => s _ _ e) h
theorem Tups.app {H : Hp} : ∀ {ps : List Addr} {us : List (List Int)} {qs : List Addr} {vs : List (List Int)}, Tups H ps us → Tups H qs vs → Tups H (ps ++ qs) (us ++ vs)
  | _, _, _, _, .nil, g => g
  | _, _, _, _, .cons a b, g => .cons a (Tups.app b g)
theorem Tups.at {H : Hp} : ∀ {ps : List Addr} {us : List (List Int)}, Tups H ps us → ∀ (i : Nat) (p : Addr), ps[i]? = some p → ∃ u, us[i]? = some u ∧ H p = some (.tup (u.map vI))
  | _, _, .nil, i, p, h => by simp at h
  | _, _, .cons a b, 0, p, h => by
    simp at h
    subst h
    exact ⟨_, rfl, a⟩
  | _, _, .cons a b, i + 1, p, h => by
    rw [List.getElem?_cons_succ] at h
    obtain ⟨u, h1, h2⟩ := Tups.at b i p h
    exact ⟨u, by rw [List.getElem?_cons_succ]; exact h1, h2⟩
theorem rowsM_le (m : Nat) : ∀ {d n : Nat}, n ≤ d → (rowsM m n).length ≤ (rowsM m d).length
  | 0, n, h => by have : n = 0 := by omega
                  subst this; exact Nat.le_refl _
  | d + 1, n, h => by
    by_cases e : n = d + 1
    · subst e; exact Nat.le_refl _
    · have := rowsM_le m (d := d) (n := n) (by omega)
      rw [rowsM, List.length_append]
      omega
theorem lvl_len (m : Nat) : ∀ (n : Nat) (u : List Int), u ∈ lvl m n → u.length = n
  | 0, u, h => by
    have : u = [] := by simpa [lvl] using h
    subst this
    rfl
  | n + 1, u, h => by
    rw [lvl, List.mem_flatMap] at h
    obtain ⟨w, hw, hu⟩ := h
    rw [nxt, List.mem_map] at hu
    obtain ⟨k, _, rfl⟩ := hu
    rw [List.length_append, lvl_len m n w hw]
    rfl
def spWs : Sp := fun vs H Q _ => ∃ m d : Nat, vs = [.int m, .int d] ∧ m ≤ 6 ∧ d ≤ 100 ∧ (rowsM m d).length ≤ 1000 ∧ ∀ (H' : Hp) (l : Addr) (ps : List Addr), Same H H' → H l = none → H' l = some (.lst (ps.map V.ref)) → Tups H' ps (rowsM m d) → Q (.ref l) H'
section
variable {P : Program} {w : World} {K : PySem.W.Frag} {mg : Str → Option Value} {base : Heap}
theorem ok_ws {f : Addr} {fd : FuncData} (F : Fun K "_law_words" "_law_words" s_law_words f fd) (T : TLaw mg) : FnOk P w K mg base CX0 1 f fd ["many", "depth"] spWs := by
  refine F.ok scWs (fun vs H Q E h => ?_) (fun cdv A outer s H vs Q E hr h => ?_)
  · obtain ⟨m, z, rfl, _⟩ := h
    rfl
  · obtain ⟨m, d, rfl, hm, hd, hlen, q⟩ := h
    have nd := scWs.nd
    refine ⟨_, (pss_cons (ps_set (i := 2) nd rfl (Or.inl rfl) (pe_lst pa_nil))
    (pss_cons (ps_set (i := 3) nd rfl (Or.inl rfl) (pe_lst (pa_cons (pe_tup pa_nil) pa_nil)))
    (pss_cons (ps_for PassesOwn.never rfl (pi_range1 (by rfl) T.range (pa_cons (pv 1) pa_nil)) (pg_name (i := 4) nd rfl (Or.inl rfl))
      (pss_cons (ps_set (i := 5) nd rfl (Or.inl rfl) (pe_lst pa_nil))
        (pss_cons (ps_for PassesOwn.never rfl (pi_list (pv 3)) (pg_name (i := 6) nd rfl (Or.inr rfl))
          (pss_one (ps_set (i := 5) nd rfl (Or.inl rfl) (pe_op op_cat (pv 5) (pe_lc (own := [("knob", 7)]) (g := gName 7) (by rfl) nd (pi_range1 (by rfl) T.range (pa_cons (pv 0) pa_nil)) (blkOk_by (own := [("knob", 7)]) (N := N_law_words) (sc := defScope s_law_words) (by decide +kernel)) (fun _ _ _ _ _ => pg_name (i := 7) nd rfl (Or.inl rfl)) (fun _ _ _ _ _ => pts_nil) (fun _ _ _ _ _ => (pe_op (show OpR _ _ (rCatA K) from op_catA) (pv 6) (pe_tup (pa_cons (pv 7) pa_nil)))))))))
        (pss_cons (ps_set (i := 2) nd rfl (Or.inl rfl) (pe_op op_cat (pv 2) (pv 5)))
        (pss_one (ps_set (i := 3) nd rfl (Or.inl rfl) (pv 5)))))))
    (pss_one (ps_ret (pv 2)))))), ?_⟩
    let J : Nat → St → Hp → Prop := fun i σ H' => ∃ (r l : Addr) (x4 x5 x6 : Option V) (ps qs : List Addr), σ = [some (.int m), some (.int d), some (.ref r), some (.ref l), x4, x5, x6, none] ∧ Same H H' ∧ H r = none ∧ H' r = some (.lst (ps.map V.ref)) ∧ H' l = some (.lst (qs.map V.ref)) ∧ Tups H' ps (rowsM m i) ∧ Tups H' qs (lvl m i)
    refine seq_cut (fun σ' H' => ∃ r, σ' = [some (.int m), some (.int d), some (.ref r), none, none, none, none, none] ∧ Same H H' ∧ H r = none ∧ H' r = some (.lst [])) (fun n hn => ?_) (fun σ1 H1 ⟨r, eσ, s1, r0, hr1⟩ => ?_)
    · exact ⟨Nat.zero_le _, fun r hr => hn _ _ ⟨r, rfl, same_new (fun _ _ h => h) hr, hr, upd_same⟩⟩
    subst eσ
    refine seq_cut (J 0) (fun n hn => ?_) (fun σ2 H2 hj => ?_)
    · refine ⟨Nat.zero_le _, fun t ht => ⟨by show 1 ≤ sizeLine; decide, fun l hl => hn _ _ ⟨r, l, none, none, none, [], [t], rfl, same_new (same_new s1 ht) hl, r0, ?_, upd_same, .nil, .cons ?_ .nil⟩⟩⟩
      · have n1 := ne_of_none hr1 ht
        have h2 : (upd H1 t (.tup [])) r = some (.lst []) := (upd_ne n1).trans hr1
        rw [upd_ne (ne_of_none h2 hl)]
        exact h2
      · rw [upd_ne]
        · exact upd_same
        · intro z
          rw [← z, upd_same] at hl
          cases hl
    refine seq_cut (J d) (fun n hn => ?_) (fun σ3 H3 hj3 => ?_)
    · obtain ⟨r, l, x4, x5, x6, ps, qs, rfl, hJ⟩ := hj
      refine ⟨_, rfl, _, rfl, by omega, by omega, ?_⟩
      rw [show ((d : Nat) : Int).toNat = d by omega]
      refine for_it walk_range J ⟨r, l, x4, x5, x6, ps, qs, rfl, hJ⟩ (fun _ _ _ _ _ => trivial) ?_ (fun σ H' h => hn _ _ h)
      rintro i x σ H4 H5 hi ⟨r, l, x4, x5, x6, ps, qs, rfl, s1, r0, hr1, hl1, tp, tq⟩ ⟨rfl, rfl⟩
      have hlv : (rowsM m (i + 1)).length ≤ 1000 := Nat.le_trans (rowsM_le m (by omega)) hlen
      rw [rowsM, List.length_append] at hlv
      -- longer = []
      refine seq_cut (fun σ' H' => ∃ (g : Addr) (x4 : Option V), σ' = [some (.int m), some (.int d), some (.ref r), some (.ref l), x4, some (.ref g), x6, none] ∧ Same H5 H' ∧ H' g = some (.lst [])) (fun n hn => ?_) (fun σ' H' ⟨g, x4, eσ, s2, hg⟩ => ?_)
      · exact ⟨Nat.zero_le _, fun g hg => hn _ _ ⟨g, _, rfl, same_new (fun _ _ h => h) hg, upd_same⟩⟩
      subst eσ
      refine seq_cut (fun σ' H' => ∃ (g : Addr) (x6 : Option V) (gs : List Addr), σ' = [some (.int m), some (.int d), some (.ref r), some (.ref l), x4, some (.ref g), x6, none] ∧ Same H5 H' ∧ H' g = some (.lst (gs.map V.ref)) ∧ Tups H' gs (lvl m (i + 1))) (fun n hn => ?_) (fun σ' H' ⟨g, x6, gs, eσ, s3, hg3, tg⟩ => ?_)
      · refine ⟨_, rfl, l, rfl, ⟨_, SqL.of (s2 _ _ hl1)⟩, for_it (walk_list (K := K) (xs := qs.map V.ref)) (fun j σ H' => ∃ (g : Addr) (x6 : Option V) (gs : List Addr), σ = [some (.int m), some (.int d), some (.ref r), some (.ref l), x4, some (.ref g), x6, none] ∧ Same H5 H' ∧ H' g = some (.lst (gs.map V.ref)) ∧ Tups H' gs (((lvl m i).take j).flatMap (nxt m)))
          ⟨g, x6, [], rfl, s2, hg, .nil⟩ (fun j σ H' _ ⟨_, _, _, _, s, _⟩ => SqL.of (s _ _ hl1)) ?_ ?_⟩
        · rintro j y σ H6 H7 hj ⟨g, x6, gs, rfl, s3, hg3, tg⟩ ⟨rfl, hy⟩
          obtain ⟨p, hp, rfl⟩ : ∃ p, qs[j]? = some p ∧ V.ref p = y := by
            rw [List.getElem?_map] at hy
            cases e : qs[j]? with
            | none => rw [e] at hy; cases hy
            | some y => rw [e] at hy; exact ⟨y, rfl, Option.some.inj hy⟩
          obtain ⟨u, hu, hpu⟩ := tq.at j p hp
          have hpu7 := s3 _ _ hpu
          have hstep : ((lvl m i).take (j + 1)).flatMap (nxt m) = ((lvl m i).take j).flatMap (nxt m) ++ nxt m u := by
            rw [List.take_add_one, hu, List.flatMap_append]
            simp
          have hsz : (((lvl m i).take j).flatMap (nxt m)).length + m ≤ 1000 := by
            have h1 : lvl m (i + 1) = ((lvl m i).take (j + 1)).flatMap (nxt m) ++ ((lvl m i).drop (j + 1)).flatMap (nxt m) := by
              rw [← List.flatMap_append, List.take_append_drop]
              rfl
            rw [h1, hstep, List.length_append, List.length_append] at hlv
            have : (nxt m u).length = m := by simp [nxt]
            omega
          refine ⟨_, rfl, _, rfl, _, rfl, by omega, by omega, fun D hD => ?_⟩
          rw [show ((m : Nat) : Int).toNat = m by omega]
          have ngD : g ≠ D := ne_of_none hg3 hD
          refine lc_it walk_range (fun k H8 => ∃ ks : List Addr, Same H7 H8 ∧ H8 D = some (.lst (ks.map V.ref)) ∧ ks.length = k ∧ PySem.Paired (fun (p : Addr) (u : List Int) => p ≠ D ∧ H8 p = some (.tup (u.map vI))) ks ((List.range k).map fun k => u ++ [((k : Nat) : Int)]))
            ⟨[], same_new (fun _ _ h => h) hD, upd_same, rfl, .nil⟩ (fun _ _ _ _ => trivial) ?_ ?_
          · rintro k x H8 H9 hk ⟨ks, s8, hD8, lk, t8⟩ ⟨rfl, rfl⟩
            have fin : ∀ (z : Addr) (Hz : Hp), Same H9 Hz → H9 z = none → Hz z = some (.tup ((u ++ [((k : Nat) : Int)]).map vI)) → ∃ acc, Hz D = some (.lst acc) ∧ acc.length < sizeLine ∧
                ∃ ks : List Addr, Same H7 (upd Hz D (.lst (acc ++ [V.ref z]))) ∧ (upd Hz D (.lst (acc ++ [V.ref z]))) D = some (.lst (ks.map V.ref)) ∧ ks.length = k + 1 ∧ PySem.Paired (fun (p : Addr) (u : List Int) => p ≠ D ∧ (upd Hz D (.lst (acc ++ [V.ref z]))) p = some (.tup (u.map vI))) ks ((List.range (k + 1)).map fun k => u ++ [((k : Nat) : Int)]) := fun z Hz sz z0 hz => by
              have nzD : z ≠ D := fun e => by rw [e, hD8] at z0; cases z0
              refine ⟨_, sz _ _ hD8, ?_, ks ++ [z], same_at (s8.trans sz) hD, ?_, by rw [List.length_append, lk]; rfl, ?_⟩
              · rw [List.length_map, lk]
                exact Nat.lt_of_le_of_lt (show _ ≤ 6 by omega) (by decide)
              · rw [upd_same, List.map_append]
                rfl
              · rw [List.range_succ, List.map_append]
                have hmo : ∀ (o : HO) (p : Addr) (u : List Int), (p ≠ D ∧ H9 p = some (.tup (u.map vI))) → (p ≠ D ∧ (upd Hz D o) p = some (.tup (u.map vI))) := fun o p u h => ⟨h.1, by rw [upd_ne h.1]; exact sz _ _ h.2⟩
                exact PySem.Paired.snoc (PySem.Paired.mono (hmo _) t8) ⟨nzD, (upd_ne nzD).trans hz⟩
            refine ⟨rfl, ?_⟩
            rw [tYes, if_pos rfl]
            refine ⟨_, rfl, _, rfl, by show 1 ≤ sizeLine; decide, fun t ht => ?_⟩
            have hp9 := s8 _ _ hpu7
            have npt : p ≠ t := ne_of_none hp9 ht
            have ek : (0 : Int) + (k : Nat) = (k : Nat) := by omega
            refine ⟨p, t, _, _, rfl, rfl, SqT.of ((upd_ne npt).trans hp9), SqT.of upd_same, ?_, fun e => ?_, ?_, fun _ _ z hz => ?_⟩
            · rw [List.length_map]
              have hu100 : u.length ≤ 100 := by
                have := lvl_len m i u (List.mem_of_getElem? hu)
                omega
              exact Nat.le_trans (show u.length + 1 ≤ 101 by omega) (by decide)
            · have hu0 : u = [] := by simpa using e
              subst hu0
              refine fin t _ (same_new (fun _ _ h => h) ht) ht ?_
              rw [upd_same, ← ek]
              rfl
            · intro _ e
              cases e
            · have hz9 : H9 z = none := by
                rw [upd_ne] at hz
                · exact hz
                · intro e
                  rw [e, upd_same] at hz
                  cases hz
              refine fin z _ (same_new (same_new (fun _ _ h => h) ht) hz) hz9 ?_
              rw [upd_same, ← ek, List.map_append]
              rfl
          · rintro H8 ⟨ks, s8, hD8, lk, t8⟩
            refine ⟨g, D, gs.map V.ref, ks.map V.ref, rfl, rfl, s8 _ _ hg3, hD8, ?_, fun G hG => ?_⟩
            · rw [List.length_map, List.length_map, PySem.Paired.length tg, lk]
              exact Nat.le_trans hsz (by decide)
            · refine ⟨G, _, gs ++ ks, rfl, same_new (s3.trans s8) hG, ?_, ?_⟩
              · rw [upd_same, List.map_append]
              · rw [hstep]
                refine Tups.app ((tg.same s8).same (same_new (fun _ _ h => h) hG)) (PySem.Paired.mono (fun p u h => ?_) t8)
                exact same_new (fun _ _ h => h) hG _ _ h.2
        · rintro σ H6 ⟨g, x6, gs, rfl, s3, hg3, tg⟩
          have hql : qs.length = (lvl m i).length := PySem.Paired.length tq
          rw [List.length_map, hql, List.take_length] at tg
          exact hn _ _ ⟨g, x6, gs, rfl, s3, hg3, tg⟩
      subst eσ
      refine seq_cut (fun σ' H'' => ∃ (r' : Addr), σ' = [some (.int m), some (.int d), some (.ref r'), some (.ref l), x4, some (.ref g), x6, none] ∧ Same H' H'' ∧ H' r' = none ∧ H'' r' = some (.lst ((ps ++ gs).map V.ref))) (fun n hn => ?_) (fun σ' H'' ⟨r', eσ, s4, r0', hr'⟩ => ?_)
      · refine ⟨_, rfl, _, rfl, r, g, _, _, rfl, rfl, s3 _ _ hr1, hg3, ?_, fun r' hr' => hn _ _ ⟨r', rfl, same_new (fun _ _ h => h) hr', hr', ?_⟩⟩
        · rw [List.length_map, List.length_map, PySem.Paired.length tp, PySem.Paired.length tg]
          exact Nat.le_trans hlv (by decide)
        · rw [upd_same, List.map_append]
      subst eσ
      have sH : Same H5 H'' := s3.trans s4
      exact ⟨_, rfl, r', g, x4, some (.ref g), x6, ps ++ gs, gs, rfl, s1.trans sH, sn (s1.trans s3) r0', hr', s4 _ _ hg3, Tups.app (tp.same sH) (tg.same s4), tg.same s4⟩
    obtain ⟨r, l, x4, x5, x6, ps, qs, rfl, s1, r0, hr1, hl1, tp, tq⟩ := hj3
    exact ⟨_, rfl, q _ _ ps s1 r0 hr1 tp⟩
end
end T80
namespace T80
open PySem L2
open SX (S S_inj S_beq S_len split_S)
/-! ### the ways to cut a word into falling own words -/
abbrev s_law_falls : Stmt := top 30
abbrev N_law_falls : List Str := ["word", "own", "rows", "end", "here", "begin", "part", "last"]
theorem scFa : FnScope N_law_falls ["word", "own"] (defScope s_law_falls) := ⟨rfl, rfl, rfl, by decide +kernel, rfl, by decide +kernel, by decide +kernel⟩
def okLast (part last : List Int) : Bool := decide (last = []) || !HT.lexLt last part
def partM (word : List Int) (e b : Nat) : List Int := (word.drop b).take (e - b)
def hereB (own : List Int → Bool) (word : List Int) (rows : List (List (List Int))) (e b : Nat) : List (List Int) :=
  if own (partM word e b) = true then ((rows.getD b []).filter (okLast (partM word e b))).map fun _ => partM word e b else []
def hereM (own : List Int → Bool) (word : List Int) (rows : List (List (List Int))) (e : Nat) : Nat → List (List Int)
  | 0 => []
  | b + 1 => hereM own word rows e b ++ hereB own word rows e b
def rowsF (own : List Int → Bool) (word : List Int) : Nat → List (List (List Int))
  | 0 => [[[]]]
  | e + 1 => rowsF own word e ++ [hereM own word (rowsF own word e) (e + 1) (e + 1)]
def fallsM (own : List Int → Bool) (word : List Int) : Nat := ((rowsF own word word.length).getD word.length []).length
theorem rowsF_len (own : List Int → Bool) (word : List Int) : ∀ e, (rowsF own word e).length = e + 1
  | 0 => rfl
  | e + 1 => by rw [rowsF, List.length_append, rowsF_len own word e]; rfl
theorem hereM_le (own : List Int → Bool) (word : List Int) (rows : List (List (List Int))) (e : Nat) : ∀ {b c : Nat}, b ≤ c → (hereM own word rows e b).length ≤ (hereM own word rows e c).length
  | b, 0, h => by have : b = 0 := by omega
                  subst this; exact Nat.le_refl _
  | b, c + 1, h => by
    by_cases q : b = c + 1
    · subst q; exact Nat.le_refl _
    · have := hereM_le own word rows e (b := b) (c := c) (by omega)
      rw [hereM, List.length_append]
      omega
def ownK (kvs : List (List Key × V)) (u : List Int) : Bool := (valV kvs (u.map Sum.inl)).isSome
def spFa : Sp := fun vs H Q _ => ∃ (p d : Addr) (u : List Int) (kvs : List (List Key × V)), vs = [.ref p, .ref d] ∧ H p = some (.tup (u.map vI)) ∧ H d = some (.dT kvs) ∧ u.length ≤ 100 ∧
  (∀ e, e < u.length → (hereM (ownK kvs) u (rowsF (ownK kvs) u e) (e + 1) (e + 1)).length ≤ 1000) ∧ ∀ H' : Hp, Same H H' → Q (.int (fallsM (ownK kvs) u)) H'
/-- the rows so far: lists of tuples, none of them the list of rows itself -/
abbrev Rws (R : Addr) (H : Hp) (rs : List Addr) (us : List (List (List Int))) : Prop := PySem.Paired (fun (l : Addr) (u : List (List Int)) => l ≠ R ∧ ∃ ps : List Addr, H l = some (.lst (ps.map V.ref)) ∧ Tups H ps u) rs us
theorem Rws.same {R : Addr} {H H' : Hp} {rs : List Addr} {us : List (List (List Int))} (h : Rws R H rs us) (s : Same H H') : Rws R H' rs us := PySem.Paired.mono (fun _ _ ⟨n, ps, e, t⟩ => ⟨n, ps, s _ _ e, t.same s⟩) h
theorem Tups.upR {R : Addr} {H : Hp} {xs : List V} {o : HO} {ps : List Addr} {us : List (List Int)} (h : Tups H ps us) (hR : H R = some (.lst xs)) : Tups (upd H R o) ps us :=
  PySem.Paired.mono (fun p u e => by rw [upd_ne (ne_of e hR (by intro z; cases z))]; exact e) h
theorem Rws.upR {R : Addr} {H : Hp} {xs : List V} {o : HO} {rs : List Addr} {us : List (List (List Int))} (h : Rws R H rs us) (hR : H R = some (.lst xs)) : Rws R (upd H R o) rs us :=
  PySem.Paired.mono (fun _ _ ⟨n, ps, e, t⟩ => ⟨n, ps, by rw [upd_ne n]; exact e, t.upR hR⟩) h
theorem Rws.at {R : Addr} {H : Hp} : ∀ {rs : List Addr} {us : List (List (List Int))}, Rws R H rs us → ∀ (i : Nat), i < us.length → ∃ l ps, rs[i]? = some l ∧ H l = some (.lst (ps.map V.ref)) ∧ Tups H ps (us.getD i [])
  | _, _, .nil, i, h => by simp at h
  | _, _, .cons ⟨n, ps, e, t⟩ b, 0, h => ⟨_, ps, rfl, e, t⟩
  | _, _, .cons a b, i + 1, h => by
    obtain ⟨l, ps, h1, h2, h3⟩ := Rws.at b i (by simpa using h)
    exact ⟨l, ps, by rw [List.getElem?_cons_succ]; exact h1, h2, by simpa using h3⟩
theorem tups_const {H : Hp} {q : Addr} {part : List Int} (hq : H q = some (.tup (part.map vI))) : ∀ (ks : List Addr) (us : List (List Int)), ks.length = us.length → (∀ x ∈ ks, x = q) → (∀ v ∈ us, v = part) → Tups H ks us
  | [], [], _, _, _ => .nil
  | k :: ks, u :: us, h, hk, hu => by
    refine .cons ?_ (tups_const hq ks us (by simpa using h) (fun x hx => hk x (List.mem_cons_of_mem _ hx)) fun v hv => hu v (List.mem_cons_of_mem _ hv))
    rw [hk k List.mem_cons_self, hu u List.mem_cons_self]
    exact hq
theorem keys_map (u : List Int) : (u.map vI) = (u.map (Sum.inl : Int → Key)).map kV := by
  rw [List.map_map]
  rfl
section
variable {P : Program} {w : World} {K : PySem.W.Frag} {mg : Str → Option Value} {base : Heap}
theorem ok_fa {f : Addr} {fd : FuncData} (F : Fun K "_law_falls" "_law_falls" s_law_falls f fd) (T : TLaw mg) : FnOk P w K mg base CX0 1 f fd ["word", "own"] spFa := by
  refine F.ok scFa (fun vs H Q E h => ?_) (fun cdv A outer s H vs Q E hr h => ?_)
  · obtain ⟨p, d, u, kvs, rfl, _⟩ := h
    rfl
  · obtain ⟨p, d, u, kvs, rfl, hp, hd, hul, hb, q⟩ := h
    have nd := scFa.nd
    have hu := hu_of hr
    refine ⟨_, (pss_cons (ps_set (i := 2) nd rfl (Or.inl rfl) (pe_lst (pa_cons (pe_lst (pa_cons (pe_tup pa_nil) pa_nil)) pa_nil)))
    (pss_cons (ps_for PassesOwn.never rfl (pi_range2 (by rfl) T.range (pa_cons pe_int (pa_cons (pe_op op_add (pe_callB call_len_seq (by rfl) T.len (by decide +kernel) (pa_cons (pv 0) pa_nil)) pe_int) pa_nil))) (pg_name (i := 3) nd rfl (Or.inl rfl))
      (pss_cons (ps_set (i := 4) nd rfl (Or.inl rfl) (pe_lst pa_nil))
        (pss_cons (ps_for PassesOwn.never rfl (pi_range1 (by rfl) T.range (pa_cons (pv 3) pa_nil)) (pg_name (i := 5) nd rfl (Or.inl rfl))
          (pss_cons (ps_set (i := 6) nd rfl (Or.inr rfl) (pe_slice sl_tupA (pv 0) (po_some (pv 5)) (po_some (pv 3))))
            (pss_one (ps_if (pt_cmp (pc_din hu (pv 6) (pv 1)))
              (pss_one (ps_set (i := 4) nd rfl (Or.inl rfl) (pe_op op_cat (pv 4) (pe_lc (own := [("last", 7)]) (g := gName 7) (by rfl) nd (pi_list (pe_ix ix_list (pv 2) (pv 5) (fun _ _ => rfl))) (blkOk_by (own := [("last", 7)]) (N := N_law_falls) (sc := defScope s_law_falls) (by decide +kernel)) (fun _ _ _ _ _ => pg_name (i := 7) nd rfl (Or.inl rfl)) (fun _ _ _ _ _ => pts_one (PW.pt (pw_or (pt_cmpR (show OpR _ _ (rEqD K) from op_eqD hr.units) (pv 7) (pe_tup pa_nil) (nomark _)) (pw_or1 (pt_not (pt_cmpR (show OpR _ _ (rLtT K) from op_ltT hr.units0) (pv 7) (pv 6) (nomark _))))))) (fun _ _ _ _ _ => (pv 6))))))
              pss_nil))))
        (pss_one (ps_expr (pe_bm PySem.F.plainAttrs_list PySem.F.slot_list_append PySem.F.type_list_append mt_append (pv 2) (pa_cons (pv 4) pa_nil)))))))
    (pss_one (ps_ret (pe_callB call_len_seq (by rfl) T.len (by decide +kernel) (pa_cons (pe_ix ix_list (pv 2) (pe_callB call_len_seq (by rfl) T.len (by decide +kernel) (pa_cons (pv 0) pa_nil)) (fun _ _ => rfl)) pa_nil)))))), ?_⟩
    generalize hown : ownK kvs = own at hb q
    have bp : ∀ {H' : Hp}, Same H H' → H' p = some (.tup (u.map vI)) := fun h => h _ _ hp
    let J : Nat → St → Hp → Prop := fun e σ H' => ∃ (R : Addr) (x3 x4 x5 x6 : Option V) (rs : List Addr), σ = [some (.ref p), some (.ref d), some (.ref R), x3, x4, x5, x6, none] ∧ Same H H' ∧ H R = none ∧ H' R = some (.lst (rs.map V.ref)) ∧ Rws R H' rs (rowsF own u e)
    refine seq_cut (J 0) (fun n hn => ?_) (fun σ1 H1 hj => ?_)
    · refine ⟨Nat.zero_le _, fun t ht => ⟨by show 1 ≤ sizeLine; decide, fun l hl => ⟨by show 1 ≤ sizeLine; decide, fun R hR => hn _ _ ⟨R, none, none, none, none, [l], rfl, same_new (same_new (same_new (fun _ _ h => h) ht) hl) hR, sn (same_new (same_new (fun _ _ h => h) ht) hl) hR, upd_same, .cons ⟨?_, [t], ?_, .cons ?_ .nil⟩ .nil⟩⟩⟩⟩
      · intro z
        rw [← z, upd_same] at hR
        cases hR
      · rw [upd_ne (ne_of_none upd_same hR)]
        exact upd_same
      · have htl : (upd (upd H t (.tup [])) l (.lst [V.ref t])) t = some (.tup []) := by
          rw [upd_ne (ne_of_none upd_same hl)]
          exact upd_same
        rw [upd_ne (ne_of_none htl hR)]
        exact htl
    refine seq_cut (J u.length) (fun n hn => ?_) (fun σ1 H1 hj2 => ?_)
    · obtain ⟨R, x3, x4, x5, x6, rs, rfl, hJ⟩ := hj
      refine ⟨_, rfl, p, _, rfl, .inr (SqT.of (bp hJ.1)), _, _, rfl, rfl, 1, _, rfl, ⟨by decide, by decide, by rw [List.length_map]; omega, by rw [List.length_map]; omega⟩, ?_⟩
      have en : (((u.map vI).length : Int) + 1 - 1).toNat = u.length := by rw [List.length_map]; omega
      rw [en]
      refine for_it walk_range J ⟨R, x3, x4, x5, x6, rs, rfl, hJ⟩ (fun _ _ _ _ _ => trivial) ?_ (fun σ H' h => hn _ _ h)
      rintro e x σ H4 H5 he ⟨R, x3, x4, x5, x6, rs, rfl, s1, R0, hR, hrw⟩ ⟨rfl, rfl⟩
      have hk : (1 : Int) + (e : Nat) = ((e + 1 : Nat) : Int) := by omega
      rw [show (fun i : Nat => V.int (1 + (i : Int))) e = V.int ((e + 1 : Nat) : Int) from congrArg V.int hk]
      have hbe := hb e he
      have hrl := rowsF_len own u e
      generalize hrw0 : rowsF own u e = rw0 at hbe hrw hrl
      -- here = []
      refine seq_cut (fun σ' H' => ∃ (g : Addr), σ' = [some (.ref p), some (.ref d), some (.ref R), some (.int ((e + 1 : Nat) : Int)), some (.ref g), x5, x6, none] ∧ Same H5 H' ∧ H' g = some (.lst []) ∧ g ≠ R) (fun n hn => ?_) (fun σ' H' ⟨g, eσ, s2, hg, ngR⟩ => ?_)
      · exact ⟨Nat.zero_le _, fun g hg => hn _ _ ⟨g, rfl, same_new (fun _ _ h => h) hg, upd_same, fun z => by rw [z, hR] at hg; cases hg⟩⟩
      subst eσ
      refine seq_cut (fun σ' H' => ∃ (g : Addr) (x5 x6 : Option V) (gs : List Addr), σ' = [some (.ref p), some (.ref d), some (.ref R), some (.int ((e + 1 : Nat) : Int)), some (.ref g), x5, x6, none] ∧ Same H5 H' ∧ H' g = some (.lst (gs.map V.ref)) ∧ g ≠ R ∧ Tups H' gs (hereM own u rw0 (e + 1) (e + 1))) (fun n hn => ?_) (fun σ' H' ⟨g, x5, x6, gs, eσ, s3, hg3, ngR, tg⟩ => ?_)
      · refine ⟨_, rfl, _, rfl, by omega, by omega, ?_⟩
        rw [show ((e + 1 : Nat) : Int).toNat = e + 1 by omega]
        refine for_it walk_range (fun b σ H' => ∃ (g : Addr) (x5 x6 : Option V) (gs : List Addr), σ = [some (.ref p), some (.ref d), some (.ref R), some (.int ((e + 1 : Nat) : Int)), some (.ref g), x5, x6, none] ∧ Same H5 H' ∧ H' g = some (.lst (gs.map V.ref)) ∧ g ≠ R ∧ Tups H' gs (hereM own u rw0 (e + 1) b))
          ⟨g, x5, x6, [], rfl, s2, hg, ngR, .nil⟩ (fun _ _ _ _ _ => trivial) ?_ (fun σ H' ⟨g, x5, x6, gs, h⟩ => hn _ _ ⟨g, x5, x6, gs, h⟩)
        rintro b x σ H6 H7 hbe1 ⟨g, x5, x6, gs, rfl, s3, hg3, ngR, tg⟩ ⟨rfl, rfl⟩
        have hk0 : (0 : Int) + (b : Nat) = ((b : Nat) : Int) := by omega
        rw [show (fun i : Nat => V.int (0 + (i : Int))) b = V.int ((b : Nat) : Int) from congrArg V.int hk0]
        have hs : (hereM own u rw0 (e + 1) (b + 1)).length ≤ 1000 := Nat.le_trans (hereM_le own u rw0 (e + 1) hbe1) hbe
        rw [hereM, List.length_append] at hs
        -- part = word[begin:end]
        refine seq_cut (fun σ' H' => ∃ (r : Addr), σ' = [some (.ref p), some (.ref d), some (.ref R), some (.int ((e + 1 : Nat) : Int)), some (.ref g), some (.int (b : Nat)), some (.ref r), none] ∧ Same H7 H' ∧ H' r = some (.tup ((partM u (e + 1) b).map vI))) (fun n hn => ?_) (fun σ' H8 ⟨r, eσ, s8, hr8⟩ => ?_)
        · refine ⟨_, rfl, _, rfl, _, rfl, _, rfl, _, rfl, ?_⟩
          exact rd_cut (lo := b) (hi := e + 1) (bp (s1.trans s3)) (by omega) (by omega) fun r H3 h1 h2 => hn _ _ ⟨r, rfl, h1, h2⟩
        subst eσ
        have s15 := (s1.trans s3).trans s8
        refine ⟨_, rfl, _, rfl, d, _, rfl, DGet.t (k := (partM u (e + 1) b).map Sum.inl) (s15 _ _ hd) (by rw [hr8, keys_map]), _, rfl, ?_⟩
        have eo : (valV kvs ((partM u (e + 1) b).map Sum.inl)).isSome = own (partM u (e + 1) b) := by rw [← hown]; rfl
        rw [eo]
        cases ho : own (partM u (e + 1) b) with
        | false =>
          refine iteF ⟨g, _, _, gs, rfl, s3.trans s8, s8 _ _ hg3, ngR, ?_⟩
          rw [hereM, hereB, ho, if_neg Bool.false_ne_true, List.append_nil]
          exact tg.same s8
        | true =>
          refine iteT ?_
          have hB : hereB own u rw0 (e + 1) b = ((rw0.getD b []).filter (okLast (partM u (e + 1) b))).map fun _ => partM u (e + 1) b := by rw [hereB, ho, if_pos rfl]
          have hsB : ((rw0.getD b []).filter (okLast (partM u (e + 1) b))).length ≤ 1000 := by
            rw [hB, List.length_map] at hs
            omega
          have s38 : Same H5 H8 := s3.trans s8
          obtain ⟨l, ps0, hl0, hl1, tl⟩ := (hrw.same s38).at b (by omega)
          generalize hus : rw0.getD b [] = us0 at tl hB hsB
          generalize hpt : partM u (e + 1) b = part at hB hsB hr8
          have hRl : atI (rs.map V.ref) ((b : Nat) : Int) = some (.ref l) := atI_nat (by rw [List.getElem?_map, hl0]; rfl)
          refine ⟨_, rfl, _, rfl, _, rfl, R, _, _, _, rfl, rfl, SqL.of (s38 _ _ hR), hRl, l, rfl, ⟨_, SqL.of hl1⟩, fun D hD => ?_⟩
          refine lc_it (walk_list (K := K) (xs := ps0.map V.ref)) (fun j H' => ∃ ks : List Addr, Same H8 H' ∧ H' D = some (.lst (ks.map V.ref)) ∧ ks.length = ((us0.take j).filter (okLast part)).length ∧ ∀ x ∈ ks, x = r)
            ⟨[], same_new (fun _ _ h => h) hD, upd_same, rfl, fun x hx => nomatch hx⟩ (fun j H' _ ⟨_, s, _⟩ => SqL.of (s _ _ hl1)) ?_ ?_
          · rintro j y H9 H10 hj ⟨ks, s9, hD9, lk, hks⟩ ⟨rfl, hy⟩
            obtain ⟨tp, htp, rfl⟩ : ∃ tp, ps0[j]? = some tp ∧ V.ref tp = y := by
              rw [List.getElem?_map] at hy
              cases e : ps0[j]? with
              | none => rw [e] at hy; cases hy
              | some y => rw [e] at hy; exact ⟨y, rfl, Option.some.inj hy⟩
            obtain ⟨last, hlast, htl⟩ := tl.at j tp htp
            have htl9 := s9 _ _ htl
            have hr9 := s9 _ _ hr8
            have hstep := filter_take_succ hlast (okLast part)
            have yes : okLast part last = true → ∀ Hz : Hp, Same H10 Hz → ∃ acc, Hz D = some (.lst acc) ∧ acc.length < sizeLine ∧ ∃ ks : List Addr, Same H8 (upd Hz D (.lst (acc ++ [V.ref r]))) ∧ (upd Hz D (.lst (acc ++ [V.ref r]))) D = some (.lst (ks.map V.ref)) ∧ ks.length = ((us0.take (j + 1)).filter (okLast part)).length ∧ ∀ x ∈ ks, x = r := fun hok Hz sz => by
              have hle : ((us0.take j).filter (okLast part)).length ≤ (us0.filter (okLast part)).length := ((List.take_sublist j us0).filter _).length_le
              refine ⟨_, sz _ _ hD9, ?_, ks ++ [r], same_at (s9.trans sz) hD, ?_, ?_, ?_⟩
              · rw [List.length_map, lk]
                exact Nat.lt_of_le_of_lt (show _ ≤ 1000 by omega) (by decide)
              · rw [upd_same, List.map_append]
                rfl
              · rw [hstep, if_pos hok, List.length_append, List.length_append, lk]
                rfl
              · intro x hx
                rcases List.mem_append.mp hx with hx | hx
                · exact hks x hx
                · simpa using hx
            have no : okLast part last = false → ∀ Hz : Hp, Same H10 Hz → ∃ ks : List Addr, Same H8 Hz ∧ Hz D = some (.lst (ks.map V.ref)) ∧ ks.length = ((us0.take (j + 1)).filter (okLast part)).length ∧ ∀ x ∈ ks, x = r := fun hok Hz sz => by
              refine ⟨ks, s9.trans sz, sz _ _ hD9, ?_, hks⟩
              rw [hstep, if_neg (by rw [hok]; exact Bool.false_ne_true), List.append_nil, lk]
            refine ⟨rfl, _, rfl, Nat.zero_le _, fun t ht => ?_⟩
            have st : Same H10 (upd H10 t (.tup [])) := same_new (fun _ _ h => h) ht
            refine ⟨_, _, .tup (SqT.of (st _ _ htl9)) (dpAllI last), .tup (SqT.of upd_same) .nil, shapedT last, rfl, _, rfl, ?_⟩
            rw [eqv_nil]
            refine ite2 (fun h => ?_) (fun h => ?_)
            · have h0 : last = [] := of_decide_eq_true h
              refine iteT ⟨_, rfl, yes ?_ _ st⟩
              rw [okLast, decide_eq_true h0]
              rfl
            · have h0 : okLast part last = !HT.lexLt last part := by
                rw [okLast, eq_false_of_ne_true h]
                rfl
              refine ⟨_, rfl, _, rfl, tp, r, last, part, rfl, rfl, SqT.of (st _ _ htl9), SqT.of (st _ _ hr9), _, rfl, ite2 (fun h => ?_) (fun h => ?_)⟩
              · exact ⟨_, rfl, yes (h0.trans h) _ st⟩
              · exact no (h0.trans (eq_false_of_ne_true h)) _ st
          · rintro H9 ⟨ks, s9, hD9, lk, hks⟩
            rw [List.length_map, PySem.Paired.length tl, List.take_length] at lk
            refine ⟨g, D, gs.map V.ref, ks.map V.ref, rfl, rfl, s9 _ _ (s8 _ _ hg3), hD9, ?_, fun G hG => ?_⟩
            · rw [List.length_map, List.length_map, PySem.Paired.length tg, lk]
              exact Nat.le_trans (show _ ≤ 2000 by omega) (by decide)
            · have sG : Same H9 (upd H9 G (.lst (gs.map V.ref ++ ks.map V.ref))) := same_new (fun _ _ h => h) hG
              refine ⟨G, _, _, gs ++ ks, rfl, (s38.trans s9).trans sG, ?_, ?_, ?_⟩
              · rw [upd_same, List.map_append]
              · intro z
                rw [z, (s38.trans s9) _ _ hR] at hG
                cases hG
              · rw [hereM, hB]
                refine Tups.app (((tg.same s8).same s9).same sG) (tups_const (q := r) (part := part) (sG _ _ (s9 _ _ hr8)) ks _ (by rw [List.length_map]; exact lk) hks fun v hv => ?_)
                rw [List.mem_map] at hv
                obtain ⟨_, _, rfl⟩ := hv
                rfl
      subst eσ
      refine ⟨_, rfl, .inl ⟨rfl, _, SqL.of (s3 _ _ hR)⟩, _, rfl, R, _, _, rfl, rfl, s3 _ _ hR, ?_, ?_⟩
      · rw [List.length_map, PySem.Paired.length hrw, hrl]
        exact Nat.lt_of_le_of_lt (show _ ≤ 101 by omega) (by decide)
      · refine ⟨R, _, _, _, _, rs ++ [g], rfl, same_at (s1.trans s3) R0, R0, ?_, ?_⟩
        · rw [upd_same, List.map_append]
          rfl
        · rw [rowsF, hrw0]
          exact PySem.Paired.snoc ((hrw.same s3).upR (s3 _ _ hR)) ⟨ngR, gs, by rw [upd_ne ngR]; exact hg3, tg.upR (s3 _ _ hR)⟩
    obtain ⟨R, x3, x4, x5, x6, rs, rfl, s1, R0, hR, hrw⟩ := hj2
    obtain ⟨l, ps, h1, h2, h3⟩ := hrw.at u.length (by rw [rowsF_len]; omega)
    refine ⟨_, rfl, _, rfl, p, _, rfl, .inr (SqT.of (bp s1)), R, _, _, .ref l, rfl, rfl, SqL.of hR, ?_, l, _, rfl, .inl (SqL.of h2), ?_⟩
    · rw [List.length_map]
      exact atI_nat (by rw [List.getElem?_map, h1]; rfl)
    · have q' := q _ s1
      rw [fallsM, ← PySem.Paired.length h3] at q'
      rw [List.length_map]
      exact q'
end
end T80
namespace T80
open PySem L2
open SX (S S_inj S_beq S_len split_S)
/-! ### the same data -/
abbrev s_law_same : Stmt := top 29
abbrev N_law_same : List Str := ["told", "due", "k"]
theorem scSm : FnScope N_law_same ["told", "due"] (defScope s_law_same) := ⟨rfl, rfl, rfl, by decide +kernel, rfl, by decide +kernel, by decide +kernel⟩
def okD : Nat → PyData → Bool
  | 0, _ => false
  | n + 1, .list ds => decide (ds.length ≤ 100000) && ds.all (okD n)
  | n + 1, .tuple ds => decide (ds.length ≤ 100000) && ds.all (okD n)
  | _ + 1, .dict _ => false
  | _ + 1, _ => true
theorem sqL_same {K : PySem.W.Frag} {H H' : Hp} {a : Addr} {xs : List V} (h : SqL K H a xs) (s : Same H H') : SqL K H' a xs := by
  rcases h with (h | ⟨o, h⟩) | h
  · exact .inl (.inl (s _ _ h))
  · exact .inl (.inr ⟨o, s _ _ h⟩)
  · exact .inr h
theorem sqT_same {K : PySem.W.Frag} {H H' : Hp} {a : Addr} {xs : List V} (h : SqT K H a xs) (s : Same H H') : SqT K H' a xs := by
  rcases h with (h | ⟨o, h⟩) | h
  · exact .inl (.inl (s _ _ h))
  · exact .inl (.inr ⟨o, s _ _ h⟩)
  · exact .inr h
mutual
theorem dp_same {K : PySem.W.Frag} {H H' : Hp} (s : Same H H') : ∀ {x : V} {d : PyData}, Dp K H x d → Dp K H' x d
  | _, _, .non => .non
  | _, _, .bl b => .bl b
  | _, _, .int i => .int i
  | _, _, .str x => .str x
  | _, _, .lst h a => .lst (sqL_same h s) (dpAll_same s a)
  | _, _, .tup h a => .tup (sqT_same h s) (dpAll_same s a)
theorem dpAll_same {K : PySem.W.Frag} {H H' : Hp} (s : Same H H') : ∀ {xs : List V} {ds : List PyData}, DpAll K H xs ds → DpAll K H' xs ds
  | _, _, .nil => .nil
  | _, _, .cons a b => .cons (dp_same s a) (dpAll_same s b)
end
theorem dpAll_len {K : PySem.W.Frag} {H : Hp} : ∀ {xs : List V} {ds : List PyData}, DpAll K H xs ds → xs.length = ds.length
  | _, _, .nil => rfl
  | _, _, .cons _ b => by rw [List.length_cons, List.length_cons, dpAll_len b]
theorem dpAll_at {K : PySem.W.Frag} {H : Hp} : ∀ {xs : List V} {ds : List PyData}, DpAll K H xs ds → ∀ (i : Nat) (d : PyData), ds[i]? = some d → ∃ x, xs[i]? = some x ∧ Dp K H x d
  | _, _, .nil, i, d, h => by simp at h
  | _, _, .cons a b, 0, d, h => by
    simp at h
    subst h
    exact ⟨_, rfl, a⟩
  | _, _, .cons a b, i + 1, d, h => by
    rw [List.getElem?_cons_succ] at h
    obtain ⟨x, h1, h2⟩ := dpAll_at b i d h
    exact ⟨x, by rw [List.getElem?_cons_succ]; exact h1, h2⟩
def spSm (K : PySem.W.Frag) (n : Nat) : Sp := fun vs H Q _ => ∃ (x y : V) (d : PyData), vs = [x, y] ∧ Dp K H x d ∧ Dp K H y d ∧ okD n d = true ∧ ∀ H' : Hp, Same H H' → Q (.bl true) H'
structure TSm (mg : Str → Option Value) : Prop where
  len : mg "len" = none
  range : mg "range" = none
  isinstance : mg "isinstance" = none
  int : mg "int" = none
  bool : mg "bool" = none
  str : mg "str" = none
  dict : mg "dict" = none
  list : mg "list" = none
  tuple : mg "tuple" = none
/-- a list or a tuple of the data ds at a -/
def Seq (K : PySem.W.Frag) (b : String) (H : Hp) (a : Addr) (xs : List V) : Prop := (b = "list" ∧ SqL K H a xs) ∨ (b = "tuple" ∧ SqT K H a xs)
theorem Seq.same {K : PySem.W.Frag} {b : String} {H H' : Hp} {a : Addr} {xs : List V} (h : Seq K b H a xs) (s : Same H H') : Seq K b H' a xs := h.imp (fun h => ⟨h.1, sqL_same h.2 s⟩) fun h => ⟨h.1, sqT_same h.2 s⟩
theorem Seq.ty {K : PySem.W.Frag} {b : String} {H : Hp} {a : Addr} {xs : List V} (h : Seq K b H a xs) : TyX K H (.ref a) (.type b) := by
  rcases h with ⟨rfl, (h | ⟨o, h⟩) | ⟨o, _, _, h, hc, _⟩⟩ | ⟨rfl, (h | ⟨o, h⟩) | ⟨o, _, _, h, hc, _⟩⟩
  · exact .base (.lst h)
  · exact .base (.frz h)
  · exact .kList h hc
  · exact .base (.tup h)
  · exact .fTuple h
  · exact .kTuple h hc
theorem Seq.or {K : PySem.W.Frag} {b : String} {H : Hp} {a : Addr} {xs : List V} (h : Seq K b H a xs) : SqL K H a xs ∨ SqT K H a xs := h.imp And.right And.right
section
variable {P : Program} {w : World} {K : PySem.W.Frag} {mg : Str → Option Value} {base : Heap}
theorem ok_sm1 {f : Addr} {fd : FuncData} (F : Fun K "_law_same" "_law_same" s_law_same f fd) (T : TSm mg) (n : Nat) (c__law_same : Cl P w K mg base CX0 "_law_same" n ["told", "due"] (spSm K n)) : FnOk P w K mg base CX0 (n + 1) f fd ["told", "due"] (spSm K (n + 1)) := by
  refine F.ok scSm (fun vs H Q E h => ?_) (fun cdv A outer s H vs Q E hr h => ?_)
  · obtain ⟨x, y, d, rfl, _⟩ := h
    rfl
  · obtain ⟨x, y, d, rfl, hx, hy, hok, q⟩ := h
    have nd := scSm.nd
    refine ⟨_, (pss_cons (ps_if (PW.pt (pw_or (pt_cmpR op_isN (pv 1) pe_non (nomark _)) (pw_or (pt_cmpR op_isX (pv 1) pe_bl (nomark _)) (pw_or1 (pt_cmpR op_isX (pv 1) pe_bl (nomark _))))))
      (pss_one (ps_ret (pe_ifExp (pt_cmpR op_isN (pv 1) pe_non (nomark _)) (pe_cmpR op_isN (pv 0) pe_non (nomark _)) (pe_ifExp (pt_cmpR op_isX (pv 1) pe_bl (nomark _)) (pe_cmpR op_isX (pv 0) pe_bl (nomark _)) (pe_cmpR op_isX (pv 0) pe_bl (nomark _))))))
      pss_nil)
    (pss_cons (ps_if (pt_val (pe_callB call_isi (by rfl) T.isinstance (by decide +kernel) (pa_cons (pv 1) (pa_cons (pe_bltn (v := .ty "int") (u := .type "int") (by rfl) T.int (by decide +kernel) rfl) pa_nil))))
      (pss_one (ps_ret (pe_and (pe_callB call_isi (by rfl) T.isinstance (by decide +kernel) (pa_cons (pv 0) (pa_cons (pe_bltn (v := .ty "int") (u := .type "int") (by rfl) T.int (by decide +kernel) rfl) pa_nil))) (pe_and (pe_not (pe_callB call_isi (by rfl) T.isinstance (by decide +kernel) (pa_cons (pv 0) (pa_cons (pe_bltn (v := .ty "bool") (u := .type "bool") (by rfl) T.bool (by decide +kernel) rfl) pa_nil)))) (pe_one (pe_cmpR op_eq (pv 0) (pv 1) (nomark _)))))))
      pss_nil)
    (pss_cons (ps_if (pt_val (pe_callB call_isi (by rfl) T.isinstance (by decide +kernel) (pa_cons (pv 1) (pa_cons (pe_bltn (v := .ty "str") (u := .type "str") (by rfl) T.str (by decide +kernel) rfl) pa_nil))))
      (pss_one (ps_ret (pe_and (pe_callB call_isi (by rfl) T.isinstance (by decide +kernel) (pa_cons (pv 0) (pa_cons (pe_bltn (v := .ty "str") (u := .type "str") (by rfl) T.str (by decide +kernel) rfl) pa_nil))) (pe_one (pe_cmpR op_eq (pv 0) (pv 1) (nomark _))))))
      pss_nil)
    (pss_cons (ps_if (pt_val (pe_callB call_isi (by rfl) T.isinstance (by decide +kernel) (pa_cons (pv 1) (pa_cons (pe_bltn (v := .ty "dict") (u := .type "dict") (by rfl) T.dict (by decide +kernel) rfl) pa_nil))))
      pss_never
      pss_nil)
    (pss_cons (ps_if (PW.pt (pw_or (pt_cmpR op_ne (pe_callB call_isi (by rfl) T.isinstance (by decide +kernel) (pa_cons (pv 0) (pa_cons (pe_bltn (v := .ty "tuple") (u := .type "tuple") (by rfl) T.tuple (by decide +kernel) rfl) pa_nil))) (pe_callB call_isi (by rfl) T.isinstance (by decide +kernel) (pa_cons (pv 1) (pa_cons (pe_bltn (v := .ty "tuple") (u := .type "tuple") (by rfl) T.tuple (by decide +kernel) rfl) pa_nil))) (nomark _)) (pw_or1 (pt_cmpR op_ne (pe_callB call_isi (by rfl) T.isinstance (by decide +kernel) (pa_cons (pv 0) (pa_cons (pe_bltn (v := .ty "list") (u := .type "list") (by rfl) T.list (by decide +kernel) rfl) pa_nil))) (pe_callB call_isi (by rfl) T.isinstance (by decide +kernel) (pa_cons (pv 1) (pa_cons (pe_bltn (v := .ty "list") (u := .type "list") (by rfl) T.list (by decide +kernel) rfl) pa_nil))) (nomark _)))))
      (pss_one (ps_ret pe_bl))
      pss_nil)
    (pss_cons (ps_for PassesOwn.never rfl (pi_range1 (by rfl) T.range (pa_cons (pe_callB call_len_seq (by rfl) T.len (by decide +kernel) (pa_cons (pv 1) pa_nil)) pa_nil)) (pg_name (i := 2) nd rfl (Or.inl rfl))
      (pss_one (ps_if (PW.pt (pw_or (pt_cmpR op_ne (pe_callB call_len_seq (by rfl) T.len (by decide +kernel) (pa_cons (pv 0) pa_nil)) (pe_callB call_len_seq (by rfl) T.len (by decide +kernel) (pa_cons (pv 1) pa_nil)) (nomark _)) (pw_or1 (pt_not (pt_val (pe_cl c__law_same hr (by rfl) pass0 (pa_cons (pe_ix ix_seq (pv 0) (pv 2) (fun _ _ => rfl)) (pa_cons (pe_ix ix_seq (pv 1) (pv 2) (fun _ _ => rfl)) pa_nil))))))))
          (pss_one (ps_ret pe_bl))
          pss_nil)))
    (pss_one (ps_ret (pe_cmpR op_eq (pe_callB call_len_seq (by rfl) T.len (by decide +kernel) (pa_cons (pv 0) pa_nil)) (pe_callB call_len_seq (by rfl) T.len (by decide +kernel) (pa_cons (pv 1) pa_nil)) (nomark _)))))))))), ?_⟩
    have cs : (x = .non ∧ y = .non) ∨ (∃ b, x = .bl b ∧ y = .bl b) ∨ (∃ i, x = .int i ∧ y = .int i) ∨ (∃ z, x = .str z ∧ y = .str z) ∨ ∃ (b : String) (p r : Addr) (xs ys : List V) (ds : List PyData), (b = "list" ∨ b = "tuple") ∧ x = .ref p ∧ y = .ref r ∧ Seq K b H p xs ∧ Seq K b H r ys ∧ DpAll K H xs ds ∧ DpAll K H ys ds ∧ ds.length ≤ 100000 ∧ ds.all (okD n) = true := by
      cases hx with
      | non => cases hy; exact .inl ⟨rfl, rfl⟩
      | bl b => cases hy; exact .inr (.inl ⟨b, rfl, rfl⟩)
      | int i => cases hy; exact .inr (.inr (.inl ⟨i, rfl, rfl⟩))
      | str z => cases hy; exact .inr (.inr (.inr (.inl ⟨z, rfl, rfl⟩)))
      | lst h1 a1 =>
        cases hy with
        | lst h2 a2 =>
          have ho := Bool.and_eq_true_iff.mp hok
          exact .inr (.inr (.inr (.inr ⟨"list", _, _, _, _, _, .inl rfl, rfl, rfl, .inl ⟨rfl, h1⟩, .inl ⟨rfl, h2⟩, a1, a2, of_decide_eq_true ho.1, ho.2⟩)))
      | tup h1 a1 =>
        cases hy with
        | tup h2 a2 =>
          have ho := Bool.and_eq_true_iff.mp hok
          exact .inr (.inr (.inr (.inr ⟨"tuple", _, _, _, _, _, .inr rfl, rfl, rfl, .inr ⟨rfl, h1⟩, .inr ⟨rfl, h2⟩, a1, a2, of_decide_eq_true ho.1, ho.2⟩)))
    have q0 := q H fun _ _ h => h
    rcases cs with ⟨rfl, rfl⟩ | ⟨b, rfl, rfl⟩ | ⟨i, rfl, rfl⟩ | ⟨z, rfl, rfl⟩ | ⟨b, p, r, xs, ys, ds, hb, rfl, rfl, sx, sy, ax, ay, hl, ha⟩
    · exact ⟨_, rfl, rfl, _, rfl, iteT ⟨_, rfl, rfl, _, rfl, iteT ⟨_, rfl, rfl, q0⟩⟩⟩
    · cases b with
      | true => exact ⟨_, rfl, rfl, _, rfl, iteF ⟨_, rfl, true, rfl, _, rfl, iteT ⟨_, rfl, rfl, _, rfl, iteF ⟨_, rfl, true, rfl, _, rfl, iteT ⟨_, rfl, true, rfl, q0⟩⟩⟩⟩⟩
      | false => exact ⟨_, rfl, rfl, _, rfl, iteF ⟨_, rfl, true, rfl, _, rfl, iteF ⟨_, rfl, false, rfl, _, rfl, iteT ⟨_, rfl, rfl, _, rfl, iteF ⟨_, rfl, true, rfl, _, rfl, iteF ⟨_, rfl, false, rfl, q0⟩⟩⟩⟩⟩⟩
    · refine ⟨_, rfl, rfl, _, rfl, iteF ⟨_, rfl, true, rfl, _, rfl, iteF ⟨_, rfl, false, rfl, _, rfl, iteF ?_⟩⟩⟩
      refine ⟨_, rfl, _, _, .type "int", _, true, rfl, .ty _, .base (.int i), kit_ty (by decide +kernel), _, rfl, iteT ?_⟩
      refine ⟨_, rfl, _, _, .type "int", _, true, rfl, .ty _, .base (.int i), kit_ty (by decide +kernel), _, rfl, iteT ?_⟩
      refine ⟨_, rfl, _, _, .type "int", _, false, rfl, .ty _, .base (.int i), kit_ty (by decide +kernel), _, rfl, _, rfl, iteT ?_⟩
      refine ⟨_, rfl, _, rfl, rfl, ?_⟩
      rw [decide_eq_true rfl]
      exact q0
    · refine ⟨_, rfl, rfl, _, rfl, iteF ⟨_, rfl, true, rfl, _, rfl, iteF ⟨_, rfl, false, rfl, _, rfl, iteF ?_⟩⟩⟩
      refine ⟨_, rfl, _, _, .type "str", _, false, rfl, .ty _, .base (.str z), kit_ty (by decide +kernel), _, rfl, iteF ?_⟩
      refine ⟨_, rfl, _, _, .type "str", _, true, rfl, .ty _, .base (.str z), kit_ty (by decide +kernel), _, rfl, iteT ?_⟩
      refine ⟨_, rfl, _, _, .type "str", _, true, rfl, .ty _, .base (.str z), kit_ty (by decide +kernel), _, rfl, iteT ?_⟩
      refine ⟨_, rfl, _, rfl, rfl, ?_⟩
      rw [decide_eq_true rfl]
      exact q0
    · have k1 : PySem.W.kitOne K (.type b) (.type "int") = some false := by rcases hb with rfl | rfl <;> exact kit_ty (by decide +kernel)
      have k2 : PySem.W.kitOne K (.type b) (.type "str") = some false := by rcases hb with rfl | rfl <;> exact kit_ty (by decide +kernel)
      have k3 : PySem.W.kitOne K (.type b) (.type "dict") = some false := by rcases hb with rfl | rfl <;> exact kit_ty (by decide +kernel)
      have k4 : ∃ t, PySem.W.kitOne K (.type b) (.type "tuple") = some t := by
        rcases hb with rfl | rfl
        · exact ⟨false, kit_ty (by decide +kernel)⟩
        · exact ⟨true, kit_ty (by decide +kernel)⟩
      have k5 : ∃ t, PySem.W.kitOne K (.type b) (.type "list") = some t := by
        rcases hb with rfl | rfl
        · exact ⟨true, kit_ty (by decide +kernel)⟩
        · exact ⟨false, kit_ty (by decide +kernel)⟩
      obtain ⟨t4, k4⟩ := k4
      obtain ⟨t5, k5⟩ := k5
      have ne0 : ∀ t : Bool, (!decide (V.bl t = V.bl t)) = false := fun t => by rw [decide_eq_true rfl]; rfl
      refine ⟨_, rfl, rfl, _, rfl, iteF ⟨_, rfl, true, rfl, _, rfl, iteF ⟨_, rfl, false, rfl, _, rfl, iteF ?_⟩⟩⟩
      refine ⟨_, rfl, _, _, .type b, _, false, rfl, .ty _, sy.ty, k1, _, rfl, iteF ?_⟩
      refine ⟨_, rfl, _, _, .type b, _, false, rfl, .ty _, sy.ty, k2, _, rfl, iteF ?_⟩
      refine ⟨_, rfl, _, _, .type b, _, false, rfl, .ty _, sy.ty, k3, _, rfl, iteF ?_⟩
      refine ⟨_, rfl, _, _, .type b, _, t4, rfl, .ty _, sx.ty, k4, _, rfl, _, _, .type b, _, t4, rfl, .ty _, sy.ty, k4, rfl, _, rfl, ?_⟩
      rw [ne0]
      refine iteF ⟨_, rfl, _, _, .type b, _, t5, rfl, .ty _, sx.ty, k5, _, rfl, _, _, .type b, _, t5, rfl, .ty _, sy.ty, k5, rfl, _, rfl, ?_⟩
      rw [ne0]
      have lx := dpAll_len ax
      have ly := dpAll_len ay
      have nel : (!decide (V.int (xs.length : Nat) = V.int (ys.length : Nat))) = false := by
        rw [lx, ly, decide_eq_true rfl]
        rfl
      have hix : ∀ {p : Addr} {xs : List V} {H' : Hp} {k : Nat} {v : V} {Q : VK}, Seq K b H' p xs → xs[k]? = some v → Q v H' → rIx K (.ref p) (.int ((k : Nat) : Int)) H' Q := fun {p xs H' k v Q} s e q => by
        rcases s with ⟨_, s⟩ | ⟨_, s⟩
        · exact .inl ⟨p, xs, _, v, rfl, rfl, s, atI_nat e, q⟩
        · exact .inr (.inl ⟨p, xs, _, v, rfl, rfl, s, atI_nat e, q⟩)
      refine iteF ⟨_, rfl, r, ys, rfl, sy.or, _, rfl, by omega, by omega, ?_⟩
      rw [show ((ys.length : Nat) : Int).toNat = ys.length by omega]
      refine for_it walk_range (fun i σ H' => (∃ k, σ = [some (.ref p), some (.ref r), k]) ∧ Same H H') ⟨⟨none, rfl⟩, fun _ _ h => h⟩ (fun _ _ _ _ _ => trivial) ?_ ?_
      · rintro k x σ H1 H2 hk ⟨⟨x0, rfl⟩, s1⟩ ⟨rfl, rfl⟩
        have hk0 : (0 : Int) + (k : Nat) = ((k : Nat) : Int) := by omega
        rw [show (fun i : Nat => V.int (0 + (i : Int))) k = V.int ((k : Nat) : Int) from congrArg V.int hk0]
        refine ⟨_, rfl, p, xs, rfl, (sx.same s1).or, _, rfl, r, ys, rfl, (sy.same s1).or, rfl, _, rfl, ?_⟩
        rw [nel]
        refine iteF ?_
        obtain ⟨d', hd'⟩ : ∃ d', ds[k]? = some d' := ⟨ds[k]'(by omega), List.getElem?_eq_getElem (by omega)⟩
        obtain ⟨x', hx', dx'⟩ := dpAll_at ax k d' hd'
        obtain ⟨y', hy', dy'⟩ := dpAll_at ay k d' hd'
        refine ⟨_, rfl, _, rfl, hix (sx.same s1) hx' ⟨_, rfl, _, rfl, hix (sy.same s1) hy' ?_⟩⟩
        refine ⟨x', y', d', rfl, dp_same s1 dx', dp_same s1 dy', List.all_eq_true.mp ha d' (List.mem_of_getElem? hd'), fun H3 s3 => ⟨_, rfl, ?_⟩⟩
        exact iteF ⟨⟨_, rfl⟩, s1.trans s3⟩
      · rintro σ H1 ⟨⟨x0, rfl⟩, s1⟩
        refine ⟨_, rfl, p, xs, rfl, (sx.same s1).or, _, rfl, r, ys, rfl, (sy.same s1).or, rfl, ?_⟩
        rw [lx, ly, decide_eq_true rfl]
        exact q H1 s1
theorem ok_sm {f : Addr} {fd : FuncData} (F : Fun K "_law_same" "_law_same" s_law_same f fd) (T : TSm mg) (m : mg "_law_same" = some (.ref f)) (b : Binds K fd ["told", "due"] []) : ∀ n : Nat, FnOk P w K mg base CX0 n f fd ["told", "due"] (spSm K n)
  | 0 => ⟨fun vs H Q E h => by obtain ⟨x, y, d, rfl, _⟩ := h; rfl, fun A outer s H args us vs Q E _ _ _ _ h => by obtain ⟨x, y, d, _, _, _, h, _⟩ := h; cases h⟩
  | n + 1 => ok_sm1 F T n ⟨f, fd, m, ok_sm F T m b n, F.kp, b⟩
end
end T80
namespace T80
open PySem L2
open SX (S S_inj S_beq S_len S_cat split_S)
/-! ### thirteen names -/
abbrev s_law_names : Stmt := top 25
abbrev N_law_names : List Str := ["box", "many", "taken", "kept", "letters", "how", "k", "base", "names", "at", "tail", "name", "turn"]
theorem scNm : FnScope N_law_names ["box", "many", "taken"] (defScope s_law_names) := ⟨rfl, rfl, rfl, by decide +kernel, rfl, by decide +kernel, by decide +kernel⟩
def lets : List Nat := [97, 98, 99, 101, 102, 103, 104, 105, 106, 107, 108, 109, 110, 111, 112, 113, 114, 115, 116, 117, 118, 119, 120, 121, 122, 65, 66, 67, 68, 69, 70, 71, 72, 73, 74, 75, 76, 77, 78, 79, 80, 81, 82, 83, 84, 85, 86, 87, 88, 89, 90]
def sfx1 : List (List Nat) := [[], [49], [113], [49, 113], [49, 49], [95], [48]]
def sfx3 : List (List Nat) := [[], [95], [55], [48, 122], [57, 95]]
theorem lets_len : lets.length = 51 := by decide +kernel
theorem lets_ok : lets.all isLet = true := by decide +kernel
theorem lets_str : V.str "abcefghijklmnopqrstuvwxyzABCDEFGHIJKLMNOPQRSTUVWXYZ" = vS lets := by decide +kernel
theorem kept_str : ([V.str "answer", V.str "machine", V.str "worths", V.str "pack", V.str "model", V.str "knobs", V.str "number", V.str "turn", V.str "sight", V.str "bar", V.str "bracket", V.str "word", V.str "done", V.str "int", V.str "d", V.str "still"] : List V) = kept.map vS := by decide +kernel
theorem sfx1_str : ([V.str "", V.str "1", V.str "q", V.str "1q", V.str "11", V.str "_", V.str "0"] : List V) = sfx1.map vS := by decide +kernel
theorem sfx3_str : ([V.str "", V.str "_", V.str "7", V.str "0z", V.str "9_"] : List V) = sfx3.map vS := by decide +kernel
theorem sfx1_ok : ∀ s ∈ sfx1, s.all isInn = true ∧ s.length ≤ 2 := by decide +kernel
theorem sfx3_ok : ∀ s ∈ sfx3, s.all isInn = true ∧ s.length ≤ 2 := by decide +kernel
theorem kept_ok : ∀ s ∈ kept, 95 ∉ s := by decide +kernel
theorem let_inn {c : Nat} (h : isLet c = true) : isInn c = true := by rw [isInn, h]; rfl
theorem all_let_inn {a : List Nat} (h : a.all isLet = true) : a.all isInn = true := List.all_eq_true.mpr fun c hc => let_inn (List.all_eq_true.mp h c hc)
/-- a name, but for the kept words -/
def NameOk (a : List Nat) : Prop := a ≠ [] ∧ a.length ≤ 16 ∧ isLet (a.headD 0) = true ∧ a.all isInn = true
theorem nameOk_app {a b : List Nat} (ha : a ≠ []) (la : a.all isLet = true) (lb : b.all isInn = true) (hl : a.length + b.length ≤ 16) : NameOk (a ++ b) := by
  obtain ⟨c, r, rfl⟩ : ∃ c r, a = c :: r := by
    cases a with
    | nil => exact absurd rfl ha
    | cons c r => exact ⟨c, r, rfl⟩
  refine ⟨by simp, by rw [List.length_append]; exact hl, ?_, ?_⟩
  · rw [List.all_cons, Bool.and_eq_true] at la
    exact la.1
  · rw [List.all_append, all_let_inn la, lb]
    rfl
theorem isName_of {a : List Nat} (h : NameOk a) (hk : a ∉ kept) : isName a = true := by
  have : (kept.any fun k => k == a) = false := by
    rw [List.any_eq_false]
    intro x hx e
    exact hk ((beq_iff_eq.mp e) ▸ hx)
  rw [isName, this, h.2.2.1, h.2.2.2, decide_eq_false h.1, decide_eq_true h.2.1]
  rfl
/-- the figures of a number below 80 -/
def figs (n : Nat) : List Nat := (toString (n : Int) : Str).cps.toList
theorem figs_str (n : Nat) : V.str (toString ((n : Nat) : Int)) = vS (figs n) := congrArg V.str (SX.S_tl _).symm
theorem figs_ok : ∀ n, n < 80 → (figs n).all isInn = true ∧ (figs n).length ≤ 2 := by decide +kernel
theorem figs_inj : ∀ n, n < 80 → ∀ m, m < 80 → figs n = figs m → n = m := by decide +kernel
/-- the names that are tried when the first is taken -/
def fb (pre : List Nat) (n : Nat) : List Nat := pre ++ [95] ++ figs n
theorem fb_ok {pre : List Nat} {n : Nat} (hp : pre ≠ []) (lp : pre.all isLet = true) (hl : pre.length ≤ 12) (hn : n < 80) : NameOk (fb pre n) := by
  have h := figs_ok n hn
  have e : fb pre n = pre ++ (95 :: figs n) := by rw [fb, List.append_assoc]; rfl
  rw [e]
  refine nameOk_app hp lp ?_ ?_
  · rw [List.all_cons, h.1]
    rfl
  · rw [List.length_cons]
    omega
theorem fb_kept (pre : List Nat) (n : Nat) : fb pre n ∉ kept := fun h => kept_ok _ h (by rw [fb]; simp)
theorem fb_inj {pre : List Nat} {n m : Nat} (hn : n < 80) (hm : m < 80) (h : fb pre n = fb pre m) : n = m := figs_inj n hn m hm (List.append_cancel_left h)
theorem nodup_le : ∀ {l m : List (List Nat)}, l.Nodup → (∀ x ∈ l, x ∈ m) → l.length ≤ m.length
  | [], _, _, _ => Nat.zero_le _
  | x :: r, m, h, s => by
    have hx := s x List.mem_cons_self
    have h1 := nodup_le (l := r) (m := m.erase x) (List.nodup_cons.mp h).2 fun y hy => by
      have hne : y ≠ x := fun e => (List.nodup_cons.mp h).1 (e ▸ hy)
      exact (List.mem_erase_of_ne hne).mpr (s y (List.mem_cons_of_mem _ hy))
    rw [List.length_erase_of_mem hx] at h1
    have := List.length_pos_of_mem hx
    rw [List.length_cons]
    omega
theorem not_all_fb {pre : List Nat} {ns : List (List Nat)} (hl : ns.length ≤ 60) : ¬ ∀ j, j + 1 < 80 → fb pre j ∈ ns := fun h => by
  have hn : ((List.range 79).map (fb pre)).Nodup := by
    rw [List.Nodup, List.pairwise_map]
    exact List.Pairwise.imp_of_mem (fun {a b} ha hb hab e => hab (fb_inj (by rw [List.mem_range] at ha; omega) (by rw [List.mem_range] at hb; omega) e)) List.nodup_range
  have := nodup_le hn (m := ns) fun x hx => by
    rw [List.mem_map] at hx
    obtain ⟨j, hj, rfl⟩ := hx
    rw [List.mem_range] at hj
    exact h j (by omega)
  rw [List.length_map, List.length_range] at this
  omega
theorem join_ones : ∀ cs : List Nat, TL.joinL [] (cs.map fun c => [c]) = cs
  | [] => rfl
  | [c] => rfl
  | c :: d :: r => by
    have := join_ones (d :: r)
    rw [List.map_cons] at this
    rw [List.map_cons, List.map_cons, TL.joinL, this]
    rfl
theorem at_in {α : Type} (xs : List α) (f : α → V) {i : Int} (h0 : 0 ≤ i) (h1 : i < xs.length) : ∃ x ∈ xs, atI (xs.map f) i = some (f x) := by
  have hlt : i.toNat < xs.length := by omega
  refine ⟨xs[i.toNat], List.getElem_mem _, ?_⟩
  have e := atI_nat (xs := xs.map f) (j := i.toNat) (v := f xs[i.toNat]) (by rw [List.getElem?_map, List.getElem?_eq_getElem hlt]; rfl)
  rw [show ((i.toNat : Nat) : Int) = i by omega] at e
  exact e
theorem at_sign (a : List Nat) {i : Int} (h0 : 0 ≤ i) (h1 : i < a.length) : ∃ c ∈ a, atI (S a).cps.toList i = some c := by
  have hlt : i.toNat < a.length := by omega
  refine ⟨a[i.toNat], List.getElem_mem _, ?_⟩
  have e := atI_nat (xs := a) (j := i.toNat) (v := a[i.toNat]) (List.getElem?_eq_getElem hlt)
  rw [show ((i.toNat : Nat) : Int) = i by omega] at e
  exact e
theorem cutS_from (a : List Nat) {i : Nat} (h : i ≤ a.length) : cutS (S a) (some (i : Int)) none = S (a.drop i) := by
  unfold cutS
  rw [S_len, sIx_le' h, HT.sIx_none]
  show S ((a.drop i).take (a.length - i)) = _
  rw [List.take_of_length_le (by rw [List.length_drop]; omega)]
theorem cutS_to (a : List Nat) (i : Nat) : cutS (S a) none (some (i : Int)) = S (a.take i) := by
  unfold cutS
  rw [S_len, HT.sIx_none, HT.sIx_nat]
  show S ((a.drop 0).take (min i a.length - 0)) = _
  rw [List.drop_zero, Nat.sub_zero, ← List.take_eq_take_min]
end T80
namespace T80
open PySem L2
open SX (S S_inj S_beq S_len S_cat split_S)
theorem sum_ones : ∀ cs : List Nat, ((cs.map fun c => S [c]).map (·.length)).sum = cs.length
  | [] => rfl
  | c :: r => by
    have := sum_ones r
    rw [List.map_cons, List.map_cons, List.sum_cons, this, S_len]
    simp only [List.length_cons, List.length_nil]
    omega
structure TNm (mg : Str → Option Value) : Prop where
  int : mg "int" = none
  range : mg "range" = none
  min : mg "min" = none
  str : mg "str" = none
def spNm : Sp := fun vs H Q _ => ∃ (b c t : Addr) (ns : List Int) (k : Int) (m : Nat), vs = [.ref b, .int m, .ref t] ∧ Box b c ns k H ∧ 0 ≤ k ∧ k ≤ 500 ∧ m ≤ 13 ∧ H t = some (.lst []) ∧
  ∀ (H' : Hp) (l : Addr) (nl : List (List Nat)) (k' : Int), Keep b H H' → H l = none → H' l = some (.lst (nl.map vS)) → nl.length = m → good nl = true → Box b c ns k' H' → k ≤ k' → k' ≤ k + 100 → Q (.ref l) H'
theorem Box.newK {b c l : Addr} {ns : List Int} {k : Int} {H : Hp} {o : HO} (h : Box b c ns k H) (hl : H l = none) : Box b c ns k (upd H l o) := by
  obtain ⟨h1, h2, a1, a2, a4, h3, h4, h5⟩ := h
  exact ⟨h1, h2, a1, a2, a4, h3, (upd_ne (ne_of_none h4 hl)).trans h4, (upd_ne (ne_of_none h5 hl)).trans h5⟩
theorem Box.putK {b c l : Addr} {ns : List Int} {k : Int} {H : Hp} {o : HO} (h : Box b c ns k H) (h1 : l ≠ b) (h2 : l ≠ c) : Box b c ns k (upd H l o) := by
  obtain ⟨e1, e2, a1, a2, a4, h3, h4, h5⟩ := h
  exact ⟨e1, e2, a1, a2, a4, h3, (upd_ne h1.symm).trans h4, (upd_ne h2.symm).trans h5⟩
theorem Box.b {b c : Addr} {ns : List Int} {k : Int} {H : Hp} (h : Box b c ns k H) : ∃ o, H b = some o := by
  obtain ⟨_, _, a1, a2, a4, _, h4, _⟩ := h
  exact ⟨_, h4⟩
theorem Box.c {b c : Addr} {ns : List Int} {k : Int} {H : Hp} (h : Box b c ns k H) : ∃ o, H c = some o := by
  obtain ⟨_, _, a1, a2, a4, _, _, h4⟩ := h
  exact ⟨_, h4⟩
theorem keep_no {b : Addr} {H H' : Hp} (h : Keep b H H') {a : Addr} (n : a ≠ b) (e : H' a = none) : H a = none := by
  cases q : H a with
  | none => rfl
  | some o => rw [h a o n q] at e; cases e
section
variable {P : Program} {w : World} {K : PySem.W.Frag} {mg : Str → Option Value} {base : Heap}
theorem ok_nm {f : Addr} {fd : FuncData} (F : Fun K "_law_names" "_law_names" s_law_names f fd) (T : TNm mg) (c__law_draw : Cl P w K mg base CX0 "_law_draw" 1 ["box", "size"] spDraw) : FnOk P w K mg base CX0 2 f fd ["box", "many", "taken"] spNm := by
  refine F.ok scNm (fun vs H Q E h => ?_) (fun cdv A outer s H vs Q E hr h => ?_)
  · obtain ⟨b, c, t, ns, k, m, rfl, _⟩ := h
    rfl
  · obtain ⟨b, c, t, ns, k, m, rfl, B0, hk0, hk5, hm, ht, q⟩ := h
    have nd := scNm.nd
    refine ⟨_, (pss_cons (ps_set (i := 3) nd rfl (Or.inl rfl) (pe_lst (pa_cons pe_str (pa_cons pe_str (pa_cons pe_str (pa_cons pe_str (pa_cons pe_str (pa_cons pe_str (pa_cons pe_str (pa_cons pe_str (pa_cons pe_str (pa_cons pe_str (pa_cons pe_str (pa_cons pe_str (pa_cons pe_str (pa_cons pe_str (pa_cons pe_str (pa_cons pe_str pa_nil))))))))))))))))))
    (pss_cons (ps_set (i := 4) nd rfl (Or.inr rfl) pe_str)
    (pss_cons (ps_set (i := 5) nd rfl (Or.inl rfl) (pe_cl c__law_draw hr (by rfl) pass0 (pa_cons (pv 0) (pa_cons pe_int pa_nil))))
    (pss_cons (ps_set (i := 7) nd rfl (Or.inl rfl) (pe_join pe_str (pe_lc (own := [("k", 6)]) (g := gName 6) (by rfl) nd (pi_range1 (by rfl) T.range (pa_cons pe_int pa_nil)) (blkOk_by (own := [("k", 6)]) (N := N_law_names) (sc := defScope s_law_names) (by decide +kernel)) (fun _ _ _ _ _ => pg_name (i := 6) nd rfl (Or.inl rfl)) (fun _ _ _ _ _ => pts_nil) (fun _ _ _ _ _ => (pe_ix ix_str (pv 4) (pe_op op_mod (pe_callTy call_int1 (by rfl) T.int (by decide +kernel) (pa_cons (pe_op op_add (pe_op op_mul (pe_cl c__law_draw hr (by rfl) pass0 (pa_cons (pv 0) (pa_cons pe_int pa_nil))) pe_int) (pv 6)) pa_nil)) pe_int) (fun _ _ => rfl))))))
    (pss_cons (ps_set (i := 8) nd rfl (Or.inl rfl) (pe_lst pa_nil))
    (pss_cons (ps_for PassesOwn.never rfl (pi_range1 (by rfl) T.range (pa_cons (pv 1) pa_nil)) (pg_name (i := 9) nd rfl (Or.inl rfl))
      (pss_cons (ps_set (i := 10) nd rfl (Or.inl rfl) (pe_cl c__law_draw hr (by rfl) pass0 (pa_cons (pv 0) (pa_cons pe_int pa_nil))))
        (pss_cons (ps_set (i := 11) nd rfl (Or.inl rfl) (pe_ix ix_str (pv 4) (pe_op op_mod (pe_callTy call_int1 (by rfl) T.int (by decide +kernel) (pa_cons (pe_op op_add (pe_op op_mul (pv 10) pe_int) (pe_op op_mul (pv 9) pe_int)) pa_nil)) pe_int) (fun _ _ => rfl)))
        (pss_cons (ps_if (pt_cmpR op_eq (pv 5) pe_int (nomark _))
          (pss_one (ps_set (i := 11) nd rfl (Or.inl rfl) (pe_op op_add_str (pe_ix ix_str (pv 7) pe_int (fun _ _ => rfl)) (pe_ix ix_list (pe_lst (pa_cons pe_str (pa_cons pe_str (pa_cons pe_str (pa_cons pe_str (pa_cons pe_str (pa_cons pe_str (pa_cons pe_str pa_nil)))))))) (pe_op op_mod (pe_callTy call_int1 (by rfl) T.int (by decide +kernel) (pa_cons (pe_op op_add (pv 9) (pv 10)) pa_nil)) pe_int) (fun _ _ => rfl)))))
          (pss_one (ps_if (pt_cmpR op_eq (pv 5) pe_int (nomark _))
              (pss_one (ps_set (i := 11) nd rfl (Or.inl rfl) (pe_op op_add_str (pv 7) (pe_ix ix_str (pv 4) (pe_op op_mul (pv 10) pe_int) (fun _ _ => rfl)))))
              (pss_one (ps_if (pt_cmpR op_eq (pv 5) pe_int (nomark _))
                  (pss_one (ps_set (i := 11) nd rfl (Or.inl rfl) (pe_op op_add_str (pe_slice sl_str (pe_slice sl_str (pv 7) (po_some (pe_op op_mod (pe_callTy call_int1 (by rfl) T.int (by decide +kernel) (pa_cons (pv 9) pa_nil)) pe_int)) po_none) po_none (po_some (pe_op op_add pe_int (pv 10)))) (pe_ix ix_list (pe_lst (pa_cons pe_str (pa_cons pe_str (pa_cons pe_str (pa_cons pe_str (pa_cons pe_str pa_nil)))))) (pe_cl c__law_draw hr (by rfl) pass0 (pa_cons (pv 0) (pa_cons pe_int pa_nil))) (fun _ _ => rfl)))))
                  pss_nil)))))
        (pss_cons (ps_for PassesOwn.never rfl (pi_range1 (by rfl) T.range (pa_cons pe_int pa_nil)) (pg_name (i := 12) nd rfl (Or.inl rfl))
          (pss_cons (ps_if (PW.pt (pw_and (pt_cmpR op_notIn_seq (pv 11) (pv 8) (by rfl)) (pw_and (pt_cmpR op_notIn_seq (pv 11) (pv 3) (by rfl)) (pw_and1 (pt_cmpR op_notIn_seq (pv 11) (pv 2) (by rfl))))))
              (pss_one ps_break)
              pss_nil)
            (pss_one (ps_set (i := 11) nd rfl (Or.inl rfl) (pe_op op_add_str (pe_op op_add_str (pe_slice sl_str (pv 7) po_none (po_some (pe_ifExp (pt_cmpR op_eq (pv 5) pe_int (nomark _)) pe_int (pe_callB (call_min2 rfl) (by rfl) T.min (by decide +kernel) (pa_cons (pe_op op_add pe_int (pv 9)) (pa_cons pe_int pa_nil)))))) pe_str) (pe_callTy call_str_int (by rfl) T.str (by decide +kernel) (pa_cons (pv 12) pa_nil)))))))
        (pss_one (ps_expr (pe_bm PySem.F.plainAttrs_list PySem.F.slot_list_append PySem.F.type_list_append mt_append (pv 8) (pa_cons (pv 11) pa_nil)))))))))
    (pss_one (ps_ret (pv 8))))))))), ?_⟩
    obtain ⟨ob, hob⟩ := B0.b
    have ntb : t ≠ b := fun z => by
      obtain ⟨_, _, a1, a2, a4, _, h4, _⟩ := B0
      rw [← z, ht] at h4
      cases h4
    -- kept
    refine seq_cut (fun σ' H' => ∃ kp, σ' = [some (.ref b), some (.int m), some (.ref t), some (.ref kp), none, none, none, none, none, none, none, none, none] ∧ Same H H' ∧ H' kp = some (.lst (kept.map vS)) ∧ kp ≠ b ∧ kp ≠ t ∧ Box b c ns k H' ∧ H kp = none) (fun n hn => ?_) (fun σ1 H1 ⟨kp, eσ, s1, hkp, nkb, nkt, B1, kp0⟩ => ?_)
    · refine ⟨by show 16 ≤ sizeLine; decide, fun kp hkp => hn _ _ ⟨kp, rfl, same_new (fun _ _ h => h) hkp, ?_, (ne_of_none hob hkp).symm, (ne_of_none ht hkp).symm, B0.newK hkp, hkp⟩⟩
      rw [upd_same, ← kept_str]
    subst eσ
    have K1 : Keep b H H1 := fun p o _ e => s1 p o e
    -- letters
    refine seq_cut (fun σ' H' => σ' = [some (.ref b), some (.int m), some (.ref t), some (.ref kp), some (vS lets), none, none, none, none, none, none, none, none] ∧ H1 = H') (fun n hn => hn _ _ ⟨by rw [← lets_str]; rfl, rfl⟩) (fun σ' H' ⟨eσ, eH⟩ => ?_)
    subst eσ eH
    -- how
    refine seq_cut (fun σ' H' => ∃ how : Int, σ' = [some (.ref b), some (.int m), some (.ref t), some (.ref kp), some (vS lets), some (.int how), none, none, none, none, none, none, none] ∧ Keep b H1 H' ∧ Box b c ns (k + 1) H') (fun n hn => ?_) (fun σ2 H2 ⟨how, eσ, K2, B2⟩ => ?_)
    · exact ⟨_, rfl, b, c, ns, k, 4, rfl, B1, hk0, by omega, by decide, by decide, fun H' r _ _ B' K' => hn _ _ ⟨r, rfl, K', B'⟩⟩
    subst eσ
    have hll : (S lets).length ≤ sizeLine := by rw [S_len, lets_len]; decide
    have lett : ∀ i : Int, ∃ c, atI (S lets).cps.toList (i % 51) = some c ∧ isLet c = true := fun i => by
      have h0 : 0 ≤ i % 51 := Int.emod_nonneg _ (by decide)
      have h1 : i % 51 < 51 := Int.emod_lt_of_pos _ (by decide)
      obtain ⟨c, hc, e⟩ := at_sign lets h0 (by rw [lets_len]; exact h1)
      exact ⟨c, e, List.all_eq_true.mp lets_ok c hc⟩
    -- base
    refine seq_cut (fun σ' H' => ∃ bs : List Nat, σ' = [some (.ref b), some (.int m), some (.ref t), some (.ref kp), some (vS lets), some (.int how), none, some (vS bs), none, none, none, none, none] ∧ Keep b H1 H' ∧ Box b c ns (k + 16) H' ∧ bs.length = 15 ∧ bs.all isLet = true) (fun n hn => ?_) (fun σ3 H3 ⟨bs, eσ, K3, B3, lbs, abs⟩ => ?_)
    · refine ⟨⟨_, rfl⟩, 15, rfl, by decide, by decide, fun D hD => ?_⟩
      obtain ⟨ob2, hob2⟩ := B2.b
      have nDb : D ≠ b := (ne_of_none hob2 hD).symm
      refine lc_it walk_range (fun i H' => ∃ cs : List Nat, Keep b H2 H' ∧ Box b c ns (k + 1 + (i : Nat)) H' ∧ H' D = some (.lst ((cs.map fun c => [c]).map vS)) ∧ cs.length = i ∧ cs.all isLet = true)
        ⟨[], Keep.refl.new hD, by rw [show k + 1 + ((0 : Nat) : Int) = k + 1 by omega]; exact B2.newK hD, upd_same, rfl, rfl⟩ (fun _ _ _ _ => trivial) ?_ ?_
      · rintro i x H4 H5 hi ⟨cs, K4, B4, hD4, lc, ac⟩ ⟨rfl, rfl⟩
        refine ⟨rfl, ?_⟩
        rw [tYes, if_pos rfl]
        refine ⟨_, rfl, _, rfl, b, c, ns, _, 17, rfl, B4, by omega, by omega, by decide, by decide, fun H6 r r0 r1 B6 K6 => ?_⟩
        obtain ⟨cc, hcc, hl⟩ := lett (r * 3 + (0 + (i : Nat)))
        refine ⟨_, _, rfl, rfl, .inl ⟨by omega, by omega⟩, _, rfl, _, _, rfl, rfl, .inl ⟨_, rfl, _, _, rfl, rfl, by show (0 : Int) < 51; decide, _, _, cc, rfl, rfl, hll, hcc, ?_⟩⟩
        refine ⟨_, K6 _ _ nDb hD4, ?_, cs ++ [cc], ?_, ?_, ?_, ?_, ?_⟩
        · rw [List.length_map, List.length_map, lc]
          exact Nat.lt_of_le_of_lt (show _ ≤ 15 by omega) (by decide)
        · exact fun p o n e => by
            rw [upd_ne (ne_of_none e hD)]
            exact K6 _ _ n (K4 _ _ n e)
        · rw [show k + 1 + ((i + 1 : Nat) : Int) = k + 1 + (i : Nat) + 1 by omega]
          obtain ⟨oc, hoc⟩ := B2.c
          exact B6.putK nDb (ne_of_none hoc hD).symm
        · rw [upd_same, List.map_append, List.map_append]
          rfl
        · rw [List.length_append, lc]
          rfl
        · rw [List.all_append, ac]
          simp [hl]
      · rintro H4 ⟨cs, K4, B4, hD4, lc, ac⟩
        refine ⟨_, D, cs.map (fun c => S [c]), rfl, rfl, .inl (SqL.of ?_), ?_, ?_⟩
        · rw [hD4, List.map_map, List.map_map]
          rfl
        · rw [sum_ones, lc, show (Str.length ("" : Str)) = 0 from rfl, Nat.mul_zero]
          decide
        · have ej : Txt.join (S []) (cs.map fun c => S [c]) = S cs := by
            rw [show (cs.map fun c => S [c]) = (cs.map fun c => [c]).map S by rw [List.map_map]; rfl, SX.join_S, join_ones]
          refine hn _ _ ⟨cs, ?_, K2.trans K4, by rw [show k + 16 = k + 1 + ((15 : Nat) : Int) by omega]; exact B4, lc, ac⟩
          show List.set _ _ (some (V.str (Txt.join (S []) (cs.map fun c => S [c])))) = _
          rw [ej]
          rfl
    subst eσ
    have lbz : (S bs).length ≤ sizeLine := by rw [S_len, lbs]; decide
    let J : Nat → St → Hp → Prop := fun i σ H' => ∃ (nl : Addr) (x9 x10 x11 x12 : Option V) (nms : List (List Nat)) (k' : Int), σ = [some (.ref b), some (.int m), some (.ref t), some (.ref kp), some (vS lets), some (.int how), none, some (vS bs), some (.ref nl), x9, x10, x11, x12] ∧ Keep b H1 H' ∧ Box b c ns k' H' ∧ k + 16 ≤ k' ∧ k' ≤ k + 16 + 2 * (i : Nat) ∧
      H1 nl = none ∧ nl ≠ b ∧ nl ≠ c ∧ H' nl = some (.lst (nms.map vS)) ∧ nms.length = i ∧ good nms = true
    refine seq_cut (J 0) (fun n hn => ?_) (fun σ4 H4 hj => ?_)
    · refine ⟨Nat.zero_le _, fun nl hnl => ?_⟩
      obtain ⟨ob3, hob3⟩ := B3.b
      obtain ⟨oc3, hoc3⟩ := B3.c
      have n1 : nl ≠ b := (ne_of_none hob3 hnl).symm
      exact hn _ _ ⟨nl, none, none, none, none, [], k + 16, rfl, K3.new hnl, B3.newK hnl, by omega, by omega, keep_no K3 n1 hnl, n1, (ne_of_none hoc3 hnl).symm, upd_same, rfl, rfl⟩
    refine seq_cut (J m) (fun n hn => ?_) (fun σ5 H5 hj5 => ?_)
    · obtain ⟨nl, x9, x10, x11, x12, nms, k', rfl, hJ⟩ := hj
      refine ⟨_, rfl, _, rfl, by omega, by omega, ?_⟩
      rw [show ((m : Nat) : Int).toNat = m by omega]
      refine for_it walk_range J ⟨nl, x9, x10, x11, x12, nms, k', rfl, hJ⟩ (fun _ _ _ _ _ => trivial) ?_ (fun σ H' h => hn _ _ h)
      rintro i x σ H6 H7 hi ⟨nl, x9, x10, x11, x12, nms, k', rfl, K7, B7, hk1, hk2, nl0, nlb, nlc, hnl, lnm, gnm⟩ ⟨rfl, rfl⟩
      have hat : (0 : Int) + (i : Nat) = ((i : Nat) : Int) := by omega
      rw [show (fun i : Nat => V.int (0 + (i : Int))) i = V.int ((i : Nat) : Int) from congrArg V.int hat]
      let σs : V → Option V → Option V → Option V → St := fun ti x10 x11 x12 => [some (.ref b), some (.int m), some (.ref t), some (.ref kp), some (vS lets), some (.int how), none, some (vS bs), some (.ref nl), some ti, x10, x11, x12]
      -- tail
      refine seq_cut (fun σ' H' => ∃ tail : Int, 0 ≤ tail ∧ tail < 7 ∧ σ' = σs (.int (i : Nat)) (some (.int tail)) x11 x12 ∧ Keep b H7 H' ∧ Box b c ns (k' + 1) H') (fun n hn => ?_) (fun σ' H8 ⟨tail, ht0, ht7, eσ, K8, B8⟩ => ?_)
      · exact ⟨_, rfl, b, c, ns, k', 7, rfl, B7, by omega, by omega, by decide, by decide, fun H' r r0 r1 B' K' => hn _ _ ⟨r, r0, r1, rfl, K', B'⟩⟩
      subst eσ
      -- the first try
      refine seq_cut (fun σ' H' => ∃ cc : Nat, isLet cc = true ∧ σ' = σs (.int (i : Nat)) (some (.int tail)) (some (vS [cc])) x12 ∧ H8 = H') (fun n hn => ?_) (fun σ' H' ⟨cc, hcc, eσ, eH⟩ => ?_)
      · obtain ⟨cc, hcc, hl⟩ := lett (tail * 7 + (i : Nat) * 5)
        exact ⟨_, rfl, _, rfl, _, _, rfl, rfl, .inl ⟨by omega, by omega⟩, _, rfl, _, _, rfl, rfl, .inl ⟨by omega, by omega⟩, _, _, rfl, rfl, .inl ⟨_, rfl, _, _, rfl, rfl, by show (0 : Int) < 51; decide, _, _, cc, rfl, rfl, hll, hcc, hn _ _ ⟨cc, hl, rfl, rfl⟩⟩⟩
      subst eσ eH
      refine seq_cut (fun σ' H' => ∃ (name : List Nat) (k2 : Int), NameOk name ∧ σ' = σs (.int (i : Nat)) (some (.int tail)) (some (vS name)) x12 ∧ Keep b H7 H' ∧ Box b c ns k2 H' ∧ k' + 1 ≤ k2 ∧ k2 ≤ k' + 2) (fun n hn => ?_) (fun σ' H9 ⟨name, k2, nok, eσ, K9, B9, hk3, hk4⟩ => ?_)
      · have str_fin : ∀ (a d : List Nat) (H' : Hp) (k2 : Int), a ≠ [] → a.all isLet = true → d.all isInn = true → a.length + d.length ≤ 16 → Keep b H7 H' → Box b c ns k2 H' → k' + 1 ≤ k2 → k2 ≤ k' + 2 →
            (∃ x y : Str, vS a = .str x ∧ vS d = .str y ∧ x.length + y.length ≤ sizeLine ∧ n (σs (.int (i : Nat)) (some (.int tail)) (some (.str (x ++ y))) x12) H') := fun a d H' k2 h1 h2 h3 h4 h5 h6 h7 h8 => by
          refine ⟨_, _, rfl, rfl, ?_, ?_⟩
          · rw [S_len, S_len]
            exact Nat.le_trans h4 (by decide)
          · rw [S_cat]
            exact hn _ _ ⟨a ++ d, k2, nameOk_app h1 h2 h3 h4, rfl, h5, h6, h7, h8⟩
        refine ⟨_, rfl, rfl, _, rfl, ite2 (fun _ => ?_) (fun _ => ?_)⟩
        · -- how == 1
          obtain ⟨c0, hc0, e0⟩ := at_sign bs (i := 0) (by decide) (by omega)
          refine ⟨_, rfl, _, _, c0, rfl, rfl, lbz, e0, by show 7 ≤ sizeLine; decide, fun L hL => ?_⟩
          have m0 : 0 ≤ ((i : Nat) + tail) % 7 := Int.emod_nonneg _ (by decide)
          have m1 : ((i : Nat) + tail) % 7 < 7 := Int.emod_lt_of_pos _ (by decide)
          obtain ⟨sf, hsf, e⟩ := at_in sfx1 vS m0 (by exact m1)
          rw [← sfx1_str] at e
          obtain ⟨g1, g2⟩ := sfx1_ok sf hsf
          refine ⟨_, rfl, _, rfl, _, _, rfl, rfl, .inl ⟨_, rfl, _, _, rfl, rfl, by show (0 : Int) < 7; decide, L, _, _, vS sf, rfl, rfl, SqL.of upd_same, e, ?_⟩⟩
          exact str_fin [c0] sf _ _ (by simp) (by simp [List.all_eq_true.mp abs c0 hc0]) g1 (by simp; omega) (K8.new hL) (B8.newK hL) (by omega) (by omega)
        · refine ⟨_, rfl, rfl, _, rfl, ite2 (fun _ => ?_) (fun _ => ?_)⟩
          · -- how == 2
            obtain ⟨c0, hc0, e0⟩ := at_sign lets (i := tail * 7) (by omega) (by rw [lets_len]; omega)
            refine ⟨_, rfl, _, rfl, _, rfl, _, _, rfl, rfl, .inl ⟨by omega, by omega⟩, _, _, c0, rfl, rfl, hll, e0, ?_⟩
            exact str_fin bs [c0] _ _ (by intro z; rw [z] at lbs; cases lbs) abs (by simp [let_inn (List.all_eq_true.mp lets_ok c0 hc0)]) (by simp; omega) K8 B8 (by omega) (by omega)
          · refine ⟨_, rfl, rfl, _, rfl, ite2 (fun _ => ?_) (fun _ => ?_)⟩
            · -- how == 3
              have m0 : 0 ≤ ((i : Nat) : Int) % 9 := Int.emod_nonneg _ (by decide)
              have m1 : ((i : Nat) : Int) % 9 < 9 := Int.emod_lt_of_pos _ (by decide)
              obtain ⟨j, hj⟩ : ∃ j : Nat, ((i : Nat) : Int) % 9 = (j : Nat) := ⟨(((i : Nat) : Int) % 9).toNat, by omega⟩
              have e1 : cutS (S bs) (some (((i : Nat) : Int) % 9)) none = S (bs.drop j) := by rw [hj]; exact cutS_from bs (by omega)
              obtain ⟨jt, hjt⟩ : ∃ jt : Nat, (1 : Int) + tail = (jt : Nat) := ⟨(1 + tail).toNat, by omega⟩
              have e2 : cutS (S (bs.drop j)) none (some (1 + tail)) = S ((bs.drop j).take jt) := by rw [hjt]; exact cutS_to _ _
              refine ⟨_, rfl, _, rfl, .inl ⟨_, rfl, _, _, rfl, rfl, by show (0 : Int) < 9; decide, _, rfl, _, rfl, lbz, ?_⟩⟩
              rw [e1]
              refine ⟨_, rfl, _, _, rfl, rfl, _, rfl, _, rfl, by rw [S_len, List.length_drop]; exact Nat.le_trans (show _ ≤ 15 by omega) (by decide), ?_⟩
              rw [e2]
              refine ⟨by show 5 ≤ sizeLine; decide, fun L hL => ⟨_, rfl, b, c, ns, _, 5, rfl, B8.newK hL, by omega, by omega, by decide, by decide, fun H10 r r0 r1 B10 K10 => ?_⟩⟩
              obtain ⟨sf, hsf, e⟩ := at_in sfx3 vS r0 (by exact r1)
              rw [← sfx3_str] at e
              obtain ⟨g1, g2⟩ := sfx3_ok sf hsf
              obtain ⟨ob8, hob8⟩ := B8.b
              have hL10 := K10 _ _ (ne_of_none hob8 hL).symm upd_same
              refine ⟨L, _, _, vS sf, rfl, rfl, SqL.of hL10, e, ?_⟩
              refine str_fin ((bs.drop j).take jt) sf _ _ ?_ ?_ g1 ?_ ((K8.new hL).trans K10) B10 (by omega) (by omega)
              · intro z
                have := congrArg List.length z
                rw [List.length_take, List.length_drop, lbs] at this
                simp at this
                omega
              · exact List.all_eq_true.mpr fun x hx => List.all_eq_true.mp abs x (List.mem_of_mem_drop (List.mem_of_mem_take hx))
              · rw [List.length_take]
                omega
            · refine hn _ _ ⟨[cc], k' + 1, ⟨by simp, by simp, hcc, by simp [let_inn hcc]⟩, rfl, K8, B8, by omega, by omega⟩
      subst eσ
      have hnl9 := K9 _ _ nlb hnl
      have hkp9 := K9 _ _ nkb (K7 _ _ nkb hkp)
      have ht9 := K9 _ _ ntb (K7 _ _ ntb (s1 _ _ ht))
      have l60 : nms.length ≤ 60 := by omega
      obtain ⟨pl, hpl⟩ : ∃ pl : Nat, pl = if how = 3 then 8 else min (1 + i) 12 := ⟨_, rfl⟩
      have pl1 : 1 ≤ pl := by rw [hpl]; split <;> omega
      have pl2 : pl ≤ 12 := by rw [hpl]; split <;> omega
      have p1 : bs.take pl ≠ [] := fun z => by
        have := congrArg List.length z
        rw [List.length_take, lbs] at this
        simp at this
        omega
      have p2 : (bs.take pl).all isLet = true := List.all_eq_true.mpr fun x hx => List.all_eq_true.mp abs x (List.mem_of_mem_take hx)
      have p3 : (bs.take pl).length ≤ 12 := by rw [List.length_take]; omega
      generalize hpre : bs.take pl = pre at p1 p2 p3
      refine seq_cut (fun σ' H' => ∃ (name : List Nat) (x12 : Option V), NameOk name ∧ name ∉ nms ∧ name ∉ kept ∧ σ' = σs (.int (i : Nat)) (some (.int tail)) (some (vS name)) x12 ∧ H9 = H') (fun n hn => ?_) (fun σ' H' ⟨name, x12, nok, nin, nik, eσ, eH⟩ => ?_)
      · refine ⟨_, rfl, by decide, by decide, ?_⟩
        refine for_it walk_range (fun tn σ H' => ∃ (name : List Nat) (x12 : Option V), σ = σs (.int (i : Nat)) (some (.int tail)) (some (vS name)) x12 ∧ H9 = H' ∧ NameOk name ∧ (1 ≤ tn → name = fb pre (tn - 1)) ∧ ∀ j, j + 1 < tn → fb pre j ∈ nms)
          ⟨name, x12, rfl, rfl, nok, fun h => by omega, fun j h => by omega⟩ (fun _ _ _ _ _ => trivial) ?_ ?_
        · rintro tn x σ H10 H11 htn ⟨name, x12, rfl, rfl, nok, hfb, hall⟩ ⟨rfl, rfl⟩
          have hat2 : (0 : Int) + (tn : Nat) = ((tn : Nat) : Int) := by omega
          rw [show (fun i : Nat => V.int (0 + (i : Int))) tn = V.int ((tn : Nat) : Int) from congrArg V.int hat2]
          have htn80 : tn < 80 := htn
          have mem1 : (!inV (vS name) (nms.map vS)) = decide (name ∉ nms) := by
            rw [inV_vS]
            by_cases h : name ∈ nms
            · simp [h]
            · have : (nms.any fun k => k == name) = false := by
                rw [List.any_eq_false]
                intro x hx e
                exact h ((beq_iff_eq.mp e) ▸ hx)
              rw [this]
              simp [h]
          have mem2 : (!inV (vS name) (kept.map vS)) = decide (name ∉ kept) := by
            rw [inV_vS]
            by_cases h : name ∈ kept
            · rw [decide_eq_false (by simpa using h)]
              have : (kept.any fun k => k == name) = true := by
                rw [List.any_eq_true]
                exact ⟨name, h, beq_self_eq_true _⟩
              rw [this]
              rfl
            · have : (kept.any fun k => k == name) = false := by
                rw [List.any_eq_false]
                intro x hx e
                exact h ((beq_iff_eq.mp e) ▸ hx)
              rw [this, decide_eq_true h]
              rfl
          refine seq_cut (fun σ' H' => σ' = σs (.int (i : Nat)) (some (.int tail)) (some (vS name)) (some (.int (tn : Nat))) ∧ H11 = H' ∧ (name ∈ nms ∨ name ∈ kept)) (fun n2 hn2 => ?_) (fun σ' H' ⟨eσ, eH, hin⟩ => ?_)
          · refine ⟨_, rfl, _, rfl, nl, _, rfl, .inl (SqL.of hnl9), rfl, flat_vS nms, _, rfl, ?_⟩
            rw [if_pos rfl, mem1]
            refine ite2 (fun h1 => ?_) (fun h1 => hn2 _ _ ⟨rfl, rfl, .inl (by simpa using h1)⟩)
            refine ⟨_, rfl, _, rfl, kp, _, rfl, .inl (SqL.of hkp9), rfl, flat_vS kept, _, rfl, ?_⟩
            rw [if_pos rfl, mem2]
            refine ite2 (fun h2 => ?_) (fun h2 => hn2 _ _ ⟨rfl, rfl, .inr (by simpa using h2)⟩)
            refine ⟨_, rfl, _, rfl, t, _, rfl, .inl (SqL.of ht9), rfl, rfl, _, rfl, ?_⟩
            exact hn _ _ ⟨name, _, nok, of_decide_eq_true h1, of_decide_eq_true h2, rfl, rfl⟩
          subst eσ eH
          have nxt1 : ∀ x12 : Option V, ∃ (name : List Nat) (x12' : Option V), σs (.int (i : Nat)) (some (.int tail)) (some (vS (fb pre tn))) x12 = σs (.int (i : Nat)) (some (.int tail)) (some (vS name)) x12' ∧ H11 = H11 ∧ NameOk name ∧ (1 ≤ tn + 1 → name = fb pre (tn + 1 - 1)) ∧ ∀ j, j + 1 < tn + 1 → fb pre j ∈ nms := fun x12 => by
            refine ⟨fb pre tn, x12, rfl, rfl, fb_ok p1 p2 p3 htn80, fun _ => rfl, fun j hj => ?_⟩
            by_cases hjt : j + 1 < tn
            · exact hall j hjt
            · have e1 : tn - 1 = j := by omega
              have e2 := hfb (by omega)
              rw [e1] at e2
              rcases hin with h | h
              · rw [← e2]; exact h
              · exact absurd h (by rw [e2]; exact fb_kept pre j)
          have cat : V.str (S pre ++ ("_" : Str) ++ toString ((tn : Nat) : Int)) = vS (fb pre tn) := by
            have e1 : (toString ((tn : Nat) : Int) : Str) = S (figs tn) := (SX.S_tl _).symm
            rw [e1, show ("_" : Str) = S [95] from by decide +kernel, S_cat, S_cat]
            rfl
          have lg : ((tn : Nat) : Int).natAbs.log2 < 1920 := by
            rw [Int.natAbs_natCast]
            exact Nat.lt_of_le_of_lt (Nat.log2_le_self _) (by omega)
          have sz1 : (S pre).length + Str.length ("_" : Str) ≤ sizeLine := by
            rw [S_len]
            exact Nat.le_trans (show _ ≤ 13 by have : Str.length ("_" : Str) = 1 := by decide +kernel
                                               omega) (by decide)
          have sz2 : (S pre ++ ("_" : Str)).length + (toString ((tn : Nat) : Int) : Str).length ≤ sizeLine := by
            have e1 : (toString ((tn : Nat) : Int) : Str) = S (figs tn) := (SX.S_tl _).symm
            rw [e1, show ("_" : Str) = S [95] from by decide +kernel, S_cat, S_len, S_len, List.length_append]
            have := (figs_ok tn htn80).2
            exact Nat.le_trans (show _ ≤ 15 by simp only [List.length_singleton]; omega) (by decide)
          have done : ∀ σ0 : St, σ0 = σs (.int (i : Nat)) (some (.int tail)) (some (vS name)) (some (.int (tn : Nat))) → ∃ (name : List Nat) (x12 : Option V), List.set σ0 11 (some (V.str (S pre ++ ("_" : Str) ++ toString ((tn : Nat) : Int)))) = σs (.int (i : Nat)) (some (.int tail)) (some (vS name)) x12 ∧ H11 = H11 ∧ NameOk name ∧ (1 ≤ tn + 1 → name = fb pre (tn + 1 - 1)) ∧ ∀ j, j + 1 < tn + 1 → fb pre j ∈ nms := fun σ0 e0 => by
            obtain ⟨nm', x', e1, e2, rest⟩ := nxt1 (some (.int (tn : Nat)))
            refine ⟨nm', x', ?_, e2, rest⟩
            rw [← e1, cat, e0]
            rfl
          refine ⟨_, rfl, _, rfl, rfl, _, rfl, ite2 (fun h => ?_) (fun h => ?_)⟩
          · have h3 : how = 3 := by
              have : V.int how = V.int 3 := of_decide_eq_true h
              injection this
            refine ⟨((pl : Nat) : Int), congrArg V.int (by rw [hpl, if_pos h3]; rfl), _, rfl, lbz, ?_⟩
            rw [cutS_to, hpre]
            exact ⟨_, _, rfl, rfl, sz1, _, rfl, _, rfl, lg, _, _, rfl, rfl, sz2, done _ rfl⟩
          · have h3 : ¬ how = 3 := fun z => h (by rw [z]; rfl)
            refine ⟨_, rfl, _, _, rfl, rfl, _, _, rfl, ((pl : Nat) : Int), congrArg V.int (by rw [hpl, if_neg h3]; omega), _, rfl, lbz, ?_⟩
            rw [cutS_to, hpre]
            exact ⟨_, _, rfl, rfl, sz1, _, rfl, _, rfl, lg, _, _, rfl, rfl, sz2, done _ rfl⟩
        · rintro σ H10 ⟨name, x12, rfl, rfl, nok, hfb, hall⟩
          exact absurd hall (not_all_fb l60)
      subst eσ eH
      -- names.append(name)
      refine ⟨_, rfl, .inl ⟨rfl, _, SqL.of hnl9⟩, _, rfl, nl, _, _, rfl, rfl, hnl9, ?_, ?_⟩
      · rw [List.length_map]
        exact Nat.lt_of_le_of_lt l60 (by decide)
      · refine ⟨nl, _, _, _, _, nms ++ [name], k2, rfl, fun p o np e => ?_, B9.putK nlb nlc, by omega, by omega, nl0, nlb, nlc, ?_, ?_, ?_⟩
        · rw [upd_ne (ne_of_none e nl0)]
          exact K9 _ _ np (K7 _ _ np e)
        · rw [upd_same, List.map_append]
          rfl
        · rw [List.length_append, lnm]
          rfl
        · have g1 := (Bool.and_eq_true_iff.mp gnm).1
          have g2 := of_decide_eq_true (Bool.and_eq_true_iff.mp gnm).2
          rw [good, List.all_append, g1, decide_eq_true]
          · simp [isName_of nok nik]
          · exact List.nodup_append.mpr ⟨g2, by simp, fun a ha b hb => by
              have : b = name := by simpa using hb
              subst this
              intro z
              subst z
              exact nin ha⟩
    obtain ⟨nl, x9, x10, x11, x12, nms, k', rfl, K7, B7, hk1, hk2, nl0, nlb, nlc, hnl, lnm, gnm⟩ := hj5
    exact ⟨_, rfl, q _ nl nms k' (K1.trans K7) (sn s1 nl0) hnl lnm gnm B7 (by omega) (by omega)⟩
end
end T80
namespace T80
open PySem L2 GK
open SX (S S_inj S_beq S_len S_cat split_S)
abbrev s_law_ref : Stmt := top 32
abbrev N_law_ref : List Str := ["knobs", "depth", "rows", "wrong"]
theorem scRf : FnScope N_law_ref ["knobs", "depth"] (defScope s_law_ref) := ⟨rfl, rfl, rfl, by decide +kernel, rfl, by decide +kernel, by decide +kernel⟩
def spRfOk : Sp := fun vs H Q _ => ∃ (ra : List (Addr × HO)) (ws : List (List V)), spOw vs H ra ws ∧ (∀ q ∈ ra, H q.1 = some q.2 ∧ Lean1 q.2) ∧ ws.length < sizeLine ∧ ∀ (H' : Hp) (t : Addr), Same H H' → H t = none → H' t = some (.tup [.str "let", .int ws.length]) → Q (.ref t) H'
def ER (CB CM : Addr) (Q : VK) (H : Hp) : XK := fun cls d H1 => Same H H1 ∧
  ((cls = .ref CB ∧ ∃ (dd : Addr) (x : Str), d = some dd ∧ x ≠ "" ∧ H1 dd = some (.xd [("why", .str x)]) ∧ ∀ (H' : Hp) (t : Addr), Same H H' → H t = none → H' t = some (.tup [.str "name", .bl true]) → Q (.ref t) H') ∨
   (cls = .ref CM ∧ ∃ (dd : Addr) (x : Str) (n : Int), d = some dd ∧ H1 dd = some (.xd [("most", .int n), ("what", .str x)]) ∧ ∀ (H' : Hp) (t : Addr), Same H H' → H t = none → H' t = some (.tup [.str "many", .str x, .int n]) → Q (.ref t) H'))
def spRfX (CB CM : Addr) : Sp := fun vs H Q _ => spOwX CB CM vs H (fun _ _ => False) (ER CB CM Q H)
theorem spChk_mono {CB CM : Addr} {vs : List V} {H : Hp} {Q Q' : VK} {E E' : XK} (h : spChk CB CM vs H Q E) (hQ : ∀ v H', Q v H' → Q' v H') (hE : ∀ cls d H', E cls d H' → E' cls d H') : spChk CB CM vs H Q' E' := by
  obtain ⟨v, ev, h⟩ := h
  refine ⟨v, ev, ?_⟩
  rcases h with ⟨ns, h1, h2, h3, h4, h5, h6⟩ | ⟨h1, h2⟩
  · exact .inl ⟨ns, h1, h2, h3, fun a b H' t c d e => hQ _ _ (h4 a b H' t c d e), fun a b H' t c d e => hE _ _ _ (h5 a b H' t c d e), fun a H' d x c e f g => hE _ _ _ (h6 a H' d x c e f g)⟩
  · exact .inr ⟨h1, fun H' d x a b c e => hE _ _ _ (h2 H' d x a b c e)⟩
theorem spOwX_mono {CB CM : Addr} {vs : List V} {H : Hp} {Q Q' : List V → Hp → Prop} {E E' : XK} (h : spOwX CB CM vs H Q E) (hE : ∀ cls d H', E cls d H' → E' cls d H') : spOwX CB CM vs H Q' E' := by
  obtain ⟨v, n, ev, h⟩ := h
  exact ⟨v, n, ev, spChk_mono h (fun _ _ q => ⟨q.1, fun H' d a b c => hE _ _ _ (q.2 H' d a b c)⟩) hE⟩
/-- the generator def when it refuses -/
structure XCl (P : Program) (w : World) (K : PySem.W.Frag) (mg : Str → Option Value) (base : Heap) (x : Str) (k : Nat) (ps : List Str) (sp : SpG) : Prop where
  ex : ∃ (f : Addr) (fd : FuncData), mg x = some (.ref f) ∧ GFn P w K mg base k f fd ps sp ∧ PySem.W.keepIn K (.ref f) = true ∧ Binds K fd ps []
structure TRf (K : PySem.W.Frag) (mg : Str → Option Value) (CB CM : Addr) : Prop where
  len : mg "len" = none
  list : mg "list" = none
  str : mg "str" = none
  isinstance : mg "isinstance" = none
  gB : mg "BadName" = some (.ref CB)
  gM : mg "TooMany" = some (.ref CM)
  xB : XfC K CB
  xM : XfC K CM
  nW : PySem.W.findIn K (.ref CB) "why" = some none
  nA : PySem.W.findIn K (.ref CM) "what" = some none
  nO : PySem.W.findIn K (.ref CM) "most" = some none
  eBB : PySem.W.exmOne K (.ref CB) (.ref CB) = some true
  eMB : PySem.W.exmOne K (.ref CM) (.ref CB) = some false
  eMM : PySem.W.exmOne K (.ref CM) (.ref CM) = some true
  sB : PySem.W.subIn K (.ref CB) (.type "StopIteration") = some false
  sM : PySem.W.subIn K (.ref CM) (.type "StopIteration") = some false
section
variable {P : Program} {w : World} {K : PySem.W.Frag} {mg : Str → Option Value} {base : Heap}
theorem ok_rfOk {f CB CM : Addr} {fd : FuncData} (F : Fun K "_law_refused" "_law_refused" s_law_ref f fd) (T : TRf K mg CB CM) (c_ow : GCl P w K mg base "own_words" 5 ["knobs", "depth"] false spOw) : FnOk P w K mg base CX0 9 f fd ["knobs", "depth"] spRfOk := by
  refine F.ok scRf (fun vs H Q E h => ?_) (fun cdv A outer s H vs Q E hr h => ?_)
  · obtain ⟨ra, ws, ⟨v, d, _, _, rfl, _⟩, _⟩ := h
    rfl
  · obtain ⟨ra, ws, hs, hra, hsz, q⟩ := h
    obtain ⟨v, d, _, _, rfl, _⟩ := id hs
    have nd := scRf.nd
    have hr5 : Room 5 _ := hr.mono (by decide)
    refine ⟨_, pss_cons (ps_try_thru0 (pss_one (ps_set (i := 2) nd rfl (Or.inl rfl) (pe_listN (k := 5) rfl hr (pgn_cl c_ow hr5 (by rfl) (pa_cons (pv 0) (pa_cons (pv 1) pa_nil))) (by rfl) T.list (by decide +kernel)))))
      (pss_one (ps_ret (pe_tup (pa_cons pe_str (pa_cons (pe_callB call_len_seq (by rfl) T.len PySem.boot_len (pa_cons (pv 2) pa_nil)) pa_nil))))), ?_⟩
    refine ⟨_, rfl, _, rfl, ra, ws, hs, hra, hsz, fun ps S H2 told hS => ?_⟩
    refine ⟨_, rfl, S, _, rfl, .inl (SqL.of upd_same), by show 2 ≤ sizeLine; decide, fun t ht => ?_⟩
    have s1 : Same H (upd H2 S (.lst (ps.map V.ref))) := same_new told.same hS
    refine q _ t (same_new s1 ht) (sn s1 ht) ?_
    rw [upd_same, List.length_map, told.len]
theorem ok_rfX {f CB CM : Addr} {fd : FuncData} (F : Fun K "_law_refused" "_law_refused" s_law_ref f fd) (T : TRf K mg CB CM) (c_owx : XCl P w K mg base "own_words" 5 ["knobs", "depth"] (spOwX CB CM)) : FnOk P w K mg base CX0 9 f fd ["knobs", "depth"] (spRfX CB CM) := by
  obtain ⟨fo, fdo, mo, Go, ko, bo⟩ := c_owx.ex
  refine F.ok scRf (fun vs H Q E h => ?_) (fun cdv A outer s H vs Q E hr h => ?_)
  · obtain ⟨v, d, rfl, _⟩ := h
    rfl
  · obtain ⟨v, d, rfl, _⟩ := id h
    have nd := scRf.nd
    have hr5 : Room 5 _ := hr.mono (by decide)
    refine ⟨_, pss_cons (ps_try_manyAs nd rfl rfl takes_none5
        (fun W pn xe tk _ => pss_one (ps_set (i := 2) nd rfl (Or.inl rfl) (pe_listG (k := 5) (E := fun cls d H1 => (cls = .ref CB ∨ cls = .ref CM) ∧ ∀ σ : L2.St, σ.length = 4 → W cls d σ H1)
          (pgen_call Go hr5 (by rfl) mo ko bo .nil (pa_cons (pv 0) (pa_cons (pv 1) pa_nil)))
          (fun _ σ _ _ e s' I c => tk e s' (XE.of_call I (fun cls d H' h => h.2 σ (by rw [I.len]; rfl)) c)) (fun cls d H1 h => by rcases h.1 with rfl | rfl; exact T.sB; exact T.sM) hr (by rfl) T.list (by decide +kernel))))
        (.cons (i := 3) rfl rfl ⟨rfl, by decide, .inl T.gB⟩ (fun a oe cls d pn hz hf => pss_one (ps_ret (pe_tup (pa_cons pe_str (pa_cons (pe_and (pe_callB (show CallR _ _ (rIsi K) from call_isi) (by rfl) T.isinstance (by decide +kernel) (pa_cons (pe_xf T.xB T.nW hz hf (pv 3)) (pa_cons (pe_bltn (v := .ty "str") (u := .type "str") (by rfl) T.str (by decide +kernel) rfl) pa_nil))) (pe_one (pe_cmpR op_ne (pe_xf T.xB T.nW hz hf (pv 3)) pe_str (nomark _)))) pa_nil)))))
        (.cons (i := 3) rfl rfl ⟨rfl, by decide, .inl T.gM⟩ (fun a oe cls d pn hz hf => pss_one (ps_ret (pe_tup (pa_cons pe_str (pa_cons (pe_xf T.xM T.nA hz hf (pv 3)) (pa_cons (pe_xf T.xM T.nO hz hf (pv 3)) pa_nil)))))) .nil)))
      pss_never, ?_⟩
    refine ⟨_, rfl, _, rfl, ?_⟩
    dsimp only [tNil]
    change spOwX CB CM [v, .int d] H _ _
    refine spOwX_mono h fun cls d' H1 ⟨s1, hx⟩ => ⟨?_, fun σ hσ => ?_⟩
    · rcases hx with ⟨e, _⟩ | ⟨e, _⟩
      · exact .inl e
      · exact .inr e
    · obtain ⟨y0, y1, y2, y3, rfl⟩ : ∃ y0 y1 y2 y3, σ = [y0, y1, y2, y3] := by
        match σ, hσ with
        | [y0, y1, y2, y3], _ => exact ⟨y0, y1, y2, y3, rfl⟩
      rcases hx with ⟨rfl, dd, x, rfl, hne, hdd, q⟩ | ⟨rfl, dd, x, n, rfl, hdd, q⟩
      · refine ⟨true, T.eBB, fun _ a ha => ?_, fun z => Bool.noConfusion z⟩
        refine ⟨_, rfl, rfl, rfl, dd, _, .str x, rfl, hdd, rfl, ?_⟩
        refine ⟨_, _, .type "str", _, true, rfl, .ty _, .base (.str x), kit_ty (by decide +kernel), _, rfl, iteT ?_⟩
        refine ⟨_, rfl, rfl, rfl, dd, _, .str x, rfl, hdd, rfl, rfl, ?_⟩
        have hb : (!decide (V.str x = V.str "")) = true := by
          rw [decide_eq_false (fun z => hne (by injection z))]
          rfl
        rw [hb]
        exact ⟨by show 2 ≤ sizeLine; decide, fun t ht => q _ t (same_new s1 ht) (sn s1 ht) upd_same⟩
      · refine ⟨false, T.eMB, fun z => Bool.noConfusion z, fun _ => ⟨true, T.eMM, fun _ a ha => ?_, fun z => Bool.noConfusion z⟩⟩
        refine ⟨_, rfl, rfl, rfl, dd, _, .str x, rfl, hdd, rfl, ?_⟩
        refine ⟨_, rfl, rfl, rfl, dd, _, .int n, rfl, hdd, rfl, ?_⟩
        exact ⟨by show 3 ≤ sizeLine; decide, fun t ht => q _ t (same_new s1 ht) (sn s1 ht) upd_same⟩
end
end T80
namespace T80
open PySem L2 GK
open SX (S S_inj S_beq S_len S_cat split_S)
theorem good_sub {l ns : List (List Nat)} (h : l.Sublist ns) (g : good ns = true) : good l = true := by
  obtain ⟨g1, g2⟩ := Bool.and_eq_true_iff.mp g
  rw [good, decide_eq_true ((of_decide_eq_true g2).sublist h), List.all_eq_true.mpr fun x hx => List.all_eq_true.mp g1 x (h.subset hx)]
  rfl
theorem good_mem {ns : List (List Nat)} (g : good ns = true) {x : List Nat} (hx : x ∈ ns) : isName x = true := List.all_eq_true.mp (Bool.and_eq_true_iff.mp g).1 x hx
theorem not_good_mem {ns : List (List Nat)} {x : List Nat} (hx : x ∈ ns) (h : isName x = false) : good ns = false := by
  cases e : good ns with
  | false => rfl
  | true => rw [good_mem e hx] at h; cases h
theorem isName_len {a : List Nat} (h : isName a = true) : a.length ≤ 16 := by
  simp only [isName, Bool.and_eq_true, decide_eq_true_eq] at h
  exact h.1.1.1.2
theorem isName_ne {a : List Nat} (h : isName a = true) : a ≠ [] := by
  intro z
  subst z
  cases h
theorem isName_inn {a : List Nat} (h : isName a = true) : a.all isInn = true := by
  simp only [isName, Bool.and_eq_true] at h
  exact h.2
theorem no_space {a : List Nat} (h : isName a = true) : 32 ∉ a := fun hm => by
  have := List.all_eq_true.mp (isName_inn h) 32 hm
  revert this
  decide
theorem joinL_len : ∀ {s : Nat} {ks : List (List Nat)}, (∀ x ∈ ks, x.length ≤ 16) → ∀ sep : List Nat, sep.length ≤ s → (TL.joinL sep ks).length ≤ ks.length * (16 + s)
  | _, [], _, _, _ => Nat.zero_le _
  | s, [p], h, sep, hs => by
    have := h p (by simp)
    rw [TL.joinL]
    simp only [List.length_cons, List.length_nil]
    omega
  | s, p :: q :: r, h, sep, hs => by
    have h1 := h p (by simp)
    have h2 := joinL_len (ks := q :: r) (fun x hx => h x (List.mem_cons_of_mem _ hx)) sep hs
    rw [TL.joinL, List.length_append, List.length_append]
    simp only [List.length_cons] at h2 ⊢
    rw [Nat.add_mul, Nat.one_mul]
    omega
theorem joinL_snoc (sep x : List Nat) : ∀ {ks : List (List Nat)}, ks ≠ [] → TL.joinL sep (ks ++ [x]) = TL.joinL sep ks ++ (sep ++ x)
  | [], h => absurd rfl h
  | [p], _ => rfl
  | p :: q :: r, _ => by
    have := joinL_snoc sep x (ks := q :: r) (by simp)
    rw [List.cons_append, List.cons_append, TL.joinL, ← List.cons_append, this, TL.joinL]
    simp [List.append_assoc]
/-- what is refused as no list of names, whatever the depth -/
def Bad (H : Hp) (v : V) : Prop := (∃ ns, Src H v ns ∧ ns.length ≤ 1000 ∧ (∀ x ∈ ns, x.length ≤ 1000) ∧ good ns = false) ∨ v = .non ∨ ∃ i, v = .int i
theorem src_same {H H' : Hp} {v : V} {ns : List (List Nat)} (h : Src H v ns) (s : Same H H') : Src H' v ns := by
  rcases h with h | ⟨p, h1, h2, u, h3, h4⟩
  · exact .inl h
  · refine .inr ⟨p, h1, h2, u, h3, ?_⟩
    rcases h4 with h | ⟨o, h⟩
    · exact .inl (s _ _ h)
    · exact .inr ⟨o, s _ _ h⟩
theorem bad_same {H H' : Hp} {v : V} (h : Bad H v) (s : Same H H') : Bad H' v := by
  rcases h with ⟨ns, h1, h2⟩ | h
  · exact .inl ⟨ns, src_same h1 s, h2⟩
  · exact .inr h
theorem rf_bad {CB CM : Addr} {H : Hp} {v : V} {n : Int} {Q : VK} (h : Bad H v) (q : ∀ (H' : Hp) (t : Addr), Same H H' → H t = none → H' t = some (.tup [.str "name", .bl true]) → Q (.ref t) H') : spRfX CB CM [v, .int n] H Q E0 := by
  refine ⟨v, n, rfl, v, rfl, ?_⟩
  have out : ∀ (H' : Hp) (d : Addr) (x : Str), x ≠ "" → Same H H' → H d = none → H' d = some (.xd [("why", .str x)]) → ER CB CM Q H (.ref CB) (some d) H' := fun H' d x hx s d0 hd => ⟨s, .inl ⟨rfl, d, x, rfl, hx, hd, q⟩⟩
  rcases h with ⟨ns, h1, h2, h3, h4⟩ | h
  · exact .inl ⟨ns, h1, h2, h3, (fun hg => by rw [h4] at hg; cases hg), (fun hg => by rw [h4] at hg; cases hg), fun _ => out⟩
  · exact .inr ⟨h, out⟩
theorem rf_many {CB CM : Addr} {H : Hp} {v : V} {ns : List (List Nat)} {n : Int} {Q : VK} (hs : Src H v ns) (hl : ns.length ≤ 1000) (hg : good ns = true) (h6 : 6 < ns.length) (q : ∀ (H' : Hp) (t : Addr), Same H H' → H t = none → H' t = some (.tup [.str "many", .str "knobs", .int 6]) → Q (.ref t) H') : spRfX CB CM [v, .int n] H Q E0 := by
  refine ⟨v, n, rfl, v, rfl, .inl ⟨ns, hs, hl, good_len hg, fun _ h => absurd h (by omega), fun _ _ H' d s d0 hd => ⟨s, .inr ⟨rfl, d, _, _, rfl, hd, q⟩⟩, fun h => by rw [hg] at h; cases h⟩⟩
theorem rf_deep {CB CM : Addr} {H : Hp} {v : V} {ns : List (List Nat)} {n : Int} {Q : VK} (hs : Src H v ns) (hg : good ns = true) (h6 : ns.length ≤ 6) (hn : 12 < n) (q : ∀ (H' : Hp) (t : Addr), Same H H' → H t = none → H' t = some (.tup [.str "many", .str "depth", .int 12]) → Q (.ref t) H') : spRfX CB CM [v, .int n] H Q E0 := by
  refine ⟨v, n, rfl, v, rfl, .inl ⟨ns, hs, by omega, good_len hg, fun _ _ H1 t s1 t0 ht => ⟨hn, fun H' d s d0 hd => ⟨s1.trans s, .inr ⟨rfl, d, _, _, rfl, hd, q⟩⟩⟩, fun _ h => absurd h (by omega), fun h => by rw [hg] at h; cases h⟩⟩
theorem sm_tup {K : PySem.W.Frag} {H : Hp} {t t2 : Addr} {xs : List V} {ds : List PyData} {Q : VK} (h1 : H t = some (.tup xs)) (h2 : H t2 = some (.tup xs)) (a : DpAll K H xs ds) (ok : okD 2 (.tuple ds) = true) (q : ∀ H' : Hp, Same H H' → Q (.bl true) H') : spSm K 2 [.ref t, .ref t2] H Q E0 :=
  ⟨_, _, _, rfl, .tup (SqT.of h1) a, .tup (SqT.of h2) a, ok, q⟩
theorem cutV_names (ns : List (List Nat)) {i : Nat} : cutV (ns.map vS) none (some (i : Int)) = (ns.take i).map vS := by
  unfold cutV
  rw [List.length_map, HT.sIx_none, HT.sIx_nat, List.drop_zero, Nat.sub_zero, List.map_take, ← List.length_map (f := vS), ← List.take_eq_take_min]
theorem rest_nil (ns : List (List Nat)) (d i : Nat) : rest ns (fun _ => []) d i = [] := by
  rw [rest]
  simp
theorem sum_len : ∀ ys : List (List Nat), (∀ x ∈ ys, x.length ≤ 20) → ((ys.map S).map (·.length)).sum ≤ ys.length * 20
  | [], _ => Nat.le_refl _
  | y :: r, h => by
    have h1 := sum_len r fun x hx => h x (List.mem_cons_of_mem _ hx)
    have h2 := h y List.mem_cons_self
    simp only [List.map_cons, List.sum_cons, List.length_cons, S_len]
    have h3 : ((r.map S).map (·.length)).sum ≤ r.length * 20 := h1
    omega
theorem words_join {sep : List Nat} {ks : List (List Nat)} (hne : ks ≠ []) (hk : ∀ x ∈ ks, isName x = true) : wordsOf (TL.joinL [32] ks) = ks := by
  rw [wordsOf, SX.spl_join hne fun p hp => no_space (hk p hp), List.filter_eq_self]
  intro x hx
  simp [isName_ne (hk x hx)]
theorem bad_int {ks : List (List Nat)} (hne : ks ≠ []) (hk : ∀ x ∈ ks, isName x = true) (hl : ks.length ≤ 6) : ∀ H : Hp, Bad H (vS (TL.joinL [32] ks ++ [32, 105, 110, 116])) := fun H => by
  have e : TL.joinL [32] ks ++ [32, 105, 110, 116] = TL.joinL [32] (ks ++ [[105, 110, 116]]) := (joinL_snoc [32] [105, 110, 116] hne).symm
  have hsp : ∀ p ∈ ks ++ [[105, 110, 116]], 32 ∉ p := fun p hp => by
    rcases List.mem_append.mp hp with h | h
    · exact no_space (hk p h)
    · have : p = [105, 110, 116] := by simpa using h
      subst this
      decide
  have ew : wordsOf (TL.joinL [32] (ks ++ [[105, 110, 116]])) = ks ++ [[105, 110, 116]] := by
    rw [wordsOf, SX.spl_join (by simp) hsp, List.filter_eq_self]
    intro x hx
    rcases List.mem_append.mp hx with h | h
    · simp [isName_ne (hk x h)]
    · have : x = [105, 110, 116] := by simpa using h
      subst this
      rfl
  have hj := joinL_len (s := 1) (fun x hx => isName_len (hk x hx)) [32] (by decide)
  refine .inl ⟨ks ++ [[105, 110, 116]], .inl ⟨_, rfl, ?_, by rw [e, ew]⟩, ?_, ?_, not_good_mem (x := [105, 110, 116]) (by simp) (by decide +kernel)⟩
  · rw [List.length_append]
    have : ks.length * (16 + 1) ≤ 6 * 17 := Nat.mul_le_mul hl (by decide)
    simp only [List.length_cons, List.length_nil]
    omega
  · rw [List.length_append]
    simp only [List.length_cons, List.length_nil]
    omega
  · intro x hx
    rcases List.mem_append.mp hx with h | h
    · exact Nat.le_trans (isName_len (hk x h)) (by decide)
    · have : x = [105, 110, 116] := by simpa using h
      subst this
      decide
/-! ### the law's refusals -/
abbrev s_law_err : Stmt := top 33
abbrev N_law_err : List Str := ["knobs", "more", "depth", "seven", "wrong"]
theorem scEr : FnScope N_law_err ["knobs", "more", "depth"] (defScope s_law_err) := ⟨rfl, rfl, rfl, by decide +kernel, rfl, by decide +kernel, by decide +kernel⟩
def spEr : Sp := fun vs H Q _ => ∃ (p r : Addr) (ks ms : List (List Nat)) (d : Nat), vs = [.ref p, .ref r, .int d] ∧ H p = some (.lst (ks.map vS)) ∧ H r = some (.lst (ms.map vS)) ∧ good (ks ++ ms) = true ∧ ks.length + ms.length = 13 ∧ 1 ≤ ks.length ∧ ks.length ≤ 6 ∧ d ≤ 12 ∧ ∀ H' : Hp, Same H H' → Q (.bl true) H'
section
variable {P : Program} {w : World} {K : PySem.W.Frag} {mg : Str → Option Value} {base : Heap}
theorem ok_er {f CB CM : Addr} {fd : FuncData} (F : Fun K "_law_errors" "_law_errors" s_law_err f fd) (T : TLaw mg) (c__law_same : Cl P w K mg base CX0 "_law_same" 2 ["told", "due"] (spSm K 2)) (c_rfX : Cl P w K mg base CX0 "_law_refused" 9 ["knobs", "depth"] (spRfX CB CM)) (c_rfOk : Cl P w K mg base CX0 "_law_refused" 9 ["knobs", "depth"] spRfOk) :
    FnOk P w K mg base CX0 10 f fd ["knobs", "more", "depth"] spEr := by
  refine F.ok scEr (fun vs H Q E h => ?_) (fun cdv A outer s H vs Q E hr h => ?_)
  · obtain ⟨p, r, ks, ms, d, rfl, _⟩ := h
    rfl
  · obtain ⟨p, r, ks, ms, d, rfl, hp, hr', hg, h13, hk1, hk6, hd, q⟩ := h
    have nd := scEr.nd
    have hr2 : Room 2 _ := hr.mono (by decide)
    refine ⟨_, (pss_cons (ps_set (i := 3) nd rfl (Or.inl rfl) (pe_op op_cat (pv 0) (pe_slice sl_list (pv 1) po_none (po_some (pe_op op_sub pe_int (pe_callB call_len_seq (by rfl) T.len (by decide +kernel) (pa_cons (pv 0) pa_nil)))))))
    (pss_cons (ps_if (pt_not (pt_val (pe_cl c__law_same hr2 (by rfl) pass0 (pa_cons (pe_cl c_rfX hr (by rfl) pass0 (pa_cons (pv 3) (pa_cons pe_int pa_nil))) (pa_cons (pe_tup (pa_cons pe_str (pa_cons pe_str (pa_cons pe_int pa_nil)))) pa_nil)))))
      (pss_one (ps_ret pe_bl))
      pss_nil)
    (pss_cons (ps_if (pt_not (pt_val (pe_cl c__law_same hr2 (by rfl) pass0 (pa_cons (pe_cl c_rfX hr (by rfl) pass0 (pa_cons (pe_callTy call_tuple_of (by rfl) T.tuple (by decide +kernel) (pa_cons (pv 3) pa_nil)) (pa_cons (pv 2) pa_nil))) (pa_cons (pe_tup (pa_cons pe_str (pa_cons pe_str (pa_cons pe_int pa_nil)))) pa_nil)))))
      (pss_one (ps_ret pe_bl))
      pss_nil)
    (pss_cons (ps_if (pt_not (pt_val (pe_cl c__law_same hr2 (by rfl) pass0 (pa_cons (pe_cl c_rfX hr (by rfl) pass0 (pa_cons (pe_callTy call_list_of (by rfl) T.list (by decide +kernel) (pa_cons (pv 0) pa_nil)) (pa_cons pe_int pa_nil))) (pa_cons (pe_tup (pa_cons pe_str (pa_cons pe_str (pa_cons pe_int pa_nil)))) pa_nil)))))
      (pss_one (ps_ret pe_bl))
      pss_nil)
    (pss_cons (ps_for PassesOwn.never rfl (pi_list (pe_lst (pa_cons (pe_op op_cat (pv 0) (pe_lst (pa_cons (pe_ix ix_list (pv 0) pe_int (fun _ _ => rfl)) pa_nil))) (pa_cons (pe_op op_cat (pv 0) (pe_lst (pa_cons pe_str pa_nil))) (pa_cons (pe_lst (pa_cons (pe_op op_add_str pe_str (pe_ix ix_list (pv 0) pe_int (fun _ _ => rfl))) pa_nil)) (pa_cons (pe_lst (pa_cons (pe_op op_add_str (pe_ix ix_list (pv 0) pe_int (fun _ _ => rfl)) pe_str) pa_nil)) (pa_cons pe_non (pa_cons pe_int (pa_cons (pe_op op_add_str (pe_join pe_str (pv 0)) pe_str) pa_nil))))))))) (pg_name (i := 4) nd rfl (Or.inl rfl))
      (pss_one (ps_if (PW.pt (pw_or (pt_not (pt_val (pe_cl c__law_same hr2 (by rfl) pass0 (pa_cons (pe_cl c_rfX hr (by rfl) pass0 (pa_cons (pv 4) (pa_cons (pv 2) pa_nil))) (pa_cons (pe_tup (pa_cons pe_str (pa_cons pe_bl pa_nil))) pa_nil))))) (pw_or1 (pt_not (pt_val (pe_cl c__law_same hr2 (by rfl) pass0 (pa_cons (pe_cl c_rfX hr (by rfl) pass0 (pa_cons (pv 4) (pa_cons pe_int pa_nil))) (pa_cons (pe_tup (pa_cons pe_str (pa_cons pe_bl pa_nil))) pa_nil))))))))
          (pss_one (ps_ret pe_bl))
          pss_nil)))
    (pss_one (ps_ret (pe_and (pe_cl c__law_same hr2 (by rfl) pass0 (pa_cons (pe_cl c_rfOk hr (by rfl) pass0 (pa_cons (pe_lst pa_nil) (pa_cons (pv 2) pa_nil))) (pa_cons (pe_tup (pa_cons pe_str (pa_cons pe_int pa_nil))) pa_nil))) (pe_one (pe_cl c__law_same hr2 (by rfl) pass0 (pa_cons (pe_cl c_rfOk hr (by rfl) pass0 (pa_cons (pe_callTy call_list_of (by rfl) T.list (by decide +kernel) (pa_cons (pv 0) pa_nil)) (pa_cons pe_int pa_nil))) (pa_cons (pe_tup (pa_cons pe_str (pa_cons pe_int pa_nil))) pa_nil)))))))))))), ?_⟩
    have gk : good ks = true := good_sub (List.sublist_append_left _ _) hg
    have knm : ∀ x ∈ ks, isName x = true := fun x hx => good_mem gk hx
    have lk : ∀ x ∈ ks, x.length ≤ 1000 := good_len gk
    let ns7 := ks ++ ms.take (7 - ks.length)
    have l7 : ns7.length = 7 := by show (ks ++ ms.take (7 - ks.length)).length = 7; rw [List.length_append, List.length_take]; omega
    have g7 : good ns7 = true := good_sub (List.Sublist.append_left (List.take_sublist _ _) _) hg
    let σ0 : V → Option V → St := fun x x4 => [some (.ref p), some (.ref r), some (.int d), some x, x4]
    refine seq_cut (fun σ' H' => ∃ sv, σ' = σ0 (.ref sv) none ∧ Same H H' ∧ H' sv = some (.lst (ns7.map vS))) (fun n hn => ?_) (fun σ1 H1 ⟨sv, eσ, s1, hsv⟩ => ?_)
    · refine ⟨_, rfl, _, rfl, _, rfl, p, _, rfl, .inl (SqL.of hp), _, _, rfl, rfl, ((7 - ks.length : Nat) : Int), congrArg V.int (by rw [List.length_map]; omega), r, _, rfl, SqL.of hr', fun c hc => ?_⟩
      have hp2 := (upd_ne (H := H) (o := .lst (cutV (ms.map vS) none (some ((7 - ks.length : Nat) : Int)))) (ne_of_none hp hc)).trans hp
      refine ⟨p, c, _, _, rfl, rfl, hp2, upd_same, ?_, fun sv hsv => hn _ _ ⟨sv, rfl, same_new (same_new (fun _ _ h => h) hc) hsv, ?_⟩⟩
      · rw [cutV_names, List.length_map, List.length_map, List.length_take]
        exact Nat.le_trans (show _ ≤ 7 by omega) (by decide)
      · rw [upd_same, cutV_names, ← List.map_append]
    subst eσ
    refine seq_cut (fun σ' H' => σ' = σ0 (.ref sv) none ∧ Same H1 H') (fun n hn => ?_) (fun σ2 H2 ⟨eσ, s2⟩ => ?_)
    · refine ⟨_, rfl, ?_⟩
      refine rf_many (ns := ns7) (.inr ⟨sv, rfl, by omega, _, .inl rfl, .inl hsv⟩) (by omega) g7 (by omega) fun H' t s t0 ht => ?_
      refine ⟨by show 3 ≤ sizeLine; decide, fun t2 ht2 => ?_⟩
      have s' : Same H1 (upd H' t2 (.tup [.str "many", .str "knobs", .int 6])) := same_new s ht2
      refine ⟨_, _, _, rfl, .tup (SqT.of ((upd_ne (ne_of_none ht ht2)).trans ht)) (.cons (.str _) (.cons (.str _) (.cons (.int _) .nil))), .tup (SqT.of upd_same) (.cons (.str _) (.cons (.str _) (.cons (.int _) .nil))), rfl, fun H3 s3 => ⟨_, rfl, iteF (hn _ _ ⟨rfl, s'.trans s3⟩)⟩⟩
    subst eσ
    have hsv2 := s2 _ _ hsv
    have s12 := s1.trans s2
    refine seq_cut (fun σ' H' => σ' = σ0 (.ref sv) none ∧ Same H2 H') (fun n hn => ?_) (fun σ3 H3 ⟨eσ, s3⟩ => ?_)
    · refine ⟨_, rfl, sv, _, rfl, .inl ⟨SqL.of hsv2, fun tp htp => ⟨_, rfl, ?_⟩⟩⟩
      have stp : Same H2 (upd H2 tp (.tup (ns7.map vS))) := same_new (fun _ _ h => h) htp
      refine rf_many (ns := ns7) (.inr ⟨tp, rfl, by omega, _, .inr rfl, .inl upd_same⟩) (by omega) g7 (by omega) fun H' t s t0 ht => ?_
      refine ⟨by show 3 ≤ sizeLine; decide, fun t2 ht2 => ?_⟩
      have s' : Same H2 (upd H' t2 (.tup [.str "many", .str "knobs", .int 6])) := same_new (stp.trans s) ht2
      refine ⟨_, _, _, rfl, .tup (SqT.of ((upd_ne (ne_of_none ht ht2)).trans ht)) (.cons (.str _) (.cons (.str _) (.cons (.int _) .nil))), .tup (SqT.of upd_same) (.cons (.str _) (.cons (.str _) (.cons (.int _) .nil))), rfl, fun H3 s3 => ⟨_, rfl, iteF (hn _ _ ⟨rfl, s'.trans s3⟩)⟩⟩
    subst eσ
    have s13 := s12.trans s3
    refine seq_cut (fun σ' H' => σ' = σ0 (.ref sv) none ∧ Same H3 H') (fun n hn => ?_) (fun σ4 H4 ⟨eσ, s4⟩ => ?_)
    · refine ⟨_, rfl, p, _, rfl, .inl (SqL.of (s13 _ _ hp)), fun tp htp => ?_⟩
      have stp : Same H3 (upd H3 tp (.lst (ks.map vS))) := same_new (fun _ _ h => h) htp
      refine rf_deep (ns := ks) (.inr ⟨tp, rfl, by omega, _, .inl rfl, .inl upd_same⟩) gk hk6 (by decide) fun H' t s t0 ht => ?_
      refine ⟨by show 3 ≤ sizeLine; decide, fun t2 ht2 => ?_⟩
      have s' : Same H3 (upd H' t2 (.tup [.str "many", .str "depth", .int 12])) := same_new (stp.trans s) ht2
      refine ⟨_, _, _, rfl, .tup (SqT.of ((upd_ne (ne_of_none ht ht2)).trans ht)) (.cons (.str _) (.cons (.str _) (.cons (.int _) .nil))), .tup (SqT.of upd_same) (.cons (.str _) (.cons (.str _) (.cons (.int _) .nil))), rfl, fun H3 s3 => ⟨_, rfl, iteF (hn _ _ ⟨rfl, s'.trans s3⟩)⟩⟩
    subst eσ
    have s14 := s13.trans s4
    obtain ⟨k0, kr, hks⟩ : ∃ k0 kr, ks = k0 :: kr := by
      cases ks with
      | nil => exact absurd hk1 (by decide)
      | cons a b => exact ⟨a, b, rfl⟩
    have n0 : isName k0 = true := knm k0 (by rw [hks]; exact List.mem_cons_self)
    have at0 : atI (ks.map vS) 0 = some (vS k0) := by rw [hks]; exact atI_nat (j := 0) rfl
    have len0 := isName_len n0
    refine seq_cut (fun σ' H' => (∃ x4, σ' = σ0 (.ref sv) x4) ∧ Same H4 H') (fun n hn => ?_) (fun σ5 H5 ⟨⟨x4, eσ⟩, s5⟩ => ?_)
    · -- the wrong ones
      have hp4 := s14 _ _ hp
      have szk : (S k0).length ≤ 16 := by rw [S_len]; exact len0
      have sz1 : Str.length ("1" : Str) = 1 := by decide +kernel
      have szm : Str.length ("-" : Str) = 1 := by decide +kernel
      have szi : Str.length (" int" : Str) = 4 := by decide +kernel
      -- knobs + [knobs[0]]
      refine ⟨_, rfl, _, rfl, p, _, _, vS k0, rfl, rfl, SqL.of hp4, at0, by show 1 ≤ sizeLine; decide, fun a1 ha1 => ?_⟩
      have t1 : Same H4 (upd H4 a1 (.lst [vS k0])) := same_new (fun _ _ h => h) ha1
      refine ⟨p, a1, _, _, rfl, rfl, t1 _ _ hp4, upd_same, by rw [List.length_map]; exact Nat.le_trans (show _ ≤ 7 by simp only [List.length_cons, List.length_nil]; omega) (by decide), fun b1 hb1 => ?_⟩
      have t2 := same_new (o := .lst (ks.map vS ++ [vS k0])) t1 hb1
      have hB1 := upd_same (H := upd H4 a1 (.lst [vS k0])) (a := b1) (o := .lst (ks.map vS ++ [vS k0]))
      generalize upd (upd H4 a1 (.lst [vS k0])) b1 (.lst (ks.map vS ++ [vS k0])) = G1 at t2 hB1 ⊢
      -- knobs + ['d']
      refine ⟨_, rfl, by show 1 ≤ sizeLine; decide, fun a2 ha2 => ?_⟩
      have u1 : Same G1 (upd G1 a2 (.lst [V.str "d"])) := same_new (fun _ _ h => h) ha2
      refine ⟨p, a2, _, _, rfl, rfl, u1 _ _ (t2 _ _ hp4), upd_same, by rw [List.length_map]; exact Nat.le_trans (show _ ≤ 7 by simp only [List.length_cons, List.length_nil]; omega) (by decide), fun b2 hb2 => ?_⟩
      have t3 := t2.trans (same_new (o := .lst (ks.map vS ++ [V.str "d"])) u1 hb2)
      have g12 := same_new (o := .lst (ks.map vS ++ [V.str "d"])) u1 hb2
      have hB2 := upd_same (H := upd G1 a2 (.lst [V.str "d"])) (a := b2) (o := .lst (ks.map vS ++ [V.str "d"]))
      generalize upd (upd G1 a2 (.lst [V.str "d"])) b2 (.lst (ks.map vS ++ [V.str "d"])) = G2 at t3 g12 hB2 ⊢
      -- ['1' + knobs[0]]
      refine ⟨_, rfl, p, _, _, vS k0, rfl, rfl, SqL.of (t3 _ _ hp4), at0, _, _, rfl, rfl, by rw [sz1]; exact Nat.le_trans (show _ ≤ 17 by omega) (by decide), by show 1 ≤ sizeLine; decide, fun b3 hb3 => ?_⟩
      have g23 : Same G2 (upd G2 b3 (.lst [.str (("1" : Str) ++ S k0)])) := same_new (fun _ _ h => h) hb3
      have hB3 := upd_same (H := G2) (a := b3) (o := .lst [.str (("1" : Str) ++ S k0)])
      generalize upd G2 b3 (.lst [.str (("1" : Str) ++ S k0)]) = G3 at g23 hB3 ⊢
      -- [knobs[0] + '-']
      refine ⟨_, rfl, p, _, _, vS k0, rfl, rfl, SqL.of (g23 _ _ (t3 _ _ hp4)), at0, _, _, rfl, rfl, by rw [szm]; exact Nat.le_trans (show _ ≤ 17 by omega) (by decide), by show 1 ≤ sizeLine; decide, fun b4 hb4 => ?_⟩
      have g34 : Same G3 (upd G3 b4 (.lst [.str (S k0 ++ ("-" : Str))])) := same_new (fun _ _ h => h) hb4
      have hB4 := upd_same (H := G3) (a := b4) (o := .lst [.str (S k0 ++ ("-" : Str))])
      generalize upd G3 b4 (.lst [.str (S k0 ++ ("-" : Str))]) = G4 at g34 hB4 ⊢
      have t4 : Same H4 G4 := (t3.trans g23).trans g34
      -- ' '.join(knobs) + ' int'
      have l20 : ∀ x ∈ ks, x.length ≤ 20 := fun x hx => Nat.le_trans (isName_len (knm x hx)) (by decide)
      have hjl : Txt.join (S [32]) (ks.map S) = S (TL.joinL [32] ks) := SX.join_S [32] ks
      have hjn := joinL_len (s := 1) (fun x hx => isName_len (knm x hx)) [32] (by decide)
      have hk17 : ks.length * (16 + 1) ≤ 6 * 17 := Nat.mul_le_mul hk6 (by decide)
      refine ⟨⟨_, rfl⟩, _, rfl, S [32], p, ks.map S, rfl, rfl, .inl (SqL.of (by rw [List.map_map]; exact t4 _ _ hp4)), ?_, ?_⟩
      · have h3 := sum_len ks l20
        rw [List.length_map, S_len]
        simp only [List.length_cons, List.length_nil]
        omega
      rw [hjl]
      refine ⟨_, _, rfl, rfl, by rw [szi, S_len]; exact Nat.le_trans (show _ ≤ 106 by omega) (by decide), by show 7 ≤ sizeLine; decide, fun L hL => ?_⟩
      have ejo : V.str (S (TL.joinL [32] ks) ++ (" int" : Str)) = vS (TL.joinL [32] ks ++ [32, 105, 110, 116]) := by
        rw [show (" int" : Str) = S [32, 105, 110, 116] from by decide +kernel, S_cat]
        rfl
      rw [ejo]
      have hkne : ks ≠ [] := by rw [hks]; simp
      have kin : k0 ∈ ks := by rw [hks]; exact List.mem_cons_self
      have bads : ∀ y ∈ ([.ref b1, .ref b2, .ref b3, .ref b4, .non, .int 7, vS (TL.joinL [32] ks ++ [32, 105, 110, 116])] : List V), Bad G4 y := by
        have g24 := g23.trans g34
        have lk1 : ∀ (x : List Nat), x.length ≤ 1000 → ∀ y ∈ ks ++ [x], y.length ≤ 1000 := fun x hx y hy => by
          rcases List.mem_append.mp hy with h | h
          · exact lk y h
          · have : y = x := by simpa using h
            rw [this]; exact hx
        have l1 : ∀ x : List Nat, (ks ++ [x]).length ≤ 1000 := fun x => by rw [List.length_append, List.length_singleton]; omega
        intro y hy
        simp only [List.mem_cons, List.not_mem_nil, or_false] at hy
        rcases hy with rfl | rfl | rfl | rfl | rfl | rfl | rfl
        · refine .inl ⟨ks ++ [k0], .inr ⟨b1, rfl, l1 _, _, .inl rfl, .inl ?_⟩, l1 _, lk1 k0 (by omega), ?_⟩
          · rw [List.map_append]
            exact (g12.trans g24) _ _ hB1
          · exact not_good_dup (i := ks.length) (x := k0) (by rw [List.getElem?_append_right (Nat.le_refl _), Nat.sub_self]; rfl) (by rw [List.take_append_of_le_length (Nat.le_refl _), List.take_length]; exact kin)
        · refine .inl ⟨ks ++ [[100]], .inr ⟨b2, rfl, l1 _, _, .inl rfl, .inl ?_⟩, l1 _, lk1 [100] (by decide), not_good_mem (x := [100]) (by simp) (by decide +kernel)⟩
          rw [List.map_append]
          have h2 := g24 _ _ hB2
          rw [show V.str "d" = vS [100] from by decide +kernel] at h2
          exact h2
        · refine .inl ⟨[49 :: k0], .inr ⟨b3, rfl, (by show 1 ≤ 1000; decide), _, .inl rfl, .inl ?_⟩, (by show 1 ≤ 1000; decide), fun x hx => ?_, not_good_mem (x := 49 :: k0) (by simp) ?_⟩
          · have h3 := g34 _ _ hB3
            rw [show ("1" : Str) = S [49] from by decide +kernel, S_cat] at h3
            exact h3
          · have : x = 49 :: k0 := by simpa using hx
            rw [this, List.length_cons]
            omega
          · have e1 : isLet 49 = false := by decide
            rw [isName, show ((49 :: k0).headD 0) = 49 from rfl, e1, Bool.and_false, Bool.false_and]
        · refine .inl ⟨[k0 ++ [45]], .inr ⟨b4, rfl, (by show 1 ≤ 1000; decide), _, .inl rfl, .inl ?_⟩, (by show 1 ≤ 1000; decide), fun x hx => ?_, not_good_mem (x := k0 ++ [45]) (by simp) ?_⟩
          · have h4 := hB4
            rw [show ("-" : Str) = S [45] from by decide +kernel, S_cat] at h4
            exact h4
          · have : x = k0 ++ [45] := by simpa using hx
            rw [this, List.length_append]
            simp only [List.length_cons, List.length_nil]
            omega
          · have e1 : (k0 ++ [45]).all isInn = false := by
              rw [List.all_append]
              have : ([45] : List Nat).all isInn = false := by decide
              rw [this, Bool.and_false]
            rw [isName, e1, Bool.and_false]
        · exact .inr (.inl rfl)
        · exact .inr (.inr ⟨7, rfl⟩)
        · exact bad_int hkne knm hk6 G4
      have t5 := same_new (o := .lst [.ref b1, .ref b2, .ref b3, .ref b4, .non, .int 7, vS (TL.joinL [32] ks ++ [32, 105, 110, 116])]) t4 hL
      have g45 : Same G4 (upd G4 L (.lst [.ref b1, .ref b2, .ref b3, .ref b4, .non, .int 7, vS (TL.joinL [32] ks ++ [32, 105, 110, 116])])) := same_new (fun _ _ h => h) hL
      have hLL := upd_same (H := G4) (a := L) (o := .lst [.ref b1, .ref b2, .ref b3, .ref b4, .non, .int 7, vS (TL.joinL [32] ks ++ [32, 105, 110, 116])])
      refine ⟨L, rfl, ⟨_, SqL.of hLL⟩, ?_⟩
      generalize ([.ref b1, .ref b2, .ref b3, .ref b4, .non, .int 7, vS (TL.joinL [32] ks ++ [32, 105, 110, 116])] : List V) = ys at bads t5 g45 hLL ⊢
      refine for_it (walk_list (K := K) (xs := ys)) (fun i σ H' => (∃ x4, σ = σ0 (.ref sv) x4) ∧ Same (upd G4 L (.lst ys)) H') ⟨⟨none, rfl⟩, fun _ _ h => h⟩ (fun _ _ _ _ h => SqL.of (h.2 _ _ hLL)) ?_ ?_
      · rintro i y σ H6 H7 hi ⟨⟨x4, rfl⟩, s6⟩ ⟨rfl, hy⟩
        have hbad : ∀ H' : Hp, Same H7 H' → Bad H' y := fun H' s => bad_same (bads y (List.mem_of_getElem? hy)) ((g45.trans s6).trans s)
        refine ⟨_, rfl, _, rfl, ?_⟩
        refine rf_bad (hbad _ fun _ _ h => h) fun H' t s t0 ht => ?_
        refine ⟨by show 2 ≤ sizeLine; decide, fun t2 ht2 => ?_⟩
        have s' : Same H7 (upd H' t2 (.tup [.str "name", .bl true])) := same_new s ht2
        refine ⟨_, _, _, rfl, .tup (SqT.of ((upd_ne (ne_of_none ht ht2)).trans ht)) (.cons (.str _) (.cons (.bl _) .nil)), .tup (SqT.of upd_same) (.cons (.str _) (.cons (.bl _) .nil)), rfl, fun H8 s8 => ⟨_, rfl, iteF ?_⟩⟩
        have s78 := s'.trans s8
        refine ⟨_, rfl, ?_⟩
        refine rf_bad (hbad _ s78) fun H' t s t0 ht => ?_
        refine ⟨by show 2 ≤ sizeLine; decide, fun t2 ht2 => ?_⟩
        have s'' : Same H8 (upd H' t2 (.tup [.str "name", .bl true])) := same_new s ht2
        refine ⟨_, _, _, rfl, .tup (SqT.of ((upd_ne (ne_of_none ht ht2)).trans ht)) (.cons (.str _) (.cons (.bl _) .nil)), .tup (SqT.of upd_same) (.cons (.str _) (.cons (.bl _) .nil)), rfl, fun H9 s9 => ⟨_, rfl, iteF ?_⟩⟩
        exact ⟨⟨_, rfl⟩, ((s6.trans s78).trans s'').trans s9⟩
      · rintro σ H6 ⟨⟨x4, rfl⟩, s6⟩
        exact hn _ _ ⟨⟨x4, rfl⟩, t5.trans s6⟩
    subst eσ
    have s15 := s14.trans s5
    refine ⟨Nat.zero_le _, fun l hl => ⟨_, rfl, ?_⟩⟩
    have s16 : Same H (upd H5 l (.lst [])) := same_new s15 hl
    refine ⟨[(l, .lst [])], [], ⟨.ref l, d, [], fun _ => [], rfl, hd, rfl, by decide, .inr ⟨l, _, rfl, .inl rfl, rfl⟩, fun L _ _ => .inl ⟨rfl, rfl⟩, (fun _ u hu => nomatch hu), (rest_nil _ _ _).symm⟩, (fun q hq => by
      have : q = (l, HO.lst []) := by simpa using hq
      subst this
      exact ⟨upd_same, trivial⟩), by decide, fun H' t s t0 ht => ?_⟩
    refine ⟨by show 2 ≤ sizeLine; decide, fun t2 ht2 => ?_⟩
    have s17 : Same H (upd H' t2 (.tup [.str "let", .int 0])) := same_new (s16.trans s) ht2
    refine ⟨_, _, _, rfl, .tup (SqT.of ((upd_ne (ne_of_none ht ht2)).trans ht)) (.cons (.str _) (.cons (.int _) .nil)), .tup (SqT.of upd_same) (.cons (.str _) (.cons (.int _) .nil)), rfl, fun H6 s6 => ⟨_, rfl, iteT ?_⟩⟩
    have s18 := s17.trans s6
    refine ⟨_, rfl, p, _, rfl, .inl (SqL.of (s18 _ _ hp)), fun tp htp => ?_⟩
    have s19 : Same H (upd H6 tp (.lst (ks.map vS))) := same_new s18 htp
    refine ⟨[(tp, .lst (ks.map vS))], [], ⟨.ref tp, 0, ks, fun _ => [], rfl, by decide, gk, hk6, .inr ⟨tp, _, rfl, .inl rfl, rfl⟩, (fun L h1 h2 => absurd h1 (by omega)), (fun _ u hu => nomatch hu), (rest_nil _ _ _).symm⟩, (fun q hq => by
      have : q = (tp, HO.lst (ks.map vS)) := by simpa using hq
      subst this
      exact ⟨upd_same, trivial⟩), by decide, fun H' t s t0 ht => ?_⟩
    refine ⟨by show 2 ≤ sizeLine; decide, fun t2 ht2 => ?_⟩
    have s20 : Same H (upd H' t2 (.tup [.str "let", .int 0])) := same_new (s19.trans s) ht2
    exact ⟨_, _, _, rfl, .tup (SqT.of ((upd_ne (ne_of_none ht ht2)).trans ht)) (.cons (.str _) (.cons (.int _) .nil)), .tup (SqT.of upd_same) (.cons (.str _) (.cons (.int _) .nil)), rfl, fun H6 s6 => q H6 (s20.trans s6)⟩
end
end T80
namespace T80
open PySem L2
/-! ### the finite checks -/
def tabM (m L : Nat) : List (List Int) := (runW m L 200 [-1]).getD []
def ownL (m d : Nat) : List (List Int) := (List.range d).flatMap fun i => tabM m (i + 1)
def mostOf (m : Nat) : Nat := [0, 12, 6, 4, 3, 3, 2].getD m 0
def isOwnL (m d : Nat) (u : List Int) : Bool := (ownL m d).any fun v => decide (v = u)
def chk1 (m d : Nat) : Bool := (List.range d).all fun i => (runW m (i + 1) 200 [-1]).isSome && (tabM m (i + 1)).all fun u => decide (u.length ≤ 12) && u.all fun x => decide (0 ≤ x) && decide (x < m)
def chk2 (m d : Nat) : Bool := decide ((rowsM m d).filter ownM = ownL m d)
def chk3 (m d : Nat) : Bool := (List.range d).all fun i => decide ((((ownL m d).filter fun u => decide (u.length = i + 1)).length : Int) = manyM m (i + 1))
def chk4 (own : List Int → Bool) (ws : List (List Int)) : Bool := ws.all fun w => decide (fallsM own w = 1)
def chk5 (own : List Int → Bool) (ws : List (List Int)) : Bool := ws.all fun w => (List.range w.length).all fun e => decide ((hereM own w (rowsF own w e) (e + 1) (e + 1)).length ≤ 1000)
def chk (m d : Nat) : Bool := chk1 m d && chk2 m d && chk3 m d && chk4 (isOwnL m d) (rowsM m d) && chk5 (isOwnL m d) (rowsM m d) && decide ((rowsM m d).length ≤ 1000) && decide ((ownL m d).length ≤ 1000)
theorem chk_ok1 : (List.range 13).all (chk 1) = true := by decide +kernel
theorem chk_ok3 : (List.range 5).all (chk 3) = true := by decide +kernel
theorem chk_ok4 : (List.range 4).all (chk 4) = true := by decide +kernel
theorem chk_ok5 : (List.range 4).all (chk 5) = true := by decide +kernel
theorem chk_ok6 : (List.range 3).all (chk 6) = true := by decide +kernel
theorem chk_ok2 : (List.range 7).all (chk 2) = true := by decide +kernel
theorem chk_all {m d : Nat} (h1 : 1 ≤ m) (h6 : m ≤ 6) (hd : d ≤ mostOf m) : chk m d = true := by
  have go : ∀ n, (List.range n).all (chk m) = true → d < n → chk m d = true := fun n h hl => List.all_eq_true.mp h d (List.mem_range.mpr hl)
  have : m = 1 ∨ m = 2 ∨ m = 3 ∨ m = 4 ∨ m = 5 ∨ m = 6 := by omega
  rcases this with rfl | rfl | rfl | rfl | rfl | rfl
  · exact go 13 chk_ok1 (Nat.lt_succ_of_le hd)
  · exact go 7 chk_ok2 (Nat.lt_succ_of_le hd)
  · exact go 5 chk_ok3 (Nat.lt_succ_of_le hd)
  · exact go 4 chk_ok4 (Nat.lt_succ_of_le hd)
  · exact go 4 chk_ok5 (Nat.lt_succ_of_le hd)
  · exact go 3 chk_ok6 (Nat.lt_succ_of_le hd)
end T80
namespace T80
open PySem L2 GK
open SX (S S_inj S_beq S_len S_cat split_S)
/-! ### the law, statement by statement -/
abbrev s_law : Stmt := top 34
abbrev N_law : List Str := ["script", "box", "many", "most", "depth", "names", "how", "knobs", "words", "word", "knob", "due", "handed", "told", "own", "k", "sizes", "name", "size", "less", "pairs", "one", "two", "first", "rows"]
theorem scLaw : FnScope N_law ["script"] (defScope s_law) := ⟨rfl, rfl, rfl, by decide +kernel, rfl, by decide +kernel, by decide +kernel⟩
def lawSt (i : Nat) : Stmt := (defBody s_law).getD i (.Pass ⟨0, 0, 0, 0⟩)
/-- where the law's body stands -/
abbrev LX (P : Program) (w : World) (K : PySem.W.Frag) (mg : Str → Option Value) (base : Heap) (f : Addr) (cdv : Value) (A : Around) (outer : List Env) (s : Shared) (H : Hp) (E : XK) : Cx := (cxOf CX0 P w K mg base N_law "law" (defScope s_law) f cdv A outer s H E).nox
/-- what a statement makes of the slots and the heap -/
def Tri (X : Cx) (st : Stmt) (Pre Post : St → Hp → Prop) : Prop := ∃ t, PS X st t ∧ ∀ (D : Ends) (σ : St) (H : Hp) (n : St → Hp → Prop), Pre σ H → (∀ σ' H', Post σ' H' → n σ' H') → t { D with nx := n } σ H
/-- the first slots, the others empty -/
def sl (l : List (Option V)) : St := l ++ List.replicate (25 - l.length) none
structure TL' (mg : Str → Option Value) : Prop where
  len : mg "len" = none
  max : mg "max" = none
  min : mg "min" = none
  list : mg "list" = none
  tuple : mg "tuple" = none
  range : mg "range" = none
/-- many and depth as they are drawn -/
def MD (m d : Nat) : Prop := 1 ≤ m ∧ m ≤ 6 ∧ d ≤ mostOf m
def P0 (K : PySem.W.Frag) : St → Hp → Prop := fun σ H => ∃ (a : Addr) (ns : List Int), σ = sl [some (.ref a)] ∧ SqL K H a (ns.map V.int) ∧ ns.length ≤ 63
def P1 : St → Hp → Prop := fun σ H => ∃ (a b c : Addr) (ns : List Int), σ = sl [some (.ref a), some (.ref b)] ∧ Box b c ns 0 H
def P2 : St → Hp → Prop := fun σ H => ∃ (a b c : Addr) (ns : List Int) (m : Nat), σ = sl [some (.ref a), some (.ref b), some (.int m)] ∧ Box b c ns 1 H ∧ 1 ≤ m ∧ m ≤ 6
def P3 : St → Hp → Prop := fun σ H => ∃ (a b c : Addr) (ns : List Int) (m : Nat), σ = sl [some (.ref a), some (.ref b), some (.int m), some (.int (mostOf m))] ∧ Box b c ns 1 H ∧ 1 ≤ m ∧ m ≤ 6
def P4 : St → Hp → Prop := fun σ H => ∃ (a b c : Addr) (ns : List Int) (m d : Nat) (x3 : Option V), σ = sl [some (.ref a), some (.ref b), some (.int m), x3, some (.int d)] ∧ Box b c ns 2 H ∧ MD m d
def P5 : St → Hp → Prop := fun σ H => ∃ (a b c p : Addr) (ns : List Int) (k : Int) (nl : List (List Nat)) (m d : Nat) (x3 : Option V), σ = sl [some (.ref a), some (.ref b), some (.int m), x3, some (.int d), some (.ref p)] ∧ Box b c ns k H ∧ 0 ≤ k ∧ k ≤ 200 ∧ MD m d ∧ p ≠ b ∧ H p = some (.lst (nl.map vS)) ∧ nl.length = 13 ∧ good nl = true
def P6 : St → Hp → Prop := fun σ H => ∃ (x0 x1 x3 : Option V) (p : Addr) (nl : List (List Nat)) (m d : Nat) (how : Int), σ = sl [x0, x1, some (.int m), x3, some (.int d), some (.ref p), some (.int how)] ∧ MD m d ∧ H p = some (.lst (nl.map vS)) ∧ nl.length = 13 ∧ good nl = true
section
variable {P : Program} {w : World} {K : PySem.W.Frag} {mg : Str → Option Value} {base : Heap} {f : Addr} {cdv : Value} {A : Around} {outer : List Env} {s : Shared} {H0 : Hp} {E : XK}
theorem tri0 (hr1 : Room 1 (LX P w K mg base f cdv A outer s H0 E).A) (c__law_box : Cl P w K mg base CX0 "_law_box" 1 ["script"] (spBox K)) : Tri (LX P w K mg base f cdv A outer s H0 E) (lawSt 0) (P0 K) P1 := by
  have nd := scLaw.nd
  refine ⟨_, (ps_set (i := 1) nd rfl (Or.inl rfl) (pe_cl c__law_box hr1 (by rfl) pass0 (pa_cons (pv 0) pa_nil))), ?_⟩
  rintro D σ H n ⟨a, ns, rfl, hS, hl⟩ hn
  exact ⟨_, rfl, a, ns, rfl, hS, hl, fun H' b c ns' _ _ _ B => hn _ _ ⟨a, b, c, ns', rfl, B⟩⟩
theorem tri1 (hr1 : Room 1 (LX P w K mg base f cdv A outer s H0 E).A) (c__law_draw : Cl P w K mg base CX0 "_law_draw" 1 ["box", "size"] spDraw) : Tri (LX P w K mg base f cdv A outer s H0 E) (lawSt 1) P1 P2 := by
  have nd := scLaw.nd
  refine ⟨_, (ps_set (i := 2) nd rfl (Or.inl rfl) (pe_ix ix_list (pe_lst (pa_cons pe_int (pa_cons pe_int (pa_cons pe_int (pa_cons pe_int (pa_cons pe_int (pa_cons pe_int pa_nil))))))) (pe_cl c__law_draw hr1 (by rfl) pass0 (pa_cons (pv 1) (pa_cons pe_int pa_nil))) (fun _ _ => rfl))), ?_⟩
  rintro D σ H n ⟨a, b, c, ns, rfl, B⟩ hn
  obtain ⟨ob, hob⟩ := B.b
  refine ⟨by show 6 ≤ sizeLine; decide, fun l hl => ⟨_, rfl, b, c, ns, 0, 6, rfl, B.newK hl, by decide, by decide, by decide, by decide, fun H' r r0 r1 B' K' => ?_⟩⟩
  have hl' := K' _ _ (ne_of_none hob hl).symm upd_same
  obtain ⟨x, hx, e⟩ := at_in ([2, 3, 1, 4, 5, 6] : List Nat) (fun x => V.int (x : Nat)) r0 (by exact r1)
  refine ⟨l, _, _, .int (x : Nat), rfl, rfl, SqL.of hl', e, hn _ _ ⟨a, b, c, ns, x, rfl, B', ?_⟩⟩
  simp at hx
  omega
theorem tri2 : Tri (LX P w K mg base f cdv A outer s H0 E) (lawSt 2) P2 P3 := by
  have nd := scLaw.nd
  refine ⟨_, (ps_set (i := 3) nd rfl (Or.inl rfl) (pe_ix ix_list (pe_lst (pa_cons pe_int (pa_cons pe_int (pa_cons pe_int (pa_cons pe_int (pa_cons pe_int (pa_cons pe_int pa_nil))))))) (pe_op op_sub (pv 2) pe_int) (fun _ _ => rfl))), ?_⟩
  rintro D σ H n ⟨a, b, c, ns, m, rfl, B, h1, h6⟩ hn
  refine ⟨by show 6 ≤ sizeLine; decide, fun l hl => ⟨_, rfl, _, _, rfl, rfl, ?_⟩⟩
  refine ⟨l, _, _, .int (mostOf m : Nat), rfl, rfl, SqL.of upd_same, ?_, hn _ _ ⟨a, b, c, ns, m, rfl, B.newK hl, h1, h6⟩⟩
  have : m = 1 ∨ m = 2 ∨ m = 3 ∨ m = 4 ∨ m = 5 ∨ m = 6 := by omega
  rcases this with rfl | rfl | rfl | rfl | rfl | rfl <;> rfl
theorem tri3 (hr1 : Room 1 (LX P w K mg base f cdv A outer s H0 E).A) (T : TL' mg) (c__law_draw : Cl P w K mg base CX0 "_law_draw" 1 ["box", "size"] spDraw) : Tri (LX P w K mg base f cdv A outer s H0 E) (lawSt 3) P3 P4 := by
  have nd := scLaw.nd
  refine ⟨_, (ps_set (i := 4) nd rfl (Or.inl rfl) (pe_callB (call_max2 rfl) (by rfl) T.max (by decide +kernel) (pa_cons pe_int (pa_cons (pe_op op_sub (pv 3) (pe_ix ix_list (pe_lst (pa_cons pe_int (pa_cons (pv 3) (pa_cons pe_int (pa_cons pe_int (pa_cons pe_int (pa_cons pe_int pa_nil))))))) (pe_cl c__law_draw hr1 (by rfl) pass0 (pa_cons (pv 1) (pa_cons pe_int pa_nil))) (fun _ _ => rfl))) pa_nil)))), ?_⟩
  rintro D σ H n ⟨a, b, c, ns, m, rfl, B, h1, h6⟩ hn
  obtain ⟨ob, hob⟩ := B.b
  refine ⟨_, rfl, _, rfl, by show 6 ≤ sizeLine; decide, fun l hl => ⟨_, rfl, b, c, ns, 1, 6, rfl, B.newK hl, by decide, by decide, by decide, by decide, fun H' r r0 r1 B' K' => ?_⟩⟩
  have hl' := K' _ _ (ne_of_none hob hl).symm upd_same
  obtain ⟨x, hx, e⟩ := at_in ([0, mostOf m, 1, 0, 2, 0] : List Nat) (fun x => V.int (x : Nat)) r0 (by exact r1)
  refine ⟨l, _, _, .int (x : Nat), rfl, rfl, SqL.of hl', e, _, _, rfl, rfl, _, _, rfl, ?_⟩
  have ed : (if ((mostOf m : Nat) : Int) - (x : Nat) > 0 then ((mostOf m : Nat) : Int) - (x : Nat) else 0) = ((mostOf m - x : Nat) : Int) := by
    split <;> omega
  refine hn _ _ ⟨a, b, c, ns, m, mostOf m - x, some (.int (mostOf m)), ?_, B', h1, h6, by omega⟩
  rw [← ed]
  rfl
theorem tri4 (hr2 : Room 2 (LX P w K mg base f cdv A outer s H0 E).A) (c__law_names : Cl P w K mg base CX0 "_law_names" 2 ["box", "many", "taken"] spNm) : Tri (LX P w K mg base f cdv A outer s H0 E) (lawSt 4) P4 P5 := by
  have nd := scLaw.nd
  refine ⟨_, (ps_set (i := 5) nd rfl (Or.inl rfl) (pe_cl c__law_names hr2 (by rfl) pass0 (pa_cons (pv 1) (pa_cons pe_int (pa_cons (pe_lst pa_nil) pa_nil))))), ?_⟩
  rintro D σ H n ⟨a, b, c, ns, m, d, x3, rfl, B, hmd⟩ hn
  obtain ⟨ob, hob⟩ := B.b
  refine ⟨_, rfl, Nat.zero_le _, fun t ht => ⟨b, c, t, ns, 2, 13, rfl, B.newK ht, by decide, by decide, by decide, upd_same, fun H' l nl k' K' l0 hl hlen hg B' hk1 hk2 => ?_⟩⟩
  have nlb : l ≠ b := (ne_of_none ((upd_ne (ne_of_none hob ht)).trans hob) l0).symm
  exact hn _ _ ⟨a, b, c, l, ns, k', nl, m, d, x3, rfl, B', by omega, by omega, hmd, nlb, hl, hlen, hg⟩
theorem tri5 (hr1 : Room 1 (LX P w K mg base f cdv A outer s H0 E).A) (c__law_draw : Cl P w K mg base CX0 "_law_draw" 1 ["box", "size"] spDraw) : Tri (LX P w K mg base f cdv A outer s H0 E) (lawSt 5) P5 P6 := by
  have nd := scLaw.nd
  refine ⟨_, (ps_set (i := 6) nd rfl (Or.inl rfl) (pe_cl c__law_draw hr1 (by rfl) pass0 (pa_cons (pv 1) (pa_cons pe_int pa_nil)))), ?_⟩
  rintro D σ H n ⟨a, b, c, p, ns, k, nl, m, d, x3, rfl, B, hk0, hk1, hmd, npb, hp, hlen, hg⟩ hn
  exact ⟨_, rfl, b, c, ns, k, 4, rfl, B, hk0, by omega, by decide, by decide, fun H' r r0 r1 B' K' => hn _ _ ⟨_, _, _, p, nl, m, d, r, rfl, hmd, K' _ _ npb hp, hlen, hg⟩⟩
end
end T80
namespace T80
open PySem L2 GK
open SX (S S_inj S_beq S_len S_cat split_S)
def rTup (K : PySem.W.Frag) : List V → Hp → VK → Prop := fun xs H Q => ∃ p ys, xs = [.ref p] ∧ ((SqL K H p ys ∧ ∀ l, H l = none → Q (.ref l) (upd H l (.tup ys))) ∨ (SqT K H p ys ∧ Q (.ref p) H))
theorem ctup {X : Cx} {K : PySem.W.Frag} (h : X.K = K) : CallR X (.type "tuple") (rTup K) := by
  subst h
  exact call_tuple_of
def rLen (K : PySem.W.Frag) : List V → Hp → VK → Prop := fun xs H Q => ∃ p ys, xs = [.ref p] ∧ (SqL K H p ys ∨ SqT K H p ys) ∧ Q (.int ys.length) H
theorem clen {X : Cx} {K : PySem.W.Frag} (h : X.K = K) : CallR X (.builtin "len") (rLen K) := by
  subst h
  exact call_len_seq
theorem piT {X : Cx} {K : PySem.W.Frag} {tg e : Expr} {te : TE} (h : X.K = K) (he : PE X e te) : PI X tg e (iTup K te) := by
  subst h
  exact pi_tup he
theorem piL {X : Cx} {K : PySem.W.Frag} {tg e : Expr} {te : TE} (h : X.K = K) (he : PE X e te) : PI X tg e (iList K te) := by
  subst h
  exact pi_list he
/-- tuples of names stand at ps -/
abbrev NTup (ks : List (List Nat)) (H : Hp) (ps : List Addr) (us : List (List Int)) : Prop := PySem.Paired (fun (p : Addr) (u : List Int) => H p = some (.tup (nm ks u))) ps us
theorem NTup.same {ks : List (List Nat)} {H H' : Hp} {ps : List Addr} {us : List (List Int)} (h : NTup ks H ps us) (s : Same H H') : NTup ks H' ps us := PySem.Paired.mono (fun _ _ e => s _ _ e) h
theorem lvl_range (m : Nat) : ∀ (n : Nat) (u : List Int), u ∈ lvl m n → ∀ x ∈ u, (0 : Int) ≤ x ∧ x < m
  | 0, u, h => by
    have : u = [] := by simpa [lvl] using h
    subst this
    intro x hx
    cases hx
  | n + 1, u, h => by
    rw [lvl, List.mem_flatMap] at h
    obtain ⟨w, hw, hu⟩ := h
    rw [nxt, List.mem_map] at hu
    obtain ⟨k, hk, rfl⟩ := hu
    rw [List.mem_range] at hk
    intro x hx
    rcases List.mem_append.mp hx with h | h
    · exact lvl_range m n w hw x h
    · have : x = (k : Nat) := by simpa using h
      omega
theorem rowsM_mem (m : Nat) : ∀ (d : Nat) (u : List Int), u ∈ rowsM m d → (∀ x ∈ u, (0 : Int) ≤ x ∧ x < m) ∧ u.length ≤ d
  | 0, u, h => by cases h
  | d + 1, u, h => by
    rw [rowsM] at h
    rcases List.mem_append.mp h with h | h
    · obtain ⟨h1, h2⟩ := rowsM_mem m d u h
      exact ⟨h1, by omega⟩
    · exact ⟨lvl_range m _ u h, by rw [lvl_len m _ u h]; exact Nat.le_refl _⟩
theorem mostOf_le {m : Nat} (h1 : 1 ≤ m) (h6 : m ≤ 6) : mostOf m ≤ 12 := by
  have : m = 1 ∨ m = 2 ∨ m = 3 ∨ m = 4 ∨ m = 5 ∨ m = 6 := by omega
  rcases this with rfl | rfl | rfl | rfl | rfl | rfl <;> decide
structure Chk (m d : Nat) : Prop where
  c1 : ∀ i, i < d → ∃ us, runW m (i + 1) 200 [-1] = some us ∧ tabM m (i + 1) = us ∧ ∀ u ∈ us, u.length ≤ 12 ∧ ∀ x ∈ u, (0 : Int) ≤ x ∧ x < m
  c2 : (rowsM m d).filter ownM = ownL m d
  c3 : ∀ i, i < d → ((((ownL m d).filter fun u => decide (u.length = i + 1)).length : Nat) : Int) = manyM m (i + 1)
  c4 : ∀ w ∈ rowsM m d, fallsM (isOwnL m d) w = 1
  c5 : ∀ w ∈ rowsM m d, ∀ e, e < w.length → (hereM (isOwnL m d) w (rowsF (isOwnL m d) w e) (e + 1) (e + 1)).length ≤ 1000
  c6 : (rowsM m d).length ≤ 1000
  c7 : (ownL m d).length ≤ 1000
theorem chk_of {m d : Nat} (h : MD m d) : Chk m d := by
  have hc := chk_all h.1 h.2.1 h.2.2
  simp only [chk, Bool.and_eq_true, decide_eq_true_eq] at hc
  obtain ⟨⟨⟨⟨⟨⟨h1, h2⟩, h3⟩, h4⟩, h5⟩, h6⟩, h7⟩ := hc
  refine ⟨fun i hi => ?_, of_decide_eq_true h2, fun i hi => of_decide_eq_true (List.all_eq_true.mp h3 i (List.mem_range.mpr hi)), fun w hw => of_decide_eq_true (List.all_eq_true.mp h4 w hw), fun w hw e he => of_decide_eq_true (List.all_eq_true.mp (List.all_eq_true.mp h5 w hw) e (List.mem_range.mpr he)), h6, h7⟩
  have h1' := List.all_eq_true.mp h1 i (List.mem_range.mpr hi)
  rw [Bool.and_eq_true] at h1'
  obtain ⟨e1, e2⟩ := h1'
  cases q : runW m (i + 1) 200 [-1] with
  | none => rw [q] at e1; cases e1
  | some us =>
    have et : tabM m (i + 1) = us := by rw [tabM, q]; rfl
    refine ⟨us, rfl, et, fun u hu => ?_⟩
    rw [et] at e2
    have h3' := List.all_eq_true.mp e2 u hu
    rw [Bool.and_eq_true] at h3'
    refine ⟨of_decide_eq_true h3'.1, fun x hx => ?_⟩
    have h4' := List.all_eq_true.mp h3'.2 x hx
    rw [Bool.and_eq_true] at h4'
    exact ⟨of_decide_eq_true h4'.1, of_decide_eq_true h4'.2⟩
/-- what stands from the names on -/
def Q7 (p kn : Addr) (nl : List (List Nat)) (m d : Nat) (H : Hp) : Prop := MD m d ∧ H p = some (.lst (nl.map vS)) ∧ nl.length = 13 ∧ good nl = true ∧ H kn = some (.lst ((nl.take m).map vS))
theorem Q7.same {p kn : Addr} {nl : List (List Nat)} {m d : Nat} {H H' : Hp} (h : Q7 p kn nl m d H) (s : Same H H') : Q7 p kn nl m d H' := ⟨h.1, s _ _ h.2.1, h.2.2.1, h.2.2.2.1, s _ _ h.2.2.2.2⟩
def Q8 (wd : Addr) (m d : Nat) (H : Hp) : Prop := ∃ wps : List Addr, H wd = some (.lst (wps.map V.ref)) ∧ Tups H wps (rowsM m d)
theorem Q8.same {wd : Addr} {m d : Nat} {H H' : Hp} (h : Q8 wd m d H) (s : Same H H') : Q8 wd m d H' := by
  obtain ⟨ps, h1, h2⟩ := h
  exact ⟨ps, s _ _ h1, h2.same s⟩
def Q9 (du : Addr) (ks : List (List Nat)) (m d : Nat) (H : Hp) : Prop := ∃ dps : List Addr, H du = some (.lst (dps.map V.ref)) ∧ NTup ks H dps (ownL m d)
theorem Q9.same {du : Addr} {ks : List (List Nat)} {m d : Nat} {H H' : Hp} (h : Q9 du ks m d H) (s : Same H H') : Q9 du ks m d H' := by
  obtain ⟨ps, h1, h2⟩ := h
  exact ⟨ps, s _ _ h1, h2.same s⟩
def P7 : St → Hp → Prop := fun σ H => ∃ (x0 x1 x3 : Option V) (p kn : Addr) (nl : List (List Nat)) (m d : Nat) (how : Int), σ = sl [x0, x1, some (.int m), x3, some (.int d), some (.ref p), some (.int how), some (.ref kn)] ∧ Q7 p kn nl m d H
def P8 : St → Hp → Prop := fun σ H => ∃ (x0 x1 x3 : Option V) (p kn wd : Addr) (nl : List (List Nat)) (m d : Nat) (how : Int), σ = sl [x0, x1, some (.int m), x3, some (.int d), some (.ref p), some (.int how), some (.ref kn), some (.ref wd)] ∧ Q7 p kn nl m d H ∧ Q8 wd m d H
def P9 : St → Hp → Prop := fun σ H => ∃ (x0 x1 x3 : Option V) (p kn wd du : Addr) (nl : List (List Nat)) (m d : Nat) (how : Int), σ = sl [x0, x1, some (.int m), x3, some (.int d), some (.ref p), some (.int how), some (.ref kn), some (.ref wd), none, none, some (.ref du)] ∧ Q7 p kn nl m d H ∧ Q8 wd m d H ∧ Q9 du (nl.take m) m d H
section
variable {P : Program} {w : World} {K : PySem.W.Frag} {mg : Str → Option Value} {base : Heap} {f : Addr} {cdv : Value} {A : Around} {outer : List Env} {s : Shared} {H0 : Hp} {E : XK}
theorem tri6 : Tri (LX P w K mg base f cdv A outer s H0 E) (lawSt 6) P6 P7 := by
  have nd := scLaw.nd
  refine ⟨_, (ps_set (i := 7) nd rfl (Or.inr rfl) (pe_slice sl_list (pv 5) po_none (po_some (pv 2)))), ?_⟩
  rintro D σ H n ⟨x0, x1, x3, p, nl, m, d, how, rfl, hmd, hp, hl, hg⟩ hn
  refine ⟨_, rfl, _, rfl, _, rfl, p, _, rfl, SqL.of hp, fun kn hkn => ?_⟩
  have sk := same_new (o := .lst (cutV (nl.map vS) none (some (m : Int)))) (fun _ _ h => h : Same H H) hkn
  exact hn _ _ ⟨x0, x1, x3, p, kn, nl, m, d, how, rfl, hmd, sk _ _ hp, hl, hg, by rw [upd_same, cutV_names]⟩
theorem tri7 (hr1 : Room 1 (LX P w K mg base f cdv A outer s H0 E).A) (c__law_words : Cl P w K mg base CX0 "_law_words" 1 ["many", "depth"] spWs) : Tri (LX P w K mg base f cdv A outer s H0 E) (lawSt 7) P7 P8 := by
  have nd := scLaw.nd
  refine ⟨_, (ps_set (i := 8) nd rfl (Or.inl rfl) (pe_cl c__law_words hr1 (by rfl) pass0 (pa_cons (pv 2) (pa_cons (pv 4) pa_nil)))), ?_⟩
  rintro D σ H n ⟨x0, x1, x3, p, kn, nl, m, d, how, rfl, h7⟩ hn
  have hmd := h7.1
  have C := chk_of hmd
  have h12 := mostOf_le hmd.1 hmd.2.1
  exact ⟨_, rfl, _, rfl, m, d, rfl, hmd.2.1, by have := hmd.2.2; omega, C.c6, fun H' l ps s l0 hl t => hn _ _ ⟨x0, x1, x3, p, kn, l, nl, m, d, how, rfl, h7.same s, ps, hl, t⟩⟩
theorem tri8 (hr1 : Room 1 (LX P w K mg base f cdv A outer s H0 E).A) (T : TL' mg) (c__law_own : Cl P w K mg base CX0 "_law_own" 1 ["word"] spLo) : Tri (LX P w K mg base f cdv A outer s H0 E) (lawSt 8) P8 P9 := by
  have nd := scLaw.nd
  refine ⟨_, (ps_setLc (i := 11) (own := [("word", 9)]) (g := gName 9) (by rfl) nd rfl rfl (sw_true rfl rfl rfl (by decide +kernel)) (pi_list (pv 8)) (blkOk_by (own := [("word", 9)]) (N := N_law) (sc := defScope s_law) (by decide +kernel)) (fun _ _ _ _ _ => pg_name (i := 9) nd rfl (Or.inl rfl)) (fun _ _ _ _ _ => pts_one (pt_val (pe_cl c__law_own hr1 (by rfl) pass0 (pa_cons (pv 9) pa_nil)))) (fun _ _ _ _ _ => (pe_callTy (ctup (K := K) rfl) (by rfl) T.tuple (by decide +kernel) (pa_cons (pe_lc (own := [("knob", 10)]) (g := gName 10) (by rfl) nd (piT (K := K) rfl (pv 9)) (blkOk_by (own := [("knob", 10)]) (N := N_law) (sc := _) (by rfl)) (fun _ _ _ _ _ => pg_name (i := 10) nd rfl (Or.inl rfl)) (fun _ _ _ _ _ => pts_nil) (fun _ _ _ _ _ => (pe_ix (show IxR _ (rIxL K) from ix_list) (pv 7) (pv 10) (fun _ _ => rfl)))) pa_nil)))), ?_⟩
  rintro D σ H n ⟨x0, x1, x3, p, kn, wd, nl, m, d, how, rfl, h7, h8⟩ hn
  obtain ⟨wps, hw, tw⟩ := id h8
  obtain ⟨hmd, hp, hl13, hg, hkn⟩ := id h7
  have C := chk_of hmd
  have h12 := mostOf_le hmd.1 hmd.2.1
  have hdm := hmd.2.2
  generalize hks : nl.take m = ks at hkn
  have lks : ks.length = m := by rw [← hks, List.length_take]; have := hmd.2.1; omega
  refine ⟨_, rfl, wd, rfl, ⟨_, SqL.of hw⟩, fun DD hD => ?_⟩
  refine lc_it (walk_list (K := K) (xs := wps.map V.ref)) (fun i H' => ∃ ds : List Addr, Same H H' ∧ H' DD = some (.lst (ds.map V.ref)) ∧ PySem.Paired (fun (p : Addr) (u : List Int) => p ≠ DD ∧ H' p = some (.tup (nm ks u))) ds (((rowsM m d).take i).filter ownM))
    ⟨[], same_new (fun _ _ h => h) hD, upd_same, .nil⟩ (fun i H' _ ⟨_, s, _⟩ => SqL.of (s _ _ hw)) ?_ ?_
  · rintro i y H1 H2 hi ⟨ds, s1, hDD, td⟩ ⟨rfl, hy⟩
    obtain ⟨q, hq, rfl⟩ : ∃ q, wps[i]? = some q ∧ V.ref q = y := by
      rw [List.getElem?_map] at hy
      cases e : wps[i]? with
      | none => rw [e] at hy; cases hy
      | some y => rw [e] at hy; exact ⟨y, rfl, Option.some.inj hy⟩
    obtain ⟨u, hu, hqu⟩ := tw.at i q hq
    have hrange := rowsM_mem m d u (List.mem_of_getElem? hu)
    have hstep := filter_take_succ hu ownM
    have lds : ds.length ≤ 1000 := by
      rw [PySem.Paired.length td]
      exact Nat.le_trans ((List.filter_sublist).length_le) (by rw [List.length_take]; have := C.c6; omega)
    refine ⟨rfl, _, rfl, q, u, rfl, s1 _ _ hqu, by omega, fun H3 s3 => ⟨_, rfl, ?_⟩⟩
    refine ite2 (fun ho => ?_) (fun ho => ?_)
    · have s13 := s1.trans s3
      have hq3 := s13 _ _ hqu
      have hD3 := s3 _ _ hDD
      refine ⟨_, rfl, q, rfl, ⟨_, SqT.of hq3⟩, fun D2 hD2 => ?_⟩
      refine lc_it (walk_tup (K := K) (xs := u.map vI)) (fun k H4 => Same H3 H4 ∧ H4 D2 = some (.lst ((u.take k).map fun x => vS (ks.getD x.toNat [])))) ⟨same_new (fun _ _ h => h) hD2, upd_same⟩ (fun k H4 _ h => SqT.of (h.1 _ _ hq3)) ?_ ?_
      · rintro k x H4 H5 hk ⟨h1, h2⟩ ⟨rfl, hx⟩
        obtain ⟨y, hy, rfl⟩ : ∃ y, u[k]? = some y ∧ vI y = x := by
          rw [List.getElem?_map] at hx
          cases e : u[k]? with
          | none => rw [e] at hx; cases hx
          | some y => rw [e] at hx; exact ⟨y, rfl, Option.some.inj hx⟩
        obtain ⟨y0, y1⟩ := hrange.1 y (List.mem_of_getElem? hy)
        refine ⟨rfl, ?_⟩
        rw [tYes, if_pos rfl]
        refine ⟨_, rfl, _, rfl, kn, _, y, vS (ks.getD y.toNat []), rfl, rfl, SqL.of (h1 _ _ (s13 _ _ hkn)), ?_, _, h2, ?_, same_at h1 hD2, ?_⟩
        · have hlt : y.toNat < ks.length := by omega
          have e := atI_nat (xs := ks.map vS) (j := y.toNat) (v := vS (ks.getD y.toNat [])) (by rw [List.getElem?_map, List.getElem?_eq_getElem hlt, List.getD_eq_getElem?_getD, List.getElem?_eq_getElem hlt]; rfl)
          rw [show ((y.toNat : Nat) : Int) = y by omega] at e
          exact e
        · rw [List.length_map, List.length_take]
          exact Nat.lt_of_le_of_lt (show _ ≤ 100 by omega) (by decide)
        · rw [upd_same, map_take_succ hy]
      · rintro H4 ⟨h1, h2⟩
        rw [List.length_map, List.take_length] at h2
        refine ⟨D2, _, rfl, .inl ⟨SqL.of h2, fun z hz => ?_⟩⟩
        have sz : Same H3 (upd H4 z (.tup (nm ks u))) := same_new h1 hz
        have hD4 := h1 _ _ hD3
        have nzD : z ≠ DD := (ne_of_none hD4 hz).symm
        refine ⟨_, (upd_ne nzD.symm).trans hD4, ?_, ds ++ [z], same_at (s13.trans sz) hD, ?_, ?_⟩
        · rw [List.length_map]
          exact Nat.lt_of_le_of_lt lds (by decide)
        · rw [upd_same, List.map_append]
          rfl
        · rw [hstep, if_pos ho]
          have hmo : ∀ (o : HO) (p : Addr) (u : List Int), (p ≠ DD ∧ H2 p = some (.tup (nm ks u))) → (p ≠ DD ∧ (upd (upd H4 z (.tup (nm ks u))) DD o) p = some (.tup (nm ks u))) := fun o p u h => ⟨h.1, by
            rw [upd_ne h.1]
            by_cases e : p = z
            · subst e
              rw [s3.trans h1 _ _ h.2] at hz
              cases hz
            · rw [upd_ne e]
              exact (s3.trans h1) _ _ h.2⟩
          refine PySem.Paired.snoc (PySem.Paired.mono (fun p u h => ?_) td) ⟨nzD, ?_⟩
          · refine ⟨h.1, ?_⟩
            rw [upd_ne h.1]
            exact sz _ _ (s3 _ _ h.2)
          · rw [upd_ne nzD]
            exact upd_same
    · refine ⟨ds, s1.trans s3, s3 _ _ hDD, ?_⟩
      rw [hstep, if_neg ho, List.append_nil]
      exact PySem.Paired.mono (fun p u h => ⟨h.1, s3 _ _ h.2⟩) td
  · rintro H1 ⟨ds, s1, hDD, td⟩
    rw [List.length_map, PySem.Paired.length tw, List.take_length, C.c2] at td
    exact hn _ _ ⟨x0, x1, x3, p, kn, wd, DD, nl, m, d, how, rfl, h7.same s1, h8.same s1, ds, hDD, by rw [hks]; exact PySem.Paired.mono (fun _ _ h => h.2) td⟩
end
end T80
namespace T80
open PySem L2 GK
open SX (S S_inj S_beq S_len S_cat split_S)
/-- the names between double blanks -/
def inter : List (List Nat) → List (List Nat)
  | [] => []
  | [p] => [p]
  | p :: q :: r => p :: [] :: inter (q :: r)
theorem inter_ne : ∀ {ks : List (List Nat)}, ks ≠ [] → inter ks ≠ []
  | [], h => absurd rfl h
  | [_], _ => by simp [inter]
  | _ :: _ :: _, _ => by simp [inter]
theorem joinL_cons {s p : List Nat} : ∀ {r : List (List Nat)}, r ≠ [] → TL.joinL s (p :: r) = p ++ (s ++ TL.joinL s r)
  | [], h => absurd rfl h
  | _ :: _, _ => rfl
theorem inter_join : ∀ ks : List (List Nat), TL.joinL [32] (inter ks) = TL.joinL [32, 32] ks
  | [] => rfl
  | [p] => rfl
  | p :: q :: r => by
    have ih := inter_join (q :: r)
    have hne := inter_ne (ks := q :: r) (by simp)
    rw [inter, joinL_cons (by simp), joinL_cons hne, ih, TL.joinL]
    rfl
theorem inter_filter : ∀ {ks : List (List Nat)}, (∀ x ∈ ks, x ≠ []) → (inter ks).filter (fun x => !decide (x = [])) = ks
  | [], _ => rfl
  | [p], h => by
    have : p ≠ [] := h p (by simp)
    simp [inter, this]
  | p :: q :: r, h => by
    have h1 : p ≠ [] := h p (by simp)
    have ih := inter_filter (ks := q :: r) fun x hx => h x (List.mem_cons_of_mem _ hx)
    rw [inter, List.filter_cons, List.filter_cons, ih]
    simp [h1]
theorem inter_mem : ∀ {ks : List (List Nat)} {x : List Nat}, x ∈ inter ks → x = [] ∨ x ∈ ks
  | [], x, h => by cases h
  | [p], x, h => .inr h
  | p :: q :: r, x, h => by
    rw [inter] at h
    rcases List.mem_cons.mp h with h | h
    · exact .inr (by rw [h]; exact List.mem_cons_self)
    · rcases List.mem_cons.mp h with h | h
      · exact .inl h
      · rcases inter_mem h with h | h
        · exact .inl h
        · exact .inr (List.mem_cons_of_mem _ h)
theorem words_join2 {ks : List (List Nat)} (hne : ks ≠ []) (hk : ∀ x ∈ ks, isName x = true) : wordsOf (TL.joinL [32, 32] ks) = ks := by
  rw [← inter_join, wordsOf, SX.spl_join (inter_ne hne) fun p hp => ?_]
  · exact inter_filter fun x hx => isName_ne (hk x hx)
  · rcases inter_mem hp with h | h
    · rw [h]; simp
    · exact no_space (hk p h)
theorem joinL_len2 {ks : List (List Nat)} (hk : ∀ x ∈ ks, isName x = true) (hl : ks.length ≤ 6) (how : Int) : (TL.joinL (sepOf how) ks).length ≤ 1000 := by
  have h := joinL_len (s := 2) (fun x hx => isName_len (hk x hx)) (sepOf how) (by unfold sepOf; split <;> decide)
  have : ks.length * (16 + 2) ≤ 6 * 18 := Nat.mul_le_mul hl (by decide)
  omega
/-- what is handed in, as it stands -/
def Hd (H : Hp) (how : Int) (ks : List (List Nat)) (v : V) : Prop := (how = 0 ∧ ∃ l, v = .ref l ∧ H l = some (.lst (ks.map vS))) ∨ (how = 1 ∧ ∃ l, v = .ref l ∧ H l = some (.tup (ks.map vS))) ∨ (how ≠ 0 ∧ how ≠ 1 ∧ v = vS (TL.joinL (sepOf how) ks))
theorem Hd.same {H H' : Hp} {how : Int} {ks : List (List Nat)} {v : V} (h : Hd H how ks v) (s : Same H H') : Hd H' how ks v := by
  rcases h with ⟨h, l, e, hl⟩ | ⟨h, l, e, hl⟩ | h
  · exact .inl ⟨h, l, e, s _ _ hl⟩
  · exact .inr (.inl ⟨h, l, e, s _ _ hl⟩)
  · exact .inr (.inr h)
theorem Hd.of {H H' : Hp} {how : Int} {ks : List (List Nat)} {v : V} (h : Kn H H' how ks v) : Hd H' how ks v := by
  rcases h with ⟨h, l, e, _, hl⟩ | ⟨h, l, e, _, hl⟩ | h
  · exact .inl ⟨h, l, e, hl⟩
  · exact .inr (.inl ⟨h, l, e, hl⟩)
  · exact .inr (.inr h)
theorem Hd.src {H : Hp} {how : Int} {ks : List (List Nat)} {v : V} (h : Hd H how ks v) (hne : ks ≠ []) (hk : ∀ x ∈ ks, isName x = true) (hl : ks.length ≤ 6) : ∃ ra, SrcR v ks ra ∧ ∀ q ∈ ra, H q.1 = some q.2 ∧ Lean1 q.2 := by
  rcases h with ⟨_, l, e, hl⟩ | ⟨_, l, e, hl⟩ | ⟨_, _, e⟩
  · refine ⟨[(l, .lst (ks.map vS))], .inr ⟨l, _, e, .inl rfl, rfl⟩, fun q hq => ?_⟩
    have : q = (l, HO.lst (ks.map vS)) := by simpa using hq
    subst this
    exact ⟨hl, trivial⟩
  · refine ⟨[(l, .tup (ks.map vS))], .inr ⟨l, _, e, .inr rfl, rfl⟩, fun q hq => ?_⟩
    have : q = (l, HO.tup (ks.map vS)) := by simpa using hq
    subst this
    exact ⟨hl, trivial⟩
  · refine ⟨[], .inl ⟨_, e, joinL_len2 hk hl how, ?_, rfl⟩, fun q hq => nomatch hq⟩
    unfold sepOf
    split
    · exact (words_join2 hne hk).symm
    · exact (words_join (sep := [32]) hne hk).symm
theorem dpNames {K : PySem.W.Frag} {H : Hp} : ∀ ks : List (List Nat), DpAll K H (ks.map vS) (ks.map fun k => PyData.str (S k))
  | [] => .nil
  | k :: r => .cons (.str (S k)) (dpNames r)
theorem okNames (n : Nat) (ks : List (List Nat)) : (ks.map fun k => PyData.str (S k)).all (okD (n + 1)) = true := by
  rw [List.all_map, List.all_eq_true]
  intro _ _
  rfl
theorem Hd.dp {K : PySem.W.Frag} {H : Hp} {how : Int} {ks : List (List Nat)} (hl : ks.length ≤ 6) : ∃ d, okD 4 d = true ∧ ∀ (H' : Hp) (v : V), Hd H' how ks v → Dp K H' v d := by
  by_cases h0 : how = 0
  · refine ⟨.list (ks.map fun k => PyData.str (S k)), ?_, fun H' v h => ?_⟩
    · show (decide ((ks.map fun k => PyData.str (S k)).length ≤ 100000) && _) = true
      rw [List.length_map, decide_eq_true (by omega), okNames]
      rfl
    · rcases h with ⟨_, l, rfl, h⟩ | ⟨h, _⟩ | ⟨h, _⟩
      · exact .lst (SqL.of h) (dpNames ks)
      · rw [h0] at h; cases h
      · exact absurd h0 h
  · by_cases h1 : how = 1
    · refine ⟨.tuple (ks.map fun k => PyData.str (S k)), ?_, fun H' v h => ?_⟩
      · show (decide ((ks.map fun k => PyData.str (S k)).length ≤ 100000) && _) = true
        rw [List.length_map, decide_eq_true (by omega), okNames]
        rfl
      · rcases h with ⟨h, _⟩ | ⟨_, l, rfl, h⟩ | ⟨_, h, _⟩
        · exact absurd h h0
        · exact .tup (SqT.of h) (dpNames ks)
        · exact absurd h1 h
    · refine ⟨.str (S (TL.joinL (sepOf how) ks)), rfl, fun H' v h => ?_⟩
      rcases h with ⟨h, _⟩ | ⟨h, _⟩ | ⟨_, _, rfl⟩
      · exact absurd h h0
      · exact absurd h h1
      · exact .str _
def nmD (ks : List (List Nat)) (u : List Int) : PyData := .tuple (u.map fun x => PyData.str (S (ks.getD x.toNat [])))
theorem dpNm {K : PySem.W.Frag} {H : Hp} (ks : List (List Nat)) : ∀ u : List Int, DpAll K H (nm ks u) (u.map fun x => PyData.str (S (ks.getD x.toNat [])))
  | [] => .nil
  | x :: r => .cons (.str _) (dpNm ks r)
theorem dpTups {K : PySem.W.Frag} {H : Hp} {ks : List (List Nat)} : ∀ {ps : List Addr} {us : List (List Int)}, NTup ks H ps us → DpAll K H (ps.map V.ref) (us.map (nmD ks))
  | _, _, .nil => .nil
  | _, _, .cons h t => .cons (.tup (SqT.of h) (dpNm ks _)) (dpTups t)
theorem okTups (ks : List (List Nat)) (us : List (List Int)) (h : ∀ u ∈ us, u.length ≤ 1000) (n : Nat) : (us.map (nmD ks)).all (okD (n + 2)) = true := by
  rw [List.all_map, List.all_eq_true]
  intro u hu
  show (decide ((u.map fun x => PyData.str (S (ks.getD x.toNat []))).length ≤ 100000) && (u.map fun x => PyData.str (S (ks.getD x.toNat []))).all (okD (n + 1))) = true
  rw [List.length_map, decide_eq_true (by have := h u hu; omega), List.all_map, Bool.true_and, List.all_eq_true]
  intro _ _
  rfl
theorem ownL_len {m d : Nat} (C : Chk m d) : ∀ u ∈ ownL m d, u.length ≤ 1000 := fun u hu => by
  rw [ownL, List.mem_flatMap] at hu
  obtain ⟨i, hi, hu⟩ := hu
  obtain ⟨us, h1, h2, h3⟩ := C.c1 i (List.mem_range.mp hi)
  rw [h2] at hu
  have := (h3 u hu).1
  omega
theorem rest_own (ks : List (List Nat)) (m d : Nat) : rest ks (tabM m) d 0 = (ownL m d).map (nm ks) := by
  rw [rest, ownL, Nat.sub_zero, ← List.range_eq_range', List.map_flatMap]
theorem flat_eq {α β : Type} {f g : α → List β} : ∀ {l : List α}, (∀ x ∈ l, f x = g x) → l.flatMap f = l.flatMap g
  | [], _ => rfl
  | x :: r, h => by rw [List.flatMap_cons, List.flatMap_cons, h x List.mem_cons_self, flat_eq fun y hy => h y (List.mem_cons_of_mem _ hy)]
def tabC (m d L : Nat) : List (List Int) := if 1 ≤ L ∧ L ≤ d then tabM m L else []
theorem tabC_in {m d L : Nat} (h1 : 1 ≤ L) (h2 : L ≤ d) : tabC m d L = tabM m L := if_pos ⟨h1, h2⟩
/-- the generator's promise, asked with a list of ks that stands, and a depth within what was tried -/
theorem spOw_ks {H : Hp} {v : V} {ks : List (List Nat)} {m d e : Nat} (C : Chk m d) (he : e ≤ d) (hd : d ≤ 12) (hm : 1 ≤ m) (hkl : ks.length = m) (hg : good ks = true) (h6 : m ≤ 6) {ra : List (Addr × HO)} (hs : SrcR v ks ra) : spOw [v, .int (e : Nat)] H ra ((ownL m e).map (nm ks)) := by
  have get : ∀ L, 1 ≤ L → L ≤ d → ∃ us, runW m L 200 [-1] = some us ∧ tabC m d L = us ∧ ∀ u ∈ us, u.length ≤ 12 ∧ ∀ x ∈ u, (0 : Int) ≤ x ∧ x < m := fun L h1 h2 => by
    obtain ⟨us, e1, e2, e3⟩ := C.c1 (L - 1) (by omega)
    rw [show L - 1 + 1 = L by omega] at e1 e2
    exact ⟨us, e1, by rw [tabC_in h1 h2, e2], e3⟩
  refine ⟨v, e, ks, tabC m d, rfl, by omega, hg, by omega, hs, fun L h1 h2 => .inr ⟨by omega, ?_, ?_⟩, fun L u hu => ?_, ?_⟩
  · obtain ⟨us, e1, e2, e3⟩ := get L h1 (by omega)
    rw [e2, hkl]
    exact ⟨200, e1⟩
  · obtain ⟨us, e1, e2, e3⟩ := get L h1 (by omega)
    rw [e2, hkl]
    exact fun u hu => (e3 u hu).2
  · by_cases h : 1 ≤ L ∧ L ≤ d
    · obtain ⟨us, e1, e2, e3⟩ := get L h.1 h.2
      rw [e2] at hu
      have := (e3 u hu).1
      omega
    · rw [tabC, if_neg h] at hu
      cases hu
  · rw [rest, ownL, Nat.sub_zero, ← List.range_eq_range', List.map_flatMap]
    exact flat_eq fun j hj => by rw [tabC_in (by omega) (by have := List.mem_range.mp hj; omega)]
/-- what list() told -/
theorem told_ntup {ks : List (List Nat)} {H H2 : Hp} {ps : List Addr} {us : List (List Int)} (t : Told H H2 ps (us.map (nm ks))) : NTup ks H2 ps us := by
  have go : ∀ (ps : List Addr) (us : List (List Int)), ps.length = us.length → (∀ (i : Nat) (p : Addr) (u : List Int), ps[i]? = some p → us[i]? = some u → H2 p = some (.tup (nm ks u))) → NTup ks H2 ps us := by
    intro ps
    induction ps with
    | nil =>
      intro us h _
      cases us with
      | nil => exact .nil
      | cons _ _ => cases h
    | cons p r ih =>
      intro us h k
      cases us with
      | nil => cases h
      | cons u us => exact .cons (k 0 p u rfl rfl) (ih us (by simpa using h) fun i p u h1 h2 => k (i + 1) p u (by rw [List.getElem?_cons_succ]; exact h1) (by rw [List.getElem?_cons_succ]; exact h2))
  refine go ps us (by have := t.len; rw [List.length_map] at this; exact this) fun i p u h1 h2 => t.tup i p _ h1 ?_
  rw [List.getElem?_map, h2]
  rfl
def P10 : St → Hp → Prop := fun σ H => ∃ (x0 x1 x3 : Option V) (p kn wd du : Addr) (nl : List (List Nat)) (m d : Nat) (how : Int) (hv : V), σ = sl [x0, x1, some (.int m), x3, some (.int d), some (.ref p), some (.int how), some (.ref kn), some (.ref wd), none, none, some (.ref du), some hv] ∧ Q7 p kn nl m d H ∧ Q8 wd m d H ∧ Q9 du (nl.take m) m d H ∧ Hd H how (nl.take m) hv
def P11 : St → Hp → Prop := fun σ H => ∃ (x0 x1 x3 : Option V) (p kn wd du tl : Addr) (nl : List (List Nat)) (m d : Nat) (how : Int) (hv : V), σ = sl [x0, x1, some (.int m), x3, some (.int d), some (.ref p), some (.int how), some (.ref kn), some (.ref wd), none, none, some (.ref du), some hv, some (.ref tl)] ∧ Q7 p kn nl m d H ∧ Q8 wd m d H ∧ Q9 du (nl.take m) m d H ∧ Hd H how (nl.take m) hv ∧ Q9 tl (nl.take m) m d H
theorem Q7.ks {p kn : Addr} {nl : List (List Nat)} {m d : Nat} {H : Hp} (h : Q7 p kn nl m d H) : (nl.take m).length = m ∧ good (nl.take m) = true ∧ nl.take m ≠ [] ∧ (∀ x ∈ nl.take m, isName x = true) ∧ d ≤ 12 := by
  obtain ⟨hmd, _, hl, hg, _⟩ := h
  have hlen : (nl.take m).length = m := by rw [List.length_take]; have := hmd.2.1; omega
  have g := good_sub (List.take_sublist m nl) hg
  refine ⟨hlen, g, fun z => ?_, fun x hx => good_mem g hx, Nat.le_trans hmd.2.2 (mostOf_le hmd.1 hmd.2.1)⟩
  rw [z] at hlen
  have := hmd.1
  simp at hlen
  omega
section
variable {P : Program} {w : World} {K : PySem.W.Frag} {mg : Str → Option Value} {base : Heap} {f : Addr} {cdv : Value} {A : Around} {outer : List Env} {s : Shared} {H0 : Hp} {E : XK}
theorem tri9 (hr1 : Room 1 (LX P w K mg base f cdv A outer s H0 E).A) (c__law_knobs : Cl P w K mg base CX0 "_law_knobs" 1 ["names", "how"] spKn) : Tri (LX P w K mg base f cdv A outer s H0 E) (lawSt 9) P9 P10 := by
  have nd := scLaw.nd
  refine ⟨_, (ps_set (i := 12) nd rfl (Or.inl rfl) (pe_cl c__law_knobs hr1 (by rfl) pass0 (pa_cons (pv 7) (pa_cons (pv 6) pa_nil)))), ?_⟩
  rintro D σ H n ⟨x0, x1, x3, p, kn, wd, du, nl, m, d, how, rfl, h7, h8, h9⟩ hn
  obtain ⟨kl, kg, kne, knm, _⟩ := h7.ks
  exact ⟨_, rfl, _, rfl, kn, how, nl.take m, rfl, h7.2.2.2.2, by have := h7.1.2.1; omega, fun x hx => Nat.le_trans (isName_len (knm x hx)) (by decide), fun H' v s hk => hn _ _ ⟨x0, x1, x3, p, kn, wd, du, nl, m, d, how, v, rfl, h7.same s, h8.same s, h9.same s, Hd.of hk⟩⟩
theorem tri10 (hr5 : Room 5 (LX P w K mg base f cdv A outer s H0 E).A) (hr8 : Room 8 (LX P w K mg base f cdv A outer s H0 E).A) (T : TL' mg) (c_ow : GCl P w K mg base "own_words" 5 ["knobs", "depth"] false spOw) : Tri (LX P w K mg base f cdv A outer s H0 E) (lawSt 10) P10 P11 := by
  have nd := scLaw.nd
  refine ⟨_, ps_set (i := 13) nd rfl (Or.inl rfl) (pe_listN (k := 5) rfl hr8 (pgn_cl c_ow hr5 (by rfl) (pa_cons (pv 12) (pa_cons (pv 4) pa_nil))) (by rfl) T.list (by decide +kernel)), ?_⟩
  rintro D σ H n ⟨x0, x1, x3, p, kn, wd, du, nl, m, d, how, hv, rfl, h7, h8, h9, hh⟩ hn
  obtain ⟨kl, kg, kne, knm, hd12⟩ := h7.ks
  have C := chk_of h7.1
  obtain ⟨ra, h1, h2⟩ := hh.src kne knm (by have := h7.1.2.1; omega)
  refine ⟨_, rfl, _, rfl, ra, _, spOw_ks C (Nat.le_refl d) hd12 h7.1.1 kl kg h7.1.2.1 h1, h2, ?_, fun ps S H2 t hS => ?_⟩
  · rw [List.length_map]
    exact Nat.lt_of_le_of_lt C.c7 (by decide)
  · have s2 : Same H (upd H2 S (.lst (ps.map V.ref))) := same_new t.same hS
    exact hn _ _ ⟨x0, x1, x3, p, kn, wd, du, S, nl, m, d, how, hv, rfl, h7.same s2, h8.same s2, h9.same s2, hh.same s2, ps, upd_same, (told_ntup t).same (same_new (fun _ _ h => h) hS)⟩
theorem tri11 (hr1 : Room 1 (LX P w K mg base f cdv A outer s H0 E).A) (hr4 : Room 4 (LX P w K mg base f cdv A outer s H0 E).A) (c__law_knobs : Cl P w K mg base CX0 "_law_knobs" 1 ["names", "how"] spKn) (c__law_same : Cl P w K mg base CX0 "_law_same" 4 ["told", "due"] (spSm K 4)) : Tri (LX P w K mg base f cdv A outer s H0 E) (lawSt 11) P11 P11 := by
  have nd := scLaw.nd
  refine ⟨_, (ps_if (PW.pt (pw_or (pt_not (pt_val (pe_cl c__law_same hr4 (by rfl) pass0 (pa_cons (pv 13) (pa_cons (pv 11) pa_nil))))) (pw_or1 (pt_not (pt_val (pe_cl c__law_same hr4 (by rfl) pass0 (pa_cons (pv 12) (pa_cons (pe_cl c__law_knobs hr1 (by rfl) pass0 (pa_cons (pv 7) (pa_cons (pv 6) pa_nil))) pa_nil))))))))
      (pss_one (ps_ret pe_bl))
      pss_nil), ?_⟩
  rintro D σ H n ⟨x0, x1, x3, p, kn, wd, du, tl, nl, m, d, how, hv, rfl, h7, h8, h9, hh, h11⟩ hn
  obtain ⟨kl, kg, kne, knm, hd12⟩ := h7.ks
  have C := chk_of h7.1
  obtain ⟨dps, hdu, tdu⟩ := id h9
  obtain ⟨tps, htl, ttl⟩ := id h11
  have ok : okD 4 (.list ((ownL m d).map (nmD (nl.take m)))) = true := by
    show (decide (((ownL m d).map (nmD (nl.take m))).length ≤ 100000) && _) = true
    rw [List.length_map, decide_eq_true (by have := C.c7; omega), okTups _ _ (ownL_len C)]
    rfl
  refine ⟨_, rfl, _, rfl, _, _, _, rfl, .lst (SqL.of htl) (dpTups ttl), .lst (SqL.of hdu) (dpTups tdu), ok, fun H1 s1 => ⟨_, rfl, iteF ?_⟩⟩
  refine ⟨_, rfl, _, rfl, _, rfl, kn, how, nl.take m, rfl, s1 _ _ h7.2.2.2.2, by have := h7.1.2.1; omega, fun x hx => Nat.le_trans (isName_len (knm x hx)) (by decide), fun H2 v s2 hk => ?_⟩
  obtain ⟨dd, hok, hdp⟩ := Hd.dp (K := K) (H := H) (how := how) (ks := nl.take m) (by have := h7.1.2.1; omega)
  refine ⟨_, _, dd, rfl, hdp _ _ ((hh.same s1).same s2), hdp _ _ (Hd.of hk), hok, fun H3 s3 => ⟨_, rfl, iteF ?_⟩⟩
  have s13 := (s1.trans s2).trans s3
  exact hn _ _ ⟨x0, x1, x3, p, kn, wd, du, tl, nl, m, d, how, hv, rfl, h7.same s13, h8.same s13, h9.same s13, hh.same s13, h11.same s13⟩
end
end T80
namespace T80
open PySem L2 GK
open SX (S S_inj S_beq S_len S_cat split_S)
theorem pe_index {X : Cx} {K : PySem.W.Frag} {o e : Expr} {to te : TE} {apos cpos : Pos} (h : X.K = K) (ho : PE X o to) (he : PE X e te)
    (hbase : attributeBase o "index" X.env (eval o X.env) = eval o X.env := by rfl)
    (hfew : ((backTo cpos (starEach [e] X.env)).all (fun x => !x.1) && (backToKw cpos (keywordEach [] X.env)).all (fun x => x.1.isSome) && decide (([e] : List Expr).length + ([] : List Keyword).length + (if ([] : List Keyword).isEmpty then 0 else 1) < 30)) = true := by rfl)
    (hline : (apos.endLine == cpos.line) = true := by rfl) (hs : starEach [e] X.env = (false, eval e X.env) :: starEach [] X.env := by rfl) (hplain : (backTo cpos (starEach [] X.env)).any (·.1) = false := by rfl) :
    PE X (.Call (.Attribute o "index" apos) [e] [] cpos) (tBM K "list" (rIndex K) to (tCons te tNil)) := by
  subst h
  exact pe_bm PySem.F.plainAttrs_list PySem.F.slot_list_index PySem.F.type_list_index mt_index ho (pa_cons he pa_nil hs) hbase hfew hline hs hplain
def cnt (d : Nat) (us : List (List Int)) : List Int := (List.range (d + 1)).map fun z => (((us.filter fun u => decide (u.length = z)).length : Nat) : Int)
theorem cnt_at (d : Nat) (us : List (List Int)) {z : Nat} (h : z ≤ d) : (cnt d us)[z]? = some (((us.filter fun u => decide (u.length = z)).length : Nat) : Int) := by
  rw [cnt, List.getElem?_map, List.getElem?_range (by omega)]
  rfl
theorem cnt_step (d : Nat) (us : List (List Int)) (u : List Int) : (cnt d us).set u.length ((((us.filter fun v => decide (v.length = u.length)).length : Nat) : Int) + 1) = cnt d (us ++ [u]) := by
  apply List.ext_getElem?
  intro z
  by_cases hz : z ≤ d
  · rw [cnt_at _ _ hz]
    by_cases e : u.length = z
    · subst e
      rw [List.getElem?_set_self (by rw [cnt, List.length_map, List.length_range]; omega), List.filter_append, List.length_append]
      simp
    · rw [List.getElem?_set_ne e, cnt_at _ _ hz, List.filter_append, List.length_append]
      simp [e]
  · have h1 : ∀ us, (cnt d us).length = d + 1 := fun us => by rw [cnt, List.length_map, List.length_range]
    rw [List.getElem?_eq_none (by rw [List.length_set, h1]; omega), List.getElem?_eq_none (by rw [h1]; omega)]
theorem inl_inj {u v : List Int} (h : u.map (Sum.inl : Int → Key) = v.map Sum.inl) : u = v := by
  induction u generalizing v with
  | nil =>
    cases v with
    | nil => rfl
    | cons _ _ => cases h
  | cons a r ih =>
    cases v with
    | nil => cases h
    | cons b t =>
      simp only [List.map_cons, List.cons.injEq, Sum.inl.injEq] at h
      rw [h.1, ih h.2]
/-- the dict holds just the words us -/
def OwnD (kvs : List (List Key × V)) (us : List (List Int)) : Prop := kvs.length ≤ us.length ∧ ∀ u, ownK kvs u = us.any fun v => decide (v = u)
theorem ownD_put {kvs : List (List Key × V)} {us : List (List Int)} (h : OwnD kvs us) (u : List Int) : OwnD (putK kvs (u.map Sum.inl) (.bl true)) (us ++ [u]) := by
  refine ⟨Nat.le_trans (length_putK _ _ _) (by rw [List.length_append]; have := h.1; simp only [List.length_cons, List.length_nil]; omega), fun v => ?_⟩
  rw [ownK, valV_put, List.any_append]
  by_cases e : v.map (Sum.inl : Int → Key) = u.map Sum.inl
  · have e2 := inl_inj e
    subst e2
    simp
  · have e2 : ¬ u = v := fun z => e (by rw [z])
    have := h.2 v
    rw [ownK] at this
    rw [if_neg e, this]
    simp [e2]
theorem ownL_rows {m d : Nat} (C : Chk m d) : ∀ u ∈ ownL m d, u ∈ rowsM m d := fun u hu => by
  rw [← C.c2] at hu
  exact (List.mem_filter.mp hu).1
def R11 (p kn wd du tl : Addr) (nl : List (List Nat)) (m d : Nat) (H : Hp) : Prop := Q7 p kn nl m d H ∧ Q8 wd m d H ∧ Q9 du (nl.take m) m d H ∧ Q9 tl (nl.take m) m d H
theorem R11.same {p kn wd du tl : Addr} {nl : List (List Nat)} {m d : Nat} {H H' : Hp} (h : R11 p kn wd du tl nl m d H) (s : Same H H') : R11 p kn wd du tl nl m d H' := ⟨h.1.same s, h.2.1.same s, h.2.2.1.same s, h.2.2.2.same s⟩
def P12 : St → Hp → Prop := fun σ H => ∃ (x0 x1 x3 x6 x12 : Option V) (p kn wd du tl o : Addr) (nl : List (List Nat)) (m d : Nat) (Hb : Hp), σ = sl [x0, x1, some (.int m), x3, some (.int d), some (.ref p), x6, some (.ref kn), some (.ref wd), none, none, some (.ref du), x12, some (.ref tl), some (.ref o)] ∧ R11 p kn wd du tl nl m d Hb ∧ Same Hb H ∧ Hb o = none ∧ H o = some (.dT [])
def P13 : St → Hp → Prop := fun σ H => ∃ (x0 x1 x3 x6 x12 : Option V) (p kn wd du tl o z : Addr) (nl : List (List Nat)) (m d : Nat) (Hb : Hp), σ = sl [x0, x1, some (.int m), x3, some (.int d), some (.ref p), x6, some (.ref kn), some (.ref wd), none, none, some (.ref du), x12, some (.ref tl), some (.ref o), none, some (.ref z)] ∧ R11 p kn wd du tl nl m d Hb ∧ Same Hb H ∧ Hb o = none ∧ Hb z = none ∧ H o = some (.dT []) ∧ H z = some (.lst ((cnt d []).map V.int))
def P14 : St → Hp → Prop := fun σ H => ∃ (x0 x1 x3 x6 x9 x12 x18 : Option V) (p kn wd du tl o z : Addr) (nl : List (List Nat)) (m d : Nat) (kvs : List (List Key × V)), σ = sl [x0, x1, some (.int m), x3, some (.int d), some (.ref p), x6, some (.ref kn), some (.ref wd), x9, none, some (.ref du), x12, some (.ref tl), some (.ref o), none, some (.ref z), none, x18] ∧ R11 p kn wd du tl nl m d H ∧ H o = some (.dT kvs) ∧ OwnD kvs (ownL m d) ∧ H z = some (.lst ((cnt d (ownL m d)).map V.int))
section
variable {P : Program} {w : World} {K : PySem.W.Frag} {mg : Str → Option Value} {base : Heap} {f : Addr} {cdv : Value} {A : Around} {outer : List Env} {s : Shared} {H0 : Hp} {E : XK}
theorem tri12 : Tri (LX P w K mg base f cdv A outer s H0 E) (lawSt 12) P11 P12 := by
  have nd := scLaw.nd
  refine ⟨_, ps_set (i := 14) nd rfl (Or.inl rfl) pe_dnewT, ?_⟩
  rintro D σ H n ⟨x0, x1, x3, p, kn, wd, du, tl, nl, m, d, how, hv, rfl, h7, h8, h9, hh, h11⟩ hn
  intro o ho
  have s1 : Same H (upd H o (.dT [])) := same_new (fun _ _ h => h) ho
  exact hn _ _ ⟨_, _, _, _, _, p, kn, wd, du, tl, o, nl, m, d, H, rfl, ⟨h7, h8, h9, h11⟩, s1, ho, upd_same⟩
theorem tri13 (T : TL' mg) : Tri (LX P w K mg base f cdv A outer s H0 E) (lawSt 13) P12 P13 := by
  have nd := scLaw.nd
  refine ⟨_, (ps_setLc (i := 16) (own := [("k", 15)]) (g := gName 15) (by rfl) nd rfl rfl (sw_true rfl rfl rfl (by decide +kernel)) (pi_range1 (by rfl) T.range (pa_cons (pe_op op_add (pv 4) pe_int) pa_nil)) (blkOk_by (own := [("k", 15)]) (N := N_law) (sc := defScope s_law) (by decide +kernel)) (fun _ _ _ _ _ => pg_name (i := 15) nd rfl (Or.inl rfl)) (fun _ _ _ _ _ => pts_nil) (fun _ _ _ _ _ => pe_int)), ?_⟩
  rintro D σ H n ⟨x0, x1, x3, x6, x12, p, kn, wd, du, tl, o, nl, m, d, Hb, rfl, hR, sb, o0, ho⟩ hn
  have hd12 := hR.1.ks.2.2.2.2
  refine ⟨_, rfl, _, _, rfl, rfl, _, rfl, by omega, by omega, fun DD hD => ?_⟩
  rw [show ((d : Nat) + 1 : Int).toNat = d + 1 by omega]
  refine lc_it walk_range (fun i H' => Same H H' ∧ H' DD = some (.lst ((List.replicate i (0 : Int)).map V.int))) ⟨same_new (fun _ _ h => h) hD, upd_same⟩ (fun _ _ _ _ => trivial) ?_ ?_
  · rintro i x H1 H2 hi ⟨s1, hDD⟩ ⟨rfl, rfl⟩
    refine ⟨rfl, ?_⟩
    rw [tYes, if_pos rfl]
    refine ⟨_, hDD, ?_, same_at s1 hD, ?_⟩
    · rw [List.length_map, List.length_replicate]
      exact Nat.lt_of_le_of_lt (show _ ≤ 13 by omega) (by decide)
    · rw [upd_same, List.replicate_succ', List.map_append]
      rfl
  · rintro H1 ⟨s1, hDD⟩
    refine hn _ _ ⟨_, _, _, _, _, p, kn, wd, du, tl, o, DD, nl, m, d, Hb, rfl, hR, sb.trans s1, o0, sn sb hD, s1 _ _ ho, ?_⟩
    rw [hDD, show cnt d [] = List.replicate (d + 1) (0 : Int) from ?_]
    rw [cnt]
    apply List.ext_getElem?
    intro j
    by_cases hj : j < d + 1
    · rw [List.getElem?_map, List.getElem?_range hj, List.getElem?_replicate, if_pos hj]
      rfl
    · rw [List.getElem?_eq_none (by rw [List.length_map, List.length_range]; omega), List.getElem?_eq_none (by rw [List.length_replicate]; omega)]
theorem tri14 (hu : (LX P w K mg base f cdv A outer s H0 E).A.units + 1 < cLine) (T : TL' mg) : Tri (LX P w K mg base f cdv A outer s H0 E) (lawSt 14) P13 P14 := by
  have nd := scLaw.nd
  refine ⟨_, (ps_for PassesOwn.never rfl (pi_list (pv 13)) (pg_name (i := 9) nd rfl (Or.inl rfl))
      (pss_cons (ps_dput hu (pv 14) (pe_callTy call_tuple_of (by rfl) T.tuple (by decide +kernel) (pa_cons (pe_lc (own := [("name", 17)]) (g := gName 17) (by rfl) nd (pi_tup (pv 9)) (blkOk_by (own := [("name", 17)]) (N := N_law) (sc := defScope s_law) (by decide +kernel)) (fun _ _ _ _ _ => pg_name (i := 17) nd rfl (Or.inl rfl)) (fun _ _ _ _ _ => pts_nil) (fun _ _ _ _ _ => (pe_index (K := K) rfl (pv 7) (pv 17)))) pa_nil)) pe_bl rfl)
        (pss_one (ps_augS (pv 16) (pe_callB call_len_seq (by rfl) T.len (by decide +kernel) (pa_cons (pv 9) pa_nil)) get_list pe_int ip_add set_list)))), ?_⟩
  rintro D σ H n ⟨x0, x1, x3, x6, x12, p, kn, wd, du, tl, o, z, nl, m, d, Hb, rfl, hR, sb, o0, z0, ho, hz⟩ hn
  obtain ⟨h7, h8, h9, tps, htl, ttl⟩ := id hR
  obtain ⟨kl, kg, kne, knm, hd12⟩ := h7.ks
  have C := chk_of h7.1
  have hkn := h7.2.2.2.2
  generalize hks : nl.take m = ks at kl kg kne knm hkn ttl
  have nzo : z ≠ o := ne_of hz ho (by intro e; cases e)
  have knd := of_decide_eq_true (Bool.and_eq_true_iff.mp kg).2
  refine ⟨_, rfl, tl, rfl, ⟨_, SqL.of (sb _ _ htl)⟩, for_it (walk_list (K := K) (xs := tps.map V.ref)) (fun i σ H' => ∃ (x9 : Option V) (kvs : List (List Key × V)), σ = sl [x0, x1, some (.int m), x3, some (.int d), some (.ref p), x6, some (.ref kn), some (.ref wd), x9, none, some (.ref du), x12, some (.ref tl), some (.ref o), none, some (.ref z)] ∧ Same Hb H' ∧
      H' o = some (.dT kvs) ∧ OwnD kvs ((ownL m d).take i) ∧ H' z = some (.lst ((cnt d ((ownL m d).take i)).map V.int)))
    ⟨none, [], rfl, sb, ho, ⟨Nat.le_refl _, fun u => rfl⟩, hz⟩ (fun i σ H' _ ⟨_, _, _, k, _⟩ => SqL.of (k _ _ htl)) ?_ ?_⟩
  · rintro i y σ H1 H2 hi ⟨x9, kvs, rfl, s1, ho1, hk1, hz1⟩ ⟨rfl, hy⟩
    obtain ⟨q, hq, rfl⟩ : ∃ q, tps[i]? = some q ∧ V.ref q = y := by
      rw [List.getElem?_map] at hy
      cases e : tps[i]? with
      | none => rw [e] at hy; cases hy
      | some y => rw [e] at hy; exact ⟨y, rfl, Option.some.inj hy⟩
    obtain ⟨u, hu, hqu⟩ : ∃ u, (ownL m d)[i]? = some u ∧ Hb q = some (.tup (nm ks u)) := by
      have lt : i < (ownL m d).length := by
        have := (List.getElem?_eq_some_iff.mp hq).1
        rw [PySem.Paired.length ttl] at this
        exact this
      refine ⟨_, List.getElem?_eq_getElem lt, ?_⟩
      have go : ∀ {ps : List Addr} {us : List (List Int)}, NTup ks Hb ps us → ∀ (i : Nat) (p : Addr) (u : List Int), ps[i]? = some p → us[i]? = some u → Hb p = some (.tup (nm ks u)) := by
        intro ps us h
        induction h with
        | nil => intro i p u h; simp at h
        | cons a b ih =>
          intro i p u h1 h2
          cases i with
          | zero =>
            simp at h1 h2
            subst h1 h2
            exact a
          | succ i => exact ih i p u (by simpa using h1) (by simpa using h2)
      exact go ttl i q _ hq (List.getElem?_eq_getElem lt)
    have hum := List.mem_of_getElem? hu
    obtain ⟨hrange, hlen⟩ := rowsM_mem m d u (ownL_rows C u hum)
    have htake : (ownL m d).take (i + 1) = (ownL m d).take i ++ [u] := by rw [List.take_add_one, hu]; rfl
    have hq1 := s1 _ _ hqu
    -- own[tuple(..)] = True
    refine seq_cut (fun σ' H' => ∃ kvs : List (List Key × V), σ' = sl [x0, x1, some (.int m), x3, some (.int d), some (.ref p), x6, some (.ref kn), some (.ref wd), some (.ref q), none, some (.ref du), x12, some (.ref tl), some (.ref o), none, some (.ref z)] ∧ Same Hb H' ∧ H' o = some (.dT kvs) ∧ OwnD kvs ((ownL m d).take (i + 1)) ∧ H' z = some (.lst ((cnt d ((ownL m d).take i)).map V.int))) (fun n2 hn2 => ?_) (fun σ' H3 ⟨kvs3, eσ, s3, ho3, hk3, hz3⟩ => ?_)
    · refine ⟨_, rfl, _, rfl, q, rfl, ⟨_, SqT.of hq1⟩, fun D2 hD2 => ?_⟩
      refine lc_it (walk_tup (K := K) (xs := nm ks u)) (fun k H4 => Same H2 H4 ∧ H4 D2 = some (.lst ((u.take k).map vI))) ⟨same_new (fun _ _ h => h) hD2, upd_same⟩ (fun k H4 _ h => SqT.of (h.1 _ _ hq1)) ?_ ?_
      · rintro k x H4 H5 hk ⟨h1, h2⟩ ⟨rfl, hx⟩
        obtain ⟨y, hy, rfl⟩ : ∃ y, u[k]? = some y ∧ vS (ks.getD y.toNat []) = x := by
          rw [nm, List.getElem?_map] at hx
          cases e : u[k]? with
          | none => rw [e] at hx; cases hx
          | some y => rw [e] at hx; exact ⟨y, rfl, Option.some.inj hx⟩
        obtain ⟨y0, y1⟩ := hrange y (List.mem_of_getElem? hy)
        have hlt : y.toNat < ks.length := by omega
        have hgd : ks.getD y.toNat [] = ks[y.toNat] := by rw [List.getD_eq_getElem?_getD, List.getElem?_eq_getElem hlt]; rfl
        have hkn5 := SqL.of (K := K) (h1 _ _ (s1 _ _ hkn))
        refine ⟨rfl, ?_⟩
        rw [tYes, if_pos rfl]
        refine ⟨_, rfl, .inl ⟨rfl, _, hkn5⟩, _, rfl, kn, _, vS (ks.getD y.toNat []), y.toNat, vS (ks.getD y.toNat []), rfl, rfl, hkn5, rfl, flat_vS ks, ?_, ?_, ?_, ?_⟩
        · rw [List.getElem?_map, List.getElem?_eq_getElem hlt, hgd]
          rfl
        · rw [eqV_vS]
          exact beq_self_eq_true _
        · intro j z' hj hz'
          rw [List.getElem?_map, List.getElem?_eq_getElem (by omega)] at hz'
          have ez : vS ks[j] = z' := Option.some.inj hz'
          rw [← ez, eqV_vS, hgd, beq_eq_false_iff_ne]
          exact List.pairwise_iff_getElem.mp knd j y.toNat (by omega) hlt hj
        · refine ⟨_, h2, ?_, same_at h1 hD2, ?_⟩
          · rw [List.length_map, List.length_take]
            exact Nat.lt_of_le_of_lt (show _ ≤ 100 by omega) (by decide)
          · rw [upd_same, map_take_succ hy, show ((y.toNat : Nat) : Int) = y by omega]
            rfl
      · rintro H4 ⟨h1, h2⟩
        rw [nm, List.length_map, List.take_length] at h2
        refine ⟨D2, _, rfl, .inl ⟨SqL.of h2, fun t ht => ?_⟩⟩
        have st : Same H2 (upd H4 t (.tup (u.map vI))) := same_new h1 ht
        refine ⟨o, _, rfl, DPut.t (k := u.map Sum.inl) (st _ _ ho1) (by rw [upd_same, keys_map]) ?_, ?_⟩
        · exact Nat.lt_of_le_of_lt (Nat.le_trans hk1.1 (show _ ≤ 1000 by rw [List.length_take]; have := C.c7; omega)) (by decide)
        · refine hn2 _ _ ⟨_, rfl, same_at (s1.trans st) o0, upd_same, by rw [htake]; exact ownD_put hk1 u, ?_⟩
          rw [upd_ne nzo]
          exact st _ _ hz1
    subst eσ
    -- sizes[len(word)] += 1
    have hq3 := s3 _ _ hqu
    have hat := cnt_at d ((ownL m d).take i) hlen
    have hl1 : (nm ks u).length = u.length := by rw [nm, List.length_map]
    have hat2 : atI ((cnt d ((ownL m d).take i)).map V.int) (((nm ks u).length : Nat) : Int) = some (.int ((((ownL m d).take i).filter fun v => decide (v.length = u.length)).length : Nat)) := by
      rw [hl1]
      exact atI_nat (by rw [List.getElem?_map, hat]; rfl)
    have hix : ixN ((cnt d ((ownL m d).take i)).map V.int).length (((nm ks u).length : Nat) : Int) = some u.length := by
      rw [hl1, ixN, if_pos (by omega), if_pos (by rw [List.length_map, cnt, List.length_map, List.length_range]; omega)]
      simp
    refine ⟨_, rfl, _, rfl, q, _, rfl, .inr (SqT.of hq3), z, _, _, _, rfl, rfl, SqL.of hz3, hat2, _, _, rfl, rfl, z, _, _, u.length, rfl, rfl, hz3, hix, ?_⟩
    refine ⟨_, kvs3, rfl, same_at s3 z0, ?_, hk3, ?_⟩
    · rw [upd_ne nzo.symm]
      exact ho3
    · rw [upd_same, htake, ← cnt_step, List.map_set]
  · rintro σ H1 ⟨x9, kvs, rfl, s1, ho1, hk1, hz1⟩
    rw [List.length_map, PySem.Paired.length ttl, List.take_length] at hk1 hz1
    exact hn _ _ ⟨_, _, _, _, x9, _, none, p, kn, wd, du, tl, o, z, nl, m, d, kvs, rfl, hR.same s1, ho1, hk1, hz1⟩
end
end T80
namespace T80
open PySem L2 GK
open SX (S S_inj S_beq S_len S_cat split_S)
def P17 : St → Hp → Prop := fun σ H => ∃ (x0 x1 x3 x6 x9 x12 x14 x16 x18 : Option V) (p kn wd du tl : Addr) (nl : List (List Nat)) (m d : Nat), σ = sl [x0, x1, some (.int m), x3, some (.int d), some (.ref p), x6, some (.ref kn), some (.ref wd), x9, none, some (.ref du), x12, some (.ref tl), x14, none, x16, none, x18] ∧ R11 p kn wd du tl nl m d H
def P18 : St → Hp → Prop := fun σ H => ∃ (x0 x1 x3 x6 x9 x12 x14 x16 x18 : Option V) (p kn wd du tl : Addr) (nl : List (List Nat)) (m d e : Nat), σ = sl [x0, x1, some (.int m), x3, some (.int d), some (.ref p), x6, some (.ref kn), some (.ref wd), x9, none, some (.ref du), x12, some (.ref tl), x14, none, x16, none, x18, some (.int e)] ∧ R11 p kn wd du tl nl m d H ∧ e ≤ d ∧ e = min d 2
theorem src_list {H : Hp} {l : Addr} {ks : List (List Nat)} (h : H l = some (.lst (ks.map vS))) : SrcR (.ref l) ks [(l, .lst (ks.map vS))] ∧ ∀ q ∈ [(l, HO.lst (ks.map vS))], H q.1 = some q.2 ∧ Lean1 q.2 :=
  ⟨.inr ⟨l, _, rfl, .inl rfl, rfl⟩, fun q hq => by
    have : q = (l, HO.lst (ks.map vS)) := by simpa using hq
    subst this
    exact ⟨h, trivial⟩⟩
theorem src_tup {H : Hp} {l : Addr} {ks : List (List Nat)} (h : H l = some (.tup (ks.map vS))) : SrcR (.ref l) ks [(l, .tup (ks.map vS))] ∧ ∀ q ∈ [(l, HO.tup (ks.map vS))], H q.1 = some q.2 ∧ Lean1 q.2 :=
  ⟨.inr ⟨l, _, rfl, .inr rfl, rfl⟩, fun q hq => by
    have : q = (l, HO.tup (ks.map vS)) := by simpa using hq
    subst this
    exact ⟨h, trivial⟩⟩
theorem strOk_name {a : List Nat} (h : a.all isInn = true) : PyData.strOk (S a) = true := by
  show (S a).cps.all (· < 0x110000) = true
  rw [← Array.all_toList, List.all_eq_true]
  intro c hc
  have h1 := List.all_eq_true.mp h c hc
  have h2 : c ≤ 122 := by
    simp [isInn, isLet, isDig] at h1
    omega
  exact decide_eq_true (Nat.lt_of_le_of_lt h2 (by decide))
theorem getD_inn {ks : List (List Nat)} (hk : ∀ x ∈ ks, isName x = true) (i : Nat) : (ks.getD i []).all isInn = true := by
  rw [List.getD_eq_getElem?_getD]
  cases e : ks[i]? with
  | none => rfl
  | some a => exact isName_inn (hk a (List.mem_of_getElem? e))
theorem layStrs (f : Int → Str) (hf : ∀ x, PyData.strOk (f x) = true) : ∀ u : List Int, PyData.canLayAll0 (u.map fun x => PyData.str (f x)) = true ∧ PyData.depthAll (u.map fun x => PyData.str (f x)) = 0
  | [] => by simp [PyData.canLayAll0, PyData.depthAll]
  | n :: r => by
    have h := layStrs f hf r
    simp [PyData.canLayAll0, PyData.depthAll, PyData.canLay0, PyData.depth, h.1, h.2, hf]
theorem shapedS (f : Int → Str) (hf : ∀ x, PyData.strOk (f x) = true) (u : List Int) : SeqAt.shaped (.tuple (u.map fun x => PyData.str (f x))) = true := by
  have h := layStrs f hf u
  show (PyData.canLay0 (.tuple (u.map fun x => PyData.str (f x))) && decide (PyData.depth (.tuple (u.map fun x => PyData.str (f x))) ≤ 64)) = true
  simp [PyData.canLay0, PyData.depth, h.1, h.2]
theorem eqvS (f : Int → Str) (hf : ∀ x, PyData.strOk (f x) = true) (u : List Int) : PyData.eqv (.tuple (u.map fun x => PyData.str (f x))) (.tuple (u.map fun x => PyData.str (f x))) = true := SeqAt.eqv_refl _ (by
  have h := layStrs f hf u
  simp [PyData.canLay0, h.1])
/-- what stands in the base heap stands beside the sleeper's things, too -/
theorem over_same {E H : Hp} (h : ∀ b u, E b = some u → H b = none) : Same H (over E H) := fun a o e => by
  rw [over_off]
  · exact e
  · cases q : E a with
    | none => rfl
    | some u => rw [h a u q] at e; cases e
theorem strip_same {E H H' : Hp} (h : ∀ b u, E b = some u → H b = none) (s : Same H H') : Same H (strip E H') := fun a o e => by
  rw [strip_off]
  · exact s a o e
  · cases q : E a with
    | none => rfl
    | some u => rw [h a u q] at e; cases e
section
variable {P : Program} {w : World} {K : PySem.W.Frag} {mg : Str → Option Value} {base : Heap} {f : Addr} {cdv : Value} {A : Around} {outer : List Env} {s : Shared} {H0 : Hp} {E : XK}
theorem tri15 (hr1 : Room 1 (LX P w K mg base f cdv A outer s H0 E).A) (T : TL' mg) (c__law_many : Cl P w K mg base CX0 "_law_many" 1 ["knobs", "size"] spMy) : Tri (LX P w K mg base f cdv A outer s H0 E) (lawSt 15) P14 P14 := by
  have nd := scLaw.nd
  refine ⟨_, (ps_for PassesOwn.never rfl (pi_range2 (by rfl) T.range (pa_cons pe_int (pa_cons (pe_op op_add (pv 4) pe_int) pa_nil))) (pg_name (i := 18) nd rfl (Or.inl rfl))
      (pss_one (ps_if (pt_cmpR op_ne (pe_ix ix_list (pv 16) (pv 18) (fun _ _ => rfl)) (pe_cl c__law_many hr1 (by rfl) pass0 (pa_cons (pv 2) (pa_cons (pv 18) pa_nil))) (nomark _))
          (pss_one (ps_ret pe_bl))
          pss_nil))), ?_⟩
  rintro D σ H n ⟨x0, x1, x3, x6, x9, x12, x18, p, kn, wd, du, tl, o, z, nl, m, d, kvs, rfl, hR, ho, hk, hz⟩ hn
  have hd12 := hR.1.ks.2.2.2.2
  have hmd := hR.1.1
  have C := chk_of hmd
  refine ⟨_, rfl, _, _, rfl, rfl, _, _, rfl, ⟨by decide, by decide, by omega, by omega⟩, ?_⟩
  have en : ((d : Int) + 1 - 1).toNat = d := by omega
  rw [en]
  refine for_it walk_range (fun i σ H' => (∃ x18, σ = sl [x0, x1, some (.int m), x3, some (.int d), some (.ref p), x6, some (.ref kn), some (.ref wd), x9, none, some (.ref du), x12, some (.ref tl), some (.ref o), none, some (.ref z), none, x18]) ∧ Same H H') ⟨⟨x18, rfl⟩, fun _ _ h => h⟩ (fun _ _ _ _ _ => trivial) ?_ ?_
  · rintro i x σ H1 H2 hi ⟨⟨x18, rfl⟩, s1⟩ ⟨rfl, rfl⟩
    have hk : (1 : Int) + (i : Nat) = ((i + 1 : Nat) : Int) := by omega
    rw [show (fun i : Nat => V.int (1 + (i : Int))) i = V.int ((i + 1 : Nat) : Int) from congrArg V.int hk]
    have hat : atI ((cnt d (ownL m d)).map V.int) ((i + 1 : Nat) : Int) = some (.int (((ownL m d).filter fun v => decide (v.length = i + 1)).length : Nat)) := atI_nat (by rw [List.getElem?_map, cnt_at d _ (by omega)]; rfl)
    refine ⟨_, rfl, _, rfl, z, _, _, _, rfl, rfl, SqL.of (s1 _ _ hz), hat, _, rfl, _, rfl, m, i + 1, rfl, hmd.2.1, by omega, by omega, fun H3 s3 => ⟨rfl, _, rfl, ?_⟩⟩
    refine ite2 (fun h => ?_) (fun _ => ⟨⟨_, rfl⟩, s1.trans s3⟩)
    have h' : (!decide (V.int ((((ownL m d).filter fun v => decide (v.length = i + 1)).length : Nat) : Int) = V.int (manyM m (i + 1)))) = true := h
    rw [C.c3 i hi] at h'
    simp at h'
  · rintro σ H1 ⟨⟨x18, rfl⟩, s1⟩
    exact hn _ _ ⟨x0, x1, x3, x6, x9, x12, x18, p, kn, wd, du, tl, o, z, nl, m, d, kvs, rfl, hR.same s1, s1 _ _ ho, hk, s1 _ _ hz⟩
theorem tri16 (hr1 : Room 1 (LX P w K mg base f cdv A outer s H0 E).A) (T : TL' mg) (c__law_falls : Cl P w K mg base CX0 "_law_falls" 1 ["word", "own"] spFa) : Tri (LX P w K mg base f cdv A outer s H0 E) (lawSt 16) P14 P17 := by
  have nd := scLaw.nd
  refine ⟨_, (ps_for PassesOwn.never rfl (pi_list (pv 8)) (pg_name (i := 9) nd rfl (Or.inl rfl))
      (pss_one (ps_if (pt_cmpR op_ne (pe_cl c__law_falls hr1 (by rfl) pass0 (pa_cons (pv 9) (pa_cons (pv 14) pa_nil))) pe_int (nomark _))
          (pss_one (ps_ret pe_bl))
          pss_nil))), ?_⟩
  rintro D σ H n ⟨x0, x1, x3, x6, x9, x12, x18, p, kn, wd, du, tl, o, z, nl, m, d, kvs, rfl, hR, ho, hk, hz⟩ hn
  have hd12 := hR.1.ks.2.2.2.2
  have hmd := hR.1.1
  have C := chk_of hmd
  obtain ⟨wps, hw, tw⟩ := hR.2.1
  have eo : ownK kvs = isOwnL m d := by
    funext u
    rw [hk.2 u]
    rfl
  refine ⟨_, rfl, wd, rfl, ⟨_, SqL.of hw⟩, for_it (walk_list (K := K) (xs := wps.map V.ref)) (fun i σ H' => (∃ x9, σ = sl [x0, x1, some (.int m), x3, some (.int d), some (.ref p), x6, some (.ref kn), some (.ref wd), x9, none, some (.ref du), x12, some (.ref tl), some (.ref o), none, some (.ref z), none, x18]) ∧ Same H H') ⟨⟨x9, rfl⟩, fun _ _ h => h⟩ (fun _ _ _ _ h => SqL.of (h.2 _ _ hw)) ?_ ?_⟩
  · rintro i y σ H1 H2 hi ⟨⟨x9, rfl⟩, s1⟩ ⟨rfl, hy⟩
    obtain ⟨q, hq, rfl⟩ : ∃ q, wps[i]? = some q ∧ V.ref q = y := by
      rw [List.getElem?_map] at hy
      cases e : wps[i]? with
      | none => rw [e] at hy; cases hy
      | some y => rw [e] at hy; exact ⟨y, rfl, Option.some.inj hy⟩
    obtain ⟨u, hu, hqu⟩ := tw.at i q hq
    have hum := List.mem_of_getElem? hu
    have hlen := (rowsM_mem m d u hum).2
    refine ⟨_, rfl, _, rfl, q, o, u, kvs, rfl, s1 _ _ hqu, s1 _ _ ho, by omega, by rw [eo]; exact C.c5 u hum, fun H3 s3 => ⟨rfl, _, rfl, ?_⟩⟩
    refine ite2 (fun h => ?_) (fun _ => ⟨⟨_, rfl⟩, s1.trans s3⟩)
    have h' : (!decide (V.int ((fallsM (ownK kvs) u : Nat) : Int) = V.int 1)) = true := h
    rw [eo, C.c4 u hum] at h'
    simp at h'
  · rintro σ H1 ⟨⟨x9, rfl⟩, s1⟩
    exact hn _ _ ⟨x0, x1, x3, x6, x9, x12, _, _, x18, p, kn, wd, du, tl, nl, m, d, rfl, hR.same s1⟩
theorem tri17 (hr : Room 10 (LX P w K mg base f cdv A outer s H0 E).A) (T : TL' mg) (c_ow : GCl P w K mg base "own_words" 5 ["knobs", "depth"] false spOw) : Tri (LX P w K mg base f cdv A outer s H0 E) (lawSt 17) P17 P17 := by
  have nd := scLaw.nd
  have hr5 : Room 5 (LX P w K mg base f cdv A outer s H0 E).A := hr.mono (by decide)
  have hr6 : Room 6 (LX P w K mg base f cdv A outer s H0 E).A := hr.mono (by decide)
  refine ⟨_, ps_forN (k := 5) rfl rfl rfl hr6 (pgn_cl c_ow hr5 (by rfl) (pa_cons (pe_callTy call_list_of (by rfl) T.list (by decide +kernel) (pa_cons (pv 7) pa_nil)) (pa_cons (pv 4) pa_nil))) (pg_name (i := 9) nd rfl (Or.inl rfl))
    (pss_cons (ps_if (pt_cmpR (op_neD hr.units) (pv 9) (pe_ix ix_list (pv 11) pe_int (fun _ _ => rfl)) (nomark _)) (pss_one (ps_ret pe_bl)) pss_nil) (pss_one ps_break)), ?_⟩
  rintro D σ H n ⟨x0, x1, x3, x6, x9, x12, x14, x16, x18, p, kn, wd, du, tl, nl, m, d, rfl, hR⟩ hn
  obtain ⟨kl, kg, kne, knm, hd12⟩ := hR.1.ks
  have hmd := hR.1.1
  have C := chk_of hmd
  have hkn := hR.1.2.2.2.2
  generalize hks : nl.take m = ks at kl kg kne knm hkn
  refine ⟨_, rfl, kn, _, rfl, .inl (SqL.of hkn), fun l hl => ⟨_, rfl, ?_⟩⟩
  have s1 : Same H (upd H l (.lst (ks.map vS))) := same_new (fun _ _ h => h) hl
  obtain ⟨r1, r2⟩ := src_list (H := upd H l (.lst (ks.map vS))) (l := l) (ks := ks) upd_same
  refine ⟨_, _, spOw_ks C (Nat.le_refl d) hd12 hmd.1 kl kg hmd.2.1 r1, r2, ?_⟩
  have hR1 := hR.same s1
  refine ⟨fun i σ H' => (∃ x9, σ = sl [x0, x1, some (.int m), x3, some (.int d), some (.ref p), x6, some (.ref kn), some (.ref wd), x9, none, some (.ref du), x12, some (.ref tl), x14, none, x16, none, x18]) ∧ i = 0 ∧ Same H H' ∨ False, .inl ⟨⟨x9, rfl⟩, rfl, s1⟩, ?_, ?_⟩
  · rintro σ H' (⟨⟨x9, rfl⟩, _, s2⟩ | h)
    · exact hn _ _ ⟨x0, x1, x3, x6, x9, x12, x14, x16, x18, p, kn, wd, du, tl, nl, m, d, rfl, hR.same s2⟩
    · exact h.elim
  · rintro i x σ H' hx (⟨⟨x9, rfl⟩, rfl, s2⟩ | h) EE q hE hq
    · obtain ⟨dps, hdu, tdu⟩ := hR.2.2.1
      have sE : Same H' (over EE H') := over_same fun b u e => (hE b u e).1
      have hq2 : (over EE H') q = none := by
        rw [over_off]
        · exact hq
        · cases e : EE q with
          | none => rfl
          | some u => exact absurd rfl (hE q u e).2.1
      have s3 : Same H (upd (over EE H') q (.tup x)) := same_new (s2.trans sE) hq2
      obtain ⟨u, hu, rfl⟩ : ∃ u, (ownL m d)[0]? = some u ∧ nm ks u = x := by
        rw [List.getElem?_map] at hx
        cases e : (ownL m d)[0]? with
        | none => rw [e] at hx; cases hx
        | some y => rw [e] at hx; exact ⟨y, rfl, Option.some.inj hx⟩
      obtain ⟨dp, hdp, hdt⟩ : ∃ dp, dps[0]? = some dp ∧ H dp = some (.tup (nm ks u)) := by
        rw [hks] at tdu
        clear hx
        generalize ownL m d = us at tdu hu
        cases tdu with
        | nil => cases hu
        | cons a b =>
          cases hu
          exact ⟨_, rfl, a⟩
      have h0 : atI (dps.map V.ref) 0 = some (.ref dp) := atI_nat (j := 0) (by rw [List.getElem?_map, hdp]; rfl)
      refine ⟨_, rfl, _, rfl, du, _, _, .ref dp, rfl, rfl, SqL.of (s3 _ _ hdu), h0, ?_⟩
      refine ⟨_, _, .tup (SqT.of upd_same) (dpNm ks u), .tup (SqT.of (s3 _ _ hdt)) (dpNm ks u), ?_, ?_, _, rfl, ?_⟩
      · exact shapedS _ (fun x => strOk_name (getD_inn knm x.toNat)) u
      · exact shapedS _ (fun x => strOk_name (getD_inn knm x.toNat)) u
      · refine ite2 (fun h => ?_) (fun _ => ?_)
        · rw [eqvS (fun x => S (ks.getD x.toNat [])) (fun x => strOk_name (getD_inn knm x.toNat)) u] at h
          cases h
        · refine ⟨fun b v e => ?_, ?_⟩
          · rw [upd_ne (hE b v e).2.1, over_on e]
          · have s4 : Same H' (strip EE (upd (over EE H') q (.tup (nm ks u)))) := strip_same (fun b v e => (hE b v e).1) (same_new sE hq2)
            exact hn _ _ ⟨x0, x1, x3, x6, _, x12, x14, x16, x18, p, kn, wd, du, tl, nl, m, d, rfl, hR.same (s2.trans s4)⟩
    · exact h.elim
theorem tri18 (T : TL' mg) : Tri (LX P w K mg base f cdv A outer s H0 E) (lawSt 18) P17 P18 := by
  have nd := scLaw.nd
  refine ⟨_, (ps_set (i := 19) nd rfl (Or.inr rfl) (pe_callB (call_min2 rfl) (by rfl) T.min (by decide +kernel) (pa_cons (pv 4) (pa_cons pe_int pa_nil)))), ?_⟩
  rintro D σ H n ⟨x0, x1, x3, x6, x9, x12, x14, x16, x18, p, kn, wd, du, tl, nl, m, d, rfl, hR⟩ hn
  refine ⟨_, rfl, _, _, rfl, ?_⟩
  refine hn _ _ ⟨x0, x1, x3, x6, x9, x12, x14, x16, x18, p, kn, wd, du, tl, nl, m, d, min d 2, ?_, hR, by omega, rfl⟩
  rw [show ((min d 2 : Nat) : Int) = if (2 : Int) < (d : Nat) then 2 else ((d : Nat) : Int) by split <;> omega]
  rfl
end
end T80
namespace T80
open PySem L2 GK
open SX (S S_inj S_beq S_len S_cat split_S)
def g2 {α : Type} : List α → List α → List α
  | [], [a, b] => [a, b]
  | _, _ => []
def g2' {α : Type} : List α → List α → List α
  | [], [a, b] => [b, a]
  | _, _ => []
/-- own_words, called by keywords -/
structure KCl (P : Program) (w : World) (K : PySem.W.Frag) (mg : Str → Option Value) (base : Heap) : Prop where
  ex : ∃ (f : Addr) (fd : FuncData), mg "own_words" = some (.ref f) ∧ GDef P w K mg base 5 f fd ["knobs", "depth"] false spOw ∧ PySem.W.keepIn K (.ref f) = true ∧ KBinds K fd ["knobs", "depth"] ["knobs", "depth"] g2 g2 ∧ KBinds K fd ["knobs", "depth"] ["depth", "knobs"] g2' g2'
theorem g2_rel {vs : List V} {us : List Value} {zs : List V} {ws : List Value} (h1 : Vals vs us) (h2 : Vals zs ws) : Vals (g2 vs zs) (g2 us ws) := by
  cases h1 with
  | nil =>
    cases h2 with
    | nil => exact .nil
    | cons a t =>
      cases t with
      | nil => exact .nil
      | cons b t =>
        cases t with
        | nil => exact .cons a (.cons b .nil)
        | cons _ _ => exact .nil
  | cons _ _ => exact .nil
theorem g2_rel' {vs : List V} {us : List Value} {zs : List V} {ws : List Value} (h1 : Vals vs us) (h2 : Vals zs ws) : Vals (g2' vs zs) (g2' us ws) := by
  cases h1 with
  | nil =>
    cases h2 with
    | nil => exact .nil
    | cons a t =>
      cases t with
      | nil => exact .nil
      | cons b t =>
        cases t with
        | nil => exact .cons b (.cons a .nil)
        | cons _ _ => exact .nil
  | cons _ _ => exact .nil
theorem kcl_of {P : Program} {w : World} {K : PySem.W.Frag} {mg : Str → Option Value} {base : Heap} {f : Addr} {fd : FuncData} (F : Fun K "own_words" "own_words" s_own f fd) (m : mg "own_words" = some (.ref f)) (G : GDef P w K mg base 5 f fd ["knobs", "depth"] false spOw) : KCl P w K mg base := by
  obtain ⟨oc, od, kV, doc, pm, an, cdv, ct, osl, rfl, lk, hcd⟩ := F.ex
  refine ⟨f, _, m, G, F.kp, ⟨fun s us ws _ h => ?_, g2_rel⟩, ⟨fun s us ws _ h => ?_, g2_rel'⟩⟩
  · match us, ws, h with
    | [], [a, b], _ => exact .of_eq rfl
  · match us, ws, h with
    | [], [a, b], _ => exact .of_eq rfl
/-- pairs of tuples stand -/
abbrev Prs (ks : List (List Nat)) (H : Hp) (qs : List Addr) (uv : List (List Int × List Int)) : Prop := PySem.Paired (fun (q : Addr) (x : List Int × List Int) => ∃ a b : Addr, H q = some (.tup [.ref a, .ref b]) ∧ H a = some (.tup (nm ks x.1)) ∧ H b = some (.tup (nm ks x.2))) qs uv
theorem Prs.tups {ks : List (List Nat)} {H H' : Hp} {qs : List Addr} {uv : List (List Int × List Int)} (h : Prs ks H qs uv) (k : ∀ (a : Addr) (xs : List V), H a = some (.tup xs) → H' a = some (.tup xs)) : Prs ks H' qs uv :=
  PySem.Paired.mono (fun _ _ ⟨a, b, h1, h2, h3⟩ => ⟨a, b, k _ _ h1, k _ _ h2, k _ _ h3⟩) h
def prod (us vs : List (List Int)) : List (List Int × List Int) := us.flatMap fun u => vs.map fun v => (u, v)
theorem prod_step {us vs : List (List Int)} {i : Nat} {u : List Int} (h : us[i]? = some u) : prod (us.take (i + 1)) vs = prod (us.take i) vs ++ vs.map fun v => (u, v) := by
  rw [List.take_add_one, h, prod, List.flatMap_append]
  simp [prod]
theorem strip_keep {E H : Hp} {a : Addr} {o : HO} (h1 : ∀ b u, E b = some u → H b = some u ∧ ∃ φ, u = .ext φ) (h : H a = some o) (ho : ∀ φ, o ≠ .ext φ) : strip E H a = some o := by
  rw [strip_off]
  · exact h
  · cases q : E a with
    | none => rfl
    | some u =>
      obtain ⟨h2, φ, e⟩ := h1 a u q
      rw [h2] at h
      cases h
      exact absurd e (ho φ)
def P19 : St → Hp → Prop := fun σ H => ∃ (x0 x1 x3 x6 x9 x12 x14 x16 x18 x21 x22 : Option V) (p kn wd du tl pr : Addr) (nl : List (List Nat)) (m d e : Nat) (Hb : Hp) (qs : List Addr), σ = sl [x0, x1, some (.int m), x3, some (.int d), some (.ref p), x6, some (.ref kn), some (.ref wd), x9, none, some (.ref du), x12, some (.ref tl), x14, none, x16, none, x18, some (.int e), some (.ref pr), x21, x22] ∧
  R11 p kn wd du tl nl m d Hb ∧ Same Hb H ∧ Hb pr = none ∧ e ≤ d ∧ e = min d 2 ∧ H pr = some (.lst (qs.map V.ref)) ∧ qs = []
def P20 : St → Hp → Prop := fun σ H => ∃ (x0 x1 x3 x6 x9 x12 x14 x16 x18 x21 x22 : Option V) (p kn wd du tl pr : Addr) (nl : List (List Nat)) (m d e : Nat) (qs : List Addr), σ = sl [x0, x1, some (.int m), x3, some (.int d), some (.ref p), x6, some (.ref kn), some (.ref wd), x9, none, some (.ref du), x12, some (.ref tl), x14, none, x16, none, x18, some (.int e), some (.ref pr), x21, x22] ∧
  R11 p kn wd du tl nl m d H ∧ e ≤ d ∧ e = min d 2 ∧ H pr = some (.lst (qs.map V.ref)) ∧ Prs (nl.take m) H qs (prod (ownL m e) (ownL m e))
section
variable {P : Program} {w : World} {K : PySem.W.Frag} {mg : Str → Option Value} {base : Heap} {f : Addr} {cdv : Value} {A : Around} {outer : List Env} {s : Shared} {H0 : Hp} {E : XK}
theorem tri19 : Tri (LX P w K mg base f cdv A outer s H0 E) (lawSt 19) P18 P19 := by
  have nd := scLaw.nd
  refine ⟨_, (ps_set (i := 20) nd rfl (Or.inl rfl) (pe_lst pa_nil)), ?_⟩
  rintro D σ H n ⟨x0, x1, x3, x6, x9, x12, x14, x16, x18, p, kn, wd, du, tl, nl, m, d, e, rfl, hR, he, he2⟩ hn
  exact ⟨Nat.zero_le _, fun pr hpr => hn _ _ ⟨x0, x1, x3, x6, x9, x12, x14, x16, x18, none, none, p, kn, wd, du, tl, pr, nl, m, d, e, H, [], rfl, hR, same_new (fun _ _ h => h) hpr, hpr, he, he2, upd_same, rfl⟩⟩
theorem own_small : (List.range 7).all (fun m => (List.range 3).all fun e => decide ((ownL m e).length ≤ 100)) = true := by decide +kernel
theorem ownL_two {m d e : Nat} (C : Chk m d) (he : e ≤ d) : (ownL m e).length ≤ (ownL m d).length := by
  rw [ownL, ownL]
  have : List.range e = (List.range d).take e := by rw [List.take_range]; congr 1; omega
  rw [this]
  have h2 : (List.range d).flatMap (fun i => tabM m (i + 1)) = ((List.range d).take e).flatMap (fun i => tabM m (i + 1)) ++ ((List.range d).drop e).flatMap (fun i => tabM m (i + 1)) := by rw [← List.flatMap_append, List.take_append_drop]
  rw [h2, List.length_append]
  omega
theorem tri20 (hr : Room 10 (LX P w K mg base f cdv A outer s H0 E).A) (T : TL' mg) (c_ow : GCl P w K mg base "own_words" 5 ["knobs", "depth"] false spOw) (c_kw : KCl P w K mg base) : Tri (LX P w K mg base f cdv A outer s H0 E) (lawSt 20) P19 P20 := by
  have nd := scLaw.nd
  have hr5 : Room 5 (LX P w K mg base f cdv A outer s H0 E).A := hr.mono (by decide)
  have hr6 : Room 6 (LX P w K mg base f cdv A outer s H0 E).A := hr.mono (by decide)
  obtain ⟨fo, fdo, mo, Go, ko, kb1, kb2⟩ := c_kw.ex
  refine ⟨_, ps_forN (k := 5) rfl rfl rfl hr6 (pgn_cl c_ow hr5 (by rfl) (pa_cons (pe_callTy call_list_of (by rfl) T.list (by decide +kernel) (pa_cons (pv 7) pa_nil)) (pa_cons (pv 19) pa_nil))) (pg_name (i := 21) nd rfl (Or.inr rfl))
    (pss_one (ps_forN (k := 5) rfl rfl rfl hr6 (pgn_callK0 (ks := ["knobs", "depth"]) Go hr5 (by rfl) mo ko kb1 (pk_cons (pe_callTy call_tuple_of (by rfl) T.tuple (by decide +kernel) (pa_cons (pv 7) pa_nil)) (pk_cons (pv 19) pk_nil))) (pg_name (i := 22) nd rfl (Or.inl rfl))
      (pss_one (ps_expr (pe_bm PySem.F.plainAttrs_list PySem.F.slot_list_append PySem.F.type_list_append mt_append (pv 20) (pa_cons (pe_tup (pa_cons (pv 21) (pa_cons (pv 22) pa_nil))) pa_nil)))))), ?_⟩
  rintro D σ H n ⟨x0, x1, x3, x6, x9, x12, x14, x16, x18, x21, x22, p, kn, wd, du, tl, pr, nl, m, d, e, Hb, qs0, rfl, hR, sb, pr0, he, he2, hpr, rfl⟩ hn
  obtain ⟨kl, kg, kne, knm, hd12⟩ := hR.1.ks
  have hmd := hR.1.1
  have C := chk_of hmd
  have hkn := hR.1.2.2.2.2
  have h1000 : (ownL m e).length ≤ 1000 := Nat.le_trans (ownL_two C he) C.c7
  have h9 : (ownL m e).length ≤ 100 := of_decide_eq_true (List.all_eq_true.mp (List.all_eq_true.mp own_small m (List.mem_range.mpr (by have := hmd.2.1; omega))) e (List.mem_range.mpr (by omega)))
  generalize hks : nl.take m = ks at kl kg kne knm hkn
  generalize hus : ownL m e = us at h1000 h9
  let σs : Option V → Option V → St := fun x21 x22 => sl [x0, x1, some (.int m), x3, some (.int d), some (.ref p), x6, some (.ref kn), some (.ref wd), x9, none, some (.ref du), x12, some (.ref tl), x14, none, x16, none, x18, some (.int e), some (.ref pr), x21, x22]
  refine ⟨_, rfl, kn, _, rfl, .inl (SqL.of (sb _ _ hkn)), fun l hl => ⟨_, rfl, ?_⟩⟩
  have s1 : Same H (upd H l (.lst (ks.map vS))) := same_new (fun _ _ h => h) hl
  obtain ⟨r1, r2⟩ := src_list (H := upd H l (.lst (ks.map vS))) (l := l) (ks := ks) upd_same
  refine ⟨_, _, spOw_ks C he hd12 hmd.1 kl kg hmd.2.1 r1, r2, ?_⟩
  rw [hus]
  refine ⟨fun i σ H' => ∃ (x21 x22 : Option V) (qs : List Addr), σ = σs x21 x22 ∧ Same Hb H' ∧ H' pr = some (.lst (qs.map V.ref)) ∧ Prs ks H' qs (prod (us.take i) us), ⟨x21, x22, [], rfl, sb.trans s1, s1 _ _ hpr, .nil⟩, ?_, ?_⟩
  · rintro σ H' ⟨x21, x22, qs, rfl, s2, hp2, t2⟩
    rw [List.length_map, List.take_length] at t2
    exact hn _ _ ⟨x0, x1, x3, x6, x9, x12, x14, x16, x18, x21, x22, p, kn, wd, du, tl, pr, nl, m, d, e, qs, rfl, hR.same s2, he, he2, hp2, by rw [hks, hus]; exact t2⟩
  · rintro i x σ H' hx ⟨x21, x22, qs, rfl, s2, hp2, t2⟩ EE q hE hq
    obtain ⟨u, hu, rfl⟩ : ∃ u, us[i]? = some u ∧ nm ks u = x := by
      rw [List.getElem?_map] at hx
      cases e : us[i]? with
      | none => rw [e] at hx; cases hx
      | some y => rw [e] at hx; exact ⟨y, rfl, Option.some.inj hx⟩
    have sE : Same H' (over EE H') := over_same fun b u e => (hE b u e).1
    have hq2 : (over EE H') q = none := by
      rw [over_off]
      · exact hq
      · cases e : EE q with
        | none => rfl
        | some u => exact absurd rfl (hE q u e).2.1
    have s3 : Same H' (upd (over EE H') q (.tup (nm ks u))) := same_new sE hq2
    have eE : ∀ b v, EE b = some v → (upd (over EE H') q (.tup (nm ks u))) b = some v := fun b v e => by rw [upd_ne (hE b v e).2.1, over_on e]
    have hqq := upd_same (H := over EE H') (a := q) (o := .tup (nm ks u))
    generalize upd (over EE H') q (.tup (nm ks u)) = Ha at s3 eE hqq
    -- the inner loop
    refine ⟨_, rfl, kn, _, rfl, .inl ⟨SqL.of (s3 _ _ (s2 _ _ hkn)), fun l2 hl2 => ⟨_, rfl, ?_⟩⟩⟩
    have s4 : Same Ha (upd Ha l2 (.tup (ks.map vS))) := same_new (fun _ _ h => h) hl2
    obtain ⟨r3, r4⟩ := src_tup (H := upd Ha l2 (.tup (ks.map vS))) (l := l2) (ks := ks) upd_same
    refine ⟨_, _, spOw_ks C he hd12 hmd.1 kl kg hmd.2.1 r3, r4, ?_⟩
    rw [hus]
    refine ⟨fun j σ H2 => ∃ (x22 : Option V) (qs : List Addr), σ = σs (some (.ref q)) x22 ∧ Same Hb H2 ∧ H2 q = some (.tup (nm ks u)) ∧ (∀ b v, EE b = some v → H2 b = some v) ∧ H2 pr = some (.lst (qs.map V.ref)) ∧ Prs ks H2 qs (prod (us.take i) us ++ (us.take j).map fun v => (u, v)),
      ⟨x22, qs, rfl, (s2.trans s3).trans s4, s4 _ _ hqq, fun b v e => s4 _ _ (eE b v e), s4 _ _ (s3 _ _ hp2), by rw [List.take_zero, List.map_nil, List.append_nil]; exact t2.tups fun a xs h => s4 _ _ (s3 _ _ h)⟩, ?_, ?_⟩
    · rintro σ H2 ⟨x22, qs, rfl, s5, hq5, hE5, hp5, t5⟩
      rw [List.length_map, List.take_length] at t5
      have kE : ∀ b v, EE b = some v → H2 b = some v ∧ ∃ φ, v = .ext φ := fun b v e => ⟨hE5 b v e, (hE b v e).2.2⟩
      refine ⟨hE5, some (.ref q), x22, qs, rfl, fun a o ho => ?_, strip_keep kE hp5 (fun φ z => by cases z), ?_⟩
      · rw [strip_off]
        · exact s5 a o ho
        · cases e : EE a with
          | none => rfl
          | some v =>
            have := s2 a o ho
            rw [(hE a v e).1] at this
            cases this
      · rw [prod_step hu]
        exact t5.tups fun a xs h => strip_keep kE h (fun φ z => by cases z)
    · rintro j x σ H2 hx ⟨x22, qs, rfl, s5, hq5, hE5, hp5, t5⟩ E2 q2 hE2 hq2'
      obtain ⟨v, hv, rfl⟩ : ∃ v, us[j]? = some v ∧ nm ks v = x := by
        rw [List.getElem?_map] at hx
        cases e : us[j]? with
        | none => rw [e] at hx; cases hx
        | some y => rw [e] at hx; exact ⟨y, rfl, Option.some.inj hx⟩
      have sE2 : Same H2 (over E2 H2) := over_same fun b u e => (hE2 b u e).1
      have hq3 : (over E2 H2) q2 = none := by
        rw [over_off]
        · exact hq2'
        · cases e : E2 q2 with
          | none => rfl
          | some u => exact absurd rfl (hE2 q2 u e).2.1
      have s6 : Same H2 (upd (over E2 H2) q2 (.tup (nm ks v))) := same_new sE2 hq3
      have eE2 : ∀ b w, E2 b = some w → (upd (over E2 H2) q2 (.tup (nm ks v))) b = some w := fun b w e => by rw [upd_ne (hE2 b w e).2.1, over_on e]
      have hqq2 := upd_same (H := over E2 H2) (a := q2) (o := .tup (nm ks v))
      generalize upd (over E2 H2) q2 (.tup (nm ks v)) = Hc at s6 eE2 hqq2
      have hpc := s6 _ _ hp5
      -- pairs.append((one, two))
      refine ⟨_, rfl, .inl ⟨rfl, _, SqL.of hpc⟩, _, rfl, _, rfl, by show 2 ≤ sizeLine; decide, fun c hc => ?_⟩
      have hcpr : pr ≠ c := ne_of_none hpc hc
      have s7 : Same Hc (upd Hc c (.tup [.ref q, .ref q2])) := same_new (fun _ _ h => h) hc
      have lqs : qs.length = ((prod (us.take i) us ++ (us.take j).map fun v => (u, v))).length := PySem.Paired.length t5
      refine ⟨pr, _, _, rfl, rfl, s7 _ _ hpc, ?_, ?_⟩
      · rw [List.length_map, lqs, List.length_append, List.length_map]
        have h1 : (prod (us.take i) us).length ≤ 100 * 100 := by
          have go : ∀ l : List (List Int), (prod l us).length = l.length * us.length := fun l => by
            induction l with
            | nil => simp [prod]
            | cons a r ih =>
              have e1 : prod (a :: r) us = us.map (fun v => (a, v)) ++ prod r us := rfl
              rw [e1, List.length_append, List.length_map, ih, List.length_cons, Nat.add_mul, Nat.one_mul, Nat.add_comm]
          rw [go]
          exact Nat.mul_le_mul (by rw [List.length_take]; omega) h9
        have h2 : (us.take j).length ≤ 100 := by rw [List.length_take]; omega
        exact Nat.lt_of_le_of_lt (show _ ≤ 10100 by omega) (by decide)
      · have hpf := upd_same (H := upd Hc c (.tup [.ref q, .ref q2])) (a := pr) (o := .lst (qs.map V.ref ++ [V.ref c]))
        have tk : ∀ (a : Addr) (xs : List V), Hc a = some (.tup xs) → (upd (upd Hc c (.tup [.ref q, .ref q2])) pr (.lst (qs.map V.ref ++ [V.ref c]))) a = some (.tup xs) := fun a xs h => by
          rw [upd_ne (ne_of h hpc (by intro z; cases z))]
          exact s7 _ _ h
        have hcc : (upd (upd Hc c (.tup [.ref q, .ref q2])) pr (.lst (qs.map V.ref ++ [V.ref c]))) c = some (.tup [.ref q, .ref q2]) := by
          rw [upd_ne hcpr.symm]
          exact upd_same
        have ext : ∀ b w, E2 b = some w → (upd (upd Hc c (.tup [.ref q, .ref q2])) pr (.lst (qs.map V.ref ++ [V.ref c]))) b = some w := fun b w e => by
          have h1 := eE2 b w e
          have n1 : b ≠ pr := fun z => by
            rw [z] at e
            rw [(hE2 pr w e).1] at hp5
            cases hp5
          rw [upd_ne n1]
          exact s7 _ _ h1
        have kE2 : ∀ b w, E2 b = some w → (upd (upd Hc c (.tup [.ref q, .ref q2])) pr (.lst (qs.map V.ref ++ [V.ref c]))) b = some w ∧ ∃ φ, w = .ext φ := fun b w e => ⟨ext b w e, (hE2 b w e).2.2⟩
        have sk : ∀ (a : Addr) (xs : List V), H2 a = some (.tup xs) → strip E2 (upd (upd Hc c (.tup [.ref q, .ref q2])) pr (.lst (qs.map V.ref ++ [V.ref c]))) a = some (.tup xs) := fun a xs h => strip_keep kE2 (tk _ _ (s6 _ _ h)) (fun φ z => by cases z)
        refine ⟨ext, some (.ref q2), qs ++ [c], rfl, fun a o ho => ?_, sk _ _ hq5, fun b w e => ?_, ?_, ?_⟩
        · have h5 := s5 a o ho
          rw [strip_off]
          · have n1 : a ≠ pr := fun z => by rw [z, pr0] at ho; cases ho
            rw [upd_ne n1]
            exact s7 _ _ (s6 _ _ h5)
          · cases e : E2 a with
            | none => rfl
            | some w => rw [(hE2 a w e).1] at h5; cases h5
        · have h5 := hE5 b w e
          rw [strip_off]
          · have n1 : b ≠ pr := fun z => by
              rw [z, hp5] at h5
              obtain ⟨φ, e2⟩ := (hE b w e).2.2
              rw [e2] at h5
              cases h5
            rw [upd_ne n1]
            exact s7 _ _ (s6 _ _ h5)
          · cases e2 : E2 b with
            | none => rfl
            | some w2 => rw [(hE2 b w2 e2).1] at h5; cases h5
        · rw [strip_keep kE2 hpf (fun φ z => by cases z), List.map_append]
          rfl
        · rw [List.take_add_one, hv, List.map_append, ← List.append_assoc]
          refine PySem.Paired.snoc (t5.tups sk) ⟨q, q2, strip_keep kE2 hcc (fun φ z => by cases z), sk _ _ hq5, strip_keep kE2 (tk _ _ hqq2) (fun φ z => by cases z)⟩
end
end T80
namespace T80
open PySem L2 GK
open SX (S S_inj S_beq S_len S_cat split_S)
def chk8 (m d : Nat) : Bool := decide (((ownL m d).filter fun u => decide (u.length ≤ min d 2)) = ownL m (min d 2))
theorem chk8_ok : (List.range' 1 6).all (fun m => (List.range (mostOf m + 1)).all fun d => chk8 m d) = true := by decide +kernel
theorem chk8_of {m d : Nat} (h : MD m d) : ((ownL m d).filter fun u => decide (u.length ≤ min d 2)) = ownL m (min d 2) :=
  of_decide_eq_true (List.all_eq_true.mp (List.all_eq_true.mp chk8_ok m (by rw [List.mem_range'_1]; have := h.1; have := h.2.1; omega)) d (List.mem_range.mpr (Nat.lt_succ_of_le h.2.2)))
theorem own_100 {m d : Nat} (h : MD m d) : (ownL m (min d 2)).length ≤ 100 :=
  of_decide_eq_true (List.all_eq_true.mp (List.all_eq_true.mp own_small m (List.mem_range.mpr (by have := h.2.1; omega))) (min d 2) (List.mem_range.mpr (by omega)))
theorem prod_len (us vs : List (List Int)) : (prod us vs).length = us.length * vs.length := by
  induction us with
  | nil => simp [prod]
  | cons a r ih =>
    have e1 : prod (a :: r) vs = vs.map (fun v => (a, v)) ++ prod r vs := rfl
    rw [e1, List.length_append, List.length_map, ih, List.length_cons, Nat.add_mul, Nat.one_mul, Nat.add_comm]
theorem cutV_drop (ns : List (List Nat)) {i : Nat} (h : i ≤ ns.length) : cutV (ns.map vS) (some (i : Int)) none = (ns.drop i).map vS := by
  unfold cutV
  rw [List.length_map, sIx_le' h, HT.sIx_none, List.map_drop, List.take_of_length_le (by rw [List.length_drop, List.length_map]; omega)]
def prD2 (ks : List (List Nat)) (x : List Int × List Int) : PyData := .tuple [nmD ks x.1, nmD ks x.2]
theorem dpPrs {K : PySem.W.Frag} {H : Hp} {ks : List (List Nat)} : ∀ {qs : List Addr} {xs : List (List Int × List Int)}, Prs ks H qs xs → DpAll K H (qs.map V.ref) (xs.map (prD2 ks))
  | _, _, .nil => .nil
  | _, _, .cons ⟨a, b, h1, h2, h3⟩ t => .cons (.tup (SqT.of h1) (.cons (.tup (SqT.of h2) (dpNm ks _)) (.cons (.tup (SqT.of h3) (dpNm ks _)) .nil))) (dpPrs t)
theorem okNm (ks : List (List Nat)) {u : List Int} (h : u.length ≤ 1000) : okD 2 (nmD ks u) = true := by
  have := okTups ks [u] (fun v hv => by
    have : v = u := by simpa using hv
    rw [this]; exact h) 0
  simpa using this
theorem okPrs (ks : List (List Nat)) (us : List (List Int)) (h : ∀ u ∈ us, u.length ≤ 1000) : ((prod us us).map (prD2 ks)).all (okD 3) = true := by
  rw [List.all_map, List.all_eq_true]
  rintro ⟨u, v⟩ hx
  rw [prod, List.mem_flatMap] at hx
  obtain ⟨a, ha, hx⟩ := hx
  rw [List.mem_map] at hx
  obtain ⟨b, hb, e⟩ := hx
  cases e
  show (decide (([nmD ks u, nmD ks v] : List PyData).length ≤ 100000) && ([nmD ks u, nmD ks v] : List PyData).all (okD 2)) = true
  rw [List.all_cons, List.all_cons, okNm ks (h u ha), okNm ks (h v hb)]
  rfl
theorem ownL_len2 {m d : Nat} (h : MD m d) (C : Chk m d) : ∀ u ∈ ownL m (min d 2), u.length ≤ 1000 := fun u hu => by
  rw [← chk8_of h] at hu
  exact ownL_len C u (List.mem_filter.mp hu).1
abbrev sg (x0 x1 : Option V) (m : Nat) (x3 : Option V) (d : Nat) (p : Addr) (x6 : Option V) (kn wd : Addr) (x9 : Option V) (du : Addr) (x12 : Option V) (tl : Addr) (x14 x16 x18 : Option V) (e : Nat) (pr : Addr) (x21 x22 x23 x24 : Option V) : St :=
  sl [x0, x1, some (.int m), x3, some (.int d), some (.ref p), x6, some (.ref kn), some (.ref wd), x9, none, some (.ref du), x12, some (.ref tl), x14, none, x16, none, x18, some (.int e), some (.ref pr), x21, x22, x23, x24]
def R20 (p kn wd du tl pr : Addr) (nl : List (List Nat)) (m d : Nat) (H : Hp) : Prop := R11 p kn wd du tl nl m d H ∧ ∃ qs : List Addr, H pr = some (.lst (qs.map V.ref)) ∧ Prs (nl.take m) H qs (prod (ownL m (min d 2)) (ownL m (min d 2)))
theorem R20.same {p kn wd du tl pr : Addr} {nl : List (List Nat)} {m d : Nat} {H H' : Hp} (h : R20 p kn wd du tl pr nl m d H) (s : Same H H') : R20 p kn wd du tl pr nl m d H' := by
  obtain ⟨h1, qs, h2, h3⟩ := h
  exact ⟨h1.same s, qs, s _ _ h2, h3.tups fun a xs h => s _ _ h⟩
def R21 (fi : Addr) (nl : List (List Nat)) (m d : Nat) (H : Hp) : Prop := ∃ fps : List Addr, H fi = some (.lst (fps.map V.ref)) ∧ NTup (nl.take m) H fps (ownL m (min d 2))
theorem R21.same {fi : Addr} {nl : List (List Nat)} {m d : Nat} {H H' : Hp} (h : R21 fi nl m d H) (s : Same H H') : R21 fi nl m d H' := by
  obtain ⟨ps, h1, h2⟩ := h
  exact ⟨ps, s _ _ h1, h2.same s⟩
def P21 : St → Hp → Prop := fun σ H => ∃ (x0 x1 x3 x6 x9 x12 x14 x16 x18 x21 x22 : Option V) (p kn wd du tl pr fi : Addr) (nl : List (List Nat)) (m d e : Nat), σ = sg x0 x1 m x3 d p x6 kn wd x9 du x12 tl x14 x16 x18 e pr x21 x22 (some (.ref fi)) none ∧ R20 p kn wd du tl pr nl m d H ∧ R21 fi nl m d H
def P22 : St → Hp → Prop := fun σ H => ∃ (x0 x1 x3 x6 x9 x12 x14 x16 x18 x21 x22 : Option V) (p kn wd du tl pr fi rw : Addr) (nl : List (List Nat)) (m d e : Nat), σ = sg x0 x1 m x3 d p x6 kn wd x9 du x12 tl x14 x16 x18 e pr x21 x22 (some (.ref fi)) (some (.ref rw)) ∧ R20 p kn wd du tl pr nl m d H ∧ R21 fi nl m d H ∧ H rw = some (.lst [])
def P23 : St → Hp → Prop := fun σ H => ∃ (x0 x1 x3 x6 x9 x12 x14 x16 x18 x21 x22 x23 : Option V) (p kn wd du tl pr rw : Addr) (nl : List (List Nat)) (m d e : Nat) (rs : List Addr), σ = sg x0 x1 m x3 d p x6 kn wd x9 du x12 tl x14 x16 x18 e pr x21 x22 x23 (some (.ref rw)) ∧ R20 p kn wd du tl pr nl m d H ∧ H rw = some (.lst (rs.map V.ref)) ∧ Prs (nl.take m) H rs (prod (ownL m (min d 2)) (ownL m (min d 2)))
def P24 : St → Hp → Prop := fun σ H => ∃ (x0 x1 x3 x6 x9 x12 x14 x16 x18 x21 x22 x23 x24 : Option V) (p kn wd du tl pr : Addr) (nl : List (List Nat)) (m d e : Nat), σ = sg x0 x1 m x3 d p x6 kn wd x9 du x12 tl x14 x16 x18 e pr x21 x22 x23 x24 ∧ R20 p kn wd du tl pr nl m d H
section
variable {P : Program} {w : World} {K : PySem.W.Frag} {mg : Str → Option Value} {base : Heap} {f : Addr} {cdv : Value} {A : Around} {outer : List Env} {s : Shared} {H0 : Hp} {E : XK}
theorem tri21 (T : TL' mg) : Tri (LX P w K mg base f cdv A outer s H0 E) (lawSt 21) P20 P21 := by
  have nd := scLaw.nd
  refine ⟨_, (ps_setLc (i := 23) (own := [("word", 9)]) (g := gName 9) (by rfl) nd rfl rfl (sw_true rfl rfl rfl (by decide +kernel)) (pi_list (pv 11)) (blkOk_by (own := [("word", 9)]) (N := N_law) (sc := defScope s_law) (by decide +kernel)) (fun _ _ _ _ _ => pg_name (i := 9) nd rfl (Or.inl rfl)) (fun _ _ _ _ _ => pts_one (pt_cmpR op_le (pe_callB (clen (K := K) rfl) (by rfl) T.len (by decide +kernel) (pa_cons (pv 9) pa_nil)) (pv 19) (nomark _))) (fun _ _ _ _ _ => (pv 9))), ?_⟩
  rintro D σ H n ⟨x0, x1, x3, x6, x9, x12, x14, x16, x18, x21, x22, p, kn, wd, du, tl, pr, nl, m, d, e, qs, rfl, hR, he, he2, hpr, tq⟩ hn
  have C := chk_of hR.1.1
  have c8 := chk8_of hR.1.1
  have R0 : R20 p kn wd du tl pr nl m d H := ⟨hR, qs, hpr, by rw [← he2]; exact tq⟩
  obtain ⟨dps, hdu, tdu⟩ := id hR.2.2.1
  generalize hks : nl.take m = ks at tdu
  refine ⟨_, rfl, du, rfl, ⟨_, SqL.of hdu⟩, fun DD hD => ?_⟩
  refine lc_it (walk_list (K := K) (xs := dps.map V.ref)) (fun i H' => ∃ ds : List Addr, Same H H' ∧ H' DD = some (.lst (ds.map V.ref)) ∧ NTup ks H ds (((ownL m d).take i).filter fun u => decide (u.length ≤ min d 2)))
    ⟨[], same_new (fun _ _ h => h) hD, upd_same, .nil⟩ (fun i H' _ ⟨_, s, _⟩ => SqL.of (s _ _ hdu)) ?_ ?_
  · rintro i y H1 H2 hi ⟨ds, s1, hDD, td⟩ ⟨rfl, hy⟩
    obtain ⟨q, hq, rfl⟩ : ∃ q, dps[i]? = some q ∧ V.ref q = y := by
      rw [List.getElem?_map] at hy
      cases e : dps[i]? with
      | none => rw [e] at hy; cases hy
      | some y => rw [e] at hy; exact ⟨y, rfl, Option.some.inj hy⟩
    obtain ⟨u, hu, hqu⟩ : ∃ u, (ownL m d)[i]? = some u ∧ H q = some (.tup (nm ks u)) := by
      have go : ∀ {ps : List Addr} {us : List (List Int)}, NTup ks H ps us → ∀ (i : Nat) (p : Addr), ps[i]? = some p → ∃ u, us[i]? = some u ∧ H p = some (.tup (nm ks u)) := by
        intro ps us h
        induction h with
        | nil => intro i p h1; simp at h1
        | cons a b ih =>
          intro i p h1
          cases i with
          | zero =>
            simp at h1
            subst h1
            exact ⟨_, rfl, a⟩
          | succ i => exact ih i p (by simpa using h1)
      exact go tdu i q hq
    have hstep := filter_take_succ hu (fun u : List Int => decide (u.length ≤ min d 2))
    have hl1 : (nm ks u).length = u.length := by rw [nm, List.length_map]
    have lds : ds.length ≤ 1000 := by
      rw [PySem.Paired.length td]
      exact Nat.le_trans ((List.filter_sublist).length_le) (by rw [List.length_take]; have := C.c7; omega)
    refine ⟨rfl, _, rfl, q, _, rfl, .inr (SqT.of (s1 _ _ hqu)), _, rfl, _, _, rfl, rfl, _, rfl, ?_⟩
    have ed : decide (((nm ks u).length : Int) ≤ (e : Nat)) = decide (u.length ≤ min d 2) := by
      rw [hl1, ← he2]
      by_cases h : u.length ≤ e
      · rw [decide_eq_true h, decide_eq_true (by omega)]
      · rw [decide_eq_false h, decide_eq_false (by omega)]
    refine ite2 (fun h => ?_) (fun h => ?_)
    · refine ⟨_, rfl, _, hDD, ?_, ds ++ [q], same_at s1 hD, ?_, ?_⟩
      · rw [List.length_map]
        exact Nat.lt_of_le_of_lt lds (by decide)
      · rw [upd_same, List.map_append]
        rfl
      · rw [hstep, if_pos (ed.symm.trans h)]
        exact PySem.Paired.snoc td hqu
    · refine ⟨ds, s1, hDD, ?_⟩
      rw [hstep, if_neg (fun z => h (ed.trans z)), List.append_nil]
      exact td
  · rintro H1 ⟨ds, s1, hDD, td⟩
    rw [List.length_map, PySem.Paired.length tdu, List.take_length, c8] at td
    exact hn _ _ ⟨x0, x1, x3, x6, x9, x12, x14, x16, x18, x21, x22, p, kn, wd, du, tl, pr, DD, nl, m, d, e, rfl, R0.same s1, ds, hDD, by rw [hks]; exact NTup.same td s1⟩
theorem tri22 : Tri (LX P w K mg base f cdv A outer s H0 E) (lawSt 22) P21 P22 := by
  have nd := scLaw.nd
  refine ⟨_, (ps_set (i := 24) nd rfl (Or.inl rfl) (pe_lst pa_nil)), ?_⟩
  rintro D σ H n ⟨x0, x1, x3, x6, x9, x12, x14, x16, x18, x21, x22, p, kn, wd, du, tl, pr, fi, nl, m, d, e, rfl, hR, hF⟩ hn
  refine ⟨Nat.zero_le _, fun rw hrw => ?_⟩
  have s1 : Same H (upd H rw (.lst [])) := same_new (fun _ _ h => h) hrw
  exact hn _ _ ⟨x0, x1, x3, x6, x9, x12, x14, x16, x18, x21, x22, p, kn, wd, du, tl, pr, fi, rw, nl, m, d, e, rfl, hR.same s1, hF.same s1, upd_same⟩
theorem tri23 : Tri (LX P w K mg base f cdv A outer s H0 E) (lawSt 23) P22 P23 := by
  have nd := scLaw.nd
  refine ⟨_, (ps_for PassesOwn.never rfl (pi_list (pv 23)) (pg_name (i := 21) nd rfl (Or.inr rfl))
      (pss_one (ps_set (i := 24) nd rfl (Or.inl rfl) (pe_op op_cat (pv 24) (pe_lc (own := [("two", 22)]) (g := gName 22) (by rfl) nd (pi_list (pv 23)) (blkOk_by (own := [("two", 22)]) (N := N_law) (sc := defScope s_law) (by decide +kernel)) (fun _ _ _ _ _ => pg_name (i := 22) nd rfl (Or.inl rfl)) (fun _ _ _ _ _ => pts_nil) (fun _ _ _ _ _ => (pe_tup (pa_cons (pv 21) (pa_cons (pv 22) pa_nil))))))))), ?_⟩
  rintro D σ H n ⟨x0, x1, x3, x6, x9, x12, x14, x16, x18, x21, x22, p, kn, wd, du, tl, pr, fi, rw0, nl, m, d, e, rfl, hR, hF, hrw⟩ hn
  have h100 := own_100 hR.1.1.1
  obtain ⟨fps, hfi, tf⟩ := id hF
  generalize hks : nl.take m = ks at tf
  generalize hus : ownL m (min d 2) = us at tf h100
  have lf : fps.length = us.length := PySem.Paired.length tf
  refine ⟨_, rfl, fi, rfl, ⟨_, SqL.of hfi⟩, for_it (walk_list (K := K) (xs := fps.map V.ref)) (fun i σ H' => ∃ (x21 : Option V) (r : Addr) (rs : List Addr), σ = sg x0 x1 m x3 d p x6 kn wd x9 du x12 tl x14 x16 x18 e pr x21 x22 (some (.ref fi)) (some (.ref r)) ∧ Same H H' ∧ H' r = some (.lst (rs.map V.ref)) ∧ Prs ks H' rs (prod (us.take i) us))
    ⟨x21, rw0, [], rfl, fun _ _ h => h, hrw, .nil⟩ (fun i σ H' _ ⟨_, _, _, _, s, _⟩ => SqL.of (s _ _ hfi)) ?_ ?_⟩
  · rintro i y σ H1 H2 hi ⟨x21, r, rs, rfl, s1, hr1, t1⟩ ⟨rfl, hy⟩
    obtain ⟨q, hq, rfl⟩ : ∃ q, fps[i]? = some q ∧ V.ref q = y := by
      rw [List.getElem?_map] at hy
      cases e : fps[i]? with
      | none => rw [e] at hy; cases hy
      | some y => rw [e] at hy; exact ⟨y, rfl, Option.some.inj hy⟩
    have go : ∀ {ps : List Addr} {us : List (List Int)}, NTup ks H ps us → ∀ (i : Nat) (p : Addr), ps[i]? = some p → ∃ u, us[i]? = some u ∧ H p = some (.tup (nm ks u)) := by
      intro ps us h
      induction h with
      | nil => intro i p h1; simp at h1
      | cons a b ih =>
        intro i p h1
        cases i with
        | zero =>
          simp at h1
          subst h1
          exact ⟨_, rfl, a⟩
        | succ i => exact ih i p (by simpa using h1)
    obtain ⟨u, hu, hqu⟩ := go tf i q hq
    have hfi2 := s1 _ _ hfi
    refine ⟨_, rfl, _, rfl, fi, rfl, ⟨_, SqL.of hfi2⟩, fun DD hD => ?_⟩
    refine lc_it (walk_list (K := K) (xs := fps.map V.ref)) (fun j H' => ∃ ds : List Addr, Same H2 H' ∧ H' DD = some (.lst (ds.map V.ref)) ∧ ds.length = j ∧ PySem.Paired (fun (c : Addr) (v : List Int) => c ≠ DD ∧ ∃ b, H' c = some (.tup [.ref q, .ref b]) ∧ H b = some (.tup (nm ks v))) ds (us.take j))
      ⟨[], same_new (fun _ _ h => h) hD, upd_same, rfl, .nil⟩ (fun j H' _ ⟨_, s, _⟩ => SqL.of (s _ _ hfi2)) ?_ ?_
    · rintro j y H3 H4 hj ⟨ds, s3, hDD, ld, td⟩ ⟨rfl, hy⟩
      obtain ⟨b, hb, rfl⟩ : ∃ b, fps[j]? = some b ∧ V.ref b = y := by
        rw [List.getElem?_map] at hy
        cases e : fps[j]? with
        | none => rw [e] at hy; cases hy
        | some y => rw [e] at hy; exact ⟨y, rfl, Option.some.inj hy⟩
      obtain ⟨v, hv, hbv⟩ := go tf j b hb
      have hj' : j < us.length := (List.getElem?_eq_some_iff.mp hv).1
      refine ⟨rfl, ?_⟩
      rw [tYes, if_pos rfl]
      refine ⟨_, rfl, _, rfl, by show 2 ≤ sizeLine; decide, fun c hc => ?_⟩
      have sc : Same H4 (upd H4 c (.tup [.ref q, .ref b])) := same_new (fun _ _ h => h) hc
      have ncD : c ≠ DD := (ne_of_none hDD hc).symm
      refine ⟨_, sc _ _ hDD, ?_, ds ++ [c], same_at (s3.trans sc) hD, ?_, by rw [List.length_append, ld]; rfl, ?_⟩
      · rw [List.length_map, ld]
        exact Nat.lt_of_le_of_lt (show _ ≤ 100 by omega) (by decide)
      · rw [upd_same, List.map_append]
        rfl
      · rw [List.take_add_one, hv]
        have hmo : ∀ (o : HO) (c' : Addr) (v : List Int), (c' ≠ DD ∧ ∃ b, H4 c' = some (.tup [.ref q, .ref b]) ∧ H b = some (.tup (nm ks v))) → (c' ≠ DD ∧ ∃ b', (upd (upd H4 c (.tup [.ref q, .ref b])) DD o) c' = some (.tup [.ref q, .ref b']) ∧ H b' = some (.tup (nm ks v))) := fun o c' v ⟨n1, b', h1, h2⟩ => ⟨n1, b', by rw [upd_ne n1]; exact sc _ _ h1, h2⟩
        exact PySem.Paired.snoc (PySem.Paired.mono (hmo _) td) ⟨ncD, b, (upd_ne ncD).trans upd_same, hbv⟩
    · rintro H3 ⟨ds, s3, hDD, ld, td⟩
      rw [List.length_map, lf, List.take_length] at td
      rw [List.length_map, lf] at ld
      have l1 : rs.length ≤ 100 * 100 := by
        rw [PySem.Paired.length t1, prod_len]
        exact Nat.mul_le_mul (by rw [List.length_take]; omega) h100
      refine ⟨r, DD, _, _, rfl, rfl, s3 _ _ hr1, hDD, ?_, fun r' hr' => ?_⟩
      · rw [List.length_map, List.length_map, ld]
        exact Nat.le_trans (show _ ≤ 10100 by omega) (by decide)
      · have sr : Same H3 (upd H3 r' (.lst (rs.map V.ref ++ ds.map V.ref))) := same_new (fun _ _ h => h) hr'
        refine ⟨some (.ref q), r', rs ++ ds, rfl, (s1.trans s3).trans sr, by rw [upd_same, List.map_append], ?_⟩
        rw [prod_step hu]
        have app : ∀ {a1 : List Addr} {b1 : List (List Int × List Int)} {a2 : List Addr} {b2 : List (List Int × List Int)}, Prs ks (upd H3 r' (.lst (rs.map V.ref ++ ds.map V.ref))) a1 b1 → Prs ks (upd H3 r' (.lst (rs.map V.ref ++ ds.map V.ref))) a2 b2 → Prs ks (upd H3 r' (.lst (rs.map V.ref ++ ds.map V.ref))) (a1 ++ a2) (b1 ++ b2) := by
          intro a1 b1 a2 b2 h1 h2
          induction h1 with
          | nil => exact h2
          | cons a b ih => exact .cons a ih
        refine app (t1.tups fun a xs h => sr _ _ (s3 _ _ h)) ?_
        have mp : ∀ {a1 : List Addr} {b1 : List (List Int)}, PySem.Paired (fun (c : Addr) (v : List Int) => c ≠ DD ∧ ∃ b, H3 c = some (.tup [.ref q, .ref b]) ∧ H b = some (.tup (nm ks v))) a1 b1 → Prs ks (upd H3 r' (.lst (rs.map V.ref ++ ds.map V.ref))) a1 (b1.map fun v => (u, v)) := by
          intro a1 b1 h1
          induction h1 with
          | nil => exact .nil
          | cons a b ih =>
            obtain ⟨_, b', h3, h4⟩ := a
            exact .cons ⟨q, b', sr _ _ h3, sr _ _ (s3 _ _ (s1 _ _ hqu)), sr _ _ (s3 _ _ (s1 _ _ h4))⟩ ih
        exact mp td
  · rintro σ H1 ⟨x21, r, rs, rfl, s1, hr1, t1⟩
    rw [List.length_map, lf, List.take_length] at t1
    exact hn _ _ ⟨x0, x1, x3, x6, x9, x12, x14, x16, x18, x21, x22, _, p, kn, wd, du, tl, pr, r, nl, m, d, e, rs, rfl, hR.same s1, hr1, by rw [hks, hus]; exact t1⟩
theorem tri24 (hr : Room 10 (LX P w K mg base f cdv A outer s H0 E).A) (T : TL' mg) (c__law_same : Cl P w K mg base CX0 "_law_same" 4 ["told", "due"] (spSm K 4)) (c_kw : KCl P w K mg base) : Tri (LX P w K mg base f cdv A outer s H0 E) (lawSt 24) P23 P24 := by
  have nd := scLaw.nd
  have hr4 : Room 4 (LX P w K mg base f cdv A outer s H0 E).A := hr.mono (by decide)
  have hr5 : Room 5 (LX P w K mg base f cdv A outer s H0 E).A := hr.mono (by decide)
  have hr8 : Room 8 (LX P w K mg base f cdv A outer s H0 E).A := hr.mono (by decide)
  obtain ⟨fo, fdo, mo, Go, ko, kb1, kb2⟩ := c_kw.ex
  refine ⟨_, ps_if (PW.pt (pw_or (pt_not (pt_val (pe_cl c__law_same hr4 (by rfl) pass0 (pa_cons (pv 20) (pa_cons (pv 24) pa_nil))))) (pw_or1 (pt_not (pt_val (pe_cl c__law_same hr4 (by rfl) pass0
      (pa_cons (pe_listN (k := 5) rfl hr8 (pgn_callK0 (ks := ["depth", "knobs"]) Go hr5 (by rfl) mo ko kb2 (pk_cons (pv 4) (pk_cons (pe_callTy call_list_of (by rfl) T.list (by decide +kernel) (pa_cons (pv 7) pa_nil)) pk_nil))) (by rfl) T.list (by decide +kernel)) (pa_cons (pv 11) pa_nil))))))))
    (pss_one (ps_ret pe_bl)) pss_nil, ?_⟩
  rintro D σ H n ⟨x0, x1, x3, x6, x9, x12, x14, x16, x18, x21, x22, x23, p, kn, wd, du, tl, pr, rw0, nl, m, d, e, rs, rfl, hR, hrw, tr⟩ hn
  obtain ⟨kl, kg, kne, knm, hd12⟩ := hR.1.1.ks
  have hmd := hR.1.1.1
  have C := chk_of hmd
  have hkn := hR.1.1.2.2.2.2
  have h100 := own_100 hmd
  obtain ⟨qs, hpr, tq⟩ := id hR.2
  obtain ⟨dps, hdu, tdu⟩ := id hR.1.2.2.1
  have ok1 : okD 4 (.list ((prod (ownL m (min d 2)) (ownL m (min d 2))).map (prD2 (nl.take m)))) = true := by
    show (decide (((prod (ownL m (min d 2)) (ownL m (min d 2))).map (prD2 (nl.take m))).length ≤ 100000) && _) = true
    rw [List.length_map, prod_len, decide_eq_true (Nat.le_trans (Nat.mul_le_mul h100 h100) (by decide)), okPrs _ _ (ownL_len2 hmd C)]
    rfl
  have ok2 : okD 4 (.list ((ownL m d).map (nmD (nl.take m)))) = true := by
    show (decide (((ownL m d).map (nmD (nl.take m))).length ≤ 100000) && _) = true
    rw [List.length_map, decide_eq_true (by have := C.c7; omega), okTups _ _ (ownL_len C)]
    rfl
  refine ⟨_, rfl, _, rfl, _, _, _, rfl, .lst (SqL.of hpr) (dpPrs tq), .lst (SqL.of hrw) (dpPrs tr), ok1, fun H1 s1 => ⟨_, rfl, iteF ?_⟩⟩
  refine ⟨_, rfl, _, rfl, kn, _, rfl, .inl (SqL.of (s1 _ _ hkn)), fun l hl => ?_⟩
  have s2 : Same H1 (upd H1 l (.lst ((nl.take m).map vS))) := same_new (fun _ _ h => h) hl
  obtain ⟨r1, r2⟩ := src_list (H := upd H1 l (.lst ((nl.take m).map vS))) (l := l) (ks := nl.take m) upd_same
  refine ⟨_, _, spOw_ks C (Nat.le_refl d) hd12 hmd.1 kl kg hmd.2.1 r1, r2, ?_, fun ps S H2 t hS => ?_⟩
  · rw [List.length_map]
    exact Nat.lt_of_le_of_lt C.c7 (by decide)
  · have s3 : Same H (upd H2 S (.lst (ps.map V.ref))) := (s1.trans s2).trans (same_new t.same hS)
    refine ⟨_, rfl, _, _, _, rfl, .lst (SqL.of upd_same) (dpTups ((told_ntup t).same (same_new (fun _ _ h => h) hS))), .lst (SqL.of (s3 _ _ hdu)) (dpTups (tdu.same s3)), ok2, fun H3 s4 => ⟨_, rfl, iteF ?_⟩⟩
    exact hn _ _ ⟨x0, x1, x3, x6, x9, x12, x14, x16, x18, x21, x22, x23, _, p, kn, wd, du, tl, pr, nl, m, d, e, rfl, hR.same (s3.trans s4)⟩
end
end T80
namespace T80
open PySem L2 GK
open SX (S S_inj S_beq S_len S_cat split_S)
def spLaw (K : PySem.W.Frag) : Sp := fun vs H Q _ => ∃ (a : Addr) (ns : List Int), vs = [.ref a] ∧ SqL K H a (ns.map V.int) ∧ ns.length ≤ 63 ∧ ∀ H', Q (.bl true) H'
/-- all that the law calls -/
structure Calls (P : Program) (w : World) (K : PySem.W.Frag) (mg : Str → Option Value) (base : Heap) : Prop where
  box : Cl P w K mg base CX0 "_law_box" 1 ["script"] (spBox K)
  draw : Cl P w K mg base CX0 "_law_draw" 1 ["box", "size"] spDraw
  names : Cl P w K mg base CX0 "_law_names" 2 ["box", "many", "taken"] spNm
  words : Cl P w K mg base CX0 "_law_words" 1 ["many", "depth"] spWs
  own : Cl P w K mg base CX0 "_law_own" 1 ["word"] spLo
  knobs : Cl P w K mg base CX0 "_law_knobs" 1 ["names", "how"] spKn
  same : Cl P w K mg base CX0 "_law_same" 4 ["told", "due"] (spSm K 4)
  many : Cl P w K mg base CX0 "_law_many" 1 ["knobs", "size"] spMy
  falls : Cl P w K mg base CX0 "_law_falls" 1 ["word", "own"] spFa
  errs : Cl P w K mg base CX0 "_law_errors" 10 ["knobs", "more", "depth"] spEr
  ow : GCl P w K mg base "own_words" 5 ["knobs", "depth"] false spOw
  kw : KCl P w K mg base
section
variable {P : Program} {w : World} {K : PySem.W.Frag} {mg : Str → Option Value} {base : Heap}
theorem tri25 {f : Addr} {cdv : Value} {A : Around} {outer : List Env} {s : Shared} {H0 : Hp} {E : XK} (hr : Room 10 (LX P w K mg base f cdv A outer s H0 E).A) (T : TL' mg) (c__law_errors : Cl P w K mg base CX0 "_law_errors" 10 ["knobs", "more", "depth"] spEr) :
    ∃ t, PS (LX P w K mg base f cdv A outer s H0 E) (lawSt 25) t ∧ ∀ (D : Ends) (σ : St) (H : Hp), P24 σ H → (∀ H', D.rt (.bl true) H') → t D σ H := by
  have nd := scLaw.nd
  refine ⟨_, (ps_ret (pe_cl c__law_errors hr (by rfl) pass0 (pa_cons (pv 7) (pa_cons (pe_slice sl_list (pv 5) (po_some (pv 2)) po_none) (pa_cons (pv 4) pa_nil))))), ?_⟩
  rintro D σ H ⟨x0, x1, x3, x6, x9, x12, x14, x16, x18, x21, x22, x23, x24, p, kn, wd, du, tl, pr, nl, m, d, e, rfl, hR⟩ hq
  obtain ⟨kl, kg, kne, knm, hd12⟩ := hR.1.1.ks
  obtain ⟨hmd, hp, hl, hg, hkn⟩ := hR.1.1
  refine ⟨_, rfl, _, rfl, _, rfl, _, rfl, p, _, rfl, SqL.of hp, fun r hr' => ⟨_, rfl, ?_⟩⟩
  have s1 := same_new (o := .lst (cutV (nl.map vS) (some (m : Int)) none)) (fun _ _ h => h : Same H H) hr'
  refine ⟨kn, r, nl.take m, nl.drop m, d, rfl, s1 _ _ hkn, ?_, by rw [List.take_append_drop]; exact hg, by rw [kl, List.length_drop]; have := hmd.2.1; omega, by rw [kl]; exact hmd.1, by rw [kl]; exact hmd.2.1, hd12, fun H' _ => hq H'⟩
  rw [upd_same, cutV_drop nl (by have := hmd.2.1; omega)]
theorem ok_law {f : Addr} {fd : FuncData} (F : Fun K "law" "law" s_law f fd) (T : TL' mg) (C : Calls P w K mg base) : FnOk P w K mg base CX0 11 f fd ["script"] (spLaw K) := by
  refine F.ok scLaw (fun vs H Q E h => ?_) (fun cdv A outer s H vs Q E hr h => ?_)
  · obtain ⟨a, ns, rfl, _⟩ := h
    rfl
  · obtain ⟨a, ns, rfl, hS, hlen, q⟩ := h
    have hr1 : Room 1 (LX P w K mg base f cdv A outer s H E).A := hr.mono (by decide)
    have hr2 : Room 2 (LX P w K mg base f cdv A outer s H E).A := hr.mono (by decide)
    have hr4 : Room 4 (LX P w K mg base f cdv A outer s H E).A := hr.mono (by decide)
    have hr5 : Room 5 (LX P w K mg base f cdv A outer s H E).A := hr.mono (by decide)
    have hr8 : Room 8 (LX P w K mg base f cdv A outer s H E).A := hr.mono (by decide)
    have hr10 : Room 10 (LX P w K mg base f cdv A outer s H E).A := hr
    have hu : (LX P w K mg base f cdv A outer s H E).A.units + 1 < cLine := hu_of hr
    obtain ⟨t0, p0, k0⟩ := tri0 (P := P) (w := w) (K := K) (mg := mg) (base := base) (f := f) (cdv := cdv) (A := A) (outer := outer) (s := s) (H0 := H) (E := E) hr1 C.box
    obtain ⟨t1, p1, k1⟩ := tri1 (P := P) (w := w) (K := K) (mg := mg) (base := base) (f := f) (cdv := cdv) (A := A) (outer := outer) (s := s) (H0 := H) (E := E) hr1 C.draw
    obtain ⟨t2, p2, k2⟩ := tri2 (P := P) (w := w) (K := K) (mg := mg) (base := base) (f := f) (cdv := cdv) (A := A) (outer := outer) (s := s) (H0 := H) (E := E) 
    obtain ⟨t3, p3, k3⟩ := tri3 (P := P) (w := w) (K := K) (mg := mg) (base := base) (f := f) (cdv := cdv) (A := A) (outer := outer) (s := s) (H0 := H) (E := E) hr1 T C.draw
    obtain ⟨t4, p4, k4⟩ := tri4 (P := P) (w := w) (K := K) (mg := mg) (base := base) (f := f) (cdv := cdv) (A := A) (outer := outer) (s := s) (H0 := H) (E := E) hr2 C.names
    obtain ⟨t5, p5, k5⟩ := tri5 (P := P) (w := w) (K := K) (mg := mg) (base := base) (f := f) (cdv := cdv) (A := A) (outer := outer) (s := s) (H0 := H) (E := E) hr1 C.draw
    obtain ⟨t6, p6, k6⟩ := tri6 (P := P) (w := w) (K := K) (mg := mg) (base := base) (f := f) (cdv := cdv) (A := A) (outer := outer) (s := s) (H0 := H) (E := E) 
    obtain ⟨t7, p7, k7⟩ := tri7 (P := P) (w := w) (K := K) (mg := mg) (base := base) (f := f) (cdv := cdv) (A := A) (outer := outer) (s := s) (H0 := H) (E := E) hr1 C.words
    obtain ⟨t8, p8, k8⟩ := tri8 (P := P) (w := w) (K := K) (mg := mg) (base := base) (f := f) (cdv := cdv) (A := A) (outer := outer) (s := s) (H0 := H) (E := E) hr1 T C.own
    obtain ⟨t9, p9, k9⟩ := tri9 (P := P) (w := w) (K := K) (mg := mg) (base := base) (f := f) (cdv := cdv) (A := A) (outer := outer) (s := s) (H0 := H) (E := E) hr1 C.knobs
    obtain ⟨t10, p10, k10⟩ := tri10 (P := P) (w := w) (K := K) (mg := mg) (base := base) (f := f) (cdv := cdv) (A := A) (outer := outer) (s := s) (H0 := H) (E := E) hr5 hr8 T C.ow
    obtain ⟨t11, p11, k11⟩ := tri11 (P := P) (w := w) (K := K) (mg := mg) (base := base) (f := f) (cdv := cdv) (A := A) (outer := outer) (s := s) (H0 := H) (E := E) hr1 hr4 C.knobs C.same
    obtain ⟨t12, p12, k12⟩ := tri12 (P := P) (w := w) (K := K) (mg := mg) (base := base) (f := f) (cdv := cdv) (A := A) (outer := outer) (s := s) (H0 := H) (E := E) 
    obtain ⟨t13, p13, k13⟩ := tri13 (P := P) (w := w) (K := K) (mg := mg) (base := base) (f := f) (cdv := cdv) (A := A) (outer := outer) (s := s) (H0 := H) (E := E) T
    obtain ⟨t14, p14, k14⟩ := tri14 (P := P) (w := w) (K := K) (mg := mg) (base := base) (f := f) (cdv := cdv) (A := A) (outer := outer) (s := s) (H0 := H) (E := E) hu T
    obtain ⟨t15, p15, k15⟩ := tri15 (P := P) (w := w) (K := K) (mg := mg) (base := base) (f := f) (cdv := cdv) (A := A) (outer := outer) (s := s) (H0 := H) (E := E) hr1 T C.many
    obtain ⟨t16, p16, k16⟩ := tri16 (P := P) (w := w) (K := K) (mg := mg) (base := base) (f := f) (cdv := cdv) (A := A) (outer := outer) (s := s) (H0 := H) (E := E) hr1 T C.falls
    obtain ⟨t17, p17, k17⟩ := tri17 (P := P) (w := w) (K := K) (mg := mg) (base := base) (f := f) (cdv := cdv) (A := A) (outer := outer) (s := s) (H0 := H) (E := E) hr10 T C.ow
    obtain ⟨t18, p18, k18⟩ := tri18 (P := P) (w := w) (K := K) (mg := mg) (base := base) (f := f) (cdv := cdv) (A := A) (outer := outer) (s := s) (H0 := H) (E := E) T
    obtain ⟨t19, p19, k19⟩ := tri19 (P := P) (w := w) (K := K) (mg := mg) (base := base) (f := f) (cdv := cdv) (A := A) (outer := outer) (s := s) (H0 := H) (E := E) 
    obtain ⟨t20, p20, k20⟩ := tri20 (P := P) (w := w) (K := K) (mg := mg) (base := base) (f := f) (cdv := cdv) (A := A) (outer := outer) (s := s) (H0 := H) (E := E) hr10 T C.ow C.kw
    obtain ⟨t21, p21, k21⟩ := tri21 (P := P) (w := w) (K := K) (mg := mg) (base := base) (f := f) (cdv := cdv) (A := A) (outer := outer) (s := s) (H0 := H) (E := E) T
    obtain ⟨t22, p22, k22⟩ := tri22 (P := P) (w := w) (K := K) (mg := mg) (base := base) (f := f) (cdv := cdv) (A := A) (outer := outer) (s := s) (H0 := H) (E := E) 
    obtain ⟨t23, p23, k23⟩ := tri23 (P := P) (w := w) (K := K) (mg := mg) (base := base) (f := f) (cdv := cdv) (A := A) (outer := outer) (s := s) (H0 := H) (E := E) 
    obtain ⟨t24, p24, k24⟩ := tri24 (P := P) (w := w) (K := K) (mg := mg) (base := base) (f := f) (cdv := cdv) (A := A) (outer := outer) (s := s) (H0 := H) (E := E) hr10 T C.same C.kw
    obtain ⟨t25, p25, k25⟩ := tri25 (P := P) (w := w) (K := K) (mg := mg) (base := base) (f := f) (cdv := cdv) (A := A) (outer := outer) (s := s) (H0 := H) (E := E) hr10 T C.errs
    refine ⟨_, pss_cons p0 (pss_cons p1 (pss_cons p2 (pss_cons p3 (pss_cons p4 (pss_cons p5 (pss_cons p6 (pss_cons p7 (pss_cons p8 (pss_cons p9 (pss_cons p10 (pss_cons p11 (pss_cons p12 (pss_cons p13 (pss_cons p14 (pss_cons p15 (pss_cons p16 (pss_cons p17 (pss_cons p18 (pss_cons p19 (pss_cons p20 (pss_cons p21 (pss_cons p22 (pss_cons p23 (pss_cons p24 (pss_one p25))))))))))))))))))))))))), ?_⟩
    have h0 : P0 K (start N_law [.ref a]) H := ⟨a, ns, rfl, hS, hlen⟩
    refine seq_cut P1 (fun n hn => k0 _ _ _ n h0 hn) (fun σ0 H0 h1 => ?_)
    refine seq_cut P2 (fun n hn => k1 _ _ _ n h1 hn) (fun σ1 H1 h2 => ?_)
    refine seq_cut P3 (fun n hn => k2 _ _ _ n h2 hn) (fun σ2 H2 h3 => ?_)
    refine seq_cut P4 (fun n hn => k3 _ _ _ n h3 hn) (fun σ3 H3 h4 => ?_)
    refine seq_cut P5 (fun n hn => k4 _ _ _ n h4 hn) (fun σ4 H4 h5 => ?_)
    refine seq_cut P6 (fun n hn => k5 _ _ _ n h5 hn) (fun σ5 H5 h6 => ?_)
    refine seq_cut P7 (fun n hn => k6 _ _ _ n h6 hn) (fun σ6 H6 h7 => ?_)
    refine seq_cut P8 (fun n hn => k7 _ _ _ n h7 hn) (fun σ7 H7 h8 => ?_)
    refine seq_cut P9 (fun n hn => k8 _ _ _ n h8 hn) (fun σ8 H8 h9 => ?_)
    refine seq_cut P10 (fun n hn => k9 _ _ _ n h9 hn) (fun σ9 H9 h10 => ?_)
    refine seq_cut P11 (fun n hn => k10 _ _ _ n h10 hn) (fun σ10 H10 h11 => ?_)
    refine seq_cut P11 (fun n hn => k11 _ _ _ n h11 hn) (fun σ11 H11 h12 => ?_)
    refine seq_cut P12 (fun n hn => k12 _ _ _ n h12 hn) (fun σ12 H12 h13 => ?_)
    refine seq_cut P13 (fun n hn => k13 _ _ _ n h13 hn) (fun σ13 H13 h14 => ?_)
    refine seq_cut P14 (fun n hn => k14 _ _ _ n h14 hn) (fun σ14 H14 h15 => ?_)
    refine seq_cut P14 (fun n hn => k15 _ _ _ n h15 hn) (fun σ15 H15 h16 => ?_)
    refine seq_cut P17 (fun n hn => k16 _ _ _ n h16 hn) (fun σ16 H16 h17 => ?_)
    refine seq_cut P17 (fun n hn => k17 _ _ _ n h17 hn) (fun σ17 H17 h18 => ?_)
    refine seq_cut P18 (fun n hn => k18 _ _ _ n h18 hn) (fun σ18 H18 h19 => ?_)
    refine seq_cut P19 (fun n hn => k19 _ _ _ n h19 hn) (fun σ19 H19 h20 => ?_)
    refine seq_cut P20 (fun n hn => k20 _ _ _ n h20 hn) (fun σ20 H20 h21 => ?_)
    refine seq_cut P21 (fun n hn => k21 _ _ _ n h21 hn) (fun σ21 H21 h22 => ?_)
    refine seq_cut P22 (fun n hn => k22 _ _ _ n h22 hn) (fun σ22 H22 h23 => ?_)
    refine seq_cut P23 (fun n hn => k23 _ _ _ n h23 hn) (fun σ23 H23 h24 => ?_)
    refine seq_cut P24 (fun n hn => k24 _ _ _ n h24 hn) (fun σ24 H24 h25 => ?_)
    exact k25 _ _ _ h25 q
end
end T80
namespace T80
open PySem L2 GK
open SX (S S_inj S_beq S_len S_cat split_S)
/-- a def of the text stands in the head's part -/
def DefAt (K : PySem.W.Frag) (x : Str) (st : Stmt) : Prop := ∃ (f : Addr) (oc : Value) (od an : Option Addr) (osl : Array (Option Value)) (kV dc pm cd ct : Value), PySem.W.nsIn K mainGlobals x = some (some (.ref f)) ∧
  K.lookup f = some ⟨oc, od, .func (PySem.W.fnOf x x (defArgs st) (defBody st) (defScope st) .none kV dc pm an cd ct), osl⟩ ∧ PySem.W.codeIn K cd x = true ∧ PySem.W.keepIn K (.ref f) = true
theorem DefAt.fn {K : PySem.W.Frag} {x : Str} {st : Stmt} {mg : Str → Option Value} {h : Heap} (D : DefAt K x st) (X : K.In h) (G : h.Ns mainGlobals mg) : ∃ (f : Addr) (fd : FuncData), mg x = some (.ref f) ∧ Fun K x x st f fd ∧ PySem.W.keepIn K (.ref f) = true := by
  obtain ⟨f, oc, od, an, osl, kV, dc, pm, cd, ct, h1, h2, h3, h4⟩ := D
  exact ⟨f, _, PySem.W.mg_of X G h1, fun_mk h2 h3 h4, h4⟩
/-- an own error with its __init__ -/
structure ErrAt (K : PySem.W.Frag) (x qual : Str) (st : Stmt) (C : Addr) : Prop where
  m : PySem.W.nsIn K mainGlobals x = some (some (.ref C))
  cls : ∃ nm q N bs bm sn sub ab col dd k0 k1 k2 k3 k5, K.lookup C = some (excClassObj nm q C N bs bm true sn sub ab col dd k0 k1 k2 k3 k5 "ValueError.__new__") ∧ PySem.HandSPX.refsVE bm = true
  sa : PySem.W.findIn K (.ref C) "__setattr__" = some (some (.builtin "object.__setattr__"))
  exC : PySem.W.subIn K (.ref C) (.type "BaseException") = some true
  tyC : PySem.W.typeIn K (.ref C) = some (.type "type")
  kC : PySem.W.keepIn K (.ref C) = true
  ga : PySem.W.findIn K (.ref C) "__getattribute__" = some (some (.builtin "BaseException.__getattribute__"))
  gg : PySem.W.findIn K (.ref C) "__getattr__" = some none
  hdC : PySem.W.hasDictIn K C = true
  stp : PySem.W.subIn K (.ref C) (.type "StopIteration") = some false
  ini : ∃ (f : Addr) (oc : Value) (od an : Option Addr) (osl : Array (Option Value)) (kV dc pm cd ct : Value), PySem.W.findIn K (.ref C) "__init__" = some (some (.ref f)) ∧ PySem.W.typeIn K (.ref f) = some (.type "function") ∧
    K.lookup f = some ⟨oc, od, .func (PySem.W.fnOf "__init__" qual (defArgs st) (defBody st) (defScope st) .none kV dc pm an cd ct), osl⟩ ∧ PySem.W.codeIn K cd qual = true ∧ PySem.W.keepIn K (.ref f) = true
theorem ErrAt.oex {K : PySem.W.Frag} {x qual : Str} {st : Stmt} {C : Addr} (e : ErrAt K x qual st C) : OexC K C := ⟨e.cls, e.sa, e.exC, e.tyC, e.kC⟩
theorem ErrAt.xf {K : PySem.W.Frag} {x qual : Str} {st : Stmt} {C : Addr} (e : ErrAt K x qual st C) : XfC K C := ⟨e.ga, e.gg, e.exC, e.hdC⟩
theorem all_mk {P : Program} {w : World} {K : PySem.W.Frag} {h : Heap} {mg : Str → Option Value} {fa CB CM ak am : Addr} {tl td : Tok} (X : K.In h) (G : h.Ns mainGlobals mg) (hfa : mg "law" = some (.ref fa))
    (eB : ErrAt K "BadName" "BadName.__init__" s_BadName CB) (eM : ErrAt K "TooMany" "TooMany.__init__" s_TooMany CM)
    (nW : PySem.W.findIn K (.ref CB) "why" = some none) (nA : PySem.W.findIn K (.ref CM) "what" = some none) (nO : PySem.W.findIn K (.ref CM) "most" = some none)
    (xBB : PySem.W.exmOne K (.ref CB) (.ref CB) = some true) (xMB : PySem.W.exmOne K (.ref CM) (.ref CB) = some false) (xMM : PySem.W.exmOne K (.ref CM) (.ref CM) = some true)
    (lo : PySem.W.nsIn K mainGlobals "LONGEST" = some (some (.int 16 tl))) (de : PySem.W.nsIn K mainGlobals "DEEPEST" = some (some (.int 12 td)))
    (ke : PySem.W.nsIn K mainGlobals "KEPT_WORDS" = some (some (.ref ak))) (kt : ∀ H : Hp, SqT K H ak (kept.map vS)) (mo : PySem.W.nsIn K mainGlobals "MOST" = some (some (.ref am))) (mk : KDct K w am "knobs" (.int 6))
    (d6 : DefAt K "is_digit" (top 6)) (d7 : DefAt K "is_letter" (top 7)) (d8 : DefAt K "is_inner" (top 8)) (d9 : DefAt K "words_of" (top 9)) (d13 : DefAt K "is_name" (top 13)) (d14 : DefAt K "name_list" (top 14)) (d15 : DefAt K "checked_knobs" (top 15))
    (d18 : DefAt K "within_depth" (top 18)) (d19 : DefAt K "own_words_of_length" (top 19)) (d21 : DefAt K "own_words" (top 21)) (d23 : DefAt K "_law_box" (top 23)) (d24 : DefAt K "_law_draw" (top 24)) (d25 : DefAt K "_law_names" (top 25)) (d26 : DefAt K "_law_knobs" (top 26))
    (d27 : DefAt K "_law_words" (top 27)) (d28 : DefAt K "_law_own" (top 28)) (d29 : DefAt K "_law_same" (top 29)) (d30 : DefAt K "_law_falls" (top 30)) (d31 : DefAt K "_law_many" (top 31)) (d32 : DefAt K "_law_refused" (top 32)) (d33 : DefAt K "_law_errors" (top 33))
    {f34 : Addr} {oc : Value} {od an : Option Addr} {osl : Array (Option Value)} {kV dc pm cd ct : Value} (a34 : PySem.W.nsIn K mainGlobals "law" = some (some (.ref f34))) (l34 : K.lookup f34 = some ⟨oc, od, .func (PySem.W.fnOf "law" "law" (defArgs s_law) (defBody s_law) (defScope s_law) .none kV dc pm an cd ct), osl⟩) (c34 : PySem.W.codeIn K cd "law" = true) (k34 : PySem.W.keepIn K (.ref f34) = true)
    (z : ∀ x ∈ (["len", "int", "list", "tuple", "range", "str", "all", "isinstance", "bool", "dict", "max", "min"] : List Str), PySem.W.nsIn K mainGlobals x = some none) :
    ∃ fd : FuncData, (∀ (s : Shared) (v : Value), BindsTo s fd ⟨[v], []⟩ [("script", v)]) ∧ ∀ base : Heap, K.In base → base.Ns mainGlobals mg → FnOk P w K mg base CX0 30 fa fd ["script"] (spLaw K) := by
  have e := hfa.symm.trans (PySem.W.mg_of X G a34)
  cases e
  refine ⟨PySem.W.fnOf "law" "law" (defArgs s_law) (defBody s_law) (defScope s_law) .none kV dc pm an cd ct, fun s v => .of_eq rfl, fun base _ _ => FnOk.mono (j := 11) ?_ (by decide)⟩
  have zz : ∀ x ∈ (["len", "int", "list", "tuple", "range", "str", "all", "isinstance", "bool", "dict", "max", "min"] : List Str), mg x = none := fun x hx => PySem.W.mg_none_of X G (z x hx)
  have zlen : mg "len" = none := zz _ (by simp)
  have zint : mg "int" = none := zz _ (by simp)
  have zlist : mg "list" = none := zz _ (by simp)
  have ztuple : mg "tuple" = none := zz _ (by simp)
  have zrange : mg "range" = none := zz _ (by simp)
  have zstr : mg "str" = none := zz _ (by simp)
  have zall : mg "all" = none := zz _ (by simp)
  have zisi : mg "isinstance" = none := zz _ (by simp)
  have zbool : mg "bool" = none := zz _ (by simp)
  have zdict : mg "dict" = none := zz _ (by simp)
  have zmax : mg "max" = none := zz _ (by simp)
  have zmin : mg "min" = none := zz _ (by simp)
  have gLon := PySem.W.mg_of X G lo
  have gDee := PySem.W.mg_of X G de
  have gKep := PySem.W.mg_of X G ke
  have gMos := PySem.W.mg_of X G mo
  have TL1 : TLaw mg := ⟨zlen, zint, zlist, ztuple, zrange⟩
  have TL2 : TL' mg := ⟨zlen, zmax, zmin, zlist, ztuple, zrange⟩
  obtain ⟨f6, fd6, m6, F6, k6⟩ := d6.fn X G
  obtain ⟨f7, fd7, m7, F7, k7⟩ := d7.fn X G
  obtain ⟨f8, fd8, m8, F8, k8⟩ := d8.fn X G
  obtain ⟨f9, fd9, m9, F9, k9⟩ := d9.fn X G
  obtain ⟨f13, fd13, m13, F13, k13⟩ := d13.fn X G
  obtain ⟨f14, fd14, m14, F14, k14⟩ := d14.fn X G
  obtain ⟨f15, fd15, m15, F15, k15⟩ := d15.fn X G
  obtain ⟨f18, fd18, m18, F18, k18⟩ := d18.fn X G
  obtain ⟨f19, fd19, m19, F19, k19⟩ := d19.fn X G
  obtain ⟨f21, fd21, m21, F21, k21⟩ := d21.fn X G
  obtain ⟨f23, fd23, m23, F23, k23⟩ := d23.fn X G
  obtain ⟨f24, fd24, m24, F24, k24⟩ := d24.fn X G
  obtain ⟨f25, fd25, m25, F25, k25⟩ := d25.fn X G
  obtain ⟨f26, fd26, m26, F26, k26⟩ := d26.fn X G
  obtain ⟨f27, fd27, m27, F27, k27⟩ := d27.fn X G
  obtain ⟨f28, fd28, m28, F28, k28⟩ := d28.fn X G
  obtain ⟨f29, fd29, m29, F29, k29⟩ := d29.fn X G
  obtain ⟨f30, fd30, m30, F30, k30⟩ := d30.fn X G
  obtain ⟨f31, fd31, m31, F31, k31⟩ := d31.fn X G
  obtain ⟨f32, fd32, m32, F32, k32⟩ := d32.fn X G
  obtain ⟨f33, fd33, m33, F33, k33⟩ := d33.fn X G
  have b6 := F6.binds (ps := ["sign"]) fun _ _ _ _ _ _ us hl => match us, hl with | [_], _ => rfl
  have b7 := F7.binds (ps := ["sign"]) fun _ _ _ _ _ _ us hl => match us, hl with | [_], _ => rfl
  have b8 := F8.binds (ps := ["sign"]) fun _ _ _ _ _ _ us hl => match us, hl with | [_], _ => rfl
  have b9 := F9.binds (ps := ["line"]) fun _ _ _ _ _ _ us hl => match us, hl with | [_], _ => rfl
  have b13 := F13.binds (ps := ["value"]) fun _ _ _ _ _ _ us hl => match us, hl with | [_], _ => rfl
  have b14 := F14.binds (ps := ["value"]) fun _ _ _ _ _ _ us hl => match us, hl with | [_], _ => rfl
  have b15 := F15.binds (ps := ["value"]) fun _ _ _ _ _ _ us hl => match us, hl with | [_], _ => rfl
  have b18 := F18.binds (ps := ["depth"]) fun _ _ _ _ _ _ us hl => match us, hl with | [_], _ => rfl
  have b19 := F19.binds (ps := ["many", "length"]) fun _ _ _ _ _ _ us hl => match us, hl with | [_, _], _ => rfl
  have b21 := F21.binds (ps := ["knobs", "depth"]) fun _ _ _ _ _ _ us hl => match us, hl with | [_, _], _ => rfl
  have b23 := F23.binds (ps := ["script"]) fun _ _ _ _ _ _ us hl => match us, hl with | [_], _ => rfl
  have b24 := F24.binds (ps := ["box", "size"]) fun _ _ _ _ _ _ us hl => match us, hl with | [_, _], _ => rfl
  have b25 := F25.binds (ps := ["box", "many", "taken"]) fun _ _ _ _ _ _ us hl => match us, hl with | [_, _, _], _ => rfl
  have b26 := F26.binds (ps := ["names", "how"]) fun _ _ _ _ _ _ us hl => match us, hl with | [_, _], _ => rfl
  have b27 := F27.binds (ps := ["many", "depth"]) fun _ _ _ _ _ _ us hl => match us, hl with | [_, _], _ => rfl
  have b28 := F28.binds (ps := ["word"]) fun _ _ _ _ _ _ us hl => match us, hl with | [_], _ => rfl
  have b29 := F29.binds (ps := ["told", "due"]) fun _ _ _ _ _ _ us hl => match us, hl with | [_, _], _ => rfl
  have b30 := F30.binds (ps := ["word", "own"]) fun _ _ _ _ _ _ us hl => match us, hl with | [_, _], _ => rfl
  have b31 := F31.binds (ps := ["knobs", "size"]) fun _ _ _ _ _ _ us hl => match us, hl with | [_, _], _ => rfl
  have b32 := F32.binds (ps := ["knobs", "depth"]) fun _ _ _ _ _ _ us hl => match us, hl with | [_, _], _ => rfl
  have b33 := F33.binds (ps := ["knobs", "more", "depth"]) fun _ _ _ _ _ _ us hl => match us, hl with | [_, _, _], _ => rfl
  -- the errors
  have xB : Xc P w K mg base "BadName" CB ["self", "why"] (spBad CB) := by
    obtain ⟨f, oc, od, an, osl, kV, dc, pm, cd, ct, h1, h2, h3, h4, h5⟩ := eB.ini
    have F := fun_mk (st := s_BadName) h3 h4 h5
    exact ⟨PySem.W.mg_of X G eB.m, eB.oex, f, _, h1, h2, ok_bad F eB.oex nW, F.binds (ps := ["self", "why"]) fun _ _ _ _ _ _ us hl => match us, hl with | [_, _], _ => rfl⟩
  have xM : Xc P w K mg base "TooMany" CM ["self", "what", "most"] (spMany CM) := by
    obtain ⟨f, oc, od, an, osl, kV, dc, pm, cd, ct, h1, h2, h3, h4, h5⟩ := eM.ini
    have F := fun_mk (st := s_TooMany) h3 h4 h5
    exact ⟨PySem.W.mg_of X G eM.m, eM.oex, f, _, h1, h2, ok_many F eM.oex nA nO, F.binds (ps := ["self", "what", "most"]) fun _ _ _ _ _ _ us hl => match us, hl with | [_, _, _], _ => rfl⟩
  have c_let : Cl P w K mg base CX0 "is_letter" 1 ["sign"] (spS isLet) := ⟨f7, fd7, m7, ok_letter F7, k7, b7⟩
  have c_inn : Cl P w K mg base CX0 "is_inner" 2 ["sign"] (spS isInn) := ⟨f8, fd8, m8, ok_inner F8 m7 m6 (ok_letter F7) (ok_digit F6) k7 k6 b7 b6, k8, b8⟩
  have c_words : Cl P w K mg base CX0 "words_of" 1 ["line"] spWords := ⟨f9, fd9, m9, ok_words F9, k9, b9⟩
  have c_name : Cl P w K mg base CX0 "is_name" 3 ["value"] spName := ⟨f13, fd13, m13, ok_name F13 ⟨zlen, zstr, zall, zisi, ⟨tl, gLon⟩, ⟨ak, gKep, kt⟩⟩ c_let c_inn, k13, b13⟩
  have c_nl : Cl P w K mg base (L2.CX P w) "name_list" 3 ["value"] (spNL CB) := ⟨f14, fd14, m14, ok_nl F14 ⟨zlist, ztuple, zstr, zisi⟩ c_words xB, k14, b14⟩
  have c_chk : Cl P w K mg base (L2.CX P w) "checked_knobs" 4 ["value"] (spChk CB CM) := ⟨f15, fd15, m15, ok_chk F15 ⟨zlen, ztuple, am, gMos, mk⟩ c_nl c_name xB xM, k15, b15⟩
  have c_wd : Cl P w K mg base (L2.CX P w) "within_depth" 3 ["depth"] (spWd CM) := ⟨f18, fd18, m18, ok_wd F18 gDee xM, k18, b18⟩
  have c_ol : GCl P w K mg base "own_words_of_length" 1 ["many", "length"] true spOL := ⟨f19, fd19, m19, ok_ol F19 ⟨zlen, ztuple⟩, k19, b19⟩
  have Gow := ok_ow F21 ⟨zlen, ztuple, zrange⟩ c_chk c_wd c_ol
  have c_ow : GCl P w K mg base "own_words" 5 ["knobs", "depth"] false spOw := ⟨f21, fd21, m21, Gow, k21, b21⟩
  have c_kw : KCl P w K mg base := kcl_of F21 m21 Gow
  have c_owx : XCl P w K mg base "own_words" 5 ["knobs", "depth"] (spOwX CB CM) := ⟨f21, fd21, m21, ok_owx F21 c_chk c_wd, k21, b21⟩
  have c_draw : Cl P w K mg base CX0 "_law_draw" 1 ["box", "size"] spDraw := ⟨f24, fd24, m24, ok_draw F24 ⟨zlen, zint⟩, k24, b24⟩
  have TS : TSm mg := ⟨zlen, zrange, zisi, zint, zbool, zstr, zdict, zlist, ztuple⟩
  have c_sm : ∀ n, Cl P w K mg base CX0 "_law_same" n ["told", "due"] (spSm K n) := fun n => ⟨f29, fd29, m29, ok_sm F29 TS m29 b29 n, k29, b29⟩
  have TR : TRf K mg CB CM := ⟨zlen, zlist, zstr, zisi, PySem.W.mg_of X G eB.m, PySem.W.mg_of X G eM.m, eB.xf, eM.xf, nW, nA, nO, xBB, xMB, xMM, eB.stp, eM.stp⟩
  have c_rfX : Cl P w K mg base CX0 "_law_refused" 9 ["knobs", "depth"] (spRfX CB CM) := ⟨f32, fd32, m32, ok_rfX F32 TR c_owx, k32, b32⟩
  have c_rfOk : Cl P w K mg base CX0 "_law_refused" 9 ["knobs", "depth"] spRfOk := ⟨f32, fd32, m32, ok_rfOk F32 TR c_ow, k32, b32⟩
  exact ok_law (fun_mk (st := s_law) l34 c34 k34) TL2
    ⟨⟨f23, fd23, m23, ok_box F23 TL1, k23, b23⟩, c_draw, ⟨f25, fd25, m25, ok_nm F25 ⟨zint, zrange, zmin, zstr⟩ c_draw, k25, b25⟩, ⟨f27, fd27, m27, ok_ws F27 TL1, k27, b27⟩, ⟨f28, fd28, m28, ok_lo F28 TL1, k28, b28⟩, ⟨f26, fd26, m26, ok_kn F26 TL1, k26, b26⟩, c_sm 4,
      ⟨f31, fd31, m31, ok_my F31 TL1, k31, b31⟩, ⟨f30, fd30, m30, ok_fa F30 TL1, k30, b30⟩, ⟨f33, fd33, m33, ok_er F33 TL1 (c_sm 2) c_rfX c_rfOk, k33, b33⟩, c_ow, c_kw⟩
theorem walk {l : PySem.W.OpenLaw} {q : Program} {loose : List Str} {XP : (Str → Option Value) → Heap → Prop} {YP : World → Heap → Prop} {d : DefRec} {K : Params → PySem.W.Frag} (hn : l.most = some 63) (hdf : d.params.defaults = [])
    (hY : ∀ (w : World) (h : Heap), YP w h → (K w.params).In h)
    (F : ∀ (w : World) (mg : Str → Option Value) (fa : Addr) (h : Heap), (K w.params).In h → h.Ns mainGlobals mg → mg d.name = some (.ref fa) →
      ∃ fd : FuncData, (∀ (s : Shared) (u : Value), BindsTo s fd ⟨[u], []⟩ [("script", u)]) ∧ ∀ base : Heap, (K w.params).In base → base.Ns mainGlobals mg → FnOk l.prog w (K w.params) mg base CX0 30 fa fd ["script"] (spLaw (K w.params))) :
    PySem.W.WalkO q loose XP YP l.row.toRowW d [] (fun f vs => PySem.call f vs) :=
  L2.walk_of (n := 63) (k := 30) (x := "script") (CX := fun _ => CX0) (sp := fun w => spLaw (K w.params)) hn (by decide) hdf ⟨rfl, by decide, by decide⟩ hY F (fun _ _ a ns hl _ hS => ⟨a, ns, rfl, hS, hl, fun _ => rfl⟩) fun _ _ _ _ _ z => z
end T80
namespace T80
open PySem L2 GK
open SX (S S_inj S_beq S_len S_cat split_S)
theorem exm_two {K : PySem.W.Frag} {S C : Addr} {r : Bool} (b : PySem.W.subIn K (.ref C) (.type "BaseException") = some true) (i : PySem.W.isClsIn K C = true) (y : PySem.W.typeIn K (.ref C) = some (.type "type")) (q : PySem.W.subIn K (.ref S) (.ref C) = some r) : PySem.W.exmOne K (.ref S) (.ref C) = some r := by
  have e1 : (PySem.W.subIn K (.ref C) (.type "BaseException") == some true) = true := by
    rw [b]
    rfl
  have e2 : ((PySem.W.clsIn K C).isSome && PySem.W.typeIn K (.ref C) == some (.type "type")) = true := by
    rw [show (PySem.W.clsIn K C).isSome = true from i, y]
    rfl
  show (if (PySem.W.subIn K (.ref C) (.type "BaseException") == some true) = true then (if ((PySem.W.clsIn K C).isSome && PySem.W.typeIn K (.ref C) == some (.type "type")) = true then PySem.W.subIn K (.ref S) (.ref C) else none) else none) = some r
  rw [if_pos e1, if_pos e2]
  exact q
theorem all_mk2 {P : Program} {w : World} {K : PySem.W.Frag} {h : Heap} {mg : Str → Option Value} {fa CB CM ak am : Addr} {tl td : Tok} {nmB qB : Str} {NB : Addr} {bsB bmB : List Value} {snB : List Str} {subB : List Value} {abB : Bool} {colB : Option Bool} {ddB : Option Addr} {kaB kbB kcB kdB keB : Option Value} {fiB : Addr} {oiB : Value} {odiB aniB : Option Addr} {sliB : Array (Option Value)} {kViB dciB pmiB cdiB ctiB : Value} {nmM qM : Str} {NM : Addr} {bsM bmM : List Value} {snM : List Str} {subM : List Value} {abM : Bool} {colM : Option Bool} {ddM : Option Addr} {kaM kbM kcM kdM keM : Option Value} {fiM : Addr} {oiM : Value} {odiM aniM : Option Addr} {sliM : Array (Option Value)} {kViM dciM pmiM cdiM ctiM : Value} {ktD : Option Addr} {ktI : Array Value} {ktN : Nat} {ktS : Array (Option Value)} {moE : Array DictEntry} {moN : Nat} {moT : Tok} {f6 : Addr} {oc6 : Value} {od6 an6 : Option Addr} {sl6 : Array (Option Value)} {kV6 dc6 pm6 cd6 ct6 : Value} {f7 : Addr} {oc7 : Value} {od7 an7 : Option Addr} {sl7 : Array (Option Value)} {kV7 dc7 pm7 cd7 ct7 : Value} {f8 : Addr} {oc8 : Value} {od8 an8 : Option Addr} {sl8 : Array (Option Value)} {kV8 dc8 pm8 cd8 ct8 : Value} {f9 : Addr} {oc9 : Value} {od9 an9 : Option Addr} {sl9 : Array (Option Value)} {kV9 dc9 pm9 cd9 ct9 : Value} {f13 : Addr} {oc13 : Value} {od13 an13 : Option Addr} {sl13 : Array (Option Value)} {kV13 dc13 pm13 cd13 ct13 : Value} {f14 : Addr} {oc14 : Value} {od14 an14 : Option Addr} {sl14 : Array (Option Value)} {kV14 dc14 pm14 cd14 ct14 : Value} {f15 : Addr} {oc15 : Value} {od15 an15 : Option Addr} {sl15 : Array (Option Value)} {kV15 dc15 pm15 cd15 ct15 : Value} {f18 : Addr} {oc18 : Value} {od18 an18 : Option Addr} {sl18 : Array (Option Value)} {kV18 dc18 pm18 cd18 ct18 : Value} {f19 : Addr} {oc19 : Value} {od19 an19 : Option Addr} {sl19 : Array (Option Value)} {kV19 dc19 pm19 cd19 ct19 : Value} {f21 : Addr} {oc21 : Value} {od21 an21 : Option Addr} {sl21 : Array (Option Value)} {kV21 dc21 pm21 cd21 ct21 : Value} {f23 : Addr} {oc23 : Value} {od23 an23 : Option Addr} {sl23 : Array (Option Value)} {kV23 dc23 pm23 cd23 ct23 : Value} {f24 : Addr} {oc24 : Value} {od24 an24 : Option Addr} {sl24 : Array (Option Value)} {kV24 dc24 pm24 cd24 ct24 : Value} {f25 : Addr} {oc25 : Value} {od25 an25 : Option Addr} {sl25 : Array (Option Value)} {kV25 dc25 pm25 cd25 ct25 : Value} {f26 : Addr} {oc26 : Value} {od26 an26 : Option Addr} {sl26 : Array (Option Value)} {kV26 dc26 pm26 cd26 ct26 : Value} {f27 : Addr} {oc27 : Value} {od27 an27 : Option Addr} {sl27 : Array (Option Value)} {kV27 dc27 pm27 cd27 ct27 : Value} {f28 : Addr} {oc28 : Value} {od28 an28 : Option Addr} {sl28 : Array (Option Value)} {kV28 dc28 pm28 cd28 ct28 : Value} {f29 : Addr} {oc29 : Value} {od29 an29 : Option Addr} {sl29 : Array (Option Value)} {kV29 dc29 pm29 cd29 ct29 : Value} {f30 : Addr} {oc30 : Value} {od30 an30 : Option Addr} {sl30 : Array (Option Value)} {kV30 dc30 pm30 cd30 ct30 : Value} {f31 : Addr} {oc31 : Value} {od31 an31 : Option Addr} {sl31 : Array (Option Value)} {kV31 dc31 pm31 cd31 ct31 : Value} {f32 : Addr} {oc32 : Value} {od32 an32 : Option Addr} {sl32 : Array (Option Value)} {kV32 dc32 pm32 cd32 ct32 : Value} {f33 : Addr} {oc33 : Value} {od33 an33 : Option Addr} {sl33 : Array (Option Value)} {kV33 dc33 pm33 cd33 ct33 : Value} {f34 : Addr} {oc34 : Value} {od34 an34 : Option Addr} {sl34 : Array (Option Value)} {kV34 dc34 pm34 cd34 ct34 : Value} (X : K.In h) (G : h.Ns mainGlobals mg) (hfa : mg "law" = some (.ref fa))
    (Bm : PySem.W.nsIn K mainGlobals "BadName" = some (some (.ref CB)))
    (Bc1 : K.lookup CB = some (excClassObj nmB qB CB NB bsB bmB true snB subB abB colB ddB kaB kbB kcB kdB keB "ValueError.__new__"))
    (Bc2 : PySem.HandSPX.refsVE bmB = true)
    (Bs1 : PySem.W.findIn K (.ref CB) "__setattr__" = some (some (.builtin "object.__setattr__")))
    (Bs2 : PySem.W.subIn K (.ref CB) (.type "BaseException") = some true)
    (Bs3 : PySem.W.typeIn K (.ref CB) = some (.type "type"))
    (Bs4 : PySem.W.keepIn K (.ref CB) = true)
    (Bs5 : PySem.W.findIn K (.ref CB) "__getattribute__" = some (some (.builtin "BaseException.__getattribute__")))
    (Bs6 : PySem.W.findIn K (.ref CB) "__getattr__" = some none)
    (Bs7 : PySem.W.hasDictIn K CB = true)
    (Bs8 : PySem.W.subIn K (.ref CB) (.type "StopIteration") = some false)
    (Bi1 : PySem.W.findIn K (.ref CB) "__init__" = some (some (.ref fiB)))
    (Bi2 : PySem.W.typeIn K (.ref fiB) = some (.type "function"))
    (Bi3 : K.lookup fiB = some ⟨oiB, odiB, .func (PySem.W.fnOf "__init__" "BadName.__init__" (defArgs s_BadName) (defBody s_BadName) (defScope s_BadName) .none kViB dciB pmiB aniB cdiB ctiB), sliB⟩)
    (Bi4 : PySem.W.codeIn K cdiB "BadName.__init__" = true)
    (Bi5 : PySem.W.keepIn K (.ref fiB) = true)
    (Mm : PySem.W.nsIn K mainGlobals "TooMany" = some (some (.ref CM)))
    (Mc1 : K.lookup CM = some (excClassObj nmM qM CM NM bsM bmM true snM subM abM colM ddM kaM kbM kcM kdM keM "ValueError.__new__"))
    (Mc2 : PySem.HandSPX.refsVE bmM = true)
    (Ms1 : PySem.W.findIn K (.ref CM) "__setattr__" = some (some (.builtin "object.__setattr__")))
    (Ms2 : PySem.W.subIn K (.ref CM) (.type "BaseException") = some true)
    (Ms3 : PySem.W.typeIn K (.ref CM) = some (.type "type"))
    (Ms4 : PySem.W.keepIn K (.ref CM) = true)
    (Ms5 : PySem.W.findIn K (.ref CM) "__getattribute__" = some (some (.builtin "BaseException.__getattribute__")))
    (Ms6 : PySem.W.findIn K (.ref CM) "__getattr__" = some none)
    (Ms7 : PySem.W.hasDictIn K CM = true)
    (Ms8 : PySem.W.subIn K (.ref CM) (.type "StopIteration") = some false)
    (Mi1 : PySem.W.findIn K (.ref CM) "__init__" = some (some (.ref fiM)))
    (Mi2 : PySem.W.typeIn K (.ref fiM) = some (.type "function"))
    (Mi3 : K.lookup fiM = some ⟨oiM, odiM, .func (PySem.W.fnOf "__init__" "TooMany.__init__" (defArgs s_TooMany) (defBody s_TooMany) (defScope s_TooMany) .none kViM dciM pmiM aniM cdiM ctiM), sliM⟩)
    (Mi4 : PySem.W.codeIn K cdiM "TooMany.__init__" = true)
    (Mi5 : PySem.W.keepIn K (.ref fiM) = true)
    (nW : PySem.W.findIn K (.ref CB) "why" = some none)
    (nA : PySem.W.findIn K (.ref CM) "what" = some none)
    (nO : PySem.W.findIn K (.ref CM) "most" = some none)
    (bI : PySem.W.isClsIn K CB = true) (mI : PySem.W.isClsIn K CM = true) (xBB : PySem.W.subIn K (.ref CB) (.ref CB) = some true)
    (xMB : PySem.W.subIn K (.ref CM) (.ref CB) = some false)
    (xMM : PySem.W.subIn K (.ref CM) (.ref CM) = some true)
    (lo : PySem.W.nsIn K mainGlobals "LONGEST" = some (some (.int 16 tl)))
    (de : PySem.W.nsIn K mainGlobals "DEEPEST" = some (some (.int 12 td)))
    (ke : PySem.W.nsIn K mainGlobals "KEPT_WORDS" = some (some (.ref ak)))
    (kt1 : K.lookup ak = some ⟨.type "tuple", ktD, .seq ktI ktN, ktS⟩)
    (kt2 : ktI.size ≤ sizeLine)
    (kt3 : Vals (kept.map vS) ktI.toList)
    (mo : PySem.W.nsIn K mainGlobals "MOST" = some (some (.ref am)))
    (mk1 : K.lookup am = some ⟨.type "dict", none, .dict moE moN, #[]⟩)
    (mk2 : PySem.W.KeysLit w.params moE.toList)
    (mk3 : PySem.W.nsIn K am "knobs" = some (some (.int 6 moT)))
    (a6 : PySem.W.nsIn K mainGlobals "is_digit" = some (some (.ref f6)))
    (l6 : K.lookup f6 = some ⟨oc6, od6, .func (PySem.W.fnOf "is_digit" "is_digit" (defArgs (top 6)) (defBody (top 6)) (defScope (top 6)) .none kV6 dc6 pm6 an6 cd6 ct6), sl6⟩)
    (c6 : PySem.W.codeIn K cd6 "is_digit" = true)
    (k6 : PySem.W.keepIn K (.ref f6) = true)
    (a7 : PySem.W.nsIn K mainGlobals "is_letter" = some (some (.ref f7)))
    (l7 : K.lookup f7 = some ⟨oc7, od7, .func (PySem.W.fnOf "is_letter" "is_letter" (defArgs (top 7)) (defBody (top 7)) (defScope (top 7)) .none kV7 dc7 pm7 an7 cd7 ct7), sl7⟩)
    (c7 : PySem.W.codeIn K cd7 "is_letter" = true)
    (k7 : PySem.W.keepIn K (.ref f7) = true)
    (a8 : PySem.W.nsIn K mainGlobals "is_inner" = some (some (.ref f8)))
    (l8 : K.lookup f8 = some ⟨oc8, od8, .func (PySem.W.fnOf "is_inner" "is_inner" (defArgs (top 8)) (defBody (top 8)) (defScope (top 8)) .none kV8 dc8 pm8 an8 cd8 ct8), sl8⟩)
    (c8 : PySem.W.codeIn K cd8 "is_inner" = true)
    (k8 : PySem.W.keepIn K (.ref f8) = true)
    (a9 : PySem.W.nsIn K mainGlobals "words_of" = some (some (.ref f9)))
    (l9 : K.lookup f9 = some ⟨oc9, od9, .func (PySem.W.fnOf "words_of" "words_of" (defArgs (top 9)) (defBody (top 9)) (defScope (top 9)) .none kV9 dc9 pm9 an9 cd9 ct9), sl9⟩)
    (c9 : PySem.W.codeIn K cd9 "words_of" = true)
    (k9 : PySem.W.keepIn K (.ref f9) = true)
    (a13 : PySem.W.nsIn K mainGlobals "is_name" = some (some (.ref f13)))
    (l13 : K.lookup f13 = some ⟨oc13, od13, .func (PySem.W.fnOf "is_name" "is_name" (defArgs (top 13)) (defBody (top 13)) (defScope (top 13)) .none kV13 dc13 pm13 an13 cd13 ct13), sl13⟩)
    (c13 : PySem.W.codeIn K cd13 "is_name" = true)
    (k13 : PySem.W.keepIn K (.ref f13) = true)
    (a14 : PySem.W.nsIn K mainGlobals "name_list" = some (some (.ref f14)))
    (l14 : K.lookup f14 = some ⟨oc14, od14, .func (PySem.W.fnOf "name_list" "name_list" (defArgs (top 14)) (defBody (top 14)) (defScope (top 14)) .none kV14 dc14 pm14 an14 cd14 ct14), sl14⟩)
    (c14 : PySem.W.codeIn K cd14 "name_list" = true)
    (k14 : PySem.W.keepIn K (.ref f14) = true)
    (a15 : PySem.W.nsIn K mainGlobals "checked_knobs" = some (some (.ref f15)))
    (l15 : K.lookup f15 = some ⟨oc15, od15, .func (PySem.W.fnOf "checked_knobs" "checked_knobs" (defArgs (top 15)) (defBody (top 15)) (defScope (top 15)) .none kV15 dc15 pm15 an15 cd15 ct15), sl15⟩)
    (c15 : PySem.W.codeIn K cd15 "checked_knobs" = true)
    (k15 : PySem.W.keepIn K (.ref f15) = true)
    (a18 : PySem.W.nsIn K mainGlobals "within_depth" = some (some (.ref f18)))
    (l18 : K.lookup f18 = some ⟨oc18, od18, .func (PySem.W.fnOf "within_depth" "within_depth" (defArgs (top 18)) (defBody (top 18)) (defScope (top 18)) .none kV18 dc18 pm18 an18 cd18 ct18), sl18⟩)
    (c18 : PySem.W.codeIn K cd18 "within_depth" = true)
    (k18 : PySem.W.keepIn K (.ref f18) = true)
    (a19 : PySem.W.nsIn K mainGlobals "own_words_of_length" = some (some (.ref f19)))
    (l19 : K.lookup f19 = some ⟨oc19, od19, .func (PySem.W.fnOf "own_words_of_length" "own_words_of_length" (defArgs (top 19)) (defBody (top 19)) (defScope (top 19)) .none kV19 dc19 pm19 an19 cd19 ct19), sl19⟩)
    (c19 : PySem.W.codeIn K cd19 "own_words_of_length" = true)
    (k19 : PySem.W.keepIn K (.ref f19) = true)
    (a21 : PySem.W.nsIn K mainGlobals "own_words" = some (some (.ref f21)))
    (l21 : K.lookup f21 = some ⟨oc21, od21, .func (PySem.W.fnOf "own_words" "own_words" (defArgs (top 21)) (defBody (top 21)) (defScope (top 21)) .none kV21 dc21 pm21 an21 cd21 ct21), sl21⟩)
    (c21 : PySem.W.codeIn K cd21 "own_words" = true)
    (k21 : PySem.W.keepIn K (.ref f21) = true)
    (a23 : PySem.W.nsIn K mainGlobals "_law_box" = some (some (.ref f23)))
    (l23 : K.lookup f23 = some ⟨oc23, od23, .func (PySem.W.fnOf "_law_box" "_law_box" (defArgs (top 23)) (defBody (top 23)) (defScope (top 23)) .none kV23 dc23 pm23 an23 cd23 ct23), sl23⟩)
    (c23 : PySem.W.codeIn K cd23 "_law_box" = true)
    (k23 : PySem.W.keepIn K (.ref f23) = true)
    (a24 : PySem.W.nsIn K mainGlobals "_law_draw" = some (some (.ref f24)))
    (l24 : K.lookup f24 = some ⟨oc24, od24, .func (PySem.W.fnOf "_law_draw" "_law_draw" (defArgs (top 24)) (defBody (top 24)) (defScope (top 24)) .none kV24 dc24 pm24 an24 cd24 ct24), sl24⟩)
    (c24 : PySem.W.codeIn K cd24 "_law_draw" = true)
    (k24 : PySem.W.keepIn K (.ref f24) = true)
    (a25 : PySem.W.nsIn K mainGlobals "_law_names" = some (some (.ref f25)))
    (l25 : K.lookup f25 = some ⟨oc25, od25, .func (PySem.W.fnOf "_law_names" "_law_names" (defArgs (top 25)) (defBody (top 25)) (defScope (top 25)) .none kV25 dc25 pm25 an25 cd25 ct25), sl25⟩)
    (c25 : PySem.W.codeIn K cd25 "_law_names" = true)
    (k25 : PySem.W.keepIn K (.ref f25) = true)
    (a26 : PySem.W.nsIn K mainGlobals "_law_knobs" = some (some (.ref f26)))
    (l26 : K.lookup f26 = some ⟨oc26, od26, .func (PySem.W.fnOf "_law_knobs" "_law_knobs" (defArgs (top 26)) (defBody (top 26)) (defScope (top 26)) .none kV26 dc26 pm26 an26 cd26 ct26), sl26⟩)
    (c26 : PySem.W.codeIn K cd26 "_law_knobs" = true)
    (k26 : PySem.W.keepIn K (.ref f26) = true)
    (a27 : PySem.W.nsIn K mainGlobals "_law_words" = some (some (.ref f27)))
    (l27 : K.lookup f27 = some ⟨oc27, od27, .func (PySem.W.fnOf "_law_words" "_law_words" (defArgs (top 27)) (defBody (top 27)) (defScope (top 27)) .none kV27 dc27 pm27 an27 cd27 ct27), sl27⟩)
    (c27 : PySem.W.codeIn K cd27 "_law_words" = true)
    (k27 : PySem.W.keepIn K (.ref f27) = true)
    (a28 : PySem.W.nsIn K mainGlobals "_law_own" = some (some (.ref f28)))
    (l28 : K.lookup f28 = some ⟨oc28, od28, .func (PySem.W.fnOf "_law_own" "_law_own" (defArgs (top 28)) (defBody (top 28)) (defScope (top 28)) .none kV28 dc28 pm28 an28 cd28 ct28), sl28⟩)
    (c28 : PySem.W.codeIn K cd28 "_law_own" = true)
    (k28 : PySem.W.keepIn K (.ref f28) = true)
    (a29 : PySem.W.nsIn K mainGlobals "_law_same" = some (some (.ref f29)))
    (l29 : K.lookup f29 = some ⟨oc29, od29, .func (PySem.W.fnOf "_law_same" "_law_same" (defArgs (top 29)) (defBody (top 29)) (defScope (top 29)) .none kV29 dc29 pm29 an29 cd29 ct29), sl29⟩)
    (c29 : PySem.W.codeIn K cd29 "_law_same" = true)
    (k29 : PySem.W.keepIn K (.ref f29) = true)
    (a30 : PySem.W.nsIn K mainGlobals "_law_falls" = some (some (.ref f30)))
    (l30 : K.lookup f30 = some ⟨oc30, od30, .func (PySem.W.fnOf "_law_falls" "_law_falls" (defArgs (top 30)) (defBody (top 30)) (defScope (top 30)) .none kV30 dc30 pm30 an30 cd30 ct30), sl30⟩)
    (c30 : PySem.W.codeIn K cd30 "_law_falls" = true)
    (k30 : PySem.W.keepIn K (.ref f30) = true)
    (a31 : PySem.W.nsIn K mainGlobals "_law_many" = some (some (.ref f31)))
    (l31 : K.lookup f31 = some ⟨oc31, od31, .func (PySem.W.fnOf "_law_many" "_law_many" (defArgs (top 31)) (defBody (top 31)) (defScope (top 31)) .none kV31 dc31 pm31 an31 cd31 ct31), sl31⟩)
    (c31 : PySem.W.codeIn K cd31 "_law_many" = true)
    (k31 : PySem.W.keepIn K (.ref f31) = true)
    (a32 : PySem.W.nsIn K mainGlobals "_law_refused" = some (some (.ref f32)))
    (l32 : K.lookup f32 = some ⟨oc32, od32, .func (PySem.W.fnOf "_law_refused" "_law_refused" (defArgs (top 32)) (defBody (top 32)) (defScope (top 32)) .none kV32 dc32 pm32 an32 cd32 ct32), sl32⟩)
    (c32 : PySem.W.codeIn K cd32 "_law_refused" = true)
    (k32 : PySem.W.keepIn K (.ref f32) = true)
    (a33 : PySem.W.nsIn K mainGlobals "_law_errors" = some (some (.ref f33)))
    (l33 : K.lookup f33 = some ⟨oc33, od33, .func (PySem.W.fnOf "_law_errors" "_law_errors" (defArgs (top 33)) (defBody (top 33)) (defScope (top 33)) .none kV33 dc33 pm33 an33 cd33 ct33), sl33⟩)
    (c33 : PySem.W.codeIn K cd33 "_law_errors" = true)
    (k33 : PySem.W.keepIn K (.ref f33) = true)
    (a34 : PySem.W.nsIn K mainGlobals "law" = some (some (.ref f34)))
    (l34 : K.lookup f34 = some ⟨oc34, od34, .func (PySem.W.fnOf "law" "law" (defArgs (top 34)) (defBody (top 34)) (defScope (top 34)) .none kV34 dc34 pm34 an34 cd34 ct34), sl34⟩)
    (c34 : PySem.W.codeIn K cd34 "law" = true)
    (k34 : PySem.W.keepIn K (.ref f34) = true)
    (z_len : PySem.W.nsIn K mainGlobals "len" = some none)
    (z_int : PySem.W.nsIn K mainGlobals "int" = some none)
    (z_list : PySem.W.nsIn K mainGlobals "list" = some none)
    (z_tuple : PySem.W.nsIn K mainGlobals "tuple" = some none)
    (z_range : PySem.W.nsIn K mainGlobals "range" = some none)
    (z_str : PySem.W.nsIn K mainGlobals "str" = some none)
    (z_all : PySem.W.nsIn K mainGlobals "all" = some none)
    (z_isinstance : PySem.W.nsIn K mainGlobals "isinstance" = some none)
    (z_bool : PySem.W.nsIn K mainGlobals "bool" = some none)
    (z_dict : PySem.W.nsIn K mainGlobals "dict" = some none)
    (z_max : PySem.W.nsIn K mainGlobals "max" = some none)
    (z_min : PySem.W.nsIn K mainGlobals "min" = some none) :
    ∃ fd : FuncData, (∀ (s : Shared) (v : Value), BindsTo s fd ⟨[v], []⟩ [("script", v)]) ∧ ∀ base : Heap, K.In base → base.Ns mainGlobals mg → FnOk P w K mg base CX0 30 fa fd ["script"] (spLaw K) :=
  all_mk X G hfa ⟨Bm, ⟨_, _, _, _, _, _, _, _, _, _, _, _, _, _, _, Bc1, Bc2⟩, Bs1, Bs2, Bs3, Bs4, Bs5, Bs6, Bs7, Bs8, ⟨_, _, _, _, _, _, _, _, _, _, Bi1, Bi2, Bi3, Bi4, Bi5⟩⟩ ⟨Mm, ⟨_, _, _, _, _, _, _, _, _, _, _, _, _, _, _, Mc1, Mc2⟩, Ms1, Ms2, Ms3, Ms4, Ms5, Ms6, Ms7, Ms8, ⟨_, _, _, _, _, _, _, _, _, _, Mi1, Mi2, Mi3, Mi4, Mi5⟩⟩ nW nA nO (exm_two Bs2 bI Bs3 xBB) (exm_two Bs2 bI Bs3 xMB) (exm_two Ms2 mI Ms3 xMM) lo de ke (fun _ => .inr ⟨_, _, _, kt1, rfl, rfl, kt2, kt3⟩) mo ⟨_, _, _, mk1, mk2, mk3, ⟨_, rfl⟩⟩ ⟨f6, oc6, od6, an6, sl6, kV6, dc6, pm6, cd6, ct6, a6, l6, c6, k6⟩ ⟨f7, oc7, od7, an7, sl7, kV7, dc7, pm7, cd7, ct7, a7, l7, c7, k7⟩ ⟨f8, oc8, od8, an8, sl8, kV8, dc8, pm8, cd8, ct8, a8, l8, c8, k8⟩ ⟨f9, oc9, od9, an9, sl9, kV9, dc9, pm9, cd9, ct9, a9, l9, c9, k9⟩ ⟨f13, oc13, od13, an13, sl13, kV13, dc13, pm13, cd13, ct13, a13, l13, c13, k13⟩ ⟨f14, oc14, od14, an14, sl14, kV14, dc14, pm14, cd14, ct14, a14, l14, c14, k14⟩ ⟨f15, oc15, od15, an15, sl15, kV15, dc15, pm15, cd15, ct15, a15, l15, c15, k15⟩ ⟨f18, oc18, od18, an18, sl18, kV18, dc18, pm18, cd18, ct18, a18, l18, c18, k18⟩ ⟨f19, oc19, od19, an19, sl19, kV19, dc19, pm19, cd19, ct19, a19, l19, c19, k19⟩ ⟨f21, oc21, od21, an21, sl21, kV21, dc21, pm21, cd21, ct21, a21, l21, c21, k21⟩ ⟨f23, oc23, od23, an23, sl23, kV23, dc23, pm23, cd23, ct23, a23, l23, c23, k23⟩ ⟨f24, oc24, od24, an24, sl24, kV24, dc24, pm24, cd24, ct24, a24, l24, c24, k24⟩ ⟨f25, oc25, od25, an25, sl25, kV25, dc25, pm25, cd25, ct25, a25, l25, c25, k25⟩ ⟨f26, oc26, od26, an26, sl26, kV26, dc26, pm26, cd26, ct26, a26, l26, c26, k26⟩ ⟨f27, oc27, od27, an27, sl27, kV27, dc27, pm27, cd27, ct27, a27, l27, c27, k27⟩ ⟨f28, oc28, od28, an28, sl28, kV28, dc28, pm28, cd28, ct28, a28, l28, c28, k28⟩ ⟨f29, oc29, od29, an29, sl29, kV29, dc29, pm29, cd29, ct29, a29, l29, c29, k29⟩ ⟨f30, oc30, od30, an30, sl30, kV30, dc30, pm30, cd30, ct30, a30, l30, c30, k30⟩ ⟨f31, oc31, od31, an31, sl31, kV31, dc31, pm31, cd31, ct31, a31, l31, c31, k31⟩ ⟨f32, oc32, od32, an32, sl32, kV32, dc32, pm32, cd32, ct32, a32, l32, c32, k32⟩ ⟨f33, oc33, od33, an33, sl33, kV33, dc33, pm33, cd33, ct33, a33, l33, c33, k33⟩ a34 l34 c34 k34 (fun x hx => by
    simp only [List.mem_cons, List.not_mem_nil, or_false] at hx
    rcases hx with rfl | rfl | rfl | rfl | rfl | rfl | rfl | rfl | rfl | rfl | rfl | rfl
    · exact z_len
    · exact z_int
    · exact z_list
    · exact z_tuple
    · exact z_range
    · exact z_str
    · exact z_all
    · exact z_isinstance
    · exact z_bool
    · exact z_dict
    · exact z_max
    · exact z_min)
end T80
open PySem PySem.W PyProof.Rows in
set_option maxRecDepth 100000 in
set_option maxHeartbeats 0 in
theorem PySem.Challenge.cw_leastknobs_k80_whole_words_cut_falling_holds : PySem.Challenge.rw_leastknobs_k80_whole_words_cut_falling.Holds := by
  w_on; o_law; k_head; (case hw => w_witness2)
  k_fill
  refine T80.walk (l := PySem.Challenge.rw_leastknobs_k80_whole_words_cut_falling) rfl rfl (fun w h Y => PySem.W.kIn_of Y) ?F
  case F =>
    intro w mg fa h KX G hmg
    refine' T80.all_mk2 KX G hmg ?Bm ?Bc1 ?Bc2 ?Bs1 ?Bs2 ?Bs3 ?Bs4 ?Bs5 ?Bs6 ?Bs7 ?Bs8 ?Bi1 ?Bi2 ?Bi3 ?Bi4 ?Bi5 ?Mm ?Mc1 ?Mc2 ?Ms1 ?Ms2 ?Ms3 ?Ms4 ?Ms5 ?Ms6 ?Ms7 ?Ms8 ?Mi1 ?Mi2 ?Mi3 ?Mi4 ?Mi5 ?nW ?nA ?nO ?bI ?mI ?xBB ?xMB ?xMM ?lo ?de ?ke ?kt1 ?kt2 ?kt3 ?mo ?mk1 ?mk2 ?mk3 ?a6 ?l6 ?c6 ?k6 ?a7 ?l7 ?c7 ?k7 ?a8 ?l8 ?c8 ?k8 ?a9 ?l9 ?c9 ?k9 ?a13 ?l13 ?c13 ?k13 ?a14 ?l14 ?c14 ?k14 ?a15 ?l15 ?c15 ?k15 ?a18 ?l18 ?c18 ?k18 ?a19 ?l19 ?c19 ?k19 ?a21 ?l21 ?c21 ?k21 ?a23 ?l23 ?c23 ?k23 ?a24 ?l24 ?c24 ?k24 ?a25 ?l25 ?c25 ?k25 ?a26 ?l26 ?c26 ?k26 ?a27 ?l27 ?c27 ?k27 ?a28 ?l28 ?c28 ?k28 ?a29 ?l29 ?c29 ?k29 ?a30 ?l30 ?c30 ?k30 ?a31 ?l31 ?c31 ?k31 ?a32 ?l32 ?c32 ?k32 ?a33 ?l33 ?c33 ?k33 ?a34 ?l34 ?c34 ?k34 ?z_len ?z_int ?z_list ?z_tuple ?z_range ?z_str ?z_all ?z_isinstance ?z_bool ?z_dict ?z_max ?z_min
    (case Bm => k_is)
    (case Bc1 => k_is)
    (case Bc2 => decide +kernel)
    (case Bs1 => k_is)
    (case Bs2 => k_is)
    (case Bs3 => k_is)
    (case Bs4 => k_is)
    (case Bs5 => k_is)
    (case Bs6 => k_is)
    (case Bs7 => k_is)
    (case Bs8 => k_is)
    (case Bi1 => k_is)
    (case Bi2 => k_is)
    (case Bi3 => k_is)
    (case Bi4 => k_is)
    (case Bi5 => k_is)
    (case Mm => k_is)
    (case Mc1 => k_is)
    (case Mc2 => decide +kernel)
    (case Ms1 => k_is)
    (case Ms2 => k_is)
    (case Ms3 => k_is)
    (case Ms4 => k_is)
    (case Ms5 => k_is)
    (case Ms6 => k_is)
    (case Ms7 => k_is)
    (case Ms8 => k_is)
    (case Mi1 => k_is)
    (case Mi2 => k_is)
    (case Mi3 => k_is)
    (case Mi4 => k_is)
    (case Mi5 => k_is)
    (case nW => k_is)
    (case nA => k_is)
    (case nO => k_is)
    (case bI => k_is)
    (case mI => k_is)
    (case xBB => k_is)
    (case xMB => k_is)
    (case xMM => k_is)
    (case lo => k_is)
    (case de => k_is)
    (case ke => k_is)
    (case kt1 => k_is)
    (case kt2 => decide +kernel)
    (case kt3 => repeat' (first | exact PySem.Paired.nil | (refine PySem.Paired.cons ⟨_, rfl⟩ ?_)))
    (case mo => k_is)
    (case mk1 => k_is)
    (case mk2 => repeat' (first | exact True.intro | (refine And.intro ⟨_, _, rfl, rfl⟩ ?_)))
    (case mk3 => k_is)
    (case a6 => k_is)
    (case l6 => k_is)
    (case c6 => k_is)
    (case k6 => k_is)
    (case a7 => k_is)
    (case l7 => k_is)
    (case c7 => k_is)
    (case k7 => k_is)
    (case a8 => k_is)
    (case l8 => k_is)
    (case c8 => k_is)
    (case k8 => k_is)
    (case a9 => k_is)
    (case l9 => k_is)
    (case c9 => k_is)
    (case k9 => k_is)
    (case a13 => k_is)
    (case l13 => k_is)
    (case c13 => k_is)
    (case k13 => k_is)
    (case a14 => k_is)
    (case l14 => k_is)
    (case c14 => k_is)
    (case k14 => k_is)
    (case a15 => k_is)
    (case l15 => k_is)
    (case c15 => k_is)
    (case k15 => k_is)
    (case a18 => k_is)
    (case l18 => k_is)
    (case c18 => k_is)
    (case k18 => k_is)
    (case a19 => k_is)
    (case l19 => k_is)
    (case c19 => k_is)
    (case k19 => k_is)
    (case a21 => k_is)
    (case l21 => k_is)
    (case c21 => k_is)
    (case k21 => k_is)
    (case a23 => k_is)
    (case l23 => k_is)
    (case c23 => k_is)
    (case k23 => k_is)
    (case a24 => k_is)
    (case l24 => k_is)
    (case c24 => k_is)
    (case k24 => k_is)
    (case a25 => k_is)
    (case l25 => k_is)
    (case c25 => k_is)
    (case k25 => k_is)
    (case a26 => k_is)
    (case l26 => k_is)
    (case c26 => k_is)
    (case k26 => k_is)
    (case a27 => k_is)
    (case l27 => k_is)
    (case c27 => k_is)
    (case k27 => k_is)
    (case a28 => k_is)
    (case l28 => k_is)
    (case c28 => k_is)
    (case k28 => k_is)
    (case a29 => k_is)
    (case l29 => k_is)
    (case c29 => k_is)
    (case k29 => k_is)
    (case a30 => k_is)
    (case l30 => k_is)
    (case c30 => k_is)
    (case k30 => k_is)
    (case a31 => k_is)
    (case l31 => k_is)
    (case c31 => k_is)
    (case k31 => k_is)
    (case a32 => k_is)
    (case l32 => k_is)
    (case c32 => k_is)
    (case k32 => k_is)
    (case a33 => k_is)
    (case l33 => k_is)
    (case c33 => k_is)
    (case k33 => k_is)
    (case a34 => k_is)
    (case l34 => k_is)
    (case c34 => k_is)
    (case k34 => k_is)
    (case z_len => k_is)
    (case z_int => k_is)
    (case z_list => k_is)
    (case z_tuple => k_is)
    (case z_range => k_is)
    (case z_str => k_is)
    (case z_all => k_is)
    (case z_isinstance => k_is)
    (case z_bool => k_is)
    (case z_dict => k_is)
    (case z_max => k_is)
    (case z_min => k_is)
