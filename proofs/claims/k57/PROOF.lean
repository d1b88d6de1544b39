import PyProof.Rows.All
import HandS.GenOver
import HandS.GenCall
import Wide.All
import OpenK.AllK
import Wide.FinOn
import HandS.ForMost
import HandS.ForExc
import HandS.Lambda
import HandS.TupAny
import HandS.TupMul
import HandS.Deep
import HandS.Codes
import HandS.SetFor
import HandS.Strs
import HandS.RaiseMore
import HandS.NoneIn
import HandS.SortInts
import HandS.Star
import HandS.IsInst
import HandS.Zip
import HandS.Text
import HandS.Conv
import HandS.GenList
import HandS.Dict
import HandS.Style
import HandS.FStr
import KE.GoesMore
import KE.GoesEnum
import PyProof.ListStr
import KE.SortData
import KE.KRevSl
import KE.KExcSuper
import HandS.HeadWalk
import HandS.HotCalls
import HandS.ExcIs
import HandS.ExcField
import KE.KExcIs
import KE.KTryMore
import KE.DataFind
import KE.KNest
import KE.KNestM
import PyProof.ExcBaseAll.ValueError
import PyProof.ExcBaseAll.LookupError
import PyProof.ExcBaseAll.ArithmeticError
import HandS.Property
import KE.KCallOwn
import PyProof.InstEq
import PyProof.Rows.Range3
import HandS.Iter
import HandS.Small
import HandS.More
import HandS.DictComp
import HandS.ClsMeth
import PyProof.StrOps2
import PyProof.Rows.StrMul
import PyProof.TupleOfSeq
import HandS.TryOnly
import PyProof.WalkInts
import HandS.BoundList
import KE.KEqDict
import PyProof.NeKinds
import PyProof.Rows.IntBool
import HandS.Head0
import HandS.Head1
import HandS.Head2
import HandS.HeadHook1
import HandS.HeadHook2
import HandS.HeadHook3
import HandS.HeadHook4
import PySem.Challenge.RW_threevalues_k57_claims_of_any_kind
set_option Elab.async false
set_option linter.all false
set_option maxRecDepth 1000000
set_option maxHeartbeats 4000000
namespace T3
open PySem
/-- a state that nobody can wake, seen alike -/
noncomputable def sealG : GenState → GenState
  | .suspended _ l c p fs cl => .suspended (fun _ => .unsupported "") l c p fs cl
  | x => x
noncomputable def isSus : GenState → Bool
  | .suspended .. => true
  | .running => true
  | _ => false
theorem seal_seen (x : GenState) : (sealG x).seen = x.seen := by cases x <;> rfl
theorem runs_uns {M : Model} {Γ : Ctx} {p : Pos} {w : String} {fs : List Frame} {s s' : Shared} {e : End} {t : Sem PySem.Fin} (h : Runs M Γ p t fs s e s') : t = .unsupported w → False := by
  induction h with
  | segRet _ _ ih _ => exact ih
  | segGen _ _ ih _ => exact ih
  | segSuspOut _ _ ih => exact ih
  | segSuspGen _ _ _ _ ih _ => exact ih
  | _ => intro ht; cases ht
open PySem
/-- a is b, its generators of G sealed -/
structure Seal (G : Nat → Prop) (a b : Shared) : Prop where
  rest : b = { a with gens := b.gens }
  size : a.gens.size = b.gens.size
  lt : ∀ i, G i → i < a.gens.size
  on : ∀ i x, G i → b.gens[i]? = some x → a.gens[i]? = some (sealG x) ∧ isSus x = true
  off : ∀ i, ¬ G i → a.gens[i]? = b.gens[i]?
  plain : ∀ i k l c p fs cl, ¬ G i → b.gens[i]? = some (.suspended k l c p fs cl) → splitAtGen fs = none
noncomputable def endPlain : End → Prop
  | .ret _ => True
  | .susp _ _ _ _ _ _ fs => splitAtGen fs = none
section
variable {G : Nat → Prop} {a b : Shared}
theorem Seal.heap (h : Seal G a b) : b.heap = a.heap := by rw [h.rest]
theorem Seal.toks (h : Seal G a b) : b.toks = a.toks := by rw [h.rest]
theorem Seal.drawn (h : Seal G a b) : b.drawn = a.drawn := by rw [h.rest]
theorem Seal.os (h : Seal G a b) : b.os = a.os := by rw [h.rest]
theorem Seal.with (h : Seal G a b) (hp : Heap) (t : Tok) : Seal G { a with heap := hp, toks := t } { b with heap := hp, toks := t } :=
  ⟨by conv => lhs; rw [h.rest], h.size, h.lt, h.on, h.off, h.plain⟩
theorem Seal.setOff (h : Seal G a b) {g : Nat} (hg : ¬ G g) {x : GenState} (hx : ∀ k l c p fs cl, x = .suspended k l c p fs cl → splitAtGen fs = none) : Seal G (a.setGen g x) (b.setGen g x) := by
  have ne : ∀ i, G i → g ≠ i := fun i hi e => hg (e ▸ hi)
  refine ⟨by show { b with gens := b.gens.setIfInBounds g x } = { a with gens := b.gens.setIfInBounds g x }; conv => lhs; rw [h.rest], by simp [Shared.setGen, h.size], fun i hi => by simpa [Shared.setGen] using h.lt i hi, fun i y hi hy => ?_, fun i hi => ?_, fun i k l c p fs cl hi hy => ?_⟩
  · simp only [Shared.setGen, Array.getElem?_setIfInBounds_ne (ne i hi)] at hy ⊢
    exact h.on i y hi hy
  · simp only [Shared.setGen, Array.getElem?_setIfInBounds, h.size, h.off i hi]
  · simp only [Shared.setGen, Array.getElem?_setIfInBounds] at hy
    split at hy
    · split at hy
      · cases hy
        exact hx k l c p fs cl rfl
      · cases hy
    · exact h.plain i k l c p fs cl hi hy
end
open PySem
section
variable {G : Nat → Prop} {a b : Shared}
theorem Seal.get (h : Seal G a b) {i : Nat} {x : GenState} (e : a.gens[i]? = some x) : ∃ y, b.gens[i]? = some y ∧ y.seen = x.seen ∧ (¬ G i → y = x) ∧ (G i → x = sealG y ∧ isSus y = true) := by
  have hl : i < b.gens.size := by rw [← h.size]; exact (Array.getElem?_eq_some_iff.mp e).1
  have eb := Array.getElem?_eq_getElem hl
  by_cases hg : G i
  · obtain ⟨h1, h2⟩ := h.on i _ hg eb
    rw [e] at h1
    cases h1
    exact ⟨_, eb, (seal_seen _).symm, fun z => absurd hg z, fun _ => ⟨rfl, h2⟩⟩
  · have := h.off i hg
    rw [e, eb] at this
    cases this
    exact ⟨_, eb, rfl, fun _ => rfl, fun z => absurd z hg⟩
theorem Seal.push (h : Seal G a b) (c : Code) : Seal G { a with gens := a.gens.push (.fresh c) } { b with gens := b.gens.push (.fresh c) } := by
  refine ⟨by conv => lhs; rw [h.rest], by simp [h.size], fun i hi => by simp; have := h.lt i hi; omega, fun i x hi hx => ?_, fun i hi => ?_, fun i k l cc p fs cl hi hy => ?_⟩
  · have := h.lt i hi
    have hb : i < b.gens.size := by rw [← h.size]; exact this
    simp only [Array.getElem?_push, h.size] at hx ⊢
    rw [if_neg (by omega)] at hx ⊢
    exact h.on i x hi hx
  · simp only [Array.getElem?_push, h.size, h.off i hi]
  · simp only [Array.getElem?_push] at hy
    split at hy
    · cases hy
    · exact h.plain i k l cc p fs cl hi hy
end
open PySem
section
variable {G : Nat → Prop} {a b : Shared}
theorem Seal.hp (h : Seal G a b) (f : Heap → Heap) : Seal G { a with heap := f a.heap } { b with heap := f b.heap } := by
  have e := h.heap
  rw [e]
  exact ⟨by conv => lhs; rw [h.rest], h.size, h.lt, h.on, h.off, h.plain⟩
theorem Seal.tk (h : Seal G a b) : Seal G { a with toks := a.toks + 1 } { b with toks := b.toks + 1 } := by
  have e := h.toks
  rw [e]
  exact ⟨by conv => lhs; rw [h.rest], h.size, h.lt, h.on, h.off, h.plain⟩
theorem Seal.dr (h : Seal G a b) (src : Source) : Seal G { a with drawn := a.drawn.bump src } { b with drawn := b.drawn.bump src } := by
  have e := h.drawn
  rw [e]
  exact ⟨by conv => lhs; rw [h.rest], h.size, h.lt, h.on, h.off, h.plain⟩
theorem Seal.ost (h : Seal G a b) (q : OsRequest) : Seal G { a with os := (Os.step a.os q).1 } { b with os := (Os.step b.os q).1 } := by
  have e := h.os
  rw [e]
  exact ⟨by conv => lhs; rw [h.rest], h.size, h.lt, h.on, h.off, h.plain⟩
end
theorem split_ret {k : Result → Sem PySem.Fin} {h : Option Value} {g : Bool} {l : List Value} {c : Code} {p : Pos} {kp : List Value} {fs : List Frame} (e : splitAtGen (.ret k h g l c p kp :: fs) = none) : splitAtGen fs = none := by
  simp only [splitAtGen, Option.map_eq_none_iff] at e
  exact e
theorem split_app : ∀ {fs gs : List Frame}, splitAtGen fs = none → splitAtGen gs = none → splitAtGen (fs ++ gs) = none
  | [], _, _, h => h
  | .ret .. :: r, gs, h1, h2 => by
    have := split_app (split_ret h1) h2
    simp only [List.cons_append, splitAtGen, this, Option.map_none]
  | .gen .. :: r, _, h1, _ => by simp [splitAtGen] at h1
theorem plain_end : ∀ {e : End}, endPlain e → ∀ k l c p fs cl, e.genState = .suspended k l c p fs cl → splitAtGen fs = none
  | .ret _, _ => fun _ _ _ _ _ _ z => by cases z
  | .susp _ _ _ _ _ _ _, h => fun _ _ _ _ _ _ z => by cases z; exact h
theorem setGen_ne {s : Shared} {g i : Nat} {x : GenState} (h : g ≠ i) : (s.setGen g x).gens[i]? = s.gens[i]? := by
  simp only [Shared.setGen]
  exact Array.getElem?_setIfInBounds_ne h
theorem off_ne {G : Nat → Prop} {g i : Nat} (h : ¬ G g) (hi : G i) : g ≠ i := fun e => h (e ▸ hi)
/-- what runs with the sealed ones runs with the real ones, which stay -/
theorem runs_seal {M : Model} {G : Nat → Prop} {Γ : Ctx} {p : Pos} {t : Sem PySem.Fin} {fs : List Frame} {a a' : Shared} {e : End} (h : Runs M Γ p t fs a e a') :
    ∀ b, Seal G a b → splitAtGen fs = none → ∃ b', Runs M Γ p t fs b e b' ∧ Seal G a' b' ∧ endPlain e ∧ ∀ i, G i → b'.gens[i]? = b.gens[i]? := by
  induction h with
  | done => exact fun b s _ => ⟨b, .done, s, True.intro, fun _ _ => rfl⟩
  | raise => exact fun b s _ => ⟨b, .raise, s, True.intro, fun _ _ => rfl⟩
  | again q _ ih => intro b s _; obtain ⟨b', r, x⟩ := ih b s rfl; exact ⟨b', .again q r, x⟩
  | rule _ ih => intro b s _; obtain ⟨b', r, x⟩ := ih b s rfl; exact ⟨b', .rule r, x⟩
  | «at» _ ih => intro b s _; obtain ⟨b', r, x⟩ := ih b s rfl; exact ⟨b', .at r, x⟩
  | load e _ ih => intro b s _; obtain ⟨b', r, x⟩ := ih b s rfl; exact ⟨b', .load (by rw [s.heap]; exact e) r, x⟩
  | update e _ ih =>
    intro b s _
    obtain ⟨b', r, x⟩ := ih _ (s.hp (·.update _ _)) rfl
    exact ⟨b', .update (by rw [s.heap]; exact e) r, x⟩
  | loadIfAlive _ ih => intro b s _; obtain ⟨b', r, x⟩ := ih b s rfl; exact ⟨b', .loadIfAlive (by rw [s.heap]; exact r), x⟩
  | point _ ih => intro b s _; obtain ⟨b', r, x⟩ := ih b s rfl; exact ⟨b', .point r, x⟩
  | alloc _ ih => intro b s _; obtain ⟨b', r, x⟩ := ih _ (s.hp (·.push _)) rfl; exact ⟨b', .alloc (by rw [s.heap] at r ⊢; exact r), x⟩
  | fresh _ ih => intro b s _; obtain ⟨b', r, x⟩ := ih _ s.tk rfl; exact ⟨b', .fresh (by rw [s.toks] at r ⊢; exact r), x⟩
  | ask _ ih => intro b s _; obtain ⟨b', r, x⟩ := ih b s rfl; exact ⟨b', .ask r, x⟩
  | choose hn _ ih => intro b s _; obtain ⟨b', r, x⟩ := ih _ (s.dr _) rfl; exact ⟨b', .choose hn (by rw [s.drawn] at r ⊢; exact r), x⟩
  | os _ ih => intro b s _; obtain ⟨b', r, x⟩ := ih _ (s.ost _) rfl; exact ⟨b', .os (by rw [s.os] at r ⊢; exact r), x⟩
  | handled _ ih => intro b s _; obtain ⟨b', r, x⟩ := ih b s rfl; exact ⟨b', .handled r, x⟩
  | stack _ ih => intro b s _; obtain ⟨b', r, x⟩ := ih b s rfl; exact ⟨b', .stack r, x⟩
  | thread _ ih => intro b s _; obtain ⟨b', r, x⟩ := ih b s rfl; exact ⟨b', .thread r, x⟩
  | genState e _ ih =>
    intro b s _
    obtain ⟨y, hy, hs, _⟩ := s.get e
    obtain ⟨b', r, x⟩ := ih b s rfl
    exact ⟨b', .genState hy (by rw [hs]; exact r), x⟩
  | newGen _ ih =>
    intro b s _
    obtain ⟨b', r, s', x, k⟩ := ih _ (s.push _) rfl
    refine ⟨b', .newGen (by rw [← s.size]; exact r), s', x, fun i hi => (k i hi).trans ?_⟩
    have := s.lt i hi
    simp only [Array.getElem?_push]
    rw [if_neg (by rw [← s.size]; omega)]
  | call _ _ ih1 ih2 =>
    intro b s _
    obtain ⟨b1, r1, s1, _, k1⟩ := ih1 b s rfl
    obtain ⟨b2, r2, s2, x2, k2⟩ := ih2 b1 s1 rfl
    exact ⟨b2, .call r1 r2, s2, x2, fun i hi => (k2 i hi).trans (k1 i hi)⟩
  | callSusp _ ih =>
    intro b s _
    obtain ⟨b1, r1, s1, x1, k1⟩ := ih b s rfl
    exact ⟨b1, .callSusp r1, s1, split_app x1 rfl, k1⟩
  | yield => exact fun b s _ => ⟨b, .yield, s, rfl, fun _ _ => rfl⟩
  | segRet _ _ ih1 ih2 =>
    intro b s hf
    obtain ⟨b1, r1, s1, _, k1⟩ := ih1 b s rfl
    obtain ⟨b2, r2, s2, x2, k2⟩ := ih2 b1 s1 (split_ret hf)
    exact ⟨b2, .segRet r1 r2, s2, x2, fun i hi => (k2 i hi).trans (k1 i hi)⟩
  | segGen _ _ _ _ => intro b s hf; simp [splitAtGen] at hf
  | segSuspOut hs _ ih =>
    intro b s hf
    obtain ⟨b1, r1, s1, x1, k1⟩ := ih b s rfl
    exact ⟨b1, .segSuspOut hs r1, s1, split_app x1 hf, k1⟩
  | segSuspGen hs _ _ _ _ _ => intro b s hf; rw [hs] at hf; cases hf
  | resumeFresh hg _ hq _ ih1 ih2 =>
    intro b s _
    obtain ⟨y, hy, hs, h1, h2⟩ := s.get hg
    have ng : ¬ G _ := fun z => by
      obtain ⟨e1, e2⟩ := h2 z
      cases y <;> simp [sealG, isSus] at e1 e2
    cases h1 ng
    obtain ⟨b1, r1, s1, x1, k1⟩ := ih1 _ (s.setOff ng (x := .running) (fun _ _ _ _ _ _ z => by cases z)) rfl
    obtain ⟨b2, r2, s2, x2, k2⟩ := ih2 _ (s1.setOff ng (plain_end x1)) rfl
    refine ⟨b2, .resumeFresh hy r1 hq r2, s2, x2, fun i hi => ?_⟩
    exact (k2 i hi).trans ((setGen_ne (off_ne ng hi)).trans ((k1 i hi).trans (setGen_ne (off_ne ng hi))))
  | resumeSuspended hg hr0 hq _ ih1 ih2 =>
    intro b s _
    obtain ⟨y, hy, hs, h1, h2⟩ := s.get hg
    have ng : ¬ G _ := fun z => by
      obtain ⟨e1, e2⟩ := h2 z
      cases y with
      | suspended k l c p fs cl =>
        simp only [sealG, GenState.suspended.injEq] at e1
        obtain ⟨rfl, _⟩ := e1
        exact runs_uns hr0 rfl
      | running => cases e1
      | _ => simp [isSus] at e2
    cases h1 ng
    obtain ⟨b1, r1, s1, x1, k1⟩ := ih1 _ (s.setOff ng (x := .running) (fun _ _ _ _ _ _ z => by cases z)) (s.plain _ _ _ _ _ _ _ ng hy)
    obtain ⟨b2, r2, s2, x2, k2⟩ := ih2 _ (s1.setOff ng (plain_end x1)) rfl
    refine ⟨b2, .resumeSuspended hy r1 hq r2, s2, x2, fun i hi => ?_⟩
    exact (k2 i hi).trans ((setGen_ne (off_ne ng hi)).trans ((k1 i hi).trans (setGen_ne (off_ne ng hi))))
  | resumeJustStarted hg hv _ ih =>
    intro b s _
    obtain ⟨y, hy, _, h1, h2⟩ := s.get hg
    have ng : ¬ G _ := fun z => by
      obtain ⟨e1, e2⟩ := h2 z
      cases y <;> simp [sealG, isSus] at e1 e2
    cases h1 ng
    obtain ⟨b', r, x⟩ := ih b s rfl
    exact ⟨b', .resumeJustStarted hy hv r, x⟩
  | resumeThrowFresh hg _ ih =>
    intro b s _
    obtain ⟨y, hy, _, h1, h2⟩ := s.get hg
    have ng : ¬ G _ := fun z => by
      obtain ⟨e1, e2⟩ := h2 z
      cases y <;> simp [sealG, isSus] at e1 e2
    cases h1 ng
    obtain ⟨b', r, s', x, k⟩ := ih _ (s.setOff ng (x := .finished) (fun _ _ _ _ _ _ z => by cases z)) rfl
    exact ⟨b', .resumeThrowFresh hy r, s', x, fun i hi => (k i hi).trans (setGen_ne (off_ne ng hi))⟩
  | resumeRunning hg _ ih =>
    intro b s _
    obtain ⟨y, hy, _, h1, h2⟩ := s.get hg
    have hy2 : y = GenState.running := by
      refine Classical.byContradiction fun ne => ?_
      have z := Classical.not_not.mp (fun z => ne (h1 z))
      obtain ⟨e1, e2⟩ := h2 z
      cases y <;> simp [sealG, isSus] at e1 e2 ne
    subst hy2
    obtain ⟨b', r, x⟩ := ih b s rfl
    exact ⟨b', .resumeRunning hy r, x⟩
  | resumeFinished hg _ ih =>
    intro b s _
    obtain ⟨y, hy, _, h1, h2⟩ := s.get hg
    have ng : ¬ G _ := fun z => by
      obtain ⟨e1, e2⟩ := h2 z
      cases y <;> simp [sealG, isSus] at e1 e2
    cases h1 ng
    obtain ⟨b', r, x⟩ := ih b s rfl
    exact ⟨b', .resumeFinished hy r, x⟩
open PySem
theorem wakes_seal {M : Model} {G : Nat → Prop} {Γ : Ctx} {p : Pos} {g : Nat} {r : Resume} {a a' b : Shared} {res : GenResult} (h : Wakes M Γ p g r a res a') (s : Seal G a b) :
    ∃ b', Wakes M Γ p g r b res b' ∧ Seal G a' b' ∧ ∀ i, G i → b'.gens[i]? = b.gens[i]? := by
  unfold Wakes at h
  cases hg : a.gens[g]? with
  | none => rw [hg] at h; exact h.elim
  | some x =>
    rw [hg] at h
    obtain ⟨y, hy, hs, h1, h2⟩ := s.get hg
    have kk : ∀ {b1 : Shared} {z z' : GenState}, ¬ G g → (∀ i, G i → b1.gens[i]? = (b.setGen g z).gens[i]?) → ∀ i, G i → (b1.setGen g z').gens[i]? = b.gens[i]? := fun ng k1 i hi =>
      (setGen_ne (off_ne ng hi)).trans ((k1 i hi).trans (setGen_ne (off_ne ng hi)))
    cases x with
    | fresh c =>
      have ng : ¬ G g := fun z => by
        obtain ⟨e1, e2⟩ := h2 z
        cases y <;> simp [sealG, isSus] at e1 e2
      cases h1 ng
      cases r with
      | send v =>
        cases v with
        | none =>
          obtain ⟨e₁, s₁, hr, hq, rfl, rfl⟩ := h
          obtain ⟨b1, r1, s1, x1, k1⟩ := runs_seal hr _ (s.setOff ng (x := .running) (fun _ _ _ _ _ _ z => by cases z)) rfl
          exact ⟨b1.setGen g e₁.genState, by unfold Wakes; rw [hy]; exact ⟨e₁, b1, r1, hq, rfl, rfl⟩, s1.setOff ng (plain_end x1), kk ng k1⟩
        | _ => obtain ⟨rfl, rfl⟩ := h; exact ⟨b, by unfold Wakes; rw [hy]; exact ⟨rfl, rfl⟩, s, fun _ _ => rfl⟩
      | throw v =>
        obtain ⟨rfl, rfl⟩ := h
        exact ⟨b.setGen g .finished, by unfold Wakes; rw [hy]; exact ⟨rfl, rfl⟩, s.setOff ng (fun _ _ _ _ _ _ z => by cases z), fun i hi => setGen_ne (off_ne ng hi)⟩
    | suspended k l c p0 fs cl =>
      obtain ⟨e₁, s₁, hr, hq, rfl, rfl⟩ := h
      have ng : ¬ G g := fun z => by
        obtain ⟨e1, e2⟩ := h2 z
        cases y with
        | suspended k l c p fs cl =>
          simp only [sealG, GenState.suspended.injEq] at e1
          obtain ⟨rfl, _⟩ := e1
          exact runs_uns hr rfl
        | running => cases e1
        | _ => simp [isSus] at e2
      cases h1 ng
      obtain ⟨b1, r1, s1, x1, k1⟩ := runs_seal hr _ (s.setOff ng (x := .running) (fun _ _ _ _ _ _ z => by cases z)) (s.plain _ _ _ _ _ _ _ ng hy)
      exact ⟨b1.setGen g e₁.genState, by unfold Wakes; rw [hy]; exact ⟨e₁, b1, r1, hq, rfl, rfl⟩, s1.setOff ng (plain_end x1), kk ng k1⟩
    | running =>
      have hy2 : b.gens[g]? = some GenState.running := by
        by_cases z : G g
        · obtain ⟨e1, e2⟩ := h2 z
          cases y <;> simp [sealG, isSus] at e1 e2
          exact hy
        · cases h1 z; exact hy
      obtain ⟨rfl, rfl⟩ := h
      exact ⟨b, by unfold Wakes; rw [hy2]; exact ⟨rfl, rfl⟩, s, fun _ _ => rfl⟩
    | finished =>
      have ng : ¬ G g := fun z => by
        obtain ⟨e1, e2⟩ := h2 z
        cases y <;> simp [sealG, isSus] at e1 e2
      cases h1 ng
      obtain ⟨rfl, rfl⟩ := h
      exact ⟨b, by unfold Wakes; rw [hy]; exact ⟨rfl, rfl⟩, s, fun _ _ => rfl⟩
/-- the real state behind a sealed one, the sealed generators as they stood -/
noncomputable def Back (G : Nat → Prop) (b : Shared) (Q : Shared → Prop) (b' : Shared) : Prop := ∃ a', Seal G a' b' ∧ (∀ i, G i → b'.gens[i]? = b.gens[i]?) ∧ Q a'
theorem Back.from {G : Nat → Prop} {b b1 b' : Shared} {Q : Shared → Prop} (k : ∀ i, G i → b1.gens[i]? = b.gens[i]?) (h : Back G b1 Q b') : Back G b Q b' := by
  obtain ⟨a', s, k', q⟩ := h
  exact ⟨a', s, fun i hi => (k' i hi).trans (k i hi), q⟩
theorem wp_seal {α : Type} (M : Model) (Γ : Ctx) (G : Nat → Prop) (t : Sem α) : ∀ (Q : α → Pos → Shared → Prop) (E : Value → Pos → Shared → Prop) (p : Pos) (a b : Shared), Seal G a b → Sem.wp M Γ t Q E p a →
    Sem.wp M Γ t (fun x p' b' => Back G b (Q x p') b') (fun x p' b' => Back G b (E x p') b') p b := by
  have go : ∀ (t : Sem α) (Q : α → Pos → Shared → Prop) (E : Value → Pos → Shared → Prop) (p : Pos) (b b1 : Shared), (∀ i, G i → b1.gens[i]? = b.gens[i]?) →
      Sem.wp M Γ t (fun x p' b' => Back G b1 (Q x p') b') (fun x p' b' => Back G b1 (E x p') b') p b1 → Sem.wp M Γ t (fun x p' b' => Back G b (Q x p') b') (fun x p' b' => Back G b (E x p') b') p b1 :=
    fun t Q E p b b1 k h => Sem.wp_mono M Γ t (fun _ _ _ x => x.from k) (fun _ _ _ x => x.from k) p b1 h
  induction t with
  | pure x => intro Q E p a b s h; exact ⟨a, s, fun _ _ => rfl, h⟩
  | raise e => intro Q E p a b s h; exact ⟨a, s, fun _ _ => rfl, h⟩
  | unsupported _ => intro Q E p a b s h; exact h
  | finish _ => intro Q E p a b s h; exact h
  | rule _ k ih => intro Q E p a b s h; exact ih () Q E p a b s h
  | «at» p' k ih => intro Q E p a b s h; exact ih () Q E p' a b s h
  | load l _ k ih => intro Q E p a b s h; obtain ⟨o, ho, h⟩ := h; exact ⟨o, by rw [s.heap]; exact ho, ih o Q E p a b s h⟩
  | update l _ f k ih => intro Q E p a b s h; exact ⟨by rw [s.heap]; exact h.1, go _ Q E p _ _ (fun _ _ => rfl) (ih () Q E p _ _ (s.hp (·.update _ _)) h.2)⟩
  | loadIfAlive l k ih => intro Q E p a b s h; have := ih _ Q E p a b s h; rw [← s.heap] at this; exact this
  | point _ k ih => intro Q E p a b s h; exact ih () Q E p a b s h
  | register _ _ => intro Q E p a b s h; exact h
  | alloc o k ih => intro Q E p a b s h; have := ih _ Q E p _ _ (s.hp (·.push o)) h; rw [← s.heap] at this; exact go _ Q E p b _ (fun _ _ => rfl) this
  | fresh k ih => intro Q E p a b s h; have := ih _ Q E p _ _ s.tk h; rw [← s.toks] at this; exact go _ Q E p b _ (fun _ _ => rfl) this
  | ask k ih => intro Q E p a b s h; exact ih _ Q E p a b s h
  | choose src m k ih => intro Q E p a b s h; have := ih _ Q E p _ _ (s.dr src) h.2; rw [← s.drawn] at this; exact ⟨h.1, go _ Q E p b _ (fun _ _ => rfl) this⟩
  | os q _ k ih => intro Q E p a b s h; have := ih _ Q E p _ _ (s.ost q) h; rw [← s.os] at this; exact go _ Q E p b _ (fun _ _ => rfl) this
  | call c hd _ _ k ih =>
    intro Q E p a b s h
    obtain ⟨r, s', hr, h⟩ := h
    obtain ⟨b1, r1, s1, _, k1⟩ := runs_seal hr b s rfl
    exact ⟨r, b1, r1, go _ Q E p b b1 k1 (ih r Q E p s' b1 s1 h)⟩
  | handled own k ih => intro Q E p a b s h; exact ih _ Q E p a b s h
  | genState g k ih =>
    intro Q E p a b s h
    obtain ⟨st, hs, h⟩ := h
    obtain ⟨y, hy, hsn, _⟩ := s.get hs
    refine ⟨y, hy, ?_⟩
    rw [hsn]
    exact ih _ Q E p a b s h
  | newGen c k ih =>
    intro Q E p a b s h
    have := go _ Q E p b _ (fun i hi => ?_) (ih _ Q E p _ _ (s.push c) h)
    · rw [s.size] at this; exact this
    · have := s.lt i hi
      simp only [Array.getElem?_push]
      rw [if_neg (by rw [← s.size]; omega)]
  | resume g r _ k ih =>
    intro Q E p a b s h
    obtain ⟨res, s', hw, h⟩ := h
    obtain ⟨b1, w1, s1, k1⟩ := wakes_seal hw s
    exact ⟨res, b1, w1, go _ Q E p b b1 k1 (ih res Q E p s' b1 s1 h)⟩
  | yield _ _ _ _ => intro Q E p a b s h; exact h
  | stack k ih => intro Q E p a b s h; exact ih _ Q E p a b s h
  | fork _ _ => intro Q E p a b s h; exact h
  | thread k ih => intro Q E p a b s h; exact ih _ Q E p a b s h
  | await _ _ _ _ _ => intro Q E p a b s h; exact h
theorem wpAny_seal {α : Type} {M : Model} {A : Around} {G : Nat → Prop} {a b : Shared} {t : Sem α} {Q : α → Shared → Prop} {E : Value → Shared → Prop} (s : Seal G a b) (h : wpAny M A t Q E a) :
    wpAny M A t (fun x b' => Back G b (Q x) b') (fun x b' => Back G b (E x) b') b :=
  fun Γ p hΓ => wp_seal M Γ G t _ _ p a b s (h Γ p hΓ)
end T3
namespace T3
open PySem PySem.Spec PyProof.Rows L2
noncomputable def SegQ (M : Model) (A : Around) (Φ : End → Shared → Prop) (c : Code) (t : Sem PySem.Fin) (fs : List Frame) (s : Shared) : Prop :=
  ∀ Γ p, Γ.code = c → Γ.Woken A → ∃ e s', Runs M Γ p t fs s e s' ∧ Φ e s'
section
variable {M : Model} {A : Around} {Φ : End → Shared → Prop} {c : Code} {fs : List Frame} {s : Shared}
theorem sq_wrap {α : Type} {m : Sem α} {K : α → Sem PySem.Fin} {H : Value → Sem PySem.Fin} {gd : Bool → Bool} {lv : List Value → List Value}
    (h : wpAny M (A.over c fs) m (fun a s' => SegQ M A Φ c (K a) fs s') (fun x s' => SegQ M A Φ c (H x) fs s') s) :
    SegQ M A Φ c (m.wrap K H gd lv) fs s := by
  rintro Γ p rfl hΓ
  exact runs_wrap_of_wp K H gd lv m (h (Γ.over fs) p (hΓ.over fs)) (fun a p' s' h' => h' Γ p' rfl hΓ) (fun x p' s' h' => h' Γ p' rfl hΓ)
theorem sq_bind_wrap {α β : Type} {m : Sem α} {K : α → Sem β} {K' : β → Sem PySem.Fin} {H' : Value → Sem PySem.Fin} {gd : Bool → Bool} {lv : List Value → List Value}
    (h : wpAny M (A.over c fs) m (fun a s' => SegQ M A Φ c ((K a).wrap K' H' gd lv) fs s') (fun x s' => SegQ M A Φ c (H' x) fs s') s) : SegQ M A Φ c ((m >>= K).wrap K' H' gd lv) fs s := by
  rw [Sem.bind_eq_wrap', Sem.wrap_wrap]; exact sq_wrap h
theorem sq_at {p' : Pos} {k : Unit → Sem PySem.Fin} (h : SegQ M A Φ c (k ()) fs s) : SegQ M A Φ c (.at p' k) fs s :=
  sq_wrap (m := standAt p') (K := k) (H := .raise) (gd := id) (lv := id) (wpAny_standAt h)
theorem sq_point {l : List Value} {k : Unit → Sem PySem.Fin} (h : SegQ M A Φ c (k ()) fs s) : SegQ M A Φ c (.point l k) fs s :=
  sq_wrap (m := point) (K := k) (H := .raise) (gd := id) (lv := fun _ => l) (wpAny_point h)
theorem sq_call {c' : Code} {h : Option Value} {g : Bool} {l : List Value} {k : Result → Sem PySem.Fin} (hc : ∀ p, SegQ M A Φ c' (M.den c') (.ret k h g l c p [] :: fs) s) :
    SegQ M A Φ c (.call c' h g l k) fs s := by
  rintro Γ p rfl hΓ
  obtain ⟨e, s', hr, he⟩ := hc p (Γ.goto c') p rfl (hΓ.goto c')
  exact ⟨e, s', runs_call_seg hr, he⟩
theorem sq_leaf {k : Result → Sem PySem.Fin} {h : Option Value} {g : Bool} {l kp : List Value} {c₁ : Code} {p₁ : Pos} (r : Result) (hk : SegQ M A Φ c₁ (k r) fs s) : SegQ M A Φ c (leafOf r) (.ret k h g l c₁ p₁ kp :: fs) s := by
  rintro Γ p rfl hΓ
  obtain ⟨e, s', hr, he⟩ := hk (Γ.goto c₁) p₁ rfl (hΓ.goto c₁)
  exact ⟨e, s', Runs.pop r hr, he⟩
theorem sq_again {c' : Code} (hq : c'.quiet = true) (hc : SegQ M A Φ c' (M.den c') fs s) : SegQ M A Φ c (.pure (.again c')) fs s := by
  rintro Γ p rfl hΓ
  obtain ⟨e, s', hr, he⟩ := hc (Γ.goto c') p rfl (hΓ.goto c')
  exact ⟨e, s', Runs.head (c₁ := c') (fun _ _ x => .again hq x) hr, he⟩
theorem sq_end (r : Result) (h : Φ (.ret r) s) : SegQ M A Φ c (leafOf r) [] s := by
  rintro Γ p rfl _
  exact ⟨.ret r, s, Runs.leaf r, h⟩
theorem sq_yield {v : Value} {g : Bool} {l : List Value} {k : Resume → Sem PySem.Fin} (hfs : splitAtGen fs = none) (h : ∀ p, Φ (.susp v g l k c p fs) s) : SegQ M A Φ c (.yield v g l k) fs s := by
  rintro Γ p rfl _
  exact ⟨_, s, Runs.yield' fs hfs, h p⟩
theorem SegQ.imp {Ψ : End → Shared → Prop} {t : Sem PySem.Fin} (h : SegQ M A Φ c t fs s) (k : ∀ e s', Φ e s' → Ψ e s') : SegQ M A Ψ c t fs s := fun Γ p h1 h2 =>
  let ⟨e, s', r, q⟩ := h Γ p h1 h2
  ⟨e, s', r, k e s' q⟩
end
section
variable {M : Model} {A : Around} {Φ : End → Shared → Prop} {c : Code} {fs : List Frame} {s : Shared} {env : Env} {K : Flow → Sem PySem.Fin} {H : Value → Sem PySem.Fin} {gd : Bool → Bool} {lv : List Value → List Value}
theorem sq_execs_nil (h : SegQ M A Φ c (K .next) fs s) : SegQ M A Φ c ((execs [] env).wrap K H gd lv) fs s := h
theorem sq_execs_cons {st : Stmt} {rest : List Stmt}
    (h : SegQ M A Φ c ((exec st env).wrap (fun f => match f with | .next => (execs rest env).wrap K H gd lv | f => K f) H gd lv) fs s) :
    SegQ M A Φ c ((execs (st :: rest) env).wrap K H gd lv) fs s := by rw [execs_cons_wrap]; exact h
theorem sq_If {test : Expr} {a b : List Stmt} {pos : Pos}
    (h : wpAny M (A.over c fs) (isTrue test env (eval test env)) (fun x s' => SegQ M A Φ c ((execs (if x = true then a else b) env).wrap K H gd lv) fs s') (fun x s' => SegQ M A Φ c (H x) fs s') s) :
    SegQ M A Φ c ((exec (.If test a b pos) env).wrap K H gd lv) fs s := by
  have e : exec (.If test a b pos) env = (do standAt pos; if ← isTrue test env (eval test env) then execs a env else execs b env) := rfl
  rw [e]
  refine sq_bind_wrap (wpAny_standAt ?_)
  refine sq_bind_wrap (wpAny_mono h (fun x s' h' => ?_) fun _ _ x => x)
  cases x with
  | true => exact h'
  | false => exact h'
theorem sq_For {target iter : Expr} {body orelse : List Stmt} {pos : Pos} (hs : ∀ x, foldedSetIterable iter env x = pure x)
    (h : wpAny M (A.over c fs) (eval iter env) (fun x s₁ => wpAny M (A.over c fs) (pyIter x) (fun it s₂ => ∀ p, SegQ M A Φ (.forLoop target it body orelse env) (M.den (.forLoop target it body orelse env))
      (.ret (fun r => ((match r with | .ok f => (.pure f : Sem Flow) | .error e => .raise e).onRaise (cameBack env)).wrap K H gd lv) none (gd false) (lv []) c p [] :: fs) s₂)
      (fun x s' => SegQ M A Φ c (H x) fs s') s₁) (fun x s' => SegQ M A Φ c (H x) fs s') s) :
    SegQ M A Φ c ((exec (.For target iter body orelse pos) env).wrap K H gd lv) fs s := by
  rw [exec_For]
  refine sq_bind_wrap (wpAny_standAt ?_)
  refine sq_bind_wrap (wpAny_mono h (fun x s₁ h₁ => ?_) fun _ _ x => x)
  refine sq_bind_wrap (wpAny_of_eq (hs x) ?_)
  refine sq_bind_wrap (wpAny_standAt ?_)
  refine sq_bind_wrap (wpAny_holding (wpAny_mono h₁ (fun it s₂ h₂ => ?_) fun _ _ x => x))
  exact sq_call h₂
theorem sq_Yield {e : Expr} {ypos pos : Pos} (hfs : splitAtGen fs = none)
    (h : wpAny M (A.over c fs) (eval e env) (fun v s' => ∀ g l k p, g = gd false → (∀ s'', SegQ M A Φ c (K .next) fs s'' → SegQ M A Φ c (k (.send .none)) fs s'') → (∀ {Ψ : End → Shared → Prop} s'', SegQ M A Ψ c (K .next) fs s'' → SegQ M A Ψ c (k (.send .none)) fs s'') → Φ (.susp v g l k c p fs) s')
      (fun x s' => SegQ M A Φ c (H x) fs s') s) (hco : env.scope.isCoroutine = false := by rfl) (hi : interactive env = false := by rfl) :
    SegQ M A Φ c ((exec (.Expr (.Yield (some e) ypos) pos) env).wrap K H gd lv) fs s := by
  rw [exec_Expr env _ pos hi rfl]
  show SegQ M A Φ c (.at pos fun _ => ((eval e env >>= fun v => (standAt ypos >>= fun _ => yieldOut env v)) >>= fun x => dropValue (.Yield (some e) ypos) pos x).wrap K H gd lv) fs s
  have hy : ∀ v, yieldOut env v = yieldValue v := fun v => by simp only [yieldOut, hco, Bool.false_eq_true, if_false]
  simp only [hy]
  refine sq_at ?_
  rw [Sem.bind_eq_wrap', Sem.bind_eq_wrap', Sem.wrap_wrap, Sem.wrap_wrap]
  refine sq_wrap (wpAny_mono h (fun v s' h' => ?_) fun _ _ x => x)
  refine sq_at (sq_yield hfs fun p => ?_)
  exact h' _ _ _ p rfl (fun s'' hx => hx) (fun s'' hx => hx)
end
section
variable {prog : Program} {w : World} {A : Around} {Φ : End → Shared → Prop} {fs : List Frame} {s : Shared} {env : Env}
/-- what leaves a loop's code by an exception -/
noncomputable def outOf (env : Env) (e : Value) : Sem PySem.Fin := (do noteFrame e env; theTreesLotGoes e : Sem Unit).wrap (fun _ => .raise e) .raise id id
theorem sq_forLoop {target : Expr} {it : Value} {body orelse : List Stmt}
    (h : wpAny (model prog w) (A.over (.forLoop target it body orelse env) fs) (pyNext it) (fun r s₁ => match r with
      | none => SegQ (model prog w) A Φ (.block orelse env) ((model prog w).den (.block orelse env)) fs s₁
      | some v => wpAny (model prog w) (A.over (.forLoop target it body orelse env) fs) (letOwnedTupleGo target it v) (fun _ s₂ =>
          wpAny (model prog w) (A.over (.forLoop target it body orelse env) fs) (assign target env v) (fun _ s₃ =>
            SegQ (model prog w) A Φ (.forLoop target it body orelse env) ((execs body env).wrap (fun f => match f with
              | .next | .cont => .pure (.again (.forLoop target it body orelse env))
              | .brk => .pure (.done .next)
              | .ret v => .pure (.done (.ret v))) (outOf env) id id) fs s₃) (fun _ _ => False) s₂) (fun _ _ => False) s₁)
      (fun _ _ => False) s) :
    SegQ (model prog w) A Φ (.forLoop target it body orelse env) ((model prog w).den (.forLoop target it body orelse env)) fs s := by
  show SegQ _ A Φ _ ((forTurn target it body orelse env).onRaise (fun x => do noteFrame x env; theTreesLotGoes x)) fs s
  unfold forTurn
  rw [Sem.onRaise_eq_wrap]
  refine sq_bind_wrap (wpAny_standAt ?_)
  refine sq_bind_wrap (wpAny_onRaise (wpAny_mono h (fun r s₁ h₁ => ?_) fun _ _ x => x.elim))
  cases r with
  | none => exact sq_again rfl h₁
  | some v =>
    refine sq_bind_wrap (wpAny_mono h₁ (fun _ s₂ h₂ => ?_) fun _ _ x => x.elim)
    refine sq_bind_wrap (wpAny_mono h₂ (fun _ s₃ h₃ => ?_) fun _ _ x => x.elim)
    rw [Sem.bind_eq_wrap', Sem.wrap_wrap]
    rw [Sem.wrap_congr (execs body env) _ _ (K' := fun f => match f with
            | .next | .cont => .pure (.again (.forLoop target it body orelse env))
            | .brk => .pure (.done .next)
            | .ret v => .pure (.done (.ret v))) (H' := outOf env)
        (fun f => by cases f <;> rfl)
        (fun e => by first | exact Sem.bind_eq_wrap _ _ | (show (do noteFrame e env; theTreesLotGoes e : Sem Unit).bind (fun _ => .raise e) = _; unfold outOf; rw [Sem.bind_eq_wrap]))]
    exact h₃
end
end T3
namespace T3
open PySem PySem.Spec PyProof.Rows L2
inductive D where
  | non | bl (b : Bool) | int (i : Int) | str (s : Str)
  | tup (xs : List D) | lst (xs : List D) | ro (xs : List D) | wt (xs : List D)
  | dic (ks : List Key) (vs : List D)
  | ins (c : Nat) (ns : List Str) (vs : List D)
inductive A where | val (d : D) | ref (i : Nat)
inductive O where
  | lst (xs : List D) | dic (ks : List Key) (vs : List D) | ins (c : Nat) (ns : List Str) (vs : List A) | tp (vs : List A)
noncomputable abbrev Store := List O
noncomputable abbrev Slots := List (Option A)
/-- an exception as data: its class's tag, its fields -/
structure X0 where
  c : Nat
  ns : List Str
  vs : List D
inductive Res where
  | ok (x : A) (S : Store) | exc (e : X0) (S : Store) | bad
inductive SRes where
  | nx (ρ : Slots) (S : Store) | rt (x : A) (S : Store) | bk (ρ : Slots) (S : Store) | ct (ρ : Slots) (S : Store) | exc (e : X0) (ρ : Slots) (S : Store) | bad
noncomputable abbrev CE := Slots → Store → Res
noncomputable abbrev CS := Slots → Store → SRes
inductive LRes where
  | ok (xs : List A) (S : Store) | exc (e : X0) (S : Store) | bad
noncomputable abbrev CA := Slots → Store → LRes
noncomputable abbrev Fn := List A → Store → Res
/-- where the classes stand, 1000 on: a held error; T: the tables of code objects, with the names of the lambdas that they hold -/
structure ClT where
  f : Nat → Addr
  T : List (Addr × Str)
instance : CoeFun ClT (fun _ => Nat → Addr) := ⟨ClT.f⟩
/-- no table -/
noncomputable def NT (o : HO) : Prop := ∀ ps, o ≠ .tbl ps
section rep
variable (K : PySem.W.Frag) (cl : ClT)
noncomputable def TupAt (N : Addr → Prop) (H : Hp) (a : Addr) (xs : List V) : Prop :=
  (∃ ob : Obj, H a = some (.frz ob (.tup xs)) ∧ ob.dict = none ∧ ¬ N a) ∨ ∃ (o : Obj) (its : Array Value) (n : Nat), K.lookup a = some o ∧ o.cls = .type "tuple" ∧ o.dict = none ∧ o.data = .seq its n ∧ its.size ≤ sizeLine ∧ Vals xs its.toList
noncomputable def RoAt (N : Addr → Prop) (H : Hp) (a : Addr) (xs : List V) : Prop :=
  (Rd H a (.lst xs) ∧ ¬ N a) ∨ ∃ (o : Obj) (its : Array Value) (n : Nat), K.lookup a = some o ∧ o.cls = .type "list" ∧ o.dict = none ∧ o.data = .seq its n ∧ its.size ≤ sizeLine ∧ Vals xs its.toList
/-- an instance: tracked; or (c from 1000 on) the error that a suite holds, told by its address cl c and its dict's, cl (c + 1); or (c from 2000 on) a def, at cl c; or (c = 999) a dict with text keys that nobody changes, told with its very object -/
noncomputable def InsAt (N : Addr → Prop) (H : Hp) (a : Addr) (c : Nat) (ns : List Str) (xs : List V) : Prop :=
  (c < 999 ∧ ∃ dx, H a = some (.ins (cl c) dx (ns.zip xs)) ∧ ¬ N a ∧ ns.length = xs.length) ∨ (a = cl c ∧ 1000 ≤ c ∧ H (cl (c + 1)) = some (.xd (ns.zip xs)) ∧ ¬ N (cl (c + 1)) ∧ ns.length = xs.length) ∨ (a = cl c ∧ 2000 ≤ c ∧ ns = [] ∧ xs = []) ∨ (c = 999 ∧ ∃ o, H a = some (.frz o (.dK ((ns.map Sum.inr).zip xs))) ∧ ¬ N a ∧ ns.length = xs.length)
mutual
inductive Rep (N : Addr → Prop) (H : Hp) : V → D → Prop
  | non : Rep N H .non .non
  | bl (b : Bool) : Rep N H (.bl b) (.bl b)
  | int (i : Int) : Rep N H (.int i) (.int i)
  | str (s : Str) : Rep N H (.str s) (.str s)
  | tup {a : Addr} {xs : List V} {ds : List D} : TupAt K N H a xs → RepL N H xs ds → Rep N H (.ref a) (.tup ds)
  | lst {a : Addr} {xs : List V} {ds : List D} : H a = some (.lst xs) → ¬ N a → RepL N H xs ds → Rep N H (.ref a) (.lst ds)
  | ro {a : Addr} {xs : List V} {ds : List D} : RoAt K N H a xs → RepL N H xs ds → Rep N H (.ref a) (.ro ds)
  | wt {a : Addr} {xs : List V} {ds : List D} : Rd H a (.tup xs) → ¬ N a → RepL N H xs ds → Rep N H (.ref a) (.wt ds)
  | dic {a : Addr} {ks : List Key} {xs : List V} {ds : List D} : H a = some (.dK (ks.zip xs)) → ¬ N a → ks.length = xs.length → RepL N H xs ds → Rep N H (.ref a) (.dic ks ds)
  | ins {a : Addr} {c : Nat} {ns : List Str} {xs : List V} {ds : List D} : InsAt cl N H a c ns xs → RepL N H xs ds → Rep N H (.ref a) (.ins c ns ds)
inductive RepL (N : Addr → Prop) (H : Hp) : List V → List D → Prop
  | nil : RepL N H [] []
  | cons {v : V} {vs : List V} {d : D} {ds : List D} : Rep N H v d → RepL N H vs ds → RepL N H (v :: vs) (d :: ds)
end
noncomputable def RepA (N : Addr → Prop) (H : Hp) (m : List Addr) (v : V) : A → Prop
  | .val d => Rep K cl N H v d
  | .ref i => ∃ a, m[i]? = some a ∧ v = .ref a
inductive RepAs (N : Addr → Prop) (H : Hp) (m : List Addr) : List V → List A → Prop
  | nil : RepAs N H m [] []
  | cons {v : V} {vs : List V} {x : A} {xs : List A} : RepA K cl N H m v x → RepAs N H m vs xs → RepAs N H m (v :: vs) (x :: xs)
noncomputable def RepO (N : Addr → Prop) (H : Hp) (m : List Addr) (a : Addr) : O → Prop
  | .lst ds => ∃ xs, H a = some (.lst xs) ∧ RepL K cl N H xs ds
  | .dic ks ds => ∃ xs, H a = some (.dK (ks.zip xs)) ∧ ks.length = xs.length ∧ RepL K cl N H xs ds
  | .ins c ns zs => ∃ dx xs, H a = some (.ins (cl c) dx (ns.zip xs)) ∧ ns.length = xs.length ∧ RepAs K cl N H m xs zs
  | .tp zs => ∃ ob xs, H a = some (.frz ob (.tup xs)) ∧ ob.dict = none ∧ RepAs K cl N H m xs zs
end rep
/-- what may change: foreign things and the store's own -/
noncomputable def NN (B : Addr → Prop) (m : List Addr) : Addr → Prop := fun a => B a ∨ a ∈ m
section
variable {K : PySem.W.Frag} {cl : ClT} {N N' : Addr → Prop} {H H' : Hp} {m m' : List Addr}
theorem TupAt.seq {a : Addr} {xs : List V} (h : TupAt K N H a xs) : SqT K H a xs := by
  rcases h with ⟨ob, h, _⟩ | ⟨o, its, n, h1, h2, h3, h4⟩
  · exact .inl (.inr ⟨ob, h⟩)
  · exact .inr ⟨o, its, n, h1, h2, h4⟩
theorem RoAt.seq {a : Addr} {xs : List V} (h : RoAt K N H a xs) : SqL K H a xs := by
  rcases h with h | h
  · exact .inl h.1
  · exact .inr h
/-- what stays: all that may not change; what may change behind was such or was free -/
structure Kp (N N' : Addr → Prop) (H H' : Hp) : Prop where
  keep : ∀ a o, H a = some o → ¬ N a → NT o → H' a = some o
  may : ∀ a, N' a → N a ∨ H a = none
theorem Kp.kept (k : Kp N N' H H') (a : Addr) (o : HO) (h : H a = some o) (n : ¬ N a) (nt : NT o := by intro _ z; cases z) : H' a = some o := k.keep a o h n nt
theorem Kp.rd (k : Kp N N' H H') {a : Addr} {u : HO} (h : Rd H a u) (n : ¬ N a) (nt : NT u := by intro _ z; cases z) : Rd H' a u ∧ ¬ N' a := by
  constructor
  · rcases h with h | ⟨o, h⟩
    · exact .inl (k.kept _ _ h n nt)
    · exact .inr ⟨o, k.kept _ _ h n⟩
  · intro z
    rcases k.may a z with z | z
    · exact n z
    · rcases h with h | ⟨o, h⟩
      · rw [z] at h; cases h
      · rw [z] at h; cases h
theorem Kp.no (k : Kp N N' H H') {a : Addr} {u : HO} (h : H a = some u) (n : ¬ N a) : ¬ N' a := fun z => by
  rcases k.may a z with z | z
  · exact n z
  · rw [z] at h; cases h
theorem TupAt.mono (k : Kp N N' H H') {a : Addr} {xs : List V} (h : TupAt K N H a xs) : TupAt K N' H' a xs := by
  rcases h with ⟨ob, h, hd, n⟩ | h
  · exact .inl ⟨ob, k.kept _ _ h n, hd, k.no h n⟩
  · exact .inr h
theorem RoAt.mono (k : Kp N N' H H') {a : Addr} {xs : List V} (h : RoAt K N H a xs) : RoAt K N' H' a xs := by
  rcases h with ⟨h, n⟩ | h
  · exact .inl (k.rd h n)
  · exact .inr h
mutual
theorem Rep.mono (k : Kp N N' H H') : ∀ {v : V} {d : D}, Rep K cl N H v d → Rep K cl N' H' v d
  | _, _, .non => .non
  | _, _, .bl b => .bl b
  | _, _, .int b => .int b
  | _, _, .str b => .str b
  | _, _, .tup h r => .tup (h.mono k) (RepL.mono k r)
  | _, _, .lst h n r => .lst (k.kept _ _ h n) (k.no h n) (RepL.mono k r)
  | _, _, .ro h r => .ro (h.mono k) (RepL.mono k r)
  | _, _, .wt h n r => .wt (k.rd h n).1 (k.rd h n).2 (RepL.mono k r)
  | _, _, .dic h n l r => .dic (k.kept _ _ h n) (k.no h n) l (RepL.mono k r)
  | _, _, .ins h r => .ins (h.imp (fun ⟨i, dx, h, n, l⟩ => ⟨i, dx, k.kept _ _ h n, k.no h n, l⟩) fun z => z.imp (fun ⟨e, c, h, n, l⟩ => ⟨e, c, k.kept _ _ h n, k.no h n, l⟩) fun z => z.imp id fun ⟨e, o, h, n, l⟩ => ⟨e, o, k.kept _ _ h n, k.no h n, l⟩) (RepL.mono k r)
theorem RepL.mono (k : Kp N N' H H') : ∀ {vs : List V} {ds : List D}, RepL K cl N H vs ds → RepL K cl N' H' vs ds
  | _, _, .nil => .nil
  | _, _, .cons h r => .cons (Rep.mono k h) (RepL.mono k r)
end
theorem RepA.mono (k : Kp N N' H H') (hm : ∃ r, m' = m ++ r) {v : V} : ∀ {x : A}, RepA K cl N H m v x → RepA K cl N' H' m' v x
  | .val d, h => Rep.mono k h
  | .ref i, ⟨a, h, e⟩ => by
    obtain ⟨r, rfl⟩ := hm
    exact ⟨a, by rw [List.getElem?_append_left (List.getElem?_eq_some_iff.mp h).1]; exact h, e⟩
theorem RepAs.mono (k : Kp N N' H H') (hm : ∃ r, m' = m ++ r) : ∀ {vs : List V} {xs : List A}, RepAs K cl N H m vs xs → RepAs K cl N' H' m' vs xs
  | _, _, .nil => .nil
  | _, _, .cons h r => .cons (h.mono k hm) (RepAs.mono k hm r)
theorem RepL.length : ∀ {vs : List V} {ds : List D}, RepL K cl N H vs ds → vs.length = ds.length
  | _, _, .nil => rfl
  | _, _, .cons _ r => congrArg (· + 1) r.length
theorem RepL.get : ∀ {vs : List V} {ds : List D} {i : Nat} {v : V}, RepL K cl N H vs ds → vs[i]? = some v → ∃ d, ds[i]? = some d ∧ Rep K cl N H v d
  | _, _, 0, _, .cons h _, e => ⟨_, rfl, by cases e; exact h⟩
  | _, _, i + 1, _, .cons _ r, e => RepL.get (i := i) r e
theorem RepL.got : ∀ {vs : List V} {ds : List D} {i : Nat} {d : D}, RepL K cl N H vs ds → ds[i]? = some d → ∃ v, vs[i]? = some v ∧ Rep K cl N H v d
  | _, _, 0, _, .cons h _, e => ⟨_, rfl, by cases e; exact h⟩
  | _, _, i + 1, _, .cons _ r, e => RepL.got (i := i) r e
theorem RepL.append : ∀ {vs ws : List V} {ds es : List D}, RepL K cl N H vs ds → RepL K cl N H ws es → RepL K cl N H (vs ++ ws) (ds ++ es)
  | _, _, _, _, .nil, s => s
  | _, _, _, _, .cons h r, s => .cons h (r.append s)
theorem RepL.take : ∀ {vs : List V} {ds : List D} (n : Nat), RepL K cl N H vs ds → RepL K cl N H (vs.take n) (ds.take n)
  | _, _, 0, _ => by rw [List.take_zero, List.take_zero]; exact .nil
  | _, _, _ + 1, .nil => .nil
  | _, _, n + 1, .cons h r => .cons h (r.take n)
theorem RepL.drop : ∀ {vs : List V} {ds : List D} (n : Nat), RepL K cl N H vs ds → RepL K cl N H (vs.drop n) (ds.drop n)
  | _, _, 0, r => r
  | _, _, _ + 1, .nil => .nil
  | _, _, n + 1, .cons _ r => r.drop n
theorem RepL.set {v : V} {d : D} (h0 : Rep K cl N H v d) : ∀ {vs : List V} {ds : List D} (n : Nat), RepL K cl N H vs ds → RepL K cl N H (vs.set n v) (ds.set n d)
  | _, _, _, .nil => .nil
  | _, _, 0, .cons _ r => .cons h0 r
  | _, _, n + 1, .cons h r => .cons h (RepL.set h0 n r)
theorem RepL.reverse : ∀ {vs : List V} {ds : List D}, RepL K cl N H vs ds → RepL K cl N H vs.reverse ds.reverse
  | _, _, .nil => .nil
  | _, _, .cons h r => by rw [List.reverse_cons, List.reverse_cons]; exact r.reverse.append (.cons h .nil)
structure Ok (K : PySem.W.Frag) (cl : ClT) (B : Addr → Prop) (H : Hp) (m : List Addr) (S : Store) : Prop where
  foreign : ∀ a, B a → H a ≠ none ∧ a ∉ m
  len : m.length = S.length
  nd : m.Nodup
  obj : ∀ (i : Nat) (a : Addr) (o : O), m[i]? = some a → S[i]? = some o → RepO K cl (NN B m) H m a o
  tabs : LamX.Tabs cl.T H
structure EnvOk (K : PySem.W.Frag) (cl : ClT) (N : Addr → Prop) (H : Hp) (m : List Addr) (σ : L2.St) (ρ : Slots) : Prop where
  len : ρ.length = σ.length
  get : ∀ (i : Nat) (x : A), ρ[i]? = some (some x) → ∃ v, σ[i]? = some (some v) ∧ RepA K cl N H m v x
structure Step (H : Hp) (m : List Addr) (H' : Hp) (m' : List Addr) : Prop where
  ext : ∃ r, m' = m ++ r ∧ ∀ a ∈ r, H a = none
  keep : ∀ a o, H a = some o → a ∉ m → NT o → H' a = some o
  stay : ∀ a, H a ≠ none → H' a ≠ none
theorem Step.kept {H H' : Hp} {m m' : List Addr} (s : Step H m H' m') (a : Addr) (o : HO) (h : H a = some o) (n : a ∉ m) (nt : NT o := by intro _ z; cases z) : H' a = some o := s.keep a o h n nt
theorem Step.refl {H : Hp} {m : List Addr} : Step H m H m := ⟨⟨[], by simp, by simp⟩, fun _ _ h _ _ => h, fun _ h => h⟩
theorem Step.some {H H' : Hp} {m m' : List Addr} (a : Step H m H' m') {b : Addr} (h : H b ≠ none) : H' b ≠ none := a.stay b h
theorem Step.trans {H H1 H2 : Hp} {m m1 m2 : List Addr} (a : Step H m H1 m1) (b : Step H1 m1 H2 m2) : Step H m H2 m2 := by
  obtain ⟨r, rfl, hr⟩ := a.ext
  obtain ⟨q, rfl, hq⟩ := b.ext
  refine ⟨⟨r ++ q, by rw [List.append_assoc], fun c hc => ?_⟩, fun c o h hc nt => ?_, fun c hn => b.some (a.some hn)⟩
  · rcases List.mem_append.mp hc with hc | hc
    · exact hr c hc
    · cases e : H c with
      | none => rfl
      | some o => exact absurd (hq c hc) (a.some (by rw [e]; exact fun z => by cases z))
  · refine b.keep c o (a.keep c o h hc nt) (fun z => ?_) nt
    rcases List.mem_append.mp z with z | z
    · exact hc z
    · rw [hr c z] at h; cases h
theorem Step.kp {B : Addr → Prop} (s : Step H m H' m') (hB : ∀ a, B a → a ∉ m) : Kp (NN B m) (NN B m') H H' := by
  obtain ⟨r, rfl, hr⟩ := s.ext
  refine ⟨fun a o h n nt => s.keep a o h (fun z => n (.inr z)) nt, fun a z => ?_⟩
  rcases z with z | z
  · exact .inl (.inl z)
  · rcases List.mem_append.mp z with z | z
    · exact .inl (.inr z)
    · exact .inr (hr a z)
theorem EnvOk.mono {σ : L2.St} {ρ : Slots} (k : Kp N N' H H') (hm : ∃ r, m' = m ++ r) (e : EnvOk K cl N H m σ ρ) : EnvOk K cl N' H' m' σ ρ := ⟨e.len, fun i x h => by
  obtain ⟨v, h1, h2⟩ := e.get i x h
  exact ⟨v, h1, h2.mono k hm⟩⟩
theorem EnvOk.set {σ : L2.St} {ρ : Slots} (e : EnvOk K cl N H m σ ρ) (i : Nat) {v : V} {x : A} (h : RepA K cl N H m v x) : EnvOk K cl N H m (σ.set i (some v)) (ρ.set i (some x)) := by
  refine ⟨by rw [List.length_set, List.length_set]; exact e.len, fun j y hj => ?_⟩
  by_cases hij : i = j
  · subst hij
    have hl : i < ρ.length := by
      have := (List.getElem?_eq_some_iff.mp hj).1
      rwa [List.length_set] at this
    rw [List.getElem?_set_self hl] at hj
    cases hj
    exact ⟨v, by rw [List.getElem?_set_self (by rw [← e.len]; exact hl)], h⟩
  · rw [List.getElem?_set_ne hij] at hj
    obtain ⟨w, h1, h2⟩ := e.get j y hj
    exact ⟨w, by rw [List.getElem?_set_ne hij]; exact h1, h2⟩
theorem Step.env {B : Addr → Prop} {S : Store} {σ : L2.St} {ρ : Slots} (s : Step H m H' m') (o : Ok K cl B H m S) (e : EnvOk K cl (NN B m) H m σ ρ) : EnvOk K cl (NN B m') H' m' σ ρ :=
  e.mono (s.kp fun a h => (o.foreign a h).2) (let ⟨r, h, _⟩ := s.ext; ⟨r, h⟩)
theorem Step.rep {B : Addr → Prop} {S : Store} {v : V} {x : A} (s : Step H m H' m') (o : Ok K cl B H m S) (e : RepA K cl (NN B m) H m v x) : RepA K cl (NN B m') H' m' v x :=
  e.mono (s.kp fun a h => (o.foreign a h).2) (let ⟨r, h, _⟩ := s.ext; ⟨r, h⟩)
theorem Step.reps {B : Addr → Prop} {S : Store} {vs : List V} {xs : List A} (s : Step H m H' m') (o : Ok K cl B H m S) (e : RepAs K cl (NN B m) H m vs xs) : RepAs K cl (NN B m') H' m' vs xs :=
  e.mono (s.kp fun a h => (o.foreign a h).2) (let ⟨r, h, _⟩ := s.ext; ⟨r, h⟩)
/-- an exception's object -/
noncomputable def ExcAt (K : PySem.W.Frag) (cl : ClT) (N : Addr → Prop) (H : Hp) (c : Value) (d : Option Addr) (e : X0) : Prop :=
  c = .ref (cl e.c) ∧ ((e.ns = [] ∧ e.vs = []) ∨ ∃ da xs, d = some da ∧ H da = some (.xd (e.ns.zip xs)) ∧ ¬ N da ∧ e.ns.length = xs.length ∧ RepL K cl N H xs e.vs)
noncomputable def Fin (K : PySem.W.Frag) (cl : ClT) (B : Addr → Prop) (σ : L2.St) (H : Hp) (m : List Addr) (W : WX) (r : Res) (Q : VK) : Prop :=
  match r with
  | .ok x S' => ∀ v H' m', Step H m H' m' → Ok K cl B H' m' S' → RepA K cl (NN B m') H' m' v x → Q v H'
  | .exc e S' => ∀ c d H' m', Step H m H' m' → Ok K cl B H' m' S' → ExcAt K cl (NN B m') H' c d e → W c d σ H'
  | .bad => False
noncomputable def FinL (K : PySem.W.Frag) (cl : ClT) (B : Addr → Prop) (σ : L2.St) (H : Hp) (m : List Addr) (W : WX) (r : LRes) (Q : List V → Hp → Prop) : Prop :=
  match r with
  | .ok xs S' => ∀ vs H' m', Step H m H' m' → Ok K cl B H' m' S' → RepAs K cl (NN B m') H' m' vs xs → Q vs H'
  | .exc e S' => ∀ c d H' m', Step H m H' m' → Ok K cl B H' m' S' → ExcAt K cl (NN B m') H' c d e → W c d σ H'
  | .bad => False
noncomputable def FinT (K : PySem.W.Frag) (cl : ClT) (B : Addr → Prop) (σ : L2.St) (H : Hp) (m : List Addr) (W : WX) (r : Res) (Q : Bool → Hp → Prop) : Prop :=
  match r with
  | .ok (.val (.bl b)) S' => ∀ H' m', Step H m H' m' → Ok K cl B H' m' S' → Q b H'
  | .ok _ _ => False
  | .exc e S' => ∀ c d H' m', Step H m H' m' → Ok K cl B H' m' S' → ExcAt K cl (NN B m') H' c d e → W c d σ H'
  | .bad => False
noncomputable def FinS (K : PySem.W.Frag) (cl : ClT) (B : Addr → Prop) (H : Hp) (m : List Addr) (W : WX) (r : SRes) (E : Ends) : Prop :=
  match r with
  | .nx ρ S' => ∀ σ H' m', Step H m H' m' → Ok K cl B H' m' S' → EnvOk K cl (NN B m') H' m' σ ρ → E.nx σ H'
  | .bk ρ S' => ∀ σ H' m', Step H m H' m' → Ok K cl B H' m' S' → EnvOk K cl (NN B m') H' m' σ ρ → E.bk σ H'
  | .ct ρ S' => ∀ σ H' m', Step H m H' m' → Ok K cl B H' m' S' → EnvOk K cl (NN B m') H' m' σ ρ → E.ct σ H'
  | .rt x S' => ∀ v H' m', Step H m H' m' → Ok K cl B H' m' S' → RepA K cl (NN B m') H' m' v x → E.rt v H'
  | .exc e ρ S' => ∀ c d σ H' m', Step H m H' m' → Ok K cl B H' m' S' → EnvOk K cl (NN B m') H' m' σ ρ → ExcAt K cl (NN B m') H' c d e → W c d σ H'
  | .bad => False
variable (K : PySem.W.Frag) (cl : ClT) (W : WX)
noncomputable def tM (c : CE) : TE := fun σ H Q => ∃ B m S ρ, Ok K cl B H m S ∧ EnvOk K cl (NN B m) H m σ ρ ∧ Fin K cl B σ H m W (c ρ S) Q
noncomputable def tML (c : CA) : TA := fun σ H Q => ∃ B m S ρ, Ok K cl B H m S ∧ EnvOk K cl (NN B m) H m σ ρ ∧ FinL K cl B σ H m W (c ρ S) Q
noncomputable def tMT (c : CE) : TT := fun σ H Q => ∃ B m S ρ, Ok K cl B H m S ∧ EnvOk K cl (NN B m) H m σ ρ ∧ FinT K cl B σ H m W (c ρ S) Q
noncomputable def tMS (c : CS) : TS := fun E σ H => ∃ B m S ρ, Ok K cl B H m S ∧ EnvOk K cl (NN B m) H m σ ρ ∧ FinS K cl B H m W (c ρ S) E
end
section
variable {K : PySem.W.Frag} {cl : ClT} {B : Addr → Prop} {H H1 : Hp} {m m1 : List Addr} {W : WX} {σ : L2.St}
theorem Fin.step (s : Step H m H1 m1) {r : Res} {Q : VK} (h : Fin K cl B σ H m W r Q) : Fin K cl B σ H1 m1 W r Q := by
  cases r with
  | ok x S' => exact fun v H' m' s' o r' => h v H' m' (s.trans s') o r'
  | exc e S' => exact fun c d H' m' s' o r' => h c d H' m' (s.trans s') o r'
  | bad => exact h
theorem FinL.step (s : Step H m H1 m1) {r : LRes} {Q : List V → Hp → Prop} (h : FinL K cl B σ H m W r Q) : FinL K cl B σ H1 m1 W r Q := by
  cases r with
  | ok x S' => exact fun v H' m' s' o r' => h v H' m' (s.trans s') o r'
  | exc e S' => exact fun c d H' m' s' o r' => h c d H' m' (s.trans s') o r'
  | bad => exact h
theorem FinS.step (s : Step H m H1 m1) {r : SRes} {E : Ends} (h : FinS K cl B H m W r E) : FinS K cl B H1 m1 W r E := by
  cases r with
  | nx _ _ => exact fun σ H' m' s' => h σ H' m' (s.trans s')
  | bk _ _ => exact fun σ H' m' s' => h σ H' m' (s.trans s')
  | ct _ _ => exact fun σ H' m' s' => h σ H' m' (s.trans s')
  | rt _ _ => exact fun v H' m' s' => h v H' m' (s.trans s')
  | exc _ _ _ => exact fun c d σ H' m' s' => h c d σ H' m' (s.trans s')
  | bad => exact h
end
noncomputable abbrev Res.bind (r : Res) (f : A → Store → Res) : Res := match r with
  | .ok x S => f x S
  | .exc e S => .exc e S
  | .bad => .bad
noncomputable abbrev LRes.bind (r : LRes) (f : List A → Store → Res) : Res := match r with
  | .ok x S => f x S
  | .exc e S => .exc e S
  | .bad => .bad
noncomputable abbrev Res.bindS (r : Res) (ρ : Slots) (f : A → Store → SRes) : SRes := match r with
  | .ok x S => f x S
  | .exc e S => .exc e ρ S
  | .bad => .bad
section
variable {K : PySem.W.Frag} {cl : ClT} {B : Addr → Prop} {H H1 : Hp} {m m1 : List Addr} {W : WX} {σ : L2.St}
/-- the head of a bind: its value, then the rest from there -/
theorem Fin.bind {r : Res} {f : A → Store → Res} {Q : VK} {R : VK} (h : Fin K cl B σ H m W (r.bind f) Q)
    (k : ∀ x S' v H' m', Step H m H' m' → Ok K cl B H' m' S' → RepA K cl (NN B m') H' m' v x → Fin K cl B σ H' m' W (f x S') Q → R v H') : Fin K cl B σ H m W r R := by
  cases r with
  | ok x S' => exact fun v H' m' s o r => k x S' v H' m' s o r (Fin.step s h)
  | exc e S' => exact h
  | bad => exact h
theorem FinL.bind {r : LRes} {f : List A → Store → Res} {Q : VK} {R : List V → Hp → Prop} (h : Fin K cl B σ H m W (r.bind f) Q)
    (k : ∀ x S' v H' m', Step H m H' m' → Ok K cl B H' m' S' → RepAs K cl (NN B m') H' m' v x → Fin K cl B σ H' m' W (f x S') Q → R v H') : FinL K cl B σ H m W r R := by
  cases r with
  | ok x S' => exact fun v H' m' s o r => k x S' v H' m' s o r (Fin.step s h)
  | exc e S' => exact h
  | bad => exact h
end
end T3
namespace T3
open PySem PySem.Spec PyProof.Rows L2
theorem PE.imp {X : Cx} {e : Expr} {t u : TE} (h : PE X e t) (k : ∀ σ H Q, u σ H Q → t σ H Q) : PE X e u := ⟨fun pins s σ H Q I q => h.run pins s σ H Q I (k _ _ _ q)⟩
theorem PT.imp {X : Cx} {e : Expr} {t u : TT} (h : PT X e t) (k : ∀ σ H Q, u σ H Q → t σ H Q) : PT X e u := ⟨fun pins s σ H Q I q => h.run pins s σ H Q I (k _ _ _ q)⟩
theorem PA.imp {X : Cx} {e : List Expr} {t u : TA} (h : PA X e t) (k : ∀ σ H Q, u σ H Q → t σ H Q) : PA X e u := ⟨fun pos pins s σ H Q I q => h.run pos pins s σ H Q I (k _ _ _ q)⟩
theorem PS.imp {X : Cx} {st : Stmt} {t u : TS} (h : PS X st t) (k : ∀ E σ H, u E σ H → t E σ H) : PS X st u := ⟨fun pins s σ H E I q => h.run pins s σ H E I (k _ _ _ q)⟩
theorem PSs.imp {X : Cx} {st : List Stmt} {t u : TS} (h : PSs X st t) (k : ∀ E σ H, u E σ H → t E σ H) : PSs X st u := ⟨fun pins s σ H E I q => h.run pins s σ H E I (k _ _ _ q)⟩
noncomputable def szOk (n : Nat) : Bool := decide (n ≤ 16000000)
theorem szOk_line {n : Nat} (h : szOk n = true) : n ≤ sizeLine := Nat.le_trans (of_decide_eq_true h) (by decide)
theorem szOk_lt {n : Nat} (h : szOk n = true) : n < sizeLine := Nat.lt_of_le_of_lt (of_decide_eq_true h) (by decide)
section
variable {K : PySem.W.Frag} {cl : ClT} {N N' : Addr → Prop} {B : Addr → Prop} {H H' : Hp} {m : List Addr} {S : Store} {W : WX} {σ : L2.St} {Q : VK}
/-- fewer things may change -/
theorem TupAt.weak (h : ∀ a, N a → N' a) {a : Addr} {xs : List V} (t : TupAt K N' H a xs) : TupAt K N H a xs := by
  rcases t with ⟨ob, t, hd, n⟩ | t
  · exact .inl ⟨ob, t, hd, fun z => n (h a z)⟩
  · exact .inr t
theorem RoAt.weak (h : ∀ a, N a → N' a) {a : Addr} {xs : List V} (t : RoAt K N' H a xs) : RoAt K N H a xs := by
  rcases t with ⟨t, n⟩ | t
  · exact .inl ⟨t, fun z => n (h a z)⟩
  · exact .inr t
mutual
theorem Rep.weak (h : ∀ a, N a → N' a) : ∀ {v : V} {d : D}, Rep K cl N' H v d → Rep K cl N H v d
  | _, _, .non => .non
  | _, _, .bl b => .bl b
  | _, _, .int b => .int b
  | _, _, .str b => .str b
  | _, _, .tup t r => .tup (t.weak h) (RepL.weak h r)
  | _, _, .lst e n r => .lst e (fun z => n (h _ z)) (RepL.weak h r)
  | _, _, .ro t r => .ro (t.weak h) (RepL.weak h r)
  | _, _, .wt t n r => .wt t (fun z => n (h _ z)) (RepL.weak h r)
  | _, _, .dic e n l r => .dic e (fun z => n (h _ z)) l (RepL.weak h r)
  | _, _, .ins t r => .ins (t.imp (fun ⟨i, dx, e, n, l⟩ => ⟨i, dx, e, fun z => n (h _ z), l⟩) fun z => z.imp (fun ⟨e, c, x, n, l⟩ => ⟨e, c, x, fun z => n (h _ z), l⟩) fun z => z.imp id fun ⟨e, o, x, n, l⟩ => ⟨e, o, x, fun z => n (h _ z), l⟩) (RepL.weak h r)
theorem RepL.weak (h : ∀ a, N a → N' a) : ∀ {vs : List V} {ds : List D}, RepL K cl N' H vs ds → RepL K cl N H vs ds
  | _, _, .nil => .nil
  | _, _, .cons t r => .cons (Rep.weak h t) (RepL.weak h r)
end
/-- what stands in the store is there -/
theorem RepO.there {a : Addr} {o : O} (h : RepO K cl N H m a o) : H a ≠ none := by
  cases o with
  | lst ds => obtain ⟨xs, e, _⟩ := h; rw [e]; exact fun z => by cases z
  | dic ks ds => obtain ⟨xs, e, _⟩ := h; rw [e]; exact fun z => by cases z
  | ins c ns zs => obtain ⟨dx, xs, e, _⟩ := h; rw [e]; exact fun z => by cases z
  | tp zs => obtain ⟨ob, xs, e, _⟩ := h; rw [e]; exact fun z => by cases z
theorem nt_of {v : HO} (h : (∃ xs, v = .lst xs) ∨ (∃ xs, v = .dK xs) ∨ ∃ a b c, v = .ins a b c) : NT v ∧ ∀ φ, v ≠ .ext φ := by
  rcases h with ⟨_, rfl⟩ | ⟨_, rfl⟩ | ⟨_, _, _, rfl⟩ <;> constructor <;> intro _ z <;> cases z
theorem RepO.nt {a : Addr} {o : O} (h : RepO K cl N H m a o) {v : HO} (e : H a = some v) : NT v ∧ ∀ φ, v ≠ .ext φ := by
  cases o with
  | lst ds => obtain ⟨xs, e', _⟩ := h; rw [e'] at e; cases e; exact nt_of (.inl ⟨_, rfl⟩)
  | dic ks ds => obtain ⟨xs, e', _⟩ := h; rw [e'] at e; cases e; exact nt_of (.inr (.inl ⟨_, rfl⟩))
  | ins c ns zs => obtain ⟨dx, xs, e', _⟩ := h; rw [e'] at e; cases e; exact nt_of (.inr (.inr ⟨_, _, _, rfl⟩))
  | tp zs => obtain ⟨ob, xs, e', _⟩ := h; rw [e'] at e; cases e; exact ⟨(by intro _ z; cases z), (by intro _ z; cases z)⟩
theorem Ok.at (o : Ok K cl B H m S) {i : Nat} {u : O} (h : S[i]? = some u) : ∃ a, m[i]? = some a ∧ RepO K cl (NN B m) H m a u := by
  have hl : i < m.length := by rw [o.len]; exact (List.getElem?_eq_some_iff.mp h).1
  exact ⟨m[i], List.getElem?_eq_getElem hl, o.obj i _ u (List.getElem?_eq_getElem hl) h⟩
theorem Ok.may (o : Ok K cl B H m S) {a : Addr} (h : NN B m a) : H a ≠ none := by
  rcases h with h | h
  · exact (o.foreign a h).1
  · obtain ⟨i, hi⟩ := List.mem_iff_getElem?.mp h
    have hl : i < S.length := by rw [← o.len]; exact (List.getElem?_eq_some_iff.mp hi).1
    exact (o.obj i a _ hi (List.getElem?_eq_getElem hl)).there
/-- what stands at an address of the store's own -/
theorem Ok.nt (o : Ok K cl B H m S) {a : Addr} (h : a ∈ m) : ∃ v, H a = some v ∧ NT v ∧ ∀ φ, v ≠ .ext φ := by
  obtain ⟨i, hi⟩ := List.mem_iff_getElem?.mp h
  have hl : i < S.length := by rw [← o.len]; exact (List.getElem?_eq_some_iff.mp hi).1
  have r := o.obj i a _ hi (List.getElem?_eq_getElem hl)
  cases e : H a with
  | none => exact absurd e r.there
  | some v => exact ⟨v, rfl, RepO.nt r e⟩
theorem Ok.fresh (o : Ok K cl B H m S) {p : Addr} (h : H p = none) : ¬ NN B m p := fun z => o.may z h
/-- a new object -/
theorem Step.new {p : Addr} {u : HO} (h : H p = none) : Step H m (upd H p u) m := ⟨⟨[], by simp, by simp⟩, fun a x e _ _ => by rw [upd_ne (ne_of_none e h)]; exact e, fun a e => by
  by_cases z : a = p
  · rw [z, upd_same]; exact fun q => by cases q
  · rw [upd_ne z]; exact e⟩
theorem Kp.new {p : Addr} {u : HO} (h : H p = none) : Kp N N H (upd H p u) := ⟨fun a x e _ _ => by rw [upd_ne (ne_of_none e h)]; exact e, fun _ z => .inl z⟩
theorem RepO.mono {N N' : Addr → Prop} {H H' : Hp} {m m' : List Addr} (k : Kp N N' H H') (hm : ∃ r, m' = m ++ r) {a : Addr} {u : O} (h : RepO K cl N H m a u) (e : H' a = H a) : RepO K cl N' H' m' a u := by
  cases u with
  | lst ds => obtain ⟨xs, e1, r⟩ := h; exact ⟨xs, e.trans e1, r.mono k⟩
  | dic ks ds => obtain ⟨xs, e1, l, r⟩ := h; exact ⟨xs, e.trans e1, l, r.mono k⟩
  | ins c ns zs => obtain ⟨dx, xs, e1, l, r⟩ := h; exact ⟨dx, xs, e.trans e1, l, r.mono k hm⟩
  | tp zs => obtain ⟨ob, xs, e1, hd, r⟩ := h; exact ⟨ob, xs, e.trans e1, hd, r.mono k hm⟩
/-- tables stay where nothing of theirs is written -/
theorem tabs_upd {T : List (Addr × Str)} {H : Hp} {p : Addr} {u : HO} (h : H p = none ∨ (∃ o, H p = some o ∧ NT o ∧ ∀ φ, o ≠ .ext φ)) (t : LamX.Tabs T H) : LamX.Tabs T (upd H p u) := by
  intro q hq
  obtain ⟨ps, h1, h2, h3⟩ := t q hq
  have ne : ∀ {b : Addr} {o : HO}, H b = some o → (¬ NT o ∨ ∃ φ, o = .ext φ) → b ≠ p := fun {b o} e ht z => by
    rw [z] at e
    rcases h with h | ⟨o', h, n1, n2⟩
    · rw [h] at e; cases e
    · rw [h] at e
      cases e
      rcases ht with ht | ⟨φ, ht⟩
      · exact ht n1
      · exact n2 φ ht
  refine ⟨ps, by rw [upd_ne (ne h1 (.inl fun z => z ps rfl))]; exact h1, h2, fun pos cv hc => ?_⟩
  obtain ⟨c, e1, e2⟩ := h3 pos cv hc
  exact ⟨c, e1, by rw [upd_ne (ne e2 (.inr ⟨_, rfl⟩))]; exact e2⟩
theorem Ok.new (o : Ok K cl B H m S) {p : Addr} {u : HO} (h : H p = none) : Ok K cl B (upd H p u) m S := by
  refine ⟨fun a z => ⟨(Step.new h (m := m)).some (o.foreign a z).1, (o.foreign a z).2⟩, o.len, o.nd, fun i a x hi hx => ?_, tabs_upd (.inl h) o.tabs⟩
  have r := o.obj i a x hi hx
  exact r.mono (Kp.new h) ⟨[], by simp⟩ (upd_ne (fun z => r.there (z ▸ h)))
/-- a new object of the store -/
theorem Step.adopt {p : Addr} {u : HO} (h : H p = none) : Step H m (upd H p u) (m ++ [p]) :=
  ⟨⟨[p], rfl, fun a ha => by rw [List.mem_singleton.mp ha]; exact h⟩, fun a o e hn nt => (Step.new h).keep a o e hn nt, (Step.new h (m := m)).stay⟩
theorem Kp.adopt {p : Addr} {u : HO} (h : H p = none) : Kp (NN B m) (NN B (m ++ [p])) H (upd H p u) := ⟨fun a x e _ _ => by rw [upd_ne (ne_of_none e h)]; exact e, fun a z => by
  rcases z with z | z
  · exact .inl (.inl z)
  · rcases List.mem_append.mp z with z | z
    · exact .inl (.inr z)
    · rw [List.mem_singleton.mp z]; exact .inr h⟩
theorem Ok.adopt (o : Ok K cl B H m S) {p : Addr} {u : HO} {x : O} (h : H p = none) (r : RepO K cl (NN B (m ++ [p])) (upd H p u) (m ++ [p]) p x) : Ok K cl B (upd H p u) (m ++ [p]) (S ++ [x]) := by
  have hp : p ∉ m := fun z => o.may (.inr z) h
  refine ⟨fun a z => ⟨(Step.new h (m := m)).some (o.foreign a z).1, fun q => ?_⟩, by simp [o.len], ?_, fun i a y hi hy => ?_, tabs_upd (.inl h) o.tabs⟩
  · rcases List.mem_append.mp q with q | q
    · exact (o.foreign a z).2 q
    · rw [List.mem_singleton.mp q] at z; exact (o.foreign p z).1 h
  · rw [List.nodup_append]
    exact ⟨o.nd, by simp, fun a ha b hb => by rw [List.mem_singleton.mp hb]; exact fun e => hp (e ▸ ha)⟩
  · by_cases hl : i < m.length
    · rw [List.getElem?_append_left hl] at hi
      rw [List.getElem?_append_left (by rw [← o.len]; exact hl)] at hy
      have q := o.obj i a y hi hy
      exact q.mono (Kp.adopt h) ⟨[p], rfl⟩ (upd_ne (fun z => q.there (z ▸ h)))
    · have hi' := (List.getElem?_eq_some_iff.mp hi).1
      have e : i = m.length := by simp at hi'; omega
      subst e
      rw [List.getElem?_append_right (Nat.le_refl _)] at hi
      rw [o.len, List.getElem?_append_right (Nat.le_refl _)] at hy
      simp at hi hy
      subst hi hy
      exact r
/-- a new list: what it becomes in the data (fr: nobody changes it) -/
noncomputable def mkL (fr : Bool) (ds : List D) (S : Store) : Res := if fr then .ok (.val (.lst ds)) S else .ok (.ref S.length) (S ++ [.lst ds])
theorem mkL_ok {fr : Bool} {ds : List D} {xs : List V} {p : Addr} (o : Ok K cl B H m S) (r : RepL K cl (NN B m) H xs ds) (hp : H p = none) (h : Fin K cl B σ H m W (mkL fr ds S) Q) : Q (.ref p) (upd H p (.lst xs)) := by
  cases fr with
  | true => exact h _ _ _ (Step.new hp) (o.new hp) (.lst upd_same (o.fresh hp) (r.mono (Kp.new hp)))
  | false => exact h _ _ _ (Step.adopt hp) (o.adopt hp ⟨xs, upd_same, r.mono (Kp.adopt hp)⟩) ⟨p, by rw [← o.len, List.getElem?_append_right (Nat.le_refl _)]; simp, rfl⟩
/-- what is wanted of a new tuple -/
noncomputable def NewT (xs : List V) (H : Hp) (Q : VK) : Prop := ∀ (p : Addr) (ob : Obj), ob.dict = none → H p = none → Q (.ref p) (upd H p (.frz ob (.tup xs)))
theorem mkT_ok {ds : List D} {xs : List V} (o : Ok K cl B H m S) (r : RepL K cl (NN B m) H xs ds) (h : Fin K cl B σ H m W (.ok (.val (.tup ds)) S) Q) : NewT xs H Q :=
  fun p ob hd hp => h _ _ _ (Step.new hp) (o.new hp) (.tup (.inl ⟨ob, upd_same, hd, o.fresh hp⟩) (r.mono (Kp.new hp)))
/-- a value at hand -/
theorem Fin.here {x : A} {v : V} (h : Fin K cl B σ H m W (.ok x S) Q) (o : Ok K cl B H m S) (r : RepA K cl (NN B m) H m v x) : Q v H := h v H m Step.refl o r
noncomputable def valsOf : List A → Option (List D)
  | [] => some []
  | .val d :: r => (valsOf r).map (d :: ·)
  | .ref _ :: _ => none
theorem valsOf_ok : ∀ {vs : List V} {xs : List A} {ds : List D}, RepAs K cl N H m vs xs → valsOf xs = some ds → RepL K cl N H vs ds
  | _, _, _, .nil, h => by cases h; exact .nil
  | _, _, _, .cons (x := .val d) r q, h => by
    simp only [valsOf, Option.map_eq_some_iff] at h
    obtain ⟨ds, h, rfl⟩ := h
    exact .cons r (valsOf_ok q h)
  | _, _, _, .cons (x := .ref _) _ _, h => by cases h
/-- a list that is read -/
noncomputable def asL (S : Store) : A → Option (List D)
  | .val (.lst ds) => some ds
  | .val (.ro ds) => some ds
  | .ref i => match S[i]? with
    | some (.lst ds) => some ds
    | _ => none
  | _ => none
/-- a list of our own making -/
noncomputable def asM (S : Store) : A → Option (List D)
  | .val (.lst ds) => some ds
  | .ref i => match S[i]? with
    | some (.lst ds) => some ds
    | _ => none
  | _ => none
noncomputable def asT : A → Option (List D)
  | .val (.tup ds) => some ds
  | _ => none
theorem asL_ok (o : Ok K cl B H m S) {v : V} {x : A} {ds : List D} (r : RepA K cl (NN B m) H m v x) (h : asL S x = some ds) : ∃ a vs, v = .ref a ∧ SqL K H a vs ∧ RepL K cl (NN B m) H vs ds := by
  cases x with
  | ref i =>
    obtain ⟨a, ha, rfl⟩ := r
    simp only [asL] at h
    split at h <;> cases h
    rename_i hs
    obtain ⟨xs, e, q⟩ := o.obj i a _ ha hs
    exact ⟨a, xs, rfl, .of e, q⟩
  | val d =>
    cases d <;> simp only [asL] at h <;> cases h
    · cases r with
      | lst e n q => exact ⟨_, _, rfl, .of e, q⟩
    · cases r with
      | ro e q => exact ⟨_, _, rfl, e.seq, q⟩
theorem asM_ok (o : Ok K cl B H m S) {v : V} {x : A} {ds : List D} (r : RepA K cl (NN B m) H m v x) (h : asM S x = some ds) : ∃ a vs, v = .ref a ∧ H a = some (.lst vs) ∧ RepL K cl (NN B m) H vs ds := by
  cases x with
  | ref i =>
    obtain ⟨a, ha, rfl⟩ := r
    simp only [asM] at h
    split at h <;> cases h
    rename_i hs
    obtain ⟨xs, e, q⟩ := o.obj i a _ ha hs
    exact ⟨a, xs, rfl, e, q⟩
  | val d =>
    cases d <;> simp only [asM] at h <;> cases h
    cases r with
    | lst e n q => exact ⟨_, _, rfl, e, q⟩
theorem asT_ok {v : V} {x : A} {ds : List D} (r : RepA K cl N H m v x) (h : asT x = some ds) : ∃ a vs, v = .ref a ∧ SqT K H a vs ∧ RepL K cl N H vs ds := by
  cases x with
  | ref i => cases h
  | val d =>
    cases d <;> simp only [asT] at h <;> cases h
    cases r with
    | tup e q => exact ⟨_, _, rfl, e.seq, q⟩
end
end T3
namespace T3
open PySem PySem.Spec PyProof.Rows L2
section
variable {X : Cx} {pins : List (Addr × Obj)} {σ : L2.St} {H : Hp} {s : Shared} {Q : VK}
theorem laidZ {its : List Value} {xs : List V} {n : Nat} {t' : Nat} (I : Inv X pins σ H s) (r : Vals xs its) (hz : xs.length ≤ sizeLine) (h : NewT xs H Q) :
    ∃ v H', Inv X pins σ H' { s with heap := s.heap.push { cls := .type "tuple", data := .seq its.toArray n }, toks := t' } ∧ RelV v (.ref s.heap.objs.size) ∧ Q v H' := by
  have e := Heap.get?_push_size (o := { cls := .type "tuple", data := .seq its.toArray n }) s.heap rfl
  refine ⟨.ref s.heap.objs.size, _, I.laid (t' := t') (o := .frz { cls := .type "tuple", data := .seq its.toArray n } (.tup xs)) (fun b u q => Heap.get?_push_of_some _ q) (Nat.le_refl _) ?_, rfl, h _ _ rfl (I.hok.fresh (Nat.le_refl _))⟩
  exact ⟨e, hz, its, r, ⟨_, e, rfl, n, rfl⟩⟩
end
section
variable {X : Cx}
noncomputable def tTupZ (ta : TA) : TE := fun σ H Q => ta σ H fun xs H1 => xs.length ≤ sizeLine ∧ NewT xs H1 Q
theorem pe_tupZ {es : List Expr} {t : TA} {x1} {pos : Pos} (h : PA X es t) : PE X (.Tuple es x1 pos) (tTupZ t) := by
  refine ⟨fun pins s σ H Q I hq => wpAny_Tuple_spliced (thn (h.run pos pins s σ H _ I hq) fun us s1 w => ?_)⟩
  obtain ⟨xs, H1, I1, r, z, q⟩ := w
  obtain ⟨v, H2, I2, rv, q2⟩ := laidZ (n := 0) (t' := s1.toks) I1 r z q
  exact ⟨by rw [← r.length]; exact z, v, H2, I2, rv, q2⟩
noncomputable def rTupZ (K : PySem.W.Frag) : List V → Hp → VK → Prop := fun xs H Q => ∃ p ys, xs = [.ref p] ∧ ((SqL K H p ys ∧ NewT ys H Q) ∨ (SqT K H p ys ∧ Q (.ref p) H))
theorem call_tupleZ : CallR X (.type "tuple") (rTupZ X.K) := by
  intro pins s σ H xs us Q I r h
  obtain ⟨p, ys, rfl, h⟩ := h
  obtain ⟨u, rfl, rx⟩ := vals1 r
  cases rx
  rcases h with h | h
  · obtain ⟨its, r2, pl, hz⟩ := I.list h.1
    have hlen := r2.length
    refine call_tuple_list pl.isList (fun h' kp => ?_) (by rw [List.size_toArray]; omega)
    have I1 : Inv X pins σ H { s with heap := h' } := I.kept (t' := s.toks) kp
    obtain ⟨v, H2, I2, rv, q2⟩ := laidZ (n := 0) (t' := s.toks) I1 r2 hz h.2
    exact ⟨v, H2, I2, rv, q2⟩
  · obtain ⟨its, r2, pl, hz⟩ := I.tuple h.1
    exact call_tuple_same pl ⟨.ref p, H, I, rfl, h.2⟩
noncomputable def rDmZ : List V → Hp → VK → Prop := fun xs H Q => ∃ i j, xs = [.int i, .int j] ∧ CDiv i j ∧ NewT [.int (i / j), .int (i % j)] H Q
theorem call_divmodZ : CallR X (.builtin "divmod") rDmZ := by
  intro pins s σ H xs us Q I r h
  obtain ⟨i, j, rfl, c, q⟩ := h
  have c1 := c.1
  have c2 := c.2
  obtain ⟨u, w', rfl, ⟨t, rfl⟩, ⟨t', rfl⟩⟩ := vals2 r
  refine divmod_int (by omega) ?_ (.inl (PyProof.noPylong_small (by omega)))
  rw [Int.fdiv_eq_ediv_of_nonneg i (by omega), Int.fmod_eq_emod_of_nonneg i (by omega)]
  obtain ⟨v, H2, I2, rv, q2⟩ := laidZ (xs := [.int (i / j), .int (i % j)]) (its := [.int (i / j) s.toks, .int (i % j) (s.toks + 1)]) (n := 0) (t' := s.toks + 2) I (.cons ⟨_, rfl⟩ (.cons ⟨_, rfl⟩ .nil)) (by show 2 ≤ sizeLine; rw [sizeLine_eq]; decide) q
  exact ⟨v, H2, I2, rv, q2⟩
noncomputable def rSlZ (K : PySem.W.Frag) : V → Option Int → Option Int → Hp → VK → Prop := fun x lo hi H Q => ∃ a xs, x = .ref a ∧ SqT K H a xs ∧
  (HT.sIx xs.length 0 lo = 0 ∧ HT.sIx xs.length xs.length hi = xs.length → Q (.ref a) H) ∧ (¬ (HT.sIx xs.length 0 lo = 0 ∧ HT.sIx xs.length xs.length hi = xs.length) → NewT (cutV xs lo hi) H Q)
theorem sl_tupZ : SlR X (rSlZ X.K) := by
  intro pins s σ H x v vl vu lo hi sl Q I rx hs pl pu h
  obtain ⟨a, xs, rfl, hx, q1, q2⟩ := h
  by_cases hw : HT.sIx xs.length 0 lo = 0 ∧ HT.sIx xs.length xs.length hi = xs.length
  · exact sl_tupA pins s σ H _ v vl vu lo hi sl Q I rx hs pl pu ⟨a, xs, rfl, hx, q1, fun z => absurd hw z⟩
  · cases rx
    obtain ⟨its, r, ht, hz⟩ := I.tuple hx
    have hlen : its.toArray.size = xs.length := by rw [List.size_toArray, r.length]
    refine ⟨"tuple", _, PyProof.Rows.slot_tuple_getitem.lookup, ht.typeIs, HT.getItem_tuple_cut ht hs pl pu (by rw [hlen]; exact hw) ?_ (by rw [hlen]; exact hz)⟩
    rw [hlen]
    obtain ⟨v, H2, I2, rv, q3⟩ := laidZ (n := 0) (t' := s.toks) I ((r.drop (HT.sIx xs.length 0 lo)).take (HT.sIx xs.length xs.length hi - HT.sIx xs.length 0 lo)) (Nat.le_trans (cutV_length xs lo hi) hz) (q2 hw)
    exact ⟨v, H2, I2, rv, q3⟩
noncomputable def rCatZ (K : PySem.W.Frag) : R2 := fun x y H Q => ∃ a b xs ys, x = .ref a ∧ y = .ref b ∧ SqT K H a xs ∧ SqT K H b ys ∧ xs.length + ys.length ≤ sizeLine ∧
  (xs = [] → Q (.ref b) H) ∧ (xs ≠ [] → ys = [] → Q (.ref a) H) ∧ (xs ≠ [] → ys ≠ [] → NewT (xs ++ ys) H Q)
theorem op_catZ : OpR X (binaryOp .Add) (rCatZ X.K) := by
  intro pins s σ H x y v u Q I rx ry h
  obtain ⟨a, b, xs, ys, rfl, rfl, ha, hb, hz, q0, q1, q2⟩ := h
  by_cases hx : xs = []
  · exact op_catA pins s σ H _ _ v u Q I rx ry ⟨a, b, xs, ys, rfl, rfl, ha, hb, hz, q0, q1, fun z => absurd hx z⟩
  · cases rx
    cases ry
    obtain ⟨its, r1, p1, _⟩ := I.tuple ha
    obtain ⟨its2, r2, p2, _⟩ := I.tuple hb
    refine HT.cat_tup p1 p2 (fun z => hx (r1.nil_iff.mp z)) (fun z => ⟨.ref a, H, I, rfl, q1 hx (r2.nil_iff.mp z)⟩) (fun z => ?_) (by rw [← r1.length, ← r2.length]; exact hz)
    obtain ⟨v, H2, I2, rv, q3⟩ := laidZ (n := 0) (t' := s.toks) I (r1.append r2) (by rw [List.length_append]; exact hz) (q2 hx fun w => z (r2.nil_iff.mpr w))
    exact ⟨v, H2, I2, rv, q3⟩
/-- t * k -/
noncomputable def rRepZ (K : PySem.W.Frag) : R2 := fun x y H Q => ∃ l k xs, x = .ref l ∧ y = .int k ∧ SqT K H l xs ∧ xs ≠ [] ∧ 2 ≤ k ∧ k ≤ 1000 ∧ xs.length ≤ 1000 ∧ NewT (List.replicate k.toNat xs).flatten H Q
theorem op_repZ : OpR X (binaryOp .Mult) (rRepZ X.K) := by
  intro pins s σ H x y v u Q I rx ry h
  obtain ⟨l, k, xs, rfl, rfl, hT, hne, h1, h2, hz, q⟩ := h
  cases rx
  obtain ⟨t, rfl⟩ := ry
  obtain ⟨its, r, ⟨⟨cls, dd, data, sl⟩, ho, hc, n, hd⟩, hs⟩ := I.tuple hT
  simp only at hc hd
  subst hc hd
  have hle : its.length = xs.length := r.length.symm
  have hi : its.toArray.isEmpty = false := by
    cases its with
    | nil => exact absurd (List.eq_nil_of_length_eq_zero hle.symm) hne
    | cons a b => rfl
  have sz : its.toArray.size = xs.length := by rw [List.size_toArray, hle]
  have kz : k.toNat * xs.length ≤ 1000 * 1000 := Nat.mul_le_mul (by omega) hz
  have hm : ((its.toArray.size : Nat) : Int) * k ≤ 1000000 := by
    rw [sz]
    have := Int.mul_le_mul_of_nonneg_right (show ((xs.length : Nat) : Int) ≤ 1000 by omega) (show 0 ≤ k by omega)
    omega
  have flen : (List.replicate k.toNat its).flatten.length ≤ sizeLine := by
    rw [PyProof.Rows.lm_len_rep_flat, hle, sizeLine_eq]
    omega
  have c0 : (decide (k < -(2 ^ 63)) || decide (k ≥ 2 ^ 63)) = false := by
    rw [Bool.or_eq_false_iff]
    exact ⟨decide_eq_false (by omega), decide_eq_false (by omega)⟩
  have c1 : (its.toArray.isEmpty || k == 1) = false := by
    rw [Bool.or_eq_false_iff]
    exact ⟨hi, beq_eq_false_iff_ne.mpr (by omega)⟩
  have c2 : (decide (k ≤ 0) || its.toArray.isEmpty) = false := by
    rw [Bool.or_eq_false_iff]
    exact ⟨decide_eq_false (by omega), hi⟩
  have c4 : Builtin.Tuple.tupleTooMany (((its.toArray.size : Nat) : Int) * k) = false := by
    unfold Builtin.Tuple.tupleTooMany
    exact decide_eq_false (by rw [sizeLine_eq]; omega)
  have last := laidZ (n := 0) (t' := s.toks) I (r.rep k.toNat) (by rw [PyProof.Rows.lm_len_rep_flat, sizeLine_eq]; omega) q
  refine wpAny_binaryOp_repeat_ref (T := "tuple") (U := "int") (by decide) ⟨_, ho, rfl⟩ (fun s' => typeIs_int s' k t) noFill_tuple_mul F.fills_int_mul F.slot_int_rmul repeat_tuple F.slot_int_index.lookup
    (call_meets F.slot_int_rmul (typeIs_int s k t) F.entry_int_rmul (F.args_int_rmul_2 _ _) (int_rmul_tuple k t l its.toArray n dd sl) ⟨ho, rfl, ⟨_, ho, rfl⟩, ?_⟩)
  refine call_meets F.slot_tuple_mul ⟨_, ho, rfl⟩ F.entry_tuple_mul (F.args_tuple_mul_2 _ _) (tuple_mulW l its.toArray n dd sl k t c0 c1 c2 (by omega) c4 (by rw [size_rep, List.size_toArray]; exact flen)) ⟨ho, ?_⟩
  rw [size_rep]
  obtain ⟨v, H2, I2, rv, q3⟩ := last
  exact ⟨v, H2, I2, rv, q3⟩
end
end T3
namespace T3
open PySem PySem.Spec PyProof.Rows L2
noncomputable def cV (i : Nat) : CE := fun ρ S => match ρ[i]? with
  | some (some x) => .ok x S
  | _ => .bad
noncomputable def cK (d : D) : CE := fun _ S => .ok (.val d) S
noncomputable abbrev cI (i : Int) : CE := cK (.int i)
noncomputable abbrev cB (b : Bool) : CE := cK (.bl b)
noncomputable abbrev cN : CE := cK .non
noncomputable abbrev cS (s : Str) : CE := cK (.str s)
noncomputable def cBin (f : A → A → Store → Res) (ca cb : CE) : CE := fun ρ S => (ca ρ S).bind fun x S1 => (cb ρ S1).bind fun y S2 => f x y S2
noncomputable def cUn (f : A → Store → Res) (ca : CE) : CE := fun ρ S => (ca ρ S).bind f
noncomputable def cNil : CA := fun _ S => .ok [] S
noncomputable def cCons (c : CE) (r : CA) : CA := fun ρ S => match c ρ S with
  | .ok x S1 => (match r ρ S1 with
    | .ok xs S2 => .ok (x :: xs) S2
    | .exc e S2 => .exc e S2
    | .bad => .bad)
  | .exc e S1 => .exc e S1
  | .bad => .bad
noncomputable def cTup (c : CA) : CE := fun ρ S => (c ρ S).bind fun xs S1 => match valsOf xs with
  | some ds => if szOk ds.length then .ok (.val (.tup ds)) S1 else .bad
  | none => .bad
noncomputable def cLst (fr : Bool) (c : CA) : CE := fun ρ S => (c ρ S).bind fun xs S1 => match valsOf xs with
  | some ds => if szOk ds.length then mkL fr ds S1 else .bad
  | none => .bad
/-- truth -/
noncomputable def tru (S : Store) : A → Option Bool
  | .val .non => some false
  | .val (.bl b) => some b
  | .val (.int i) => some (i != 0)
  | .val (.str s) => if szOk s.length then some (s.length != 0) else none
  | .val (.tup ds) => some (!ds.isEmpty)
  | x => match asL S x with
    | some ds => some (!ds.isEmpty)
    | none => none
noncomputable def cIf (ct ca cb : CE) : CE := fun ρ S => (ct ρ S).bind fun x S1 => match x with
  | .val (.bl true) => ca ρ S1
  | .val (.bl false) => cb ρ S1
  | _ => .bad
/-- a test by truth: the bool -/
noncomputable def cTru (c : CE) : CE := fun ρ S => (c ρ S).bind fun x S1 => match tru S1 x with
  | some b => .ok (.val (.bl b)) S1
  | none => .bad
/-- and, or as tests of bools -/
noncomputable def cAnd (c d : CE) : CE := cIf c d (cB false)
noncomputable def cOr (c d : CE) : CE := cIf c (cB true) d
noncomputable def cNot (c : CE) : CE := cIf c (cB false) (cB true)
section
variable {X : Cx} {cl : ClT} {W : WX}
/-- what a rule on two values asks: the data's own step -/
noncomputable def OpOk (K : PySem.W.Frag) (cl : ClT) (r : R2) (f : A → A → Store → Res) : Prop :=
  ∀ {B : Addr → Prop} {H : Hp} {m : List Addr} {S : Store} {σ : L2.St} {W : WX} {v w : V} {x y : A} {Q : VK}, Ok K cl B H m S → RepA K cl (NN B m) H m v x → RepA K cl (NN B m) H m w y → Fin K cl B σ H m W (f x y S) Q → r v w H Q
noncomputable def UnOk (K : PySem.W.Frag) (cl : ClT) (r : V → Hp → VK → Prop) (f : A → Store → Res) : Prop :=
  ∀ {B : Addr → Prop} {H : Hp} {m : List Addr} {S : Store} {σ : L2.St} {W : WX} {v : V} {x : A} {Q : VK}, Ok K cl B H m S → RepA K cl (NN B m) H m v x → Fin K cl B σ H m W (f x S) Q → r v H Q
noncomputable def CaOk (K : PySem.W.Frag) (cl : ClT) (r : List V → Hp → VK → Prop) (f : List A → Store → Res) : Prop :=
  ∀ {B : Addr → Prop} {H : Hp} {m : List Addr} {S : Store} {σ : L2.St} {W : WX} {vs : List V} {xs : List A} {Q : VK}, Ok K cl B H m S → RepAs K cl (NN B m) H m vs xs → Fin K cl B σ H m W (f xs S) Q → r vs H Q
noncomputable def MtOk (K : PySem.W.Frag) (cl : ClT) (r : V → List V → Hp → VK → Prop) (f : A → List A → Store → Res) : Prop :=
  ∀ {B : Addr → Prop} {H : Hp} {m : List Addr} {S : Store} {σ : L2.St} {W : WX} {v : V} {x : A} {vs : List V} {xs : List A} {Q : VK}, Ok K cl B H m S → RepA K cl (NN B m) H m v x → RepAs K cl (NN B m) H m vs xs → Fin K cl B σ H m W (f x xs S) Q → r v vs H Q
theorem pm_v (i : Nat) {x : Str} {pos : Pos} (hN : X.N[i]? = some x := by rfl) (hv : Vis X.env.scope x := by first | exact Or.inl rfl | exact Or.inr (Or.inl rfl) | exact Or.inr (Or.inr rfl)) (hd : (x == ("__debug__" : Str)) = false := by decide)
    (hcd : (x == ("__classdict__" : Str)) = false := by decide) : PE X (.Name x pos) (tM X.K cl W (cV i)) := by
  refine PE.imp (pe_var hN hv hd hcd) fun σ H Q h => ?_
  obtain ⟨B, m, S, ρ, o, e, f⟩ := h
  show ∃ v, σ[i]? = some (some v) ∧ Q v H
  unfold cV at f
  split at f
  · rename_i x hx
    obtain ⟨v, h1, h2⟩ := e.get i x hx
    exact ⟨v, h1, f.here o h2⟩
  · exact f.elim
theorem pm_c {e : Expr} {v : V} {d : D} (h : PE X e (tC v)) (r : ∀ N H, Rep X.K cl N H v d) : PE X e (tM X.K cl W (cK d)) := by
  refine PE.imp h fun σ H Q h => ?_
  obtain ⟨B, m, S, ρ, o, e, f⟩ := h
  exact f.here o (x := .val d) (r _ _)
theorem pm_int {i j pos} : PE X (.Constant (.int i) j pos) (tM X.K cl W (cI i)) := pm_c pe_int fun _ _ => .int i
theorem pm_bl {b j pos} : PE X (.Constant (.bool b) j pos) (tM X.K cl W (cB b)) := pm_c pe_bl fun _ _ => .bl b
theorem pm_non {j pos} : PE X (.Constant .none j pos) (tM X.K cl W cN) := pm_c pe_non fun _ _ => .non
theorem pm_str {x j pos} : PE X (.Constant (.str x) j pos) (tM X.K cl W (cS x)) := pm_c pe_str fun _ _ => .str x
/-- two operands, then a rule by values -/
theorem tOp_ok {r : R2} {f : A → A → Store → Res} {ca cb : CE} (hf : OpOk X.K cl r f) {σ : L2.St} {H : Hp} {Q : VK} (h : tM X.K cl W (cBin f ca cb) σ H Q) : tOp r (tM X.K cl W ca) (tM X.K cl W cb) σ H Q := by
  obtain ⟨B, m, S, ρ, o, e, fin⟩ := h
  refine ⟨B, m, S, ρ, o, e, Fin.bind fin fun x S1 v H1 m1 s1 o1 r1 f1 => ?_⟩
  refine ⟨B, m1, S1, ρ, o1, s1.env o e, Fin.bind f1 fun y S2 w H2 m2 s2 o2 r2 f2 => ?_⟩
  exact hf o2 (s2.rep o1 r1) r2 f2
theorem pm_op {a b : Expr} {op : Operator} {r : R2} {f : A → A → Store → Res} {ca cb : CE} {pos : Pos} (ho : OpR X (binaryOp op) r) (hf : OpOk X.K cl r f) (ha : PE X a (tM X.K cl W ca)) (hb : PE X b (tM X.K cl W cb)) :
    PE X (.BinOp a op b pos) (tM X.K cl W (cBin f ca cb)) := PE.imp (pe_op ho ha hb) fun _ _ _ h => tOp_ok hf h
theorem pm_cmp {a b : Expr} {op : CmpOp} {r : R2} {f : A → A → Store → Res} {ca cb : CE} {pos : Pos} (ho : OpR X (compareOp op) r) (hf : OpOk X.K cl r f) (ha : PE X a (tM X.K cl W ca)) (hb : PE X b (tM X.K cl W cb))
    (hm : behindInMarks op b = false := by first | exact nobehind _ (by decide) (by decide) | rfl) : PE X (.Compare a [op] [b] pos) (tM X.K cl W (cBin f ca cb)) := PE.imp (pe_cmpR ho ha hb hm) fun _ _ _ h => tOp_ok hf h
theorem pm_ix {a b : Expr} {r : R2} {f : A → A → Store → Res} {ca cb : CE} {pos : Pos} (ho : IxR X r) (hf : OpOk X.K cl r f) (ha : PE X a (tM X.K cl W ca)) (hb : PE X b (tM X.K cl W cb)) (hs : PlainIx b := by exact fun _ _ => rfl) :
    PE X (.Subscript a b pos) (tM X.K cl W (cBin f ca cb)) := PE.imp (pe_ix ho ha hb hs) fun _ _ _ h => tOp_ok hf h
theorem pm_un {a : Expr} {op : UnaryOp} {r : V → Hp → VK → Prop} {f : A → Store → Res} {ca : CE} {pos : Pos} (ho : UnR X (unaryOp op) r) (hf : UnOk X.K cl r f) (ha : PE X a (tM X.K cl W ca)) :
    PE X (.UnaryOp op a pos) (tM X.K cl W (cUn f ca)) := PE.imp (pe_un ho ha) fun σ H Q h => by
  obtain ⟨B, m, S, ρ, o, e, fin⟩ := h
  exact ⟨B, m, S, ρ, o, e, Fin.bind fin fun x S1 v H1 m1 s1 o1 r1 f1 => hf o1 r1 f1⟩
theorem pm_nil : PA X [] (tML X.K cl W cNil) := PA.imp pa_nil fun σ H Q h => by
  obtain ⟨B, m, S, ρ, o, e, fin⟩ := h
  exact fin [] H m Step.refl o .nil
theorem pm_cons {a : Expr} {es : List Expr} {c : CE} {r : CA} (ha : PE X a (tM X.K cl W c)) (hr : PA X es (tML X.K cl W r)) (hs : starEach (a :: es) X.env = (false, eval a X.env) :: starEach es X.env := by rfl) : PA X (a :: es) (tML X.K cl W (cCons c r)) :=
  PA.imp (pa_cons ha hr hs) fun σ H Q h => by
  obtain ⟨B, m, S, ρ, o, e, fin⟩ := h
  refine ⟨B, m, S, ρ, o, e, ?_⟩
  unfold cCons at fin
  cases h1 : c ρ S with
  | bad => rw [h1] at fin; exact fin
  | exc x S1 => rw [h1] at fin; exact fin
  | ok x S1 =>
    rw [h1] at fin
    intro v H1 m1 s1 o1 r1
    refine ⟨B, m1, S1, ρ, o1, s1.env o e, ?_⟩
    dsimp only at fin
    cases h2 : r ρ S1 with
    | bad => rw [h2] at fin; exact fin
    | exc y S2 => rw [h2] at fin; exact fun c d H' m' s' => fin c d H' m' (s1.trans s')
    | ok xs S2 =>
      rw [h2] at fin
      intro vs H2 m2 s2 o2 r2
      exact fin (v :: vs) H2 m2 (s1.trans s2) o2 (.cons (s2.rep o1 r1) r2)
theorem pm_tup {es : List Expr} {c : CA} {x1} {pos : Pos} (h : PA X es (tML X.K cl W c)) : PE X (.Tuple es x1 pos) (tM X.K cl W (cTup c)) := PE.imp (pe_tupZ h) fun σ H Q h => by
  obtain ⟨B, m, S, ρ, o, e, fin⟩ := h
  refine ⟨B, m, S, ρ, o, e, FinL.bind fin fun xs S1 vs H1 m1 s1 o1 r1 f1 => ?_⟩
  split at f1
  · rename_i ds hd
    split at f1
    · rename_i hz
      have q := valsOf_ok r1 hd
      exact ⟨by rw [q.length]; exact szOk_line hz, mkT_ok o1 q f1⟩
    · exact f1.elim
  · exact f1.elim
theorem pm_lst (fr : Bool) {es : List Expr} {c : CA} {pos : Pos} (h : PA X es (tML X.K cl W c)) : PE X (.List es pos) (tM X.K cl W (cLst fr c)) := PE.imp (pe_lst h) fun σ H Q h => by
  obtain ⟨B, m, S, ρ, o, e, fin⟩ := h
  refine ⟨B, m, S, ρ, o, e, FinL.bind fin fun xs S1 vs H1 m1 s1 o1 r1 f1 => ?_⟩
  split at f1
  · rename_i ds hd
    split at f1
    · rename_i hz
      have q := valsOf_ok r1 hd
      exact ⟨by rw [q.length]; exact szOk_line hz, fun p hp => mkL_ok o1 q hp f1⟩
    · exact f1.elim
  · exact f1.elim
theorem FinT.of {B : Addr → Prop} {σ : L2.St} {H : Hp} {m : List Addr} {r : Res} {Q : Bool → Hp → Prop} (h : FinT X.K cl B σ H m W r Q) : Fin X.K cl B σ H m W r fun x H1 => ∃ c, x = .bl c ∧ Q c H1 := by
  cases r with
  | bad => exact h
  | exc e S => exact h
  | ok x S =>
    intro v H1 m1 s1 o1 r1
    cases x with
    | ref i => exact h.elim
    | val d =>
      cases d with
      | bl b => cases r1; exact ⟨b, rfl, h H1 m1 s1 o1⟩
      | _ => exact h.elim
theorem pt_cmpM {a b : Expr} {op : CmpOp} {r : R2} {f : A → A → Store → Res} {ca cb : CE} {pos : Pos} (ho : OpR X (compareOp op) r) (hf : OpOk X.K cl r f) (ha : PE X a (tM X.K cl W ca)) (hb : PE X b (tM X.K cl W cb))
    (hm : behindInMarks op b = false := by first | exact nobehind _ (by decide) (by decide) | rfl) : PT X (.Compare a [op] [b] pos) (tMT X.K cl W (cBin f ca cb)) := PT.imp (pt_cmpR ho ha hb hm) fun σ H Q h => by
  obtain ⟨B, m, S, ρ, o, e, fin⟩ := h
  exact tOp_ok hf ⟨B, m, S, ρ, o, e, FinT.of fin⟩
theorem FinT.step {B : Addr → Prop} {σ : L2.St} {H H1 : Hp} {m m1 : List Addr} {r : Res} {Q : Bool → Hp → Prop} (s : Step H m H1 m1) (h : FinT X.K cl B σ H m W r Q) : FinT X.K cl B σ H1 m1 W r Q := by
  cases r with
  | bad => exact h
  | exc e S => exact fun c d H' m' s' => h c d H' m' (s.trans s')
  | ok x S =>
    cases x with
    | ref i => exact h.elim
    | val d =>
      cases d with
      | bl b => exact fun H' m' s' => h H' m' (s.trans s')
      | _ => exact h.elim
theorem FinT.bind {B : Addr → Prop} {σ : L2.St} {H : Hp} {m : List Addr} {r : Res} {f g : Store → Res} {Q R : Bool → Hp → Prop}
    (h : FinT X.K cl B σ H m W (r.bind fun x S1 => match x with
      | .val (.bl true) => f S1
      | .val (.bl false) => g S1
      | _ => .bad) Q)
    (k : ∀ S' H' m', Step H m H' m' → Ok X.K cl B H' m' S' → (FinT X.K cl B σ H' m' W (f S') Q → R true H') ∧ (FinT X.K cl B σ H' m' W (g S') Q → R false H')) : FinT X.K cl B σ H m W r R := by
  cases r with
  | bad => exact h
  | exc e S => exact h
  | ok x S =>
    cases x with
    | ref i => exact h
    | val d =>
      cases d with
      | bl b =>
        cases b with
        | true => exact fun H' m' s' o' => (k S H' m' s' o').1 (h.step s')
        | false => exact fun H' m' s' o' => (k S H' m' s' o').2 (h.step s')
      | _ => exact h
theorem FinT.bindE {B : Addr → Prop} {σ : L2.St} {H : Hp} {m : List Addr} {r : Res} {f g : Store → Res} {Q : VK} {R : Bool → Hp → Prop}
    (h : Fin X.K cl B σ H m W (r.bind fun x S1 => match x with
      | .val (.bl true) => f S1
      | .val (.bl false) => g S1
      | _ => .bad) Q)
    (k : ∀ S' H' m', Step H m H' m' → Ok X.K cl B H' m' S' → (Fin X.K cl B σ H' m' W (f S') Q → R true H') ∧ (Fin X.K cl B σ H' m' W (g S') Q → R false H')) : FinT X.K cl B σ H m W r R := by
  cases r with
  | bad => exact h
  | exc e S => exact h
  | ok x S =>
    cases x with
    | ref i => exact h
    | val d =>
      cases d with
      | bl b =>
        cases b with
        | true => exact fun H' m' s' o' => (k S H' m' s' o').1 (Fin.step s' h)
        | false => exact fun H' m' s' o' => (k S H' m' s' o').2 (Fin.step s' h)
      | _ => exact h
theorem FinT.here {B : Addr → Prop} {σ : L2.St} {H : Hp} {m : List Addr} {S : Store} {b : Bool} {Q : Bool → Hp → Prop} (h : FinT X.K cl B σ H m W (.ok (.val (.bl b)) S) Q) (o : Ok X.K cl B H m S) : Q b H := h H m Step.refl o
variable {a b : Expr} {rest : List Expr} {ca cb : CE} {pos : Pos}
theorem pw_and1M (ha : PT X a (tMT X.K cl W ca)) : PW X (.BoolOp .And [a] pos) (tMT X.K cl W ca) := pw_and1 ha
theorem pw_or1M (ha : PT X a (tMT X.K cl W ca)) : PW X (.BoolOp .Or [a] pos) (tMT X.K cl W ca) := pw_or1 ha
theorem PW.imp {e : Expr} {t u : TT} (h : PW X e t) (k : ∀ σ H Q, u σ H Q → t σ H Q) : PW X e u := ⟨fun wh pins s σ H Q I q => h.run wh pins s σ H Q I (k _ _ _ q)⟩
theorem pw_andM (ha : PT X a (tMT X.K cl W ca)) (hb : PW X (.BoolOp .And (b :: rest) pos) (tMT X.K cl W cb)) : PW X (.BoolOp .And (a :: b :: rest) pos) (tMT X.K cl W (cAnd ca cb)) :=
  PW.imp (pw_and ha hb) fun σ H Q h => by
  obtain ⟨B, m, S, ρ, o, e, fin⟩ := h
  refine ⟨B, m, S, ρ, o, e, FinT.bind (f := cb ρ) (g := cB false ρ) fin fun S1 H1 m1 s1 o1 => ⟨fun q => ?_, fun q => ?_⟩⟩
  · exact iteT ⟨B, m1, S1, ρ, o1, s1.env o e, q⟩
  · exact iteF (q.here o1)
theorem pw_orM (ha : PT X a (tMT X.K cl W ca)) (hb : PW X (.BoolOp .Or (b :: rest) pos) (tMT X.K cl W cb)) : PW X (.BoolOp .Or (a :: b :: rest) pos) (tMT X.K cl W (cOr ca cb)) :=
  PW.imp (pw_or ha hb) fun σ H Q h => by
  obtain ⟨B, m, S, ρ, o, e, fin⟩ := h
  refine ⟨B, m, S, ρ, o, e, FinT.bind (f := cB true ρ) (g := cb ρ) fin fun S1 H1 m1 s1 o1 => ⟨fun q => ?_, fun q => ?_⟩⟩
  · exact iteT (q.here o1)
  · exact iteF ⟨B, m1, S1, ρ, o1, s1.env o e, q⟩
theorem pt_notM (ha : PT X a (tMT X.K cl W ca)) : PT X (.UnaryOp .Not a pos) (tMT X.K cl W (cNot ca)) :=
  PT.imp (pt_not ha) fun σ H Q h => by
  obtain ⟨B, m, S, ρ, o, e, fin⟩ := h
  refine ⟨B, m, S, ρ, o, e, FinT.bind (f := cB false ρ) (g := cB true ρ) fin fun S1 H1 m1 s1 o1 => ⟨fun q => ?_, fun q => ?_⟩⟩
  · exact q.here o1
  · exact q.here o1
/-- by truth -/
theorem tru_val {B : Addr → Prop} {H : Hp} {m : List Addr} {S : Store} {v : V} {x : A} {k : Bool} (o : Ok X.K cl B H m S) (r : RepA X.K cl (NN B m) H m v x) (h : tru S x = some k) : TruV X.K v H k := by
  have hL : ∀ ds, asL S x = some ds → k = !ds.isEmpty → TruV X.K v H k := fun ds h1 h2 => by
    obtain ⟨a, vs, rfl, q, rl⟩ := asL_ok o r h1
    refine .inl ⟨vs, q, ?_⟩
    rw [h2]
    cases rl <;> rfl
  cases x with
  | ref i =>
    have h' : (match asL S (.ref i) with
      | some ds => some (!ds.isEmpty)
      | none => none) = some k := h
    split at h'
    · rename_i ds hd; cases h'; exact hL ds hd rfl
    · cases h'
  | val d =>
    cases d with
    | non => cases r; cases h; rfl
    | bl b => cases r; cases h; rfl
    | int i => cases r; cases h; rfl
    | str s =>
      cases r
      have h' : (if szOk s.length then some (s.length != 0) else none) = some k := h
      split at h' <;> cases h'
      rename_i hz
      refine ⟨szOk_line hz, ?_⟩
      rw [Bool.eq_iff_iff, bne_iff_ne, bne_iff_ne]
      omega
    | tup ds =>
      cases r with
      | tup q rl =>
        cases h
        refine .inr (.inl ⟨_, q.seq, ?_⟩)
        cases rl <;> rfl
    | lst ds =>
      have h' : some (!ds.isEmpty) = some k := h
      exact hL ds rfl (by cases h'; rfl)
    | ro ds =>
      have h' : some (!ds.isEmpty) = some k := h
      exact hL ds rfl (by cases h'; rfl)
    | dic ks ds => cases h
    | ins c ns ds => cases h
    | wt ds => cases h
theorem pt_truM (h : PE X a (tM X.K cl W ca)) (he : ∀ whole, isTrue a X.env whole = (do let v ← whole; standAt a.pos; holding [v] (truthy v)) := by intro _; rfl) : PT X a (tMT X.K cl W (cTru ca)) :=
  PT.imp (pt_truth h he) fun σ H Q h => by
  obtain ⟨B, m, S, ρ, o, e, fin⟩ := h
  refine ⟨B, m, S, ρ, o, e, ?_⟩
  unfold cTru at fin
  cases h1 : ca ρ S with
  | bad => rw [h1] at fin; exact fin
  | exc x S1 => rw [h1] at fin; exact fin
  | ok x S1 =>
    rw [h1] at fin
    intro v H1 m1 s1 o1 r1
    have fin : FinT X.K cl B σ H m W (match tru S1 x with
      | some b => .ok (.val (.bl b)) S1
      | none => .bad) Q := fin
    split at fin
    · rename_i k hk
      exact ⟨k, tru_val o1 r1 hk, fin H1 m1 s1 o1⟩
    · exact fin.elim
theorem pm_if {c : Expr} {ct : CE} (hc : PT X c (tMT X.K cl W ct)) (ha : PE X a (tM X.K cl W ca)) (hb : PE X b (tM X.K cl W cb)) : PE X (.IfExp c a b pos) (tM X.K cl W (cIf ct ca cb)) :=
  PE.imp (pe_ifExp hc ha hb) fun σ H Q h => by
  obtain ⟨B, m, S, ρ, o, e, fin⟩ := h
  refine ⟨B, m, S, ρ, o, e, FinT.bindE (f := ca ρ) (g := cb ρ) fin fun S1 H1 m1 s1 o1 => ⟨fun q => ?_, fun q => ?_⟩⟩
  · exact iteT ⟨B, m1, S1, ρ, o1, s1.env o e, q⟩
  · exact iteF ⟨B, m1, S1, ρ, o1, s1.env o e, q⟩
/-- and, or, not as values: of bools -/
theorem Fin.boolOp {B : Addr → Prop} {σ : L2.St} {H : Hp} {m : List Addr} {r : Res} {f g : Store → Res} {Q : VK} {R : Bool → Hp → Prop}
    (h : Fin X.K cl B σ H m W (r.bind fun x S1 => match x with
      | .val (.bl true) => f S1
      | .val (.bl false) => g S1
      | _ => .bad) Q)
    (k : ∀ S' H' m', Step H m H' m' → Ok X.K cl B H' m' S' → (Fin X.K cl B σ H' m' W (f S') Q → R true H') ∧ (Fin X.K cl B σ H' m' W (g S') Q → R false H')) : Fin X.K cl B σ H m W r fun x H1 => ∃ c, x = .bl c ∧ R c H1 := by
  have := FinT.bindE h k
  exact this.of
theorem pm_and (ha : PE X a (tM X.K cl W ca)) (hb : PE X (.BoolOp .And (b :: rest) pos) (tM X.K cl W cb)) : PE X (.BoolOp .And (a :: b :: rest) pos) (tM X.K cl W (cAnd ca cb)) :=
  PE.imp (pe_and ha hb) fun σ H Q h => by
  obtain ⟨B, m, S, ρ, o, e, fin⟩ := h
  refine ⟨B, m, S, ρ, o, e, ?_⟩
  refine Fin.boolOp (f := cb ρ) (g := cB false ρ) fin fun S1 H1 m1 s1 o1 => ⟨fun q => ?_, fun q => ?_⟩
  · exact iteT ⟨B, m1, S1, ρ, o1, s1.env o e, q⟩
  · exact iteF (q.here o1 (.bl false))
theorem pm_one {op} (ha : PE X a (tM X.K cl W ca)) : PE X (.BoolOp op [a] pos) (tM X.K cl W ca) := pe_one ha
theorem pm_not (ha : PE X a (tM X.K cl W ca)) : PE X (.UnaryOp .Not a pos) (tM X.K cl W (cNot ca)) :=
  PE.imp (pe_not ha) fun σ H Q h => by
  obtain ⟨B, m, S, ρ, o, e, fin⟩ := h
  refine ⟨B, m, S, ρ, o, e, ?_⟩
  refine Fin.boolOp (f := cB false ρ) (g := cB true ρ) fin fun S1 H1 m1 s1 o1 => ⟨fun q => ?_, fun q => ?_⟩
  · exact q.here o1 (.bl false)
  · exact q.here o1 (.bl true)
end
end T3
namespace T3
open PySem PySem.Spec PyProof.Rows L2
mutual
noncomputable def toP : D → PyData
  | .non => .none
  | .bl b => .bool b
  | .int i => .int i
  | .str s => .str s
  | .tup xs => .tuple (toPL xs)
  | .lst xs => .list (toPL xs)
  | .ro xs => .list (toPL xs)
  | .wt _ => .none
  | .dic _ _ => .none
  | .ins _ _ _ => .none
noncomputable def toPL : List D → List PyData
  | [] => []
  | x :: r => toP x :: toPL r
end
mutual
/-- data of nones, bools, ints, texts, lists, tuples -/
noncomputable def dOk : D → Bool
  | .str s => PySem.PyData.strOk s
  | .tup xs => dOkL xs
  | .lst xs => dOkL xs
  | .ro xs => dOkL xs
  | .dic _ _ => false
  | .ins _ _ _ => false
  | .wt _ => false
  | _ => true
noncomputable def dOkL : List D → Bool
  | [] => true
  | x :: r => dOk x && dOkL r
end
mutual
noncomputable def dDep : D → Nat
  | .tup xs => dDepL xs + 1
  | .lst xs => dDepL xs + 1
  | .ro xs => dDepL xs + 1
  | _ => 0
noncomputable def dDepL : List D → Nat
  | [] => 0
  | x :: r => max (dDep x) (dDepL r)
end
mutual
noncomputable def dEq : D → D → Bool
  | .non, .non => true
  | .bl a, .bl b => a == b
  | .bl a, .int j => (if a then 1 else 0) == j
  | .int i, .bl b => i == (if b then 1 else 0)
  | .int i, .int j => i == j
  | .str x, .str y => x == y
  | .tup xs, .tup ys => dEqL xs ys
  | .lst xs, .lst ys => dEqL xs ys
  | .lst xs, .ro ys => dEqL xs ys
  | .ro xs, .lst ys => dEqL xs ys
  | .ro xs, .ro ys => dEqL xs ys
  | _, _ => false
noncomputable def dEqL : List D → List D → Bool
  | [], [] => true
  | x :: xs, y :: ys => dEq x y && dEqL xs ys
  | _, _ => false
end
mutual
theorem dEq_toP : ∀ {d e : D}, dOk d = true → dOk e = true → PyData.eqv (toP d) (toP e) = dEq d e
  | .non, e, _, he => by cases e <;> first | rfl | cases he
  | .bl b, e, _, he => by cases e <;> first | rfl | cases he
  | .int b, e, _, he => by cases e <;> first | rfl | cases he
  | .str b, e, _, he => by cases e <;> first | rfl | cases he
  | .tup xs, e, hd, he => by cases e <;> first | rfl | cases he | exact dEqL_toP hd he
  | .lst xs, e, hd, he => by cases e <;> first | rfl | cases he | exact dEqL_toP hd he
  | .ro xs, e, hd, he => by cases e <;> first | rfl | cases he | exact dEqL_toP hd he
  | .wt _, _, hd, _ => by cases hd
  | .dic _ _, _, hd, _ => by cases hd
  | .ins _ _ _, _, hd, _ => by cases hd
theorem dEqL_toP : ∀ {ds es : List D}, dOkL ds = true → dOkL es = true → PyData.eqvAll (toPL ds) (toPL es) = dEqL ds es
  | [], [], _, _ => rfl
  | [], _ :: _, _, _ => rfl
  | _ :: _, [], _, _ => rfl
  | d :: ds, e :: es, hd, he => by
    simp only [dOkL, Bool.and_eq_true] at hd he
    show (PyData.eqv (toP d) (toP e) && PyData.eqvAll (toPL ds) (toPL es)) = (dEq d e && dEqL ds es)
    rw [dEq_toP hd.1 he.1, dEqL_toP hd.2 he.2]
end
mutual
theorem canLay_toP : ∀ {d : D}, dOk d = true → PyData.canLay0 (toP d) = true
  | .non, _ => rfl
  | .bl b, _ => rfl
  | .int b, _ => rfl
  | .str b, h => h
  | .tup xs, h => canLayL_toP (ds := xs) h
  | .lst xs, h => canLayL_toP (ds := xs) h
  | .ro xs, h => canLayL_toP (ds := xs) h
  | .wt _, h => by cases h
  | .dic _ _, h => by cases h
  | .ins _ _ _, h => by cases h
theorem canLayL_toP : ∀ {ds : List D}, dOkL ds = true → PyData.canLayAll0 (toPL ds) = true
  | [], _ => rfl
  | d :: ds, h => by
    simp only [dOkL, Bool.and_eq_true] at h
    show (PyData.canLay0 (toP d) && PyData.canLayAll0 (toPL ds)) = true
    rw [canLay_toP h.1, canLayL_toP h.2]
    rfl
end
mutual
theorem depth_toP : ∀ {d : D}, dOk d = true → PyData.depth (toP d) = dDep d
  | .non, _ => rfl
  | .bl b, _ => rfl
  | .int b, _ => rfl
  | .str b, h => rfl
  | .tup xs, h => congrArg (· + 1) (depthL_toP (ds := xs) h)
  | .lst xs, h => congrArg (· + 1) (depthL_toP (ds := xs) h)
  | .ro xs, h => congrArg (· + 1) (depthL_toP (ds := xs) h)
  | .wt _, h => by cases h
  | .dic _ _, h => by cases h
  | .ins _ _ _, h => by cases h
theorem depthL_toP : ∀ {ds : List D}, dOkL ds = true → PyData.depthAll (toPL ds) = dDepL ds
  | [], _ => rfl
  | d :: ds, h => by
    simp only [dOkL, Bool.and_eq_true] at h
    show max (PyData.depth (toP d)) (PyData.depthAll (toPL ds)) = max (dDep d) (dDepL ds)
    rw [depth_toP h.1, depthL_toP h.2]
end
noncomputable def shp (d : D) : Bool := dOk d && decide (dDep d ≤ 60)
theorem shp_shaped {d : D} (h : shp d = true) : SeqAt.shaped (toP d) = true := by
  simp only [shp, Bool.and_eq_true, decide_eq_true_eq] at h
  simp only [SeqAt.shaped, Bool.and_eq_true, decide_eq_true_eq]
  exact ⟨canLay_toP h.1, by rw [depth_toP h.1]; omega⟩
theorem shp_ok {d : D} (h : shp d = true) : dOk d = true := by
  simp only [shp, Bool.and_eq_true] at h
  exact h.1
/-- a value as it stands -/
noncomputable def cur (S : Store) : A → Option D
  | .val d => some d
  | .ref i => match S[i]? with
    | some (.lst ds) => some (.lst ds)
    | some (.dic ks ds) => some (.dic ks ds)
    | _ => none
section
variable {K : PySem.W.Frag} {cl : ClT} {N : Addr → Prop} {B : Addr → Prop} {H : Hp} {m : List Addr} {S : Store}
noncomputable abbrev N0 : Addr → Prop := fun _ => False
theorem cur_ok (o : Ok K cl B H m S) {v : V} {x : A} {d : D} (r : RepA K cl (NN B m) H m v x) (h : cur S x = some d) : Rep K cl N0 H v d := by
  cases x with
  | val e => cases h; exact Rep.weak (fun _ z => z.elim) r
  | ref i =>
    obtain ⟨a, ha, rfl⟩ := r
    simp only [cur] at h
    split at h <;> cases h
    · rename_i hs
      obtain ⟨xs, e, q⟩ := o.obj i a _ ha hs
      exact .lst e (fun z => z) (q.weak fun _ z => z.elim)
    · rename_i hs
      obtain ⟨xs, e, l, q⟩ := o.obj i a _ ha hs
      exact .dic e (fun z => z) l (q.weak fun _ z => z.elim)
mutual
theorem Dp.of : ∀ {v : V} {d : D}, Rep K cl N H v d → dOk d = true → Dp K H v (toP d)
  | _, _, .non, _ => .non
  | _, _, .bl b, _ => .bl b
  | _, _, .int b, _ => .int b
  | _, _, .str b, _ => .str b
  | _, _, .tup t r, h => .tup t.seq (DpAll.of r h)
  | _, _, .lst e n r, h => .lst (.of e) (DpAll.of r h)
  | _, _, .ro e r, h => .lst e.seq (DpAll.of r h)
  | _, _, .dic _ _ _ _, h => by cases h
  | _, _, .ins _ _, h => by cases h
  | _, _, .wt _ _ _, h => by cases h
theorem DpAll.of : ∀ {vs : List V} {ds : List D}, RepL K cl N H vs ds → dOkL ds = true → DpAll K H vs (toPL ds)
  | _, _, .nil, _ => .nil
  | _, _, .cons (d := d) (ds := ds) t r, h => by
    have h' : dOk d = true ∧ dOkL ds = true := by simpa only [dOkL, Bool.and_eq_true] using h
    exact .cons (Dp.of t h'.1) (DpAll.of r h'.2)
end
end
noncomputable def fEq0 (x y : A) (S : Store) : Res := match cur S x, cur S y with
  | some d, some e => if shp d && shp e then .ok (.val (.bl (dEq d e))) S else .bad
  | _, _ => .bad
noncomputable def fEq (x y : A) (S : Store) : Res := match x, y with
  | .val (.str a), .val (.str b) => .ok (.val (.bl (a == b))) S
  | x, y => fEq0 x y S
noncomputable def fNe0 (x y : A) (S : Store) : Res := match cur S x, cur S y with
  | some d, some e => if shp d && shp e then .ok (.val (.bl (!dEq d e))) S else .bad
  | _, _ => .bad
noncomputable def fNe (x y : A) (S : Store) : Res := match x, y with
  | .val (.str a), .val (.str b) => .ok (.val (.bl (!(a == b)))) S
  | x, y => fNe0 x y S
/-- two ints -/
noncomputable def fI2 (c : Int → Int → Bool) (g : Int → Int → D) (x y : A) (S : Store) : Res := match x, y with
  | .val (.int i), .val (.int j) => if c i j then .ok (.val (g i j)) S else .bad
  | _, _ => .bad
noncomputable abbrev yes2 : Int → Int → Bool := fun _ _ => true
noncomputable abbrev fSub := fI2 yes2 fun i j => .int (i - j)
noncomputable abbrev fMod := fI2 (fun _ j => decide (0 < j)) fun i j => .int (i % j)
noncomputable abbrev fFdv := fI2 (fun _ j => decide (0 < j) && decide (j < 1073741824)) fun i j => .int (i / j)
noncomputable abbrev fPow := fI2 (fun i j => decide (0 ≤ j) && decide (j ≤ 1000000) && decide (i.natAbs < 2 ^ 64)) fun i j => .int (i ^ j.toNat)
noncomputable abbrev fLt := fI2 yes2 fun i j => .bl (decide (i < j))
noncomputable abbrev fLe := fI2 yes2 fun i j => .bl (decide (i ≤ j))
noncomputable abbrev fGt := fI2 yes2 fun i j => .bl (decide (j < i))
noncomputable abbrev fGe := fI2 yes2 fun i j => .bl (decide (j ≤ i))
noncomputable def fAdd (fr : Bool) (x y : A) (S : Store) : Res := match x, y with
  | .val (.int i), .val (.int j) => .ok (.val (.int (i + j))) S
  | .val (.str a), .val (.str b) => if szOk (a.length + b.length) then .ok (.val (.str (a ++ b))) S else .bad
  | .val (.tup a), .val (.tup b) => if szOk (a.length + b.length) then .ok (.val (.tup (a ++ b))) S else .bad
  | x, y => match asM S x, asM S y with
    | some a, some b => if szOk (a.length + b.length) then mkL fr (a ++ b) S else .bad
    | _, _ => .bad
noncomputable def mulOk (i j : Int) : Bool := (decide (-18446744073709551616 < i) && decide (i < 18446744073709551616)) || (decide (-18446744073709551616 < j) && decide (j < 18446744073709551616))
noncomputable def fMul (fr : Bool) (x y : A) (S : Store) : Res := match x, y with
  | .val (.int i), .val (.int j) => if mulOk i j then .ok (.val (.int (i * j))) S else .bad
  | .val (.tup a), .val (.int k) => if decide (k = 1) then .ok (.val (.tup a)) S else if !a.isEmpty && decide (2 ≤ k) && decide (k ≤ 1000) && decide (a.length ≤ 1000) then .ok (.val (.tup (List.replicate k.toNat a).flatten)) S else .bad
  | x, .val (.int k) => match asM S x with
    | some a => if decide (-1000000 ≤ k) && decide (k ≤ 1000000) && szOk (a.length * k.toNat) then mkL fr (List.replicate k.toNat a).flatten S else .bad
    | none => .bad
  | _, _ => .bad
section
variable {X : Cx} {cl : ClT}
theorem ok_eq0 : OpOk X.K cl (rEqD X.K) fEq0 := by
  intro B H m S σ W v w x y Q o rx ry h
  unfold fEq0 at h
  split at h
  · rename_i d e hd he
    split at h
    · rename_i hs
      simp only [Bool.and_eq_true] at hs
      have rd := cur_ok o rx hd
      have re := cur_ok o ry he
      refine ⟨_, _, Dp.of rd (shp_ok hs.1), Dp.of re (shp_ok hs.2), shp_shaped hs.1, shp_shaped hs.2, ?_⟩
      rw [dEq_toP (shp_ok hs.1) (shp_ok hs.2)]
      exact h.here o (.bl _)
    · exact h.elim
  · exact h.elim
theorem ok_ne0 : OpOk X.K cl (rNeD X.K) fNe0 := by
  intro B H m S σ W v w x y Q o rx ry h
  unfold fNe0 at h
  split at h
  · rename_i d e hd he
    split at h
    · rename_i hs
      simp only [Bool.and_eq_true] at hs
      have rd := cur_ok o rx hd
      have re := cur_ok o ry he
      refine ⟨_, _, Dp.of rd (shp_ok hs.1), Dp.of re (shp_ok hs.2), shp_shaped hs.1, shp_shaped hs.2, ?_⟩
      rw [dEq_toP (shp_ok hs.1) (shp_ok hs.2)]
      exact h.here o (.bl _)
    · exact h.elim
  · exact h.elim
noncomputable def rEqM (K : PySem.W.Frag) : R2 := fun x y H Q => rEqD K x y H Q ∨ rEq x y H Q
noncomputable def rNeM (K : PySem.W.Frag) : R2 := fun x y H Q => rNeD K x y H Q ∨ rNe x y H Q
theorem op_eqM (hu : X.A.units + 64 < cLine) : OpR X (compareOp .Eq) (rEqM X.K) := OpR.or (op_eqD hu) op_eq
theorem op_neM (hu : X.A.units + 64 < cLine) : OpR X (compareOp .NotEq) (rNeM X.K) := OpR.or (op_neD hu) op_ne
theorem dec_str {a b : Str} : decide (V.str a = V.str b) = (a == b) := by
  rw [Bool.eq_iff_iff]
  simp
theorem ok_eq : OpOk X.K cl (rEqM X.K) fEq := by
  intro B H m S σ W v w x y Q o rx ry h
  unfold fEq at h
  split at h
  · cases rx; cases ry
    refine .inr ⟨rfl, ?_⟩
    rw [dec_str]
    exact h.here o (.bl _)
  · exact .inl (ok_eq0 o rx ry h)
theorem ok_ne : OpOk X.K cl (rNeM X.K) fNe := by
  intro B H m S σ W v w x y Q o rx ry h
  unfold fNe at h
  split at h
  · cases rx; cases ry
    refine .inr ⟨rfl, ?_⟩
    rw [dec_str]
    exact h.here o (.bl _)
  · exact .inl (ok_ne0 o rx ry h)
theorem ok_i2 {K : PySem.W.Frag} {C : Int → Int → Prop} {c : Int → Int → Bool} {g : Int → Int → D} {gV : Int → Int → V} (hc : ∀ i j, c i j = true → C i j) (hg : ∀ i j N H, Rep K cl N H (gV i j) (g i j)) : OpOk K cl (rI C gV) (fI2 c g) := by
  intro B H m S σ W v w x y Q o rx ry h
  unfold fI2 at h
  split at h
  · rename_i i j
    cases rx
    cases ry
    split at h
    · rename_i hz
      exact ⟨i, j, rfl, rfl, hc i j hz, h.here o (x := .val _) (hg i j _ _)⟩
    · exact h.elim
  · exact h.elim
theorem ok_i20 {K : PySem.W.Frag} {g : Int → Int → D} {gV : Int → Int → V} (hg : ∀ i j N H, Rep K cl N H (gV i j) (g i j)) : OpOk K cl (rI0 gV) (fI2 yes2 g) := by
  intro B H m S σ W v w x y Q o rx ry h
  unfold fI2 at h
  split at h
  · rename_i i j
    cases rx
    cases ry
    exact ⟨i, j, rfl, rfl, Fin.here h o (x := .val _) (hg i j _ _)⟩
  · exact h.elim
end
end T3
namespace T3
open PySem PySem.Spec PyProof.Rows L2
section
variable {X : Cx} {cl : ClT} {W : WX}
noncomputable def rAdd (K : PySem.W.Frag) : R2 := fun x y H Q => (rI0 (fun i j => .int (i + j)) x y H Q ∨ (∃ i j, x = .str i ∧ y = .str j ∧ i.length + j.length ≤ sizeLine ∧ Q (.str (i ++ j)) H)) ∨ (rCatZ K x y H Q ∨ rCat x y H Q)
theorem op_addM : OpR X (binaryOp .Add) (rAdd X.K) := OpR.or (OpR.or op_add op_add_str) (OpR.or op_catZ op_cat)
theorem ok_add (fr : Bool) : OpOk X.K cl (rAdd X.K) (fAdd fr) := by
  intro B H m S σ W v w x y Q o rx ry h
  have hL : (∃ a b, asM S x = some a ∧ asM S y = some b ∧ szOk (a.length + b.length) = true ∧ Fin X.K cl B σ H m W (mkL fr (a ++ b) S) Q) → rAdd X.K v w H Q := by
    rintro ⟨a, b, ha, hb, hz, q⟩
    obtain ⟨p, xs, rfl, e1, r1⟩ := asM_ok o rx ha
    obtain ⟨p2, ys, rfl, e2, r2⟩ := asM_ok o ry hb
    refine .inr (.inr ⟨p, p2, xs, ys, rfl, rfl, e1, e2, by rw [r1.length, r2.length]; exact szOk_line hz, fun z hz => mkL_ok o (r1.append r2) hz q⟩)
  unfold fAdd at h
  split at h
  · rename_i i j
    cases rx; cases ry
    exact .inl (.inl ⟨i, j, rfl, rfl, h.here o (.int _)⟩)
  · rename_i i j
    cases rx; cases ry
    split at h
    · rename_i hz
      exact .inl (.inr ⟨i, j, rfl, rfl, szOk_line hz, h.here o (.str _)⟩)
    · exact h.elim
  · rename_i a b
    obtain ⟨p, xs, rfl, e1, r1⟩ := asT_ok (x := .val (.tup a)) rx rfl
    obtain ⟨p2, ys, rfl, e2, r2⟩ := asT_ok (x := .val (.tup b)) ry rfl
    split at h
    · rename_i hz
      refine .inr (.inl ⟨p, p2, xs, ys, rfl, rfl, e1, e2, by rw [r1.length, r2.length]; exact szOk_line hz, fun e => ?_, fun e1 e2 => ?_, fun _ _ => ?_⟩)
      · subst e; cases r1; exact h.here o ry
      · subst e2; cases r2; rw [List.append_nil] at h; exact h.here o rx
      · exact mkT_ok o (r1.append r2) h
    · exact h.elim
  · split at h
    · rename_i a b ha hb
      split at h
      · rename_i hz
        exact hL ⟨a, b, ha, hb, hz, h⟩
      · exact h.elim
    · exact h.elim
theorem repL_rep {K : PySem.W.Frag} {N : Addr → Prop} {H : Hp} {vs : List V} {ds : List D} (r : RepL K cl N H vs ds) : ∀ n : Nat, RepL K cl N H (List.replicate n vs).flatten (List.replicate n ds).flatten
  | 0 => .nil
  | n + 1 => by rw [List.replicate_succ, List.replicate_succ, List.flatten_cons, List.flatten_cons]; exact r.append (repL_rep r n)
/-- t * 1 is t -/
theorem tuple_mulOne (l : Addr) (items : Array Value) (n : Nat) (sl : Array (Option Value)) (dd : Option Addr) (u : Tok) :
    Meets (Builtin.«tuple.__mul__» ⟨[.ref l, .int 1 u], []⟩) (fun _ R s => s.heap.get? l = some { cls := .type "tuple", dict := dd, data := .seq items n, slots := sl } ∧ R (.ok (.ret (Value.ref l))) s) :=
  .of_wp fun prog w A R s h => by
    obtain ⟨hp, g, d, tk, os⟩ := s
    obtain ⟨hl, h⟩ := h
    have f1 := AutoSeq1.idx_int
    have c0 : (decide ((1 : Int) < -(2 ^ 63)) || decide ((1 : Int) ≥ 2 ^ 63)) = false := by decide
    have c1 : (items.isEmpty || (1 : Int) == 1) = true := by rw [Bool.or_eq_true]; exact .inr rfl
    wp_walk using wpAny_loadPart' hl
    repeat (first
      | (refine wpAny_ite_false (decide_eq_false (by rw [c0]; exact Bool.false_ne_true)) ?_; wp_walk using wpAny_loadPart' hl)
      | (refine wpAny_ite_true (decide_eq_true (by rw [c1])) ?_; wp_walk using wpAny_loadPart' hl))
    exact ⟨_, rfl, h⟩
noncomputable def rRepOne (K : PySem.W.Frag) : R2 := fun x y H Q => ∃ l xs, x = .ref l ∧ y = .int 1 ∧ SqT K H l xs ∧ Q (.ref l) H
theorem op_repOne : OpR X (binaryOp .Mult) (rRepOne X.K) := by
  intro pins s σ H x y v u Q I rx ry h
  obtain ⟨l, xs, rfl, rfl, hT, q⟩ := h
  cases rx
  obtain ⟨t, rfl⟩ := ry
  obtain ⟨its, r, ⟨⟨cls, dd, data, sl⟩, ho, hc, n, hd⟩, hs⟩ := I.tuple hT
  simp only at hc hd
  subst hc hd
  exact wpAny_binaryOp_repeat_ref (T := "tuple") (U := "int") (by decide) ⟨_, ho, rfl⟩ (fun s' => typeIs_int s' 1 t) noFill_tuple_mul F.fills_int_mul F.slot_int_rmul repeat_tuple F.slot_int_index.lookup
    (call_meets F.slot_int_rmul (typeIs_int s 1 t) F.entry_int_rmul (F.args_int_rmul_2 _ _) (int_rmul_tuple 1 t l its.toArray n dd sl)
      ⟨ho, rfl, ⟨_, ho, rfl⟩, call_meets F.slot_tuple_mul ⟨_, ho, rfl⟩ F.entry_tuple_mul (F.args_tuple_mul_2 _ _) (tuple_mulOne l its.toArray n sl dd t) ⟨ho, ⟨.ref l, H, I, rfl, q⟩⟩⟩)
noncomputable def rMulM (K : PySem.W.Frag) : R2 := fun x y H Q => rI CMul (fun i j => .int (i * j)) x y H Q ∨ (rRepZ K x y H Q ∨ (rRepOne K x y H Q ∨ rRep x y H Q))
theorem op_mulM : OpR X (binaryOp .Mult) (rMulM X.K) := OpR.or op_mul (OpR.or op_repZ (OpR.or op_repOne op_rep))
theorem mulOk_ok {i j : Int} (h : mulOk i j = true) : CMul i j := by
  simp only [mulOk, Bool.or_eq_true, Bool.and_eq_true, decide_eq_true_eq] at h
  rcases h with h | h
  · exact .inl h
  · exact .inr h
theorem ok_mul (fr : Bool) : OpOk X.K cl (rMulM X.K) (fMul fr) := by
  intro B H m S σ W v w x y Q o rx ry h
  unfold fMul at h
  split at h
  · rename_i i j
    cases rx; cases ry
    split at h
    · rename_i hz
      exact .inl ⟨i, j, rfl, rfl, mulOk_ok hz, h.here o (.int _)⟩
    · exact h.elim
  · rename_i a k
    cases ry
    obtain ⟨p, xs, rfl, e1, r1⟩ := asT_ok (x := .val (.tup a)) rx rfl
    split at h
    · rename_i hk
      have hk : k = 1 := of_decide_eq_true hk
      subst hk
      exact .inr (.inr (.inl ⟨p, xs, rfl, rfl, e1, h.here o rx⟩))
    split at h
    · rename_i hz
      simp only [Bool.and_eq_true, decide_eq_true_eq, Bool.not_eq_true', List.isEmpty_eq_false_iff] at hz
      obtain ⟨⟨⟨h1, h2⟩, h3⟩, h4⟩ := hz
      refine .inr (.inl ⟨p, k, xs, rfl, rfl, e1, fun e => ?_, h2, h3, by rw [r1.length]; exact h4, mkT_ok o (repL_rep r1 _) h⟩)
      subst e; cases r1; exact h1 rfl
    · exact h.elim
  · rename_i k _ _
    cases ry
    split at h
    · rename_i a ha
      split at h
      · rename_i hz
        simp only [Bool.and_eq_true, decide_eq_true_eq] at hz
        obtain ⟨⟨h1, h2⟩, h3⟩ := hz
        obtain ⟨p, xs, rfl, e1, r1⟩ := asM_ok o rx ha
        refine .inr (.inr (.inr ⟨p, k, xs, rfl, rfl, e1, by omega, by omega, by rw [r1.length]; exact szOk_line h3, fun z hz => mkL_ok o (repL_rep r1 _) hz h⟩))
      · exact h.elim
    · exact h.elim
  · exact h.elim
noncomputable def fIx (x y : A) (S : Store) : Res := match y with
  | .val (.int i) => (match x with
    | .val (.str s) => if szOk s.length then (match (ixN s.cps.toList.length i).bind fun j => s.cps.toList[j]? with
      | some c => .ok (.val (.str ⟨#[c]⟩)) S
      | none => .bad) else .bad
    | .val (.tup ds) => (match (ixN ds.length i).bind fun j => ds[j]? with
      | some d => .ok (.val d) S
      | none => .bad)
    | x => match asL S x with
      | some ds => (match (ixN ds.length i).bind fun j => ds[j]? with
        | some d => .ok (.val d) S
        | none => .bad)
      | none => .bad)
  | _ => .bad
theorem at_ok {K : PySem.W.Frag} {N : Addr → Prop} {H : Hp} {vs : List V} {ds : List D} {i : Int} {d : D} (r : RepL K cl N H vs ds) (h : ((ixN ds.length i).bind fun j => ds[j]?) = some d) : ∃ v, atI vs i = some v ∧ Rep K cl N H v d := by
  unfold atI
  rw [r.length]
  cases e : ixN ds.length i with
  | none => rw [e] at h; cases h
  | some j =>
    rw [e] at h
    obtain ⟨v, h1, h2⟩ := r.got (i := j) (d := d) h
    exact ⟨v, h1, h2⟩
theorem ok_ix : OpOk X.K cl (rIx X.K) fIx := by
  intro B H m S σ W v w x y Q o rx ry h
  have hL : ∀ (i : Int) ds d, w = .int i → asL S x = some ds → ((ixN ds.length i).bind fun j => ds[j]?) = some d → Fin X.K cl B σ H m W (.ok (.val d) S) Q → rIx X.K v w H Q := by
    rintro i ds d rfl h1 h2 q
    obtain ⟨p, xs, rfl, e1, r1⟩ := asL_ok o rx h1
    obtain ⟨u, a1, a2⟩ := at_ok r1 h2
    exact .inl ⟨p, xs, i, u, rfl, rfl, e1, a1, q.here o a2⟩
  unfold fIx at h
  split at h
  · rename_i i
    cases ry
    split at h
    · rename_i s
      cases rx
      split at h
      · rename_i hz
        split at h
        · rename_i c hc
          exact .inr (.inr ⟨s, i, c, rfl, rfl, szOk_line hz, hc, h.here o (.str _)⟩)
        · exact h.elim
      · exact h.elim
    · rename_i ds
      obtain ⟨p, xs, rfl, e1, r1⟩ := asT_ok (x := .val (.tup ds)) rx rfl
      split at h
      · rename_i d hd
        obtain ⟨u, a1, a2⟩ := at_ok r1 hd
        exact .inr (.inl ⟨p, xs, i, u, rfl, rfl, e1, a1, h.here o a2⟩)
      · exact h.elim
    · split at h
      · rename_i ds hds
        split at h
        · rename_i d hd
          exact hL i ds d rfl hds hd h
        · exact h.elim
      · exact h.elim
  · exact h.elim
noncomputable def cutD (ds : List D) (lo hi : Option Int) : List D := (ds.drop (HT.sIx ds.length 0 lo)).take (HT.sIx ds.length ds.length hi - HT.sIx ds.length 0 lo)
noncomputable def withO (c : Option CE) (ρ : Slots) (S : Store) (f : Option Int → Store → Res) : Res := match c with
  | none => f none S
  | some c => (c ρ S).bind fun x S1 => match x with
    | .val (.int i) => f (some i) S1
    | _ => .bad
noncomputable def slD (fr : Bool) (x : A) (l u : Option Int) (S : Store) : Res := match x with
  | .val (.str s) => if szOk s.length then .ok (.val (.str (cutS s l u))) S else .bad
  | .val (.tup ds) => .ok (.val (.tup (cutD ds l u))) S
  | x => match asL S x with
    | some ds => mkL fr (cutD ds l u) S
    | none => .bad
noncomputable def cSl (fr : Bool) (c : CE) (lo hi : Option CE) : CE := fun ρ S => (c ρ S).bind fun x S1 => withO lo ρ S1 fun l S2 => withO hi ρ S2 fun u S3 => slD fr x l u S3
noncomputable def tO (K : PySem.W.Frag) (cl : ClT) (W : WX) : Option CE → TO
  | none => tNoPart
  | some c => tPart (tM K cl W c)
theorem withO_ok {B : Addr → Prop} {σ : L2.St} {H : Hp} {m : List Addr} {ρ : Slots} {S : Store} {f : Option Int → Store → Res} {Q : VK} {R : Option Int → Hp → Prop} {c : Option CE} (o : Ok X.K cl B H m S) (e : EnvOk X.K cl (NN B m) H m σ ρ)
    (h : Fin X.K cl B σ H m W (withO c ρ S f) Q) (k : ∀ l S' H' m', Step H m H' m' → Ok X.K cl B H' m' S' → EnvOk X.K cl (NN B m') H' m' σ ρ → Fin X.K cl B σ H' m' W (f l S') Q → R l H') : tO X.K cl W c σ H R := by
  cases c with
  | none => exact k none S H m Step.refl o e h
  | some c =>
    refine ⟨B, m, S, ρ, o, e, Fin.bind h fun x S1 v H1 m1 s1 o1 r1 f1 => ?_⟩
    split at f1
    · rename_i i
      cases r1
      exact ⟨i, rfl, k (some i) S1 H1 m1 s1 o1 (s1.env o e) f1⟩
    · exact f1.elim
theorem po_n : PO X none (tO X.K cl W none) := po_none
theorem po_e {e : Expr} {c : CE} (h : PE X e (tM X.K cl W c)) : PO X (some e) (tO X.K cl W (some c)) := po_some h
noncomputable def rSlM (K : PySem.W.Frag) : V → Option Int → Option Int → Hp → VK → Prop := fun x l u H Q => rSlZ K x l u H Q ∨ (rSlL K x l u H Q ∨ rSlS x l u H Q)
theorem sl_M : SlR X (rSlM X.K) := SlR.or sl_tupZ (SlR.or sl_list sl_str)
theorem cut_ok {K : PySem.W.Frag} {N : Addr → Prop} {H : Hp} {vs : List V} {ds : List D} {l u : Option Int} (r : RepL K cl N H vs ds) : RepL K cl N H (cutV vs l u) (cutD ds l u) := by
  unfold cutV cutD
  rw [r.length]
  exact (r.drop _).take _
theorem cutD_all {ds : List D} {l u : Option Int} (h : HT.sIx ds.length 0 l = 0 ∧ HT.sIx ds.length ds.length u = ds.length) : cutD ds l u = ds := by
  unfold cutD
  rw [h.1, h.2, List.drop_zero, Nat.sub_zero, List.take_length]
theorem pm_slice (fr : Bool) {e : Expr} {lo hi : Option Expr} {c : CE} {cl1 ch : Option CE} {pos p2 : Pos} (he : PE X e (tM X.K cl W c)) (hl : PO X lo (tO X.K cl W cl1)) (hu : PO X hi (tO X.K cl W ch)) :
    PE X (.Subscript e (.Slice lo hi none p2) pos) (tM X.K cl W (cSl fr c cl1 ch)) := PE.imp (pe_slice sl_M he hl hu) fun σ H Q h => by
  obtain ⟨B, m, S, ρ, o, e, fin⟩ := h
  refine ⟨B, m, S, ρ, o, e, Fin.bind fin fun x S1 v H1 m1 s1 o1 r1 f1 => ?_⟩
  refine withO_ok o1 (s1.env o e) f1 fun l S2 H2 m2 s2 o2 e2 f2 => ?_
  refine withO_ok o2 e2 f2 fun u S3 H3 m3 s3 o3 e3 f3 => ?_
  have r3 := s3.rep o2 (s2.rep o1 r1)
  unfold slD at f3
  split at f3
  · rename_i s
    cases r3
    split at f3
    · rename_i hz
      exact .inr (.inr ⟨s, rfl, szOk_line hz, f3.here o3 (.str _)⟩)
    · exact f3.elim
  · rename_i ds
    obtain ⟨p, xs, rfl, e1, q1⟩ := asT_ok (x := .val (.tup ds)) r3 rfl
    refine .inl ⟨p, xs, rfl, e1, fun hw => ?_, fun hw => mkT_ok o3 (cut_ok q1) f3⟩
    rw [q1.length] at hw
    rw [cutD_all hw] at f3
    exact f3.here o3 r3
  · split at f3
    · rename_i ds hd
      obtain ⟨p, xs, rfl, e1, q1⟩ := asL_ok o3 r3 hd
      exact .inr (.inl ⟨p, xs, rfl, e1, fun p hp => mkL_ok o3 (cut_ok q1) hp f3⟩)
    · exact f3.elim
end
end T3
namespace T3
open PySem PySem.Spec PyProof.Rows L2
structure FnG (P : Program) (w : World) (K : PySem.W.Frag) (mg : Str → Option Value) (base : Heap) (k : Nat) (f : Addr) (fd : FuncData) (ps : List Str) (sp : Sp) : Prop where
  len : ∀ vs H Q E, sp vs H Q E → vs.length = ps.length
  run : ∀ {A : Around} {outer : List Env} {s : Shared} {H : Hp} {args : Args} {us : List Value} {vs : List V} {Q : VK} {E : XK}, A.guards = some [] → Room k A → Env0 P w K mg base A outer s H → BindsTo s fd args (ps.zip us) → Vals vs us →
    sp vs H Q E → codeAny (model P w) A (.call (.ref f) args) (CR (L2.CX P w) outer P w H s Q E) s
section
variable {P : Program} {w : World} {K : PySem.W.Frag} {mg : Str → Option Value} {base : Heap}
theorem FnG.up {j k : Nat} {f : Addr} {fd : FuncData} {ps : List Str} {sp : Sp} (F : FnG P w K mg base j f fd ps sp) (h : j ≤ k) : FnG P w K mg base k f fd ps sp :=
  ⟨F.len, fun g r => F.run g (r.mono h)⟩
theorem FnG.imp {k : Nat} {f : Addr} {fd : FuncData} {ps : List Str} {sp sp' : Sp} (F : FnG P w K mg base k f fd ps sp) (h : ∀ vs H Q E, sp' vs H Q E → sp vs H Q E) : FnG P w K mg base k f fd ps sp' :=
  ⟨fun _ _ _ _ q => F.len _ _ _ _ (h _ _ _ _ q), fun g r e b v q => F.run g r e b v (h _ _ _ _ q)⟩
theorem guards_deeper {A : Around} {env : Env} (h : A.guards = some []) : (A.deeper env).guards = some [] := by
  first | exact h | (simp only [Around.deeper]; exact h)
theorem binds_kind {N ps : List Str} {sc : Scope} (S : FnScope N ps sc) (n : Nat) (us : List Value) : ∀ y ∈ ps.zip us, sc.names.lookup y.1 = some .local ∨ (sc.names.lookup y.1 = some .cell ∧ ((cellsFrom n sc.names []).lookup y.1).isSome = true) := by
  rintro ⟨x, v⟩ hy
  cases S.par x (List.of_mem_zip hy).1 with
  | inl q => exact .inl q
  | inr q => exact .inr ⟨q, PySem.W.cellsFrom_some _ _ _ (.inl q)⟩
theorem fnG_of {x qual : Str} {st : Stmt} {f : Addr} {fd : FuncData} {N ps : List Str} {k : Nat} {sp : Sp} (F : Fun K x qual st f fd) (S : FnScope N ps (defScope st)) (len : ∀ vs H Q E, sp vs H Q E → vs.length = ps.length)
    (body : ∀ (cdv : Value) (A : Around) (outer : List Env) (s : Shared) (H : Hp) (vs : List V) (Q : VK) (E : XK),
      (A.deeper (envOfC qual (defScope st) s.heap.objs.size f cdv)).guards = some [] → Room k (A.deeper (envOfC qual (defScope st) s.heap.objs.size f cdv)) → sp vs H Q E →
      ∃ t, PSs (cxOf (L2.CX P w) P w K mg base N qual (defScope st) f cdv A outer s H E) (defBody st) t ∧ t { nx := fun _ H' => Q .non H', rt := Q } (start N vs) H) :
    FnG P w K mg base (k + 1) f fd ps sp := by
  obtain ⟨oc, od, kV, doc, pm, an, cdv, ct, osl, rfl, lk, hcd⟩ := F.ex
  constructor
  · exact len
  intro A outer s H args us vs Q E g room e0 hb rv hsp
  have lv := len _ _ _ _ hsp
  have old : ∀ b o, base.get? b = some o → s.heap.get? b = some o := fun b o q => (e0.bs b o q).1
  have kin := e0.mod.kin.keeps old
  refine codeAny_call_function room.depth (kin _ _ lk) rfl S.co S.gen rfl (PySem.W.codeRec_of kin hcd) (hb _ _ _ _ ?_)
  refine wpAny_newFunctionEnv_cells S.kind (binds_kind S _ us) fun env he s1 z => ?_
  cases he
  refine ⟨(e0.mod.nolimit.keeps old).keeps z.toInCall.keep, codeAny_func ?_⟩
  obtain ⟨t, ht, hq⟩ := body cdv A outer s H vs Q E (guards_deeper g) (room.deeper _) hsp
  refine wpAny_mono (ht.run [] s1 (start N vs) H _ (inv_start S room.hd e0 lv rv z) hq) (fun fl s2 q => ?_) fun _ _ q => q
  cases fl with
  | next => exact (let ⟨σ', H', J, q⟩ := q; ⟨V.non, H', J.os, J.bare, J.base, J.hok, rfl, q⟩)
  | ret u => exact (let ⟨v, σ', H', J, r, q⟩ := q; ⟨v, H', J.os, J.bare, J.base, J.hok, r, q⟩)
  | brk => exact (let ⟨_, _, _, q⟩ := q; q.elim)
  | cont => exact (let ⟨_, _, _, q⟩ := q; q.elim)
end
section
variable (K : PySem.W.Frag) (cl : ClT)
noncomputable def FinF (B : Addr → Prop) (H : Hp) (m : List Addr) (r : Res) (Q : VK) (E : XK) : Prop :=
  match r with
  | .ok x S' => ∀ v H' m', Step H m H' m' → Ok K cl B H' m' S' → RepA K cl (NN B m') H' m' v x → Q v H'
  | .exc e S' => ∀ c d H' m', Step H m H' m' → Ok K cl B H' m' S' → ExcAt K cl (NN B m') H' c d e → E c d H'
  | .bad => False
noncomputable def spF (n : Nat) (f : Fn) : Sp := fun vs H Q E => vs.length = n ∧ ∃ B m S xs, Ok K cl B H m S ∧ RepAs K cl (NN B m) H m vs xs ∧ FinF K cl B H m (f xs S) Q E
end
noncomputable def retF : SRes → Res
  | .nx _ S => .ok (.val .non) S
  | .rt x S => .ok x S
  | .exc e _ S => .exc e S
  | _ => .bad
/-- a body as a function: n slots -/
noncomputable def runF (n : Nat) (b : CS) : Fn := fun xs S => retF (b (xs.map some ++ List.replicate (n - xs.length) none) S)
section
variable {P : Program} {w : World} {K : PySem.W.Frag} {mg : Str → Option Value} {base : Heap} {cl : ClT}
theorem RepAs.length {N : Addr → Prop} {H : Hp} {m : List Addr} : ∀ {vs : List V} {xs : List A}, RepAs K cl N H m vs xs → vs.length = xs.length
  | _, _, .nil => rfl
  | _, _, .cons _ r => congrArg (· + 1) r.length
theorem RepAs.got {N : Addr → Prop} {H : Hp} {m : List Addr} : ∀ {vs : List V} {xs : List A} {i : Nat} {x : A}, RepAs K cl N H m vs xs → xs[i]? = some x → ∃ v, vs[i]? = some v ∧ RepA K cl N H m v x
  | _, _, 0, _, .cons h _, e => ⟨_, rfl, by cases e; exact h⟩
  | _, _, i + 1, _, .cons _ r, e => RepAs.got (i := i) r e
theorem env_start {B : Addr → Prop} {N : List Str} {H : Hp} {m : List Addr} {vs : List V} {xs : List A} (r : RepAs K cl (NN B m) H m vs xs) (hl : vs.length ≤ N.length) : EnvOk K cl (NN B m) H m (start N vs) (xs.map some ++ List.replicate (N.length - xs.length) none) := by
  have hx := r.length
  have hs : start N vs = vs.map some ++ List.replicate (N.length - vs.length) none := by
    first | rfl | (unfold start; rfl)
  refine ⟨by rw [hs]; simp [hx], fun i x h => ?_⟩
  have hi : i < xs.length := by
    by_cases hi : i < xs.length
    · exact hi
    · rw [List.getElem?_append_right (by simp; omega)] at h
      have := List.mem_of_getElem? h
      simp at this
  rw [List.getElem?_append_left (by simpa using hi), List.getElem?_map] at h
  cases e : xs[i]? with
  | none => rw [e] at h; cases h
  | some y =>
    rw [e] at h
    cases h
    obtain ⟨v, h1, h2⟩ := r.got e
    exact ⟨v, by rw [hs, List.getElem?_append_left (by simp; omega), List.getElem?_map, h1]; rfl, h2⟩
theorem fnM {x qual : Str} {st : Stmt} {f : Addr} {fd : FuncData} {N ps : List Str} {k : Nat} {b : CS} (F : Fun K x qual st f fd) (S : FnScope N ps (defScope st))
    (body : ∀ (cdv : Value) (A : Around) (outer : List Env) (s : Shared) (H : Hp) (E : XK),
      (A.deeper (envOfC qual (defScope st) s.heap.objs.size f cdv)).guards = some [] → Room k (A.deeper (envOfC qual (defScope st) s.heap.objs.size f cdv)) →
      Takes (cxOf (L2.CX P w) P w K mg base N qual (defScope st) f cdv A outer s H E) (fun c d _ H => E c d H) →
      PSs (cxOf (L2.CX P w) P w K mg base N qual (defScope st) f cdv A outer s H E) (defBody st) (tMS K cl (fun c d _ H => E c d H) b)) :
    FnG P w K mg base (k + 1) f fd ps (spF K cl ps.length (runF N.length b)) := by
  refine fnG_of F S (fun vs H Q E h => h.1) fun cdv A outer s H vs Q E g hr h => ?_
  obtain ⟨hl, B, m, S1, xs, o, r, fin⟩ := h
  have hpl : ps.length ≤ N.length := by have := congrArg List.length S.pre; rw [List.length_take] at this; omega
  refine ⟨_, body cdv A outer s H E g hr (takes_of rfl rfl rfl rfl), ⟨B, m, S1, _, o, env_start r (by omega), ?_⟩⟩
  unfold runF at fin
  have hx := r.length
  cases hb : b (xs.map some ++ List.replicate (N.length - xs.length) none) S1 with
  | bad => rw [hb] at fin; exact fin
  | bk _ _ => rw [hb] at fin; exact fin.elim
  | ct _ _ => rw [hb] at fin; exact fin.elim
  | nx ρ S' => rw [hb] at fin; exact fun σ H' m' s' o' e' => fin V.non H' m' s' o' .non
  | rt x S' => rw [hb] at fin; exact fun v H' m' s' o' r' => fin v H' m' s' o' r'
  | exc e ρ S' => rw [hb] at fin; exact fun c d σ H' m' s' o' e' x' => fin c d H' m' s' o' x'
end
end T3
namespace T3
open PySem PySem.Spec PyProof.Rows L2
noncomputable def refsOf : List A → List Nat
  | [] => []
  | .ref i :: r => i :: refsOf r
  | .val _ :: r => refsOf r
noncomputable def renum : Nat → List A → List A
  | _, [] => []
  | k, .ref _ :: r => .ref k :: renum (k + 1) r
  | k, .val d :: r => .val d :: renum k r
noncomputable def getAll (S : Store) : List Nat → Option Store
  | [] => some []
  | i :: r => match S[i]?, getAll S r with
    | some o, some t => some (o :: t)
    | _, _ => none
noncomputable def putAll : Store → List Nat → Store → Store
  | S, i :: r, o :: t => putAll (S.set i o) r t
  | S, _, _ => S
noncomputable def flatO : O → Bool
  | .ins _ _ zs => (valsOf zs).isSome
  | .tp zs => (valsOf zs).isSome
  | _ => true
noncomputable def frzO : O → Option D
  | .lst ds => some (.lst ds)
  | .dic ks ds => some (.dic ks ds)
  | .ins c ns zs => if c < 999 then (valsOf zs).map fun ds => .ins c ns ds else none
  | .tp _ => none
/-- what a tuple of the callee's holds: values, and new lists of its own -/
noncomputable def frzZ (S : Store) (k : Nat) : List A → Option (List D)
  | [] => some []
  | .val d :: r => (frzZ S k r).map (d :: ·)
  | .ref j :: r => if k ≤ j then (match S[j]? with
    | some (.lst ds) => (frzZ S k r).map (.lst ds :: ·)
    | _ => none) else none
noncomputable def frzR (S : Store) (k : Nat) : O → Option D
  | .tp zs => (frzZ S k zs).map D.tup
  | o => frzO o
@[simp] theorem frzR_lst {S : Store} {k : Nat} {ds : List D} : frzR S k (.lst ds) = some (.lst ds) := rfl
@[simp] theorem frzR_dic {S : Store} {k : Nat} {ks : List Key} {ds : List D} : frzR S k (.dic ks ds) = some (.dic ks ds) := rfl
@[simp] theorem frzR_ins {S : Store} {k c : Nat} {ns : List Str} {zs : List A} : frzR S k (.ins c ns zs) = frzO (.ins c ns zs) := rfl
noncomputable def back (adopt : Bool) (rs : List Nat) (S : Store) (r : Res) : Res := match r with
  | .ok x S1 => if (S1.take rs.length).all flatO && decide (rs.length ≤ S1.length) then (match x with
    | .val d => .ok (.val d) (putAll S rs S1)
    | .ref j => match rs[j]?, S1[j]? with
      | some i, _ => .ok (.ref i) (putAll S rs S1)
      | none, some o => if adopt then (if flatO o then .ok (.ref (putAll S rs S1).length) (putAll S rs S1 ++ [o]) else .bad) else (match frzR S1 rs.length o with
        | some d => .ok (.val d) (putAll S rs S1)
        | none => .bad)
      | none, none => .bad) else .bad
  | .exc e S1 => if (S1.take rs.length).all flatO && decide (rs.length ≤ S1.length) then .exc e (putAll S rs S1) else .bad
  | .bad => .bad
noncomputable def callIn (adopt : Bool) (f : Fn) (xs : List A) (S : Store) : Res :=
  if (refsOf xs).Nodup then (match getAll S (refsOf xs) with
    | some S0 => if S0.all flatO then back adopt (refsOf xs) S (f (renum 0 xs) S0) else .bad
    | none => .bad) else .bad
theorem nodup_at {α : Type} {l : List α} (h : l.Nodup) {i j : Nat} {a : α} (hi : l[i]? = some a) (hj : l[j]? = some a) : i = j := by
  have hp := List.pairwise_iff_getElem.mp h
  obtain ⟨i1, i2⟩ := List.getElem?_eq_some_iff.mp hi
  obtain ⟨j1, j2⟩ := List.getElem?_eq_some_iff.mp hj
  rcases Nat.lt_trichotomy i j with q | q | q
  · exact absurd (i2.trans j2.symm) (hp i j i1 j1 q)
  · exact q
  · exact absurd (j2.trans i2.symm) (hp j i j1 i1 q)
theorem getAll_len {S : Store} : ∀ {rs : List Nat} {t : Store}, getAll S rs = some t → t.length = rs.length
  | [], t, h => by cases h; rfl
  | i :: r, t, h => by
    simp only [getAll] at h
    split at h <;> cases h
    rename_i e1 e2
    simp [getAll_len e2]
theorem getAll_get {S : Store} : ∀ {rs : List Nat} {t : Store}, getAll S rs = some t → ∀ (j : Nat) i, rs[j]? = some i → ∃ o, S[i]? = some o ∧ t[j]? = some o
  | i :: r, t, h, j, k, hj => by
    simp only [getAll] at h
    split at h <;> cases h
    rename_i o' t' e1 e2
    cases j with
    | zero => cases hj; exact ⟨o', e1, rfl⟩
    | succ j => exact getAll_get e2 j k hj
theorem putAll_len : ∀ {rs : List Nat} {S t : Store}, (putAll S rs t).length = S.length
  | [], S, t => by cases t <;> rfl
  | i :: r, S, [] => rfl
  | i :: r, S, o :: t => by show (putAll (S.set i o) r t).length = _; rw [putAll_len, List.length_set]
theorem putAll_out : ∀ {rs : List Nat} {S t : Store} {i : Nat}, i ∉ rs → (putAll S rs t)[i]? = S[i]?
  | [], S, t, i, _ => by cases t <;> rfl
  | k :: r, S, [], i, _ => rfl
  | k :: r, S, o :: t, i, h => by
    show (putAll (S.set k o) r t)[i]? = _
    have hk : k ≠ i := fun z => h (by rw [z]; exact List.mem_cons_self)
    rw [putAll_out fun z => h (List.mem_cons_of_mem _ z), List.getElem?_set_ne hk]
theorem putAll_in : ∀ {rs : List Nat} {S t : Store} {j i : Nat} {o : O}, rs.Nodup → rs[j]? = some i → t[j]? = some o → i < S.length → (putAll S rs t)[i]? = some o
  | k :: r, S, o' :: t, 0, i, o, hn, h1, h2, hl => by
    cases h1
    cases h2
    show (putAll (S.set k o') r t)[k]? = _
    rw [putAll_out (List.nodup_cons.mp hn).1, List.getElem?_set_self hl]
  | k :: r, S, o' :: t, j + 1, i, o, hn, h1, h2, hl => putAll_in (S := S.set k o') (List.nodup_cons.mp hn).2 h1 h2 (by rw [List.length_set]; exact hl)
  | [], _, _, _, _, _, _, h1, _, _ => by simp at h1
  | _ :: _, _, [], _, _, _, _, _, h2, _ => by simp at h2
section
variable {K : PySem.W.Frag} {cl : ClT} {B : Addr → Prop} {H H' : Hp} {m m' : List Addr} {S S1 : Store}
theorem RepAs.flat {N : Addr → Prop} : ∀ {vs : List V} {zs : List A}, RepAs K cl N H m vs zs → (valsOf zs).isSome = true → RepAs K cl N H m' vs zs
  | _, _, .nil, _ => .nil
  | _, _, .cons (x := .val d) h r, hz => .cons h (RepAs.flat r (by
      cases e : valsOf _ with
      | none => simp [valsOf, e] at hz
      | some _ => rfl))
  | _, _, .cons (x := .ref _) h r, hz => by cases hz
theorem RepAs.weak {N N' : Addr → Prop} (hw : ∀ a, N a → N' a) : ∀ {vs : List V} {zs : List A}, RepAs K cl N' H m vs zs → RepAs K cl N H m vs zs
  | _, _, .nil => .nil
  | _, _, .cons (x := .val d) h r => .cons (x := .val d) (Rep.weak hw h) (RepAs.weak hw r)
  | _, _, .cons (x := .ref _) h r => .cons (x := .ref _) h (RepAs.weak hw r)
/-- seen from another store -/
theorem RepO.seen {N N' : Addr → Prop} (hw : ∀ a, N a → N' a) {a : Addr} {o : O} (h : RepO K cl N' H m a o) (hf : flatO o = true) : RepO K cl N H m' a o := by
  cases o with
  | lst ds => obtain ⟨xs, e, r⟩ := h; exact ⟨xs, e, r.weak hw⟩
  | dic ks ds => obtain ⟨xs, e, l, r⟩ := h; exact ⟨xs, e, l, r.weak hw⟩
  | ins c ns zs => obtain ⟨dx, xs, e, l, r⟩ := h; exact ⟨dx, xs, e, l, (r.weak hw).flat hf⟩
  | tp zs => obtain ⟨ob, xs, e, hd, r⟩ := h; exact ⟨ob, xs, e, hd, (r.weak hw).flat hf⟩
/-- the addresses of what is handed over -/
noncomputable def addrs (m : List Addr) (rs : List Nat) : List Addr := rs.map fun i => m.getD i 0
theorem addrs_get {rs : List Nat} {j i : Nat} {a : Addr} (h : rs[j]? = some i) (e : m[i]? = some a) : (addrs m rs)[j]? = some a := by
  unfold addrs
  rw [List.getElem?_map, h]
  simp [List.getD, e]
theorem refs_lt {N : Addr → Prop} : ∀ {vs : List V} {xs : List A}, RepAs K cl N H m vs xs → ∀ i ∈ refsOf xs, i < m.length
  | _, _, .nil, i, h => by cases h
  | _, _, .cons (x := .val d) _ r, i, h => refs_lt r i h
  | _, _, .cons (x := .ref j) ⟨a, e, _⟩ r, i, h => by
    rcases List.mem_cons.mp h with h | h
    · rw [h]; exact (List.getElem?_eq_some_iff.mp e).1
    · exact refs_lt r i h
theorem renum_ok {N : Addr → Prop} {all : List Nat} : ∀ {vs : List V} {xs : List A} (k : Nat), RepAs K cl N H m vs xs → (∀ j i, (refsOf xs)[j]? = some i → all[k + j]? = some i) → RepAs K cl N H (addrs m all) vs (renum k xs)
  | _, _, _, .nil, _ => .nil
  | _, _, k, .cons (x := .val d) h r, ha => .cons h (renum_ok k r ha)
  | _, _, k, .cons (x := .ref i) ⟨a, e, ev⟩ r, ha => .cons ⟨a, addrs_get (ha 0 i rfl) e, ev⟩ (renum_ok (k + 1) r fun j i hj => by
      have := ha (j + 1) i hj
      rwa [show k + (j + 1) = k + 1 + j by omega] at this)
/-- the callee's state -/
theorem Ok.sub (o : Ok K cl B H m S) {rs : List Nat} {S0 : Store} (hn : rs.Nodup) (hl : ∀ i ∈ rs, i < m.length) (hg : getAll S rs = some S0) (hf : S0.all flatO = true) : Ok K cl (fun a => NN B m a ∧ a ∉ addrs m rs) H (addrs m rs) S0 := by
  have hm : ∀ a ∈ addrs m rs, a ∈ m := fun a ha => by
    obtain ⟨i, hi, rfl⟩ := List.mem_map.mp ha
    have := hl i hi
    simp [List.getD, List.getElem?_eq_getElem this]
  refine ⟨fun a ha => ⟨o.may ha.1, ha.2⟩, ?_, ?_, fun j a u hj hu => ?_, o.tabs⟩
  · rw [getAll_len hg]; simp [addrs]
  · unfold addrs
    rw [List.Nodup, List.pairwise_map]
    refine List.Pairwise.imp_of_mem (fun {i j} hi hj hij e => ?_) hn
    have h1 := hl i hi
    have h2 := hl j hj
    simp only [List.getD, List.getElem?_eq_getElem h1, List.getElem?_eq_getElem h2, Option.getD_some] at e
    exact hij (nodup_at o.nd (List.getElem?_eq_getElem h1) (by rw [e]; exact List.getElem?_eq_getElem h2))
  · have hjl : j < rs.length := by rw [← getAll_len hg]; exact (List.getElem?_eq_some_iff.mp hu).1
    obtain ⟨v, e1, e2⟩ := getAll_get hg j rs[j] (List.getElem?_eq_getElem hjl)
    rw [hu] at e2; cases e2
    obtain ⟨b, eb, rb⟩ := o.at e1
    have e3 := addrs_get (List.getElem?_eq_getElem hjl) eb
    rw [hj] at e3; cases e3
    refine rb.seen (fun c hc => ?_) (List.all_eq_true.mp hf u (List.mem_of_getElem? hu))
    rcases hc with hc | hc
    · exact hc.1
    · exact .inr (hm c hc)
/-- back in the caller's state -/
theorem Ok.back (o : Ok K cl B H m S) {rs : List Nat} (hn : rs.Nodup) (hl : ∀ i ∈ rs, i < m.length) (s : Step H (addrs m rs) H' m') (o1 : Ok K cl (fun a => NN B m a ∧ a ∉ addrs m rs) H' m' S1) (hf : (S1.take rs.length).all flatO = true) (hz : rs.length ≤ S1.length) :
    Step H m H' m ∧ Ok K cl B H' m (putAll S rs S1) ∧ (∀ a, NN B m a → NN (fun a => NN B m a ∧ a ∉ addrs m rs) m' a) := by
  obtain ⟨r, rfl, hr⟩ := s.ext
  have hm : ∀ a ∈ addrs m rs, a ∈ m := fun a ha => by
    obtain ⟨i, hi, rfl⟩ := List.mem_map.mp ha
    have := hl i hi
    simp [List.getD, List.getElem?_eq_getElem this]
  have hw : ∀ a, NN B m a → NN (fun a => NN B m a ∧ a ∉ addrs m rs) (addrs m rs ++ r) a := fun a ha => by
    by_cases q : a ∈ addrs m rs
    · exact .inr (List.mem_append_left _ q)
    · exact .inl ⟨ha, q⟩
  have st : Step H m H' m := ⟨⟨[], by simp, by simp⟩, fun a u e hn nt => s.keep a u e (fun z => hn (hm a z)) nt, fun a e => s.some e⟩
  refine ⟨st, ⟨fun a ha => ⟨s.some (o.foreign a ha).1, (o.foreign a ha).2⟩, by rw [putAll_len]; exact o.len, o.nd, fun i a u hi hu => ?_, o1.tabs⟩, hw⟩
  by_cases q : i ∈ rs
  · obtain ⟨j, hj, e⟩ := List.getElem_of_mem q
    have hj' : rs[j]? = some i := by rw [List.getElem?_eq_getElem hj, e]
    have hjs : j < S1.length := Nat.lt_of_lt_of_le hj hz
    have e1 := putAll_in (S := S) hn hj' (List.getElem?_eq_getElem hjs) (by rw [← o.len]; exact hl i q)
    rw [hu] at e1
    cases e1
    have ea := addrs_get hj' hi
    have lj : j < (addrs m rs).length := (List.getElem?_eq_some_iff.mp ea).1
    have ro := o1.obj j a _ (by rw [List.getElem?_append_left lj]; exact ea) (List.getElem?_eq_getElem hjs)
    refine ro.seen hw (List.all_eq_true.mp hf _ ?_)
    rw [List.mem_take_iff_getElem]
    exact ⟨j, by omega, rfl⟩
  · rw [putAll_out q] at hu
    have ro := o.obj i a u hi hu
    have na : a ∉ addrs m rs := fun z => by
      obtain ⟨k, hk, e⟩ := List.mem_map.mp z
      have h2 := hl k hk
      simp only [List.getD, List.getElem?_eq_getElem h2, Option.getD_some] at e
      exact q ((nodup_at o.nd hi (by rw [← e]; exact List.getElem?_eq_getElem h2)) ▸ hk)
    have kp : Kp (NN B m) (NN B m) H H' := st.kp fun a h => (o.foreign a h).2
    have e1 : H' a = H a := by
      cases e : H a with
      | none => exact absurd e ro.there
      | some v => exact s.keep a v e na (RepO.nt ro e).1
    exact ro.mono kp ⟨[], by simp⟩ e1
/-- what is handed over stands as it did -/
theorem frz_ok {N N' : Addr → Prop} (hw : ∀ a, N a → N' a) {a : Addr} {o : O} {d : D} (h : RepO K cl N' H m a o) (n : ¬ N a) (hf : frzO o = some d) : Rep K cl N H (.ref a) d := by
  cases o with
  | lst ds => cases hf; obtain ⟨xs, e, r⟩ := h; exact .lst e n (r.weak hw)
  | dic ks ds => cases hf; obtain ⟨xs, e, l, r⟩ := h; exact .dic e n l (r.weak hw)
  | ins c ns zs =>
    have hf : (if c < 999 then (valsOf zs).map fun ds => D.ins c ns ds else none) = some d := hf
    by_cases hc : c < 999
    case neg => rw [if_neg hc] at hf; cases hf
    rw [if_pos hc] at hf
    simp only [Option.map_eq_some_iff] at hf
    obtain ⟨ds, hd, rfl⟩ := hf
    obtain ⟨dx, xs, e, l, r⟩ := h
    exact .ins (.inl ⟨hc, dx, e, n, l⟩) (valsOf_ok (r.weak hw) hd)
  | tp zs => cases hf
theorem frzZ_ok {N N' : Addr → Prop} (hw : ∀ a, N a → N' a) {k : Nat} (hl : ∀ (j : Nat) (a : Addr) (ds : List D), k ≤ j → m[j]? = some a → S[j]? = some (.lst ds) → RepO K cl N' H m a (.lst ds) ∧ ¬ N a) : ∀ {vs : List V} {zs : List A} {ds : List D}, RepAs K cl N' H m vs zs → frzZ S k zs = some ds → RepL K cl N H vs ds
  | _, _, _, .nil, h => by cases h; exact .nil
  | _, _, _, .cons (x := .val d) r q, h => by
    simp only [frzZ, Option.map_eq_some_iff] at h
    obtain ⟨ds, h, rfl⟩ := h
    exact .cons (Rep.weak hw r) (frzZ_ok hw hl q h)
  | _, _, _, .cons (x := .ref j) r q, h => by
    simp only [frzZ] at h
    split at h
    · rename_i hk
      split at h
      · rename_i es he
        simp only [Option.map_eq_some_iff] at h
        obtain ⟨ds, h, rfl⟩ := h
        obtain ⟨a, ea, rfl⟩ := r
        obtain ⟨⟨xs, e1, r1⟩, n⟩ := hl j a es hk ea he
        exact .cons (.lst e1 n (r1.weak hw)) (frzZ_ok hw hl q h)
      · cases h
    · cases h
theorem frzR_ok {N N' : Addr → Prop} (hw : ∀ a, N a → N' a) {k : Nat} (hl : ∀ (j : Nat) (a : Addr) (ds : List D), k ≤ j → m[j]? = some a → S[j]? = some (.lst ds) → RepO K cl N' H m a (.lst ds) ∧ ¬ N a) {a : Addr} {o : O} {d : D} (h : RepO K cl N' H m a o) (n : ¬ N a) (hf : frzR S k o = some d) : Rep K cl N H (.ref a) d := by
  cases o with
  | lst ds => exact frz_ok hw h n hf
  | dic ks ds => exact frz_ok hw h n hf
  | ins c ns zs => exact frz_ok hw h n hf
  | tp zs =>
    have hf : (frzZ S k zs).map D.tup = some d := hf
    simp only [Option.map_eq_some_iff] at hf
    obtain ⟨ds, hd, rfl⟩ := hf
    obtain ⟨ob, xs, e, hx, r⟩ := h
    exact .tup (.inl ⟨ob, e, hx, n⟩) (frzZ_ok hw hl r hd)
theorem ExcAt.weak {N N' : Addr → Prop} (hw : ∀ a, N a → N' a) {c : Value} {d : Option Addr} {e : X0} (h : ExcAt K cl N' H c d e) : ExcAt K cl N H c d e := by
  obtain ⟨h1, h2⟩ := h
  refine ⟨h1, ?_⟩
  rcases h2 with h2 | ⟨da, xs, e1, e2, n, l, r⟩
  · exact .inl h2
  · exact .inr ⟨da, xs, e1, e2, fun z => n (hw _ z), l, r.weak hw⟩
/-- THE CALL -/
theorem callIn_ok {n : Nat} {f : Fn} {adopt : Bool} {xs : List A} {vs : List V} {σ : L2.St} {W : WX} {Q : VK} (o : Ok K cl B H m S) (r : RepAs K cl (NN B m) H m vs xs) (hn : vs.length = n) (h : Fin K cl B σ H m W (callIn adopt f xs S) Q) : spF K cl n f vs H Q (WE W σ) := by
  unfold callIn at h
  split at h
  · rename_i hnd
    split at h
    · rename_i S0 hg
      split at h
      · rename_i hf
        have hl := refs_lt r
        have o0 := o.sub hnd hl hg hf
        have hm : ∀ a ∈ addrs m (refsOf xs), a ∈ m := fun a ha => by
          obtain ⟨i, hi, rfl⟩ := List.mem_map.mp ha
          have := hl i hi
          simp [List.getD, List.getElem?_eq_getElem this]
        have r0 : RepAs K cl (NN (fun a => NN B m a ∧ a ∉ addrs m (refsOf xs)) (addrs m (refsOf xs))) H (addrs m (refsOf xs)) vs (renum 0 xs) := by
          refine RepAs.weak (N' := NN B m) (fun a ha => ?_) (renum_ok 0 r fun j i hj => by rw [Nat.zero_add]; exact hj)
          rcases ha with ha | ha
          · exact ha.1
          · exact .inr (hm a ha)
        refine ⟨hn, _, _, S0, _, o0, r0, ?_⟩
        cases hr : f (renum 0 xs) S0 with
        | bad => rw [hr] at h; exact h
        | exc e S1 =>
          rw [hr] at h
          intro c d H' m' s' o' x'
          unfold back at h
          dsimp only at h
          split at h
          · rename_i hc
            simp only [Bool.and_eq_true, decide_eq_true_eq] at hc
            obtain ⟨st, ok, hw⟩ := o.back hnd hl s' o' hc.1 hc.2
            exact h c d H' m st ok (x'.weak hw)
          · exact h.elim
        | ok x S1 =>
          rw [hr] at h
          intro v H' m' s' o' x'
          unfold back at h
          dsimp only at h
          split at h
          · rename_i hc
            simp only [Bool.and_eq_true, decide_eq_true_eq] at hc
            obtain ⟨st, ok, hw⟩ := o.back hnd hl s' o' hc.1 hc.2
            have len' : (putAll S (refsOf xs) S1).length = m.length := by rw [putAll_len]; exact o.len.symm
            cases x with
            | val d => exact h v H' m st ok (Rep.weak hw x')
            | ref j =>
              obtain ⟨a, ea, rfl⟩ := x'
              obtain ⟨q, rfl, hq⟩ := s'.ext
              dsimp only at h
              split at h
              · rename_i i hi
                refine h (.ref a) H' m st ok ⟨m.getD i 0, ?_, ?_⟩
                · have := hl i (List.mem_of_getElem? hi)
                  simp [List.getD, List.getElem?_eq_getElem this]
                · have e2 := addrs_get hi (List.getElem?_eq_getElem (hl i (List.mem_of_getElem? hi)))
                  rw [List.getElem?_append_left (List.getElem?_eq_some_iff.mp e2).1, e2] at ea
                  cases ea
                  have := hl i (List.mem_of_getElem? hi)
                  simp [List.getD, List.getElem?_eq_getElem this]
              · rename_i u hj hu
                have hj' : (addrs m (refsOf xs)).length ≤ j := by
                  have := List.getElem?_eq_none_iff.mp hj
                  simpa [addrs] using this
                have aq : a ∈ q := by
                  rw [List.getElem?_append_right hj'] at ea
                  exact List.mem_of_getElem? ea
                have ro := o'.obj j a u ea hu
                have ha0 : H a = none := hq a aq
                have hnm : a ∉ m := fun z => o.may (.inr z) ha0
                split at h
                · split at h
                  · rename_i hfl
                    -- it becomes the caller's own
                    refine h (.ref a) H' (m ++ [a]) ⟨⟨[a], rfl, fun b hb => by rw [List.mem_singleton.mp hb]; exact ha0⟩, st.keep, st.stay⟩ ?_ ⟨a, by rw [len', List.getElem?_append_right (Nat.le_refl _)]; simp, rfl⟩
                    have hw2 : ∀ b, NN B (m ++ [a]) b → NN (fun a => NN B m a ∧ a ∉ addrs m (refsOf xs)) (addrs m (refsOf xs) ++ q) b := fun b hb => by
                      rcases hb with hb | hb
                      · exact hw b (.inl hb)
                      · rcases List.mem_append.mp hb with hb | hb
                        · exact hw b (.inr hb)
                        · rw [List.mem_singleton.mp hb]; exact .inr (List.mem_append_right _ aq)
                    refine ⟨fun b hb => ⟨(ok.foreign b hb).1, fun z => ?_⟩, by simp [len'], ?_, fun i b w hi hw' => ?_, ok.tabs⟩
                    · rcases List.mem_append.mp z with z | z
                      · exact (o.foreign b hb).2 z
                      · rw [List.mem_singleton.mp z] at hb; exact (o.foreign a hb).1 ha0
                    · rw [List.nodup_append]
                      exact ⟨o.nd, by simp, fun b hb c hc => by rw [List.mem_singleton.mp hc]; exact fun e => hnm (e ▸ hb)⟩
                    · by_cases hlt : i < m.length
                      · rw [List.getElem?_append_left hlt] at hi
                        rw [List.getElem?_append_left (by rw [len']; exact hlt)] at hw'
                        by_cases hin : i ∈ refsOf xs
                        · obtain ⟨k, hk, ek⟩ := List.getElem_of_mem hin
                          have hk' : (refsOf xs)[k]? = some i := by rw [List.getElem?_eq_getElem hk, ek]
                          have hks : k < S1.length := Nat.lt_of_lt_of_le hk hc.2
                          have e1 := putAll_in (S := S) hnd hk' (List.getElem?_eq_getElem hks) (by rw [← o.len]; exact hl i hin)
                          rw [hw'] at e1
                          cases e1
                          have eb := addrs_get hk' hi
                          have ro2 := o'.obj k b _ (by rw [List.getElem?_append_left (List.getElem?_eq_some_iff.mp eb).1]; exact eb) (List.getElem?_eq_getElem hks)
                          refine ro2.seen hw2 (List.all_eq_true.mp hc.1 _ ?_)
                          rw [List.mem_take_iff_getElem]
                          exact ⟨k, by omega, rfl⟩
                        · rw [putAll_out hin] at hw'
                          have ro2 := o.obj i b w hi hw'
                          have kp : Kp (NN B m) (NN B (m ++ [a])) H H' := ⟨fun c z hz hn nt => st.keep c z hz (fun y => hn (.inr y)) nt, fun c z => by
                            rcases z with z | z
                            · exact .inl (.inl z)
                            · rcases List.mem_append.mp z with z | z
                              · exact .inl (.inr z)
                              · rw [List.mem_singleton.mp z]; exact .inr ha0⟩
                          refine ro2.mono kp ⟨[a], rfl⟩ ?_
                          cases e : H b with
                          | none => exact absurd e ro2.there
                          | some v =>
                            refine s'.keep b v e (fun z => ?_) (RepO.nt ro2 e).1
                            obtain ⟨k, hk, e⟩ := List.mem_map.mp z
                            have h2 := hl k hk
                            simp only [List.getD, List.getElem?_eq_getElem h2, Option.getD_some] at e
                            exact hin ((nodup_at o.nd hi (by rw [← e]; exact List.getElem?_eq_getElem h2)) ▸ hk)
                      · have hi' := (List.getElem?_eq_some_iff.mp hi).1
                        have e : i = m.length := by simp at hi'; omega
                        subst e
                        rw [List.getElem?_append_right (Nat.le_refl _)] at hi
                        rw [← len', List.getElem?_append_right (Nat.le_refl _)] at hw'
                        simp at hi hw'
                        subst hi hw'
                        exact ro.seen hw2 hfl
                  · exact h.elim
                · split at h
                  · rename_i d hd
                    refine h (.ref a) H' m st ok (frzR_ok (m := addrs m (refsOf xs) ++ q) (S := S1) (k := (refsOf xs).length) hw (fun j2 b ds2 hk hb hs => ⟨o'.obj j2 b _ hb hs, fun z => ?_⟩) ro (o.fresh ha0) hd)
                    have bq : b ∈ q := by
                      rw [List.getElem?_append_right (by simpa [addrs] using hk)] at hb
                      exact List.mem_of_getElem? hb
                    exact o.may z (hq b bq)
                  · exact h.elim
              · exact h.elim
          · exact h.elim
      · exact h.elim
    · exact h.elim
  · exact h.elim
end
end T3
namespace T3
open PySem PySem.Spec PyProof.Rows L2
section
variable {X : Cx} {cl : ClT} {W : WX}
theorem run_fnG {pins : List (Addr × Obj)} {σ : L2.St} {H : Hp} {s : Shared} {Q : VK} {k : Nat} {f : Addr} {fd : FuncData} {ps : List Str} {sp : Sp} {args : Args} {us : List Value} {vs : List V} (F : FnG X.prog X.w X.K X.mg X.base k f fd ps sp) (hr : Room k X.A)
    (g : X.A.guards = some []) (tk : Takes X W) (I : Inv X pins σ H s) (hb : BindsTo s fd args (ps.zip us)) (r : Vals vs us) (h : sp vs H Q (WE W σ)) : wpAny (model X.prog X.w) X.A (call (.ref f) args.pos args.kw) (EP X pins σ Q) X.xe s := by
  refine wpAny_call (codeAny_mono (F.run g hr I.env0 hb r h) fun res s' q => ?_)
  cases res with
  | error e => exact passAt tk σ pins H s e s' I q
  | ok fl =>
    cases fl with
    | ret u => exact I.after q
    | next | brk | cont => exact q.elim
/-- a def that may be called: its level, its name, how many arguments, what it is -/
structure CalG (P : Program) (w : World) (K : PySem.W.Frag) (mg : Str → Option Value) (base : Heap) (cl : ClT) (j : Nat) (nm : Str) (n : Nat) (f : Fn) : Prop where
  ex : ∃ (fa : Addr) (fd : FuncData) (ps : List Str), mg nm = some (.ref fa) ∧ PySem.W.keepIn K (.ref fa) = true ∧ Binds K fd ps [] ∧ ps.length = n ∧ FnG P w K mg base j fa fd ps (spF K cl n f)
noncomputable def cCall (n : Nat) (adopt : Bool) (f : Fn) (c : CA) : CE := fun ρ S => (c ρ S).bind fun xs S1 => if xs.length = n then callIn adopt f xs S1 else .bad
theorem call_ok {n : Nat} {adopt : Bool} {f : Fn} {c : CA} {σ : L2.St} {H : Hp} {Q : VK} (h : tM X.K cl W (cCall n adopt f c) σ H Q) : tML X.K cl W c σ H fun vs H1 => spF X.K cl n f vs H1 Q (WE W σ) := by
  obtain ⟨B, m, S, ρ, o, e, fin⟩ := h
  refine ⟨B, m, S, ρ, o, e, FinL.bind fin fun xs S1 vs H1 m1 s1 o1 r1 f1 => ?_⟩
  split at f1
  · rename_i hl
    exact callIn_ok o1 r1 (r1.length.trans hl) f1
  · exact f1.elim
theorem pm_call (adopt : Bool) {nm : Str} {n j k : Nat} {f : Fn} {e : Expr} {es : List Expr} {c : CA} {p pos : Pos} (C : CalG X.prog X.w X.K X.mg X.base cl j nm n f) (hr : Room k X.A) (g : X.A.guards = some []) (tk : Takes X W) (hg : Gl X nm)
    (ha : PA X (e :: es) (tML X.K cl W c)) (hk : j ≤ k := by decide) (hdb : (nm == ("__debug__" : Str)) = false := by decide) (he : starEach (e :: es) X.env = (false, eval e X.env) :: starEach es X.env := by rfl)
    (hpl : (backTo pos (starEach es X.env)).any (·.1) = false := by rfl) :
    PE X (.Call (.Name nm p) (e :: es) [] pos) (tM X.K cl W (cCall n adopt f c)) := by
  obtain ⟨fa, fd, ps, hm, hkp, hb, hps, F⟩ := C.ex
  refine ⟨fun pins s σ H Q I h => ?_⟩
  refine wpAny_Call_Name_kw (ld_glob I hg hm ?_ hdb)
  refine PySem.W.callWith_K (h₀ := X.base) I.ok.mod.kin hkp (thn (ha.run pos pins s σ H _ I (call_ok h)) fun us s1 ⟨vs, H1, I1, r, q⟩ => ⟨I1.kIn, ?_⟩) he hpl
  have hl : us.length = ps.length := by rw [← r.length, q.1, hps]
  have b := hb s1 us I1.kIn (by rw [List.append_nil]; exact hl)
  rw [List.append_nil] at b
  exact run_fnG (F.up hk) hr g tk I1 b r q
noncomputable def cCall0 (adopt : Bool) (f : Fn) : CE := fun _ S => callIn adopt f [] S
theorem pm_call0 (adopt : Bool) {nm : Str} {j k : Nat} {f : Fn} {p pos : Pos} (C : CalG X.prog X.w X.K X.mg X.base cl j nm 0 f) (hr : Room k X.A) (g : X.A.guards = some []) (tk : Takes X W) (hg : Gl X nm)
    (hk : j ≤ k := by decide) (hdb : (nm == ("__debug__" : Str)) = false := by decide) :
    PE X (.Call (.Name nm p) [] [] pos) (tM X.K cl W (cCall0 adopt f)) := by
  obtain ⟨fa, fd, ps, hm, hkp, hb, hps, F⟩ := C.ex
  refine ⟨fun pins s σ H Q I h => ?_⟩
  refine wpAny_Call_Name_kw (ld_glob I hg hm ?_ hdb)
  obtain ⟨B, m, S, ρ, o, e, fin⟩ := h
  have b := hb s [] I.kIn (by rw [hps]; rfl)
  exact PySem.W.callWith_K0 I.kIn hkp (run_fnG (args := ⟨[], []⟩) (us := []) (vs := []) (F.up hk) hr g tk I b .nil (callIn_ok o .nil rfl fin))
structure KB (K : PySem.W.Frag) (fd : FuncData) (ps ks : List Str) (perm : List Nat) : Prop where
  to : ∀ (s : Shared) (ws : List Value), K.In s.heap → ws.length = ks.length → ∃ us, perm.map (fun i => ws[i]?) = us.map some ∧ BindsTo s fd ⟨[], ks.zip ws⟩ (ps.zip us)
structure CalK (P : Program) (w : World) (K : PySem.W.Frag) (mg : Str → Option Value) (base : Heap) (cl : ClT) (j : Nat) (nm : Str) (n : Nat) (f : Fn) (ks : List Str) (perm : List Nat) : Prop where
  ex : ∃ (fa : Addr) (fd : FuncData) (ps : List Str), mg nm = some (.ref fa) ∧ PySem.W.keepIn K (.ref fa) = true ∧ KB K fd ps ks perm ∧ FnG P w K mg base j fa fd ps (spF K cl n f)
noncomputable def pick (xs : List A) : List Nat → Option (List A)
  | [] => some []
  | i :: r => match xs[i]?, pick xs r with
    | some x, some t => some (x :: t)
    | _, _ => none
noncomputable def cCallK (n q : Nat) (adopt : Bool) (perm : List Nat) (f : Fn) (c : CA) : CE := fun ρ S => (c ρ S).bind fun xs S1 => if xs.length = q then (match pick xs perm with
  | some ys => if ys.length = n then callIn adopt f ys S1 else .bad
  | none => .bad) else .bad
theorem pick_ok {K : PySem.W.Frag} {N : Addr → Prop} {H : Hp} {m : List Addr} {vs : List V} {us : List Value} {xs : List A} (r : RepAs K cl N H m vs xs) (q : Vals vs us) : ∀ {perm : List Nat} {ys : List A} {ws : List Value}, pick xs perm = some ys → perm.map (fun i => us[i]?) = ws.map some → ∃ zs, RepAs K cl N H m zs ys ∧ Vals zs ws
  | [], ys, ws, h, hw => by
    cases h
    cases ws with
    | nil => exact ⟨[], .nil, .nil⟩
    | cons _ _ => cases hw
  | i :: p, ys, ws, h, hw => by
    simp only [pick] at h
    split at h <;> cases h
    rename_i x t h1 h2
    cases ws with
    | nil => cases hw
    | cons u ws =>
      rw [List.map_cons, List.map_cons, List.cons.injEq] at hw
      obtain ⟨v, e1, r1⟩ := r.got h1
      obtain ⟨u', e2, q1⟩ := q.get e1
      rw [hw.1] at e2
      cases e2
      obtain ⟨zs, a, b⟩ := pick_ok r q h2 hw.2
      exact ⟨v :: zs, .cons r1 a, .cons q1 b⟩
theorem PK.imp {kws : List Keyword} {t u : TA} (h : PK X kws t) (k : ∀ σ H Q, u σ H Q → t σ H Q) : PK X kws u := ⟨fun pos pins s σ H Q I q => h.run pos pins s σ H Q I (k _ _ _ q)⟩
theorem tNil_ok {σ : L2.St} {H : Hp} {Q : List V → Hp → Prop} (h : tML X.K cl W cNil σ H Q) : tNil σ H Q := by
  obtain ⟨B, m, S, ρ, o, e, fin⟩ := h
  exact fin [] H m Step.refl o .nil
theorem tCons_ok {c : CE} {r : CA} {σ : L2.St} {H : Hp} {Q : List V → Hp → Prop} (h : tML X.K cl W (cCons c r) σ H Q) : tCons (tM X.K cl W c) (tML X.K cl W r) σ H Q := by
  obtain ⟨B, m, S, ρ, o, e, fin⟩ := h
  refine ⟨B, m, S, ρ, o, e, ?_⟩
  unfold cCons at fin
  cases h1 : c ρ S with
  | bad => rw [h1] at fin; exact fin
  | exc x S1 => rw [h1] at fin; exact fin
  | ok x S1 =>
    rw [h1] at fin
    intro v H1 m1 s1 o1 r1
    refine ⟨B, m1, S1, ρ, o1, s1.env o e, ?_⟩
    dsimp only at fin
    cases h2 : r ρ S1 with
    | bad => rw [h2] at fin; exact fin
    | exc y S2 => rw [h2] at fin; exact fun c d H' m' s' => fin c d H' m' (s1.trans s')
    | ok xs S2 =>
      rw [h2] at fin
      intro vs H2 m2 s2 o2 r2
      exact fin (v :: vs) H2 m2 (s1.trans s2) o2 (.cons (s2.rep o1 r1) r2)
theorem pkm_nil : PK X [] (tML X.K cl W cNil) := PK.imp pk_nil fun _ _ _ h => tNil_ok h
theorem pkm_cons {e : Expr} {kws : List Keyword} {nm : Option Str} {kpos : Pos} {c : CE} {r : CA} (ha : PE X e (tM X.K cl W c)) (hr : PK X kws (tML X.K cl W r)) : PK X (⟨nm, e, kpos⟩ :: kws) (tML X.K cl W (cCons c r)) := PK.imp (pk_cons ha hr) fun _ _ _ h => tCons_ok h
theorem pm_callK (adopt : Bool) {nm : Str} {n j k : Nat} {f : Fn} {kws : List Keyword} {c : CA} {p pos : Pos} {ks : List Str} {perm : List Nat} (C : CalK X.prog X.w X.K X.mg X.base cl j nm n f ks perm) (hr : Room k X.A) (g : X.A.guards = some []) (tk : Takes X W) (hg : Gl X nm)
    (hkw : PK X kws (tML X.K cl W c)) (hall : (backToKw pos (keywordEach kws X.env)).all (·.1.isSome) = true := by rfl) (hks : (backToKw pos (keywordEach kws X.env)).filterMap (·.1) = ks := by rfl)
    (hk : j ≤ k := by decide) (hdb : (nm == ("__debug__" : Str)) = false := by decide) (hpl : ((backTo pos (starEach [] X.env)).any (·.1) || (backToKw pos (keywordEach kws X.env)).any (·.1.isNone)) = false := by rfl) :
    PE X (.Call (.Name nm p) [] kws pos) (tM X.K cl W (cCallK n ks.length adopt perm f c)) := by
  obtain ⟨fa, fd, ps, hm, hkp, hb, F⟩ := C.ex
  refine ⟨fun pins s σ H Q I h => ?_⟩
  refine wpAny_Call_Name_kw (ld_glob I hg hm ?_ hdb)
  have h' : tML X.K cl W c σ H fun vs H1 => vs.length = ks.length ∧ ∀ us ws, Vals vs us → perm.map (fun i => us[i]?) = ws.map some → ∃ zs, Vals zs ws ∧ spF X.K cl n f zs H1 Q (WE W σ) := by
    obtain ⟨B, m, S, ρ, o, e, fin⟩ := h
    refine ⟨B, m, S, ρ, o, e, FinL.bind fin fun xs S1 vs H1 m1 s1 o1 r1 f1 => ?_⟩
    split at f1
    · rename_i hl
      refine ⟨r1.length.trans hl, fun us ws q hw => ?_⟩
      split at f1
      · rename_i ys hy
        split at f1
        · rename_i hn
          obtain ⟨zs, a, b⟩ := pick_ok r1 q hy hw
          exact ⟨zs, b, callIn_ok o1 a (a.length.trans hn) f1⟩
        · exact f1.elim
      · exact f1.elim
    · exact f1.elim
  refine PySem.W.callWith_KW0 (h₀ := X.base) I.ok.mod.kin hkp hall (thn (hkw.run pos pins s σ H _ I h') fun us s1 ⟨vs, H1, I1, r, hl, q⟩ => ⟨I1.kIn, ?_⟩) hpl
  rw [hks]
  obtain ⟨ws, e1, b⟩ := hb.to s1 us I1.kIn (by rw [← r.length]; exact hl)
  obtain ⟨zs, rz, q⟩ := q us ws r e1
  exact run_fnG (args := ⟨[], ks.zip us⟩) (F.up hk) hr g tk I1 b rz q
end
end T3
namespace T3
open PySem PySem.Spec PyProof.Rows L2
noncomputable abbrev CT := A → Slots → Store → Option (Slots × Store)
noncomputable def TgOk (K : PySem.W.Frag) (cl : ClT) (g : TG) (t : CT) : Prop :=
  ∀ {B : Addr → Prop} {H : Hp} {m : List Addr} {S S' : Store} {v : V} {x : A} {σ : L2.St} {ρ ρ' : Slots} {Q : L2.St → Hp → Prop}, Ok K cl B H m S → EnvOk K cl (NN B m) H m σ ρ → RepA K cl (NN B m) H m v x → t x ρ S = some (ρ', S') →
    (∀ σ' H' m', Step H m H' m' → Ok K cl B H' m' S' → EnvOk K cl (NN B m') H' m' σ' ρ' → Q σ' H') → g v σ H Q
noncomputable def tgName (i : Nat) : CT := fun x ρ S => some (ρ.set i (some x), S)
noncomputable def tgNil : List D → Slots → Store → Option (Slots × Store) := fun ds ρ S => if ds.isEmpty then some (ρ, S) else none
noncomputable def tgCons (t : CT) (u : List D → Slots → Store → Option (Slots × Store)) : List D → Slots → Store → Option (Slots × Store) := fun ds ρ S => match ds with
  | d :: r => (match t (.val d) ρ S with
    | some (ρ', S') => u r ρ' S'
    | none => none)
  | [] => none
noncomputable def tgTup (n : Nat) (u : List D → Slots → Store → Option (Slots × Store)) : CT := fun x ρ S => match x with
  | .val (.tup ds) => if ds.length = n then u ds ρ S else none
  | .val (.wt ds) => if ds.length = n then u ds ρ S else none
  | _ => none
/-- a tuple or a list taken apart -/
noncomputable def tgSeq (n : Nat) (u : List D → Slots → Store → Option (Slots × Store)) : CT := fun x ρ S => match asL S x with
  | some ds => if ds.length = n then u ds ρ S else none
  | none => none
/-- a[i] = .. of a list of the store: the place's parts change nothing -/
noncomputable def tgSub (co ci : CE) : CT := fun x ρ S => match co ρ S, x with
  | .ok (.ref j) S1, .val d => (match ci ρ S1 with
    | .ok (.val (.int k)) S2 => (match S2[j]? with
      | some (.lst ds) => (match ixN ds.length k with
        | some q => some (ρ, S2.set j (.lst (ds.set q d)))
        | none => none)
      | _ => none)
    | _ => none)
  | _, _ => none
section
variable {X : Cx} {cl : ClT} {W : WX}
theorem tg_name (i : Nat) : TgOk X.K cl (gName i) (tgName i) := by
  intro B H m S S' v x σ ρ ρ' Q o e r h k
  cases h
  exact k _ H m Step.refl o (e.set i r)
noncomputable def TgsOk (K : PySem.W.Frag) (cl : ClT) (g : TGs) (t : List D → Slots → Store → Option (Slots × Store)) : Prop :=
  ∀ {B : Addr → Prop} {H : Hp} {m : List Addr} {S S' : Store} {vs : List V} {ds : List D} {σ : L2.St} {ρ ρ' : Slots} {Q : L2.St → Hp → Prop}, Ok K cl B H m S → EnvOk K cl (NN B m) H m σ ρ → RepL K cl (NN B m) H vs ds → t ds ρ S = some (ρ', S') →
    (∀ σ' H' m', Step H m H' m' → Ok K cl B H' m' S' → EnvOk K cl (NN B m') H' m' σ' ρ' → Q σ' H') → g vs σ H Q
theorem tgs_nil : TgsOk X.K cl gNil tgNil := by
  intro B H m S S' vs ds σ ρ ρ' Q o e r h k
  unfold tgNil at h
  split at h <;> cases h
  rename_i hd
  have : ds = [] := List.isEmpty_iff.mp hd
  subst this
  cases r
  exact ⟨rfl, k _ H m Step.refl o e⟩
theorem tgs_cons {g : TG} {gs : TGs} {t : CT} {u : List D → Slots → Store → Option (Slots × Store)} (hg : TgOk X.K cl g t) (hs : TgsOk X.K cl gs u) : TgsOk X.K cl (gCons g gs) (tgCons t u) := by
  intro B H m S S' vs ds σ ρ ρ' Q o e r h k
  unfold tgCons at h
  cases r with
  | nil => cases h
  | @cons v vs d ds h1 r =>
    dsimp only at h
    split at h
    · rename_i ρ1 S1 h2
      refine ⟨v, vs, rfl, hg (x := .val d) o e h1 h2 fun σ1 H1 m1 s1 o1 e1 => ?_⟩
      refine hs o1 e1 (r.mono (s1.kp fun a h => (o.foreign a h).2)) h fun σ' H' m' s' o' e' => k σ' H' m' (s1.trans s') o' e'
    · cases h
theorem tg_tup {n : Nat} {gs : TGs} {u : List D → Slots → Store → Option (Slots × Store)} (hs : TgsOk X.K cl gs u) : TgOk X.K cl (gTup X.K n gs) (tgTup n u) := by
  intro B H m S S' v x σ ρ ρ' Q o e r h k
  unfold tgTup at h
  split at h
  · rename_i ds
    split at h
    · rename_i hl
      obtain ⟨a, vs, rfl, q, rl⟩ := asT_ok (x := .val (.tup ds)) r rfl
      exact ⟨a, vs, rfl, q, rl.length.trans hl, hs o e rl h k⟩
    · cases h
  · rename_i ds
    split at h
    · rename_i hl
      cases r with
      | wt q n rl => exact ⟨_, _, rfl, .inl q, rl.length.trans hl, hs o e rl h k⟩
    · cases h
  · cases h
theorem tg_seq {n : Nat} {gs : TGs} {u : List D → Slots → Store → Option (Slots × Store)} (hs : TgsOk X.K cl gs u) : TgOk X.K cl (gUnl X.K n gs) (tgSeq n u) := by
  intro B H m S S' v x σ ρ ρ' Q o e r h k
  unfold tgSeq at h
  split at h
  · rename_i ds hd
    split at h
    · rename_i hl
      obtain ⟨a, vs, rfl, q, rl⟩ := asL_ok o r hd
      exact ⟨a, vs, rfl, q, rl.length.trans hl, hs o e rl h k⟩
    · cases h
  · cases h
/-- a list of the store with an item more, or changed -/
theorem Ok.write (K : PySem.W.Frag) {B : Addr → Prop} {H : Hp} {m : List Addr} {S : Store} (o : Ok K cl B H m S) {j : Nat} {a : Addr} {u : O} {w : HO} (ha : m[j]? = some a) (hr : ∀ H', (∀ b, b ≠ a → H' b = H b) → H' a = some w → RepO K cl (NN B m) H' m a u) :
    Step H m (upd H a w) m ∧ Ok K cl B (upd H a w) m (S.set j u) := by
  have ham : a ∈ m := List.mem_of_getElem? ha
  have hn : NN B m a := .inr ham
  have st : Step H m (upd H a w) m := ⟨⟨[], by simp, by simp⟩, fun b v e hb _ => by rw [upd_ne fun z => hb (by rw [z]; exact ham)]; exact e, fun b e => by
    by_cases z : b = a
    · rw [z, upd_same]; exact fun q => by cases q
    · rw [upd_ne z]; exact e⟩
  have kp : Kp (NN B m) (NN B m) H (upd H a w) := st.kp fun b h => (o.foreign b h).2
  refine ⟨st, fun b hb => ⟨st.some (o.foreign b hb).1, (o.foreign b hb).2⟩, by rw [List.length_set]; exact o.len, o.nd, fun i b v hi hv => ?_, tabs_upd (.inr (o.nt ham)) o.tabs⟩
  by_cases hij : j = i
  · subst hij
    rw [ha] at hi
    cases hi
    rw [List.getElem?_set_self (by rw [← o.len]; exact (List.getElem?_eq_some_iff.mp ha).1)] at hv
    cases hv
    exact hr _ (fun b hb => upd_ne hb) upd_same
  · rw [List.getElem?_set_ne hij] at hv
    have hba : b ≠ a := fun z => hij (nodup_at o.nd ha (by rw [← z]; exact hi))
    exact (o.obj i b v hi hv).mono kp ⟨[], by simp⟩ (upd_ne hba)
theorem kp_at {N : Addr → Prop} {H H' : Hp} {a : Addr} (hn : N a) (h : ∀ b, b ≠ a → H' b = H b) : Kp N N H H' := ⟨fun b o e hb _ => by rw [h b fun z => hb (z ▸ hn)]; exact e, fun _ z => .inl z⟩
theorem tg_sub {to ti : TE} {co ci : CE} (ho : to = tM X.K cl W co) (hi : ti = tM X.K cl W ci) : TgOk X.K cl (gSub to ti rSetL) (tgSub co ci) := by
  subst ho hi
  intro B H m S S' v x σ ρ ρ' Q o e r h k
  unfold tgSub at h
  split at h
  · rename_i j S1 d h1
    split at h
    · rename_i kk S2 h2
      split at h
      · rename_i ds h3
        split at h
        · rename_i q h4
          cases h
          refine ⟨B, m, S, ρ, o, e, ?_⟩
          rw [h1]
          intro w H1 m1 s1 o1 r1
          refine ⟨B, m1, S1, ρ, o1, s1.env o e, ?_⟩
          rw [h2]
          intro z H2 m2 s2 o2 r2
          obtain ⟨a, ha, rfl⟩ := s2.rep o1 r1
          cases r2
          obtain ⟨xs, e1, r3⟩ := o2.obj j a _ ha h3
          have rd := (s1.trans s2).rep o r
          refine ⟨a, xs, kk, q, rfl, rfl, e1, by rw [r3.length]; exact h4, ?_⟩
          obtain ⟨st, ok⟩ := Ok.write X.K o2 (u := .lst (ds.set q d)) (w := .lst (xs.set q v)) ha fun H' hb hw => ⟨_, hw, (RepL.set (d := d) rd q r3).mono (kp_at (.inr (List.mem_of_getElem? ha)) hb)⟩
          exact k σ _ m2 ((s1.trans s2).trans st) ok (st.env o2 ((s1.trans s2).env o e))
        · cases h
      · cases h
    · cases h
  · cases h
end
noncomputable def sNil : CS := fun ρ S => .nx ρ S
noncomputable def sSeq (a b : CS) : CS := fun ρ S => match a ρ S with
  | .nx ρ' S' => b ρ' S'
  | r => r
noncomputable def sAsg (t : CT) (c : CE) : CS := fun ρ S => (c ρ S).bindS ρ fun x S1 => match t x ρ S1 with
  | some (ρ', S') => .nx ρ' S'
  | none => .bad
noncomputable def sExp (c : CE) : CS := fun ρ S => (c ρ S).bindS ρ fun _ S1 => .nx ρ S1
noncomputable def sRet (c : CE) : CS := fun ρ S => (c ρ S).bindS ρ fun x S1 => .rt x S1
noncomputable def sIf (c : CE) (a b : CS) : CS := fun ρ S => (c ρ S).bindS ρ fun x S1 => match x with
  | .val (.bl true) => a ρ S1
  | .val (.bl false) => b ρ S1
  | _ => .bad
noncomputable def forL (body : D → CS) : List D → CS
  | [], ρ, S => .nx ρ S
  | d :: r, ρ, S => match body d ρ S with
    | .nx ρ' S' => forL body r ρ' S'
    | .ct ρ' S' => forL body r ρ' S'
    | .bk ρ' S' => .nx ρ' S'
    | q => q
/-- what is walked: a list of data -/
inductive IRes where
  | ok (xs : List D) (S : Store) | exc (e : X0) (S : Store) | bad
noncomputable abbrev CI := Slots → Store → IRes
noncomputable def sFor (ci : CI) (t : CT) (b : CS) : CS := fun ρ S => match ci ρ S with
  | .ok xs S1 => forL (fun d ρ S => match t (.val d) ρ S with
    | some (ρ', S') => b ρ' S'
    | none => .bad) xs ρ S1
  | .exc e S1 => .exc e ρ S1
  | .bad => .bad
section
variable {K : PySem.W.Frag} {cl : ClT} {B : Addr → Prop} {H : Hp} {m : List Addr} {W : WX} {σ : L2.St} {ρ : Slots}
theorem FinS.bind {r : Res} {f : A → Store → SRes} {E : Ends} {R : VK} {S : Store} (o : Ok K cl B H m S) (e : EnvOk K cl (NN B m) H m σ ρ) (h : FinS K cl B H m W (r.bindS ρ f) E)
    (k : ∀ x S' v H' m', Step H m H' m' → Ok K cl B H' m' S' → EnvOk K cl (NN B m') H' m' σ ρ → RepA K cl (NN B m') H' m' v x → FinS K cl B H' m' W (f x S') E → R v H') : Fin K cl B σ H m W r R := by
  cases r with
  | ok x S' => exact fun v H' m' s o' r => k x S' v H' m' s o' (s.env o e) r (FinS.step s h)
  | exc e' S' => exact fun c d H' m' s o' x' => h c d σ H' m' s o' (s.env o e) x'
  | bad => exact h
theorem FinS.bindT {r : Res} {f g : Store → SRes} {E : Ends} {R : Bool → Hp → Prop} {S : Store} (o : Ok K cl B H m S) (e : EnvOk K cl (NN B m) H m σ ρ)
    (h : FinS K cl B H m W (r.bindS ρ fun x S1 => match x with
      | .val (.bl true) => f S1
      | .val (.bl false) => g S1
      | _ => .bad) E)
    (k : ∀ S' H' m', Step H m H' m' → Ok K cl B H' m' S' → EnvOk K cl (NN B m') H' m' σ ρ → (FinS K cl B H' m' W (f S') E → R true H') ∧ (FinS K cl B H' m' W (g S') E → R false H')) : FinT K cl B σ H m W r R := by
  cases r with
  | bad => exact h
  | exc e' S' => exact fun c d H' m' s o' x' => h c d σ H' m' s o' (s.env o e) x'
  | ok x S' =>
    cases x with
    | ref i => exact h
    | val d =>
      cases d with
      | bl b =>
        cases b with
        | true => exact fun H' m' s' o' => (k S' H' m' s' o' (s'.env o e)).1 (FinS.step s' h)
        | false => exact fun H' m' s' o' => (k S' H' m' s' o' (s'.env o e)).2 (FinS.step s' h)
      | _ => exact h
theorem FinS.here {S : Store} {E : Ends} (h : FinS K cl B H m W (.nx ρ S) E) (o : Ok K cl B H m S) (e : EnvOk K cl (NN B m) H m σ ρ) : E.nx σ H := h σ H m Step.refl o e
end
section
variable {X : Cx} {cl : ClT} {W : WX}
theorem pms_nil : PSs X [] (tMS X.K cl W sNil) := PSs.imp pss_nil fun E σ H h => by
  obtain ⟨B, m, S, ρ, o, e, fin⟩ := h
  exact fin.here o e
theorem pms_cons {st : Stmt} {rest : List Stmt} {a b : CS} (h1 : PS X st (tMS X.K cl W a)) (h2 : PSs X rest (tMS X.K cl W b)) : PSs X (st :: rest) (tMS X.K cl W (sSeq a b)) := PSs.imp (pss_cons h1 h2) fun E σ H h => by
  obtain ⟨B, m, S, ρ, o, e, fin⟩ := h
  refine ⟨B, m, S, ρ, o, e, ?_⟩
  unfold sSeq at fin
  cases ha : a ρ S with
  | nx ρ' S' =>
    rw [ha] at fin
    exact fun σ' H' m' s' o' e' => ⟨B, m', S', ρ', o', e', FinS.step s' fin⟩
  | bk ρ' S' => rw [ha] at fin; exact fin
  | ct ρ' S' => rw [ha] at fin; exact fin
  | rt x S' => rw [ha] at fin; exact fin
  | exc x ρ' S' => rw [ha] at fin; exact fin
  | bad => rw [ha] at fin; exact fin
theorem pms_one {st : Stmt} {a : CS} (h1 : PS X st (tMS X.K cl W a)) : PSs X [st] (tMS X.K cl W a) := pss_one h1
theorem tAsg_ok {g : TG} {t : CT} {c : CE} (hg : TgOk X.K cl g t) {E : Ends} {σ : L2.St} {H : Hp} (h : tMS X.K cl W (sAsg t c) E σ H) : tAsg (tM X.K cl W c) g E σ H := by
  obtain ⟨B, m, S, ρ, o, e, fin⟩ := h
  refine ⟨B, m, S, ρ, o, e, FinS.bind o e fin fun x S1 v H1 m1 s1 o1 e1 r1 f1 => ?_⟩
  split at f1
  · rename_i ρ' S' ht
    exact hg o1 e1 r1 ht fun σ' H' m' s' o' e' => f1 σ' H' m' s' o' e'
  · exact f1.elim
theorem pm_set (i : Nat) {x : Str} {e : Expr} {c : CE} {pos pos' : Pos} (hN : X.N.Nodup) (he : PE X e (tM X.K cl W c)) (hi : X.N[i]? = some x := by rfl) (hx : Loc X.env.scope x := by first | exact Or.inl rfl | exact Or.inr rfl)
    (hs : swapsWith e (some (.Name x pos')) pos.line X.env = pure false := by rfl) (hf : X.fn x = true ∨ X.env.scope.names.lookup x = some .local := by first | exact .inl rfl | exact .inr rfl) :
    PS X (.Assign [.Name x pos'] e pos) (tMS X.K cl W (sAsg (tgName i) c)) := PS.imp (ps_set hN hi hx he hs hf) fun _ _ _ h => tAsg_ok (tg_name i) h
theorem pm_asg {tg e : Expr} {c : CE} {g : TG} {t : CT} {pos : Pos} (he : PE X e (tM X.K cl W c)) (hg : PG X tg g) (ht : TgOk X.K cl g t) (hs : swapsWithSole [tg] e pos.line X.env = pure false := by rfl) (hw : swappedStores [tg] e X.env = pure none := by rfl)
    (h1 : (assignEach [tg] X.env).map (·.2) = [assign tg X.env] := by rfl) : PS X (.Assign [tg] e pos) (tMS X.K cl W (sAsg t c)) := PS.imp (ps_asg he hg hs hw h1) fun _ _ _ h => tAsg_ok ht h
theorem pm_exp {e : Expr} {c : CE} {pos : Pos} (he : PE X e (tM X.K cl W c)) (hs : swapsWith e none pos.line X.env = pure false := by rfl) : PS X (.Expr e pos) (tMS X.K cl W (sExp c)) := PS.imp (ps_expr he hs) fun E σ H h => by
  obtain ⟨B, m, S, ρ, o, e, fin⟩ := h
  exact ⟨B, m, S, ρ, o, e, FinS.bind o e fin fun x S1 v H1 m1 s1 o1 e1 r1 f1 => f1.here o1 e1⟩
theorem pm_ret {e : Expr} {c : CE} {pos : Pos} (he : PE X e (tM X.K cl W c)) : PS X (.Return (some e) pos) (tMS X.K cl W (sRet c)) := PS.imp (ps_ret he) fun E σ H h => by
  obtain ⟨B, m, S, ρ, o, e, fin⟩ := h
  exact ⟨B, m, S, ρ, o, e, FinS.bind o e fin fun x S1 v H1 m1 s1 o1 e1 r1 f1 => f1 v H1 m1 Step.refl o1 r1⟩
theorem pm_ifs {c : Expr} {a b : List Stmt} {ct : CE} {ca cb : CS} {pos : Pos} (hc : PT X c (tMT X.K cl W ct)) (ha : PSs X a (tMS X.K cl W ca)) (hb : PSs X b (tMS X.K cl W cb)) : PS X (.If c a b pos) (tMS X.K cl W (sIf ct ca cb)) := PS.imp (ps_if hc ha hb) fun E σ H h => by
  obtain ⟨B, m, S, ρ, o, e, fin⟩ := h
  refine ⟨B, m, S, ρ, o, e, FinS.bindT (f := ca ρ) (g := cb ρ) o e fin fun S1 H1 m1 s1 o1 e1 => ⟨fun q => ?_, fun q => ?_⟩⟩
  · exact iteT ⟨B, m1, S1, ρ, o1, e1, q⟩
  · exact iteF ⟨B, m1, S1, ρ, o1, e1, q⟩
/-- what a walk hands out -/
structure Src (K : PySem.W.Frag) (cl : ClT) (live : (Addr → Prop) → Hp → Prop) (J : It) (xs : List D) : Prop where
  keep : ∀ {N N' H H'}, live N H → Kp N N' H H' → live N' H'
  go : ∀ {N H} (i : Nat), live N H → i < xs.length → J.go i H
  yld : ∀ {B H m S} (i : Nat) {y H'}, Ok K cl B H m S → live (NN B m) H → J.yld i H y H' → ∃ d, (i < xs.length → xs[i]? = some d) ∧ Step H m H' m ∧ Ok K cl B H' m S ∧ Rep K cl (NN B m) H' y d
  stop : ∀ {N H}, live N H → J.stop xs.length H
theorem Src.step {K : PySem.W.Frag} {cl : ClT} {live : (Addr → Prop) → Hp → Prop} {J : It} {xs : List D} (src : Src K cl live J xs) {B : Addr → Prop} {H H' : Hp} {m m' : List Addr} {S : Store} (o : Ok K cl B H m S) (l : live (NN B m) H) (s : Step H m H' m') : live (NN B m') H' :=
  src.keep l (s.kp fun a h => (o.foreign a h).2)
noncomputable def FinI (K : PySem.W.Frag) (cl : ClT) (B : Addr → Prop) (σ : L2.St) (H : Hp) (m : List Addr) (W : WX) (r : IRes) (R : It → Hp → Prop) : Prop :=
  match r with
  | .ok xs S' => ∀ J live H' m', Step H m H' m' → Ok K cl B H' m' S' → live (NN B m') H' → Src K cl live J xs → R J H'
  | .exc e S' => ∀ c d H' m', Step H m H' m' → Ok K cl B H' m' S' → ExcAt K cl (NN B m') H' c d e → W c d σ H'
  | .bad => False
noncomputable def tMI (K : PySem.W.Frag) (cl : ClT) (W : WX) (ci : CI) : TI := fun σ H R => ∃ B m S ρ, Ok K cl B H m S ∧ EnvOk K cl (NN B m) H m σ ρ ∧ FinI K cl B σ H m W (ci ρ S) R
theorem tFor_ok {ci : CI} {g : TG} {t : CT} {b : CS} (hg : TgOk X.K cl g t) {E : Ends} {σ : L2.St} {H : Hp} (h : tMS X.K cl W (sFor ci t b) E σ H) : tFor (tMI X.K cl W ci) g (tMS X.K cl W b) E σ H := by
  obtain ⟨B, m, S, ρ, o, e, fin⟩ := h
  refine ⟨B, m, S, ρ, o, e, ?_⟩
  unfold sFor at fin
  cases hi : ci ρ S with
  | bad => rw [hi] at fin; exact fin
  | exc e' S' => rw [hi] at fin; exact fun c d H' m' s o' x' => fin c d σ H' m' s o' (s.env o e) x'
  | ok xs S1 =>
    rw [hi] at fin
    intro J live H1 m1 s1 o1 l1 src
    let bd : D → CS := fun d ρ S => match t (.val d) ρ S with
      | some (ρ', S') => b ρ' S'
      | none => .bad
    refine ⟨fun i n σ H => n = xs.length - i ∧ i ≤ xs.length ∧ ∃ m S ρ, Ok X.K cl B H m S ∧ EnvOk X.K cl (NN B m) H m σ ρ ∧ live (NN B m) H ∧ FinS X.K cl B H m W (forL bd (xs.drop i) ρ S) E,
      ⟨xs.length, by simp, Nat.zero_le _, m1, S1, ρ, o1, s1.env o e, l1, FinS.step s1 fin⟩, ?_⟩
    rintro i n σ2 H2 ⟨rfl, hle, m2, S2, ρ2, o2, e2, l2, f2⟩
    by_cases hlt : i < xs.length
    · refine .inr ⟨src.go i l2 hlt, fun σ H => i + 1 ≤ xs.length ∧ ∃ m S ρ, Ok X.K cl B H m S ∧ EnvOk X.K cl (NN B m) H m σ ρ ∧ live (NN B m) H ∧ FinS X.K cl B H m W (forL bd (xs.drop (i + 1)) ρ S) E,
        fun σ' H' hn => ⟨xs.length - (i + 1), by omega, rfl, hn⟩, fun y H3 hy => ?_⟩
      obtain ⟨d, hd, s3, o3, r3⟩ := src.yld i o2 l2 hy
      have hd := hd hlt
      have e3 := s3.env o2 e2
      have l3 := src.step o2 l2 s3
      rw [List.drop_eq_getElem_cons hlt] at f2
      rw [List.getElem?_eq_getElem hlt] at hd
      cases hd
      have f3 := FinS.step s3 f2
      have f3 : FinS X.K cl B H3 m2 W (match bd xs[i] ρ2 S2 with
        | .nx ρ' S' => forL bd (xs.drop (i + 1)) ρ' S'
        | .ct ρ' S' => forL bd (xs.drop (i + 1)) ρ' S'
        | .bk ρ' S' => .nx ρ' S'
        | q => q) E := f3
      cases ht : t (.val xs[i]) ρ2 S2 with
      | none =>
        have hb : bd xs[i] ρ2 S2 = .bad := by show (match t (.val xs[i]) ρ2 S2 with | some (ρ', S') => b ρ' S' | none => .bad) = _; rw [ht]
        rw [hb] at f3
        exact f3.elim
      | some z =>
        obtain ⟨ρ4, S4⟩ := z
        have hb : bd xs[i] ρ2 S2 = b ρ4 S4 := by show (match t (.val xs[i]) ρ2 S2 with | some (ρ', S') => b ρ' S' | none => .bad) = _; rw [ht]
        rw [hb] at f3
        refine hg (x := .val xs[i]) o3 e3 r3 ht fun σ4 H4 m4 s4 o4 e4 => ⟨B, m4, S4, ρ4, o4, e4, ?_⟩
        have f4 := FinS.step s4 f3
        have l4 := src.step o3 l3 s4
        cases hr : b ρ4 S4 with
        | bad => rw [hr] at f4; exact f4
        | exc e' ρ' S' => rw [hr] at f4; exact f4
        | rt x S' => rw [hr] at f4; exact f4
        | nx ρ' S' => rw [hr] at f4; exact fun σ' H' m' s' o' e' => ⟨hlt, m', S', ρ', o', e', src.step o4 l4 s', FinS.step s' f4⟩
        | ct ρ' S' => rw [hr] at f4; exact fun σ' H' m' s' o' e' => ⟨hlt, m', S', ρ', o', e', src.step o4 l4 s', FinS.step s' f4⟩
        | bk ρ' S' => rw [hr] at f4; exact fun σ' H' m' s' o' e' => f4 σ' H' m' s' o' e'
    · have hi : i = xs.length := by omega
      subst hi
      rw [List.drop_length] at f2
      exact .inl ⟨src.stop l2, f2.here o2 e2⟩
theorem pm_for {tg iter : Expr} {body : List Stmt} {ci : CI} {g : TG} {t : CT} {b : CS} {pos : Pos} (hp : PassesOwn (model X.prog X.w) X.A X.env X.xe) (hc : X.calm = true) (hi : PI X tg iter (tMI X.K cl W ci)) (hg : PG X tg g) (ht : TgOk X.K cl g t) (hb : PSs X body (tMS X.K cl W b))
    (hs : ∀ x, foldedSetIterable iter X.env x = pure x := by intro _; rfl) : PS X (.For tg iter body [] pos) (tMS X.K cl W (sFor ci t b)) := PS.imp (ps_for hp hc hi hg hb hs) fun _ _ _ h => tFor_ok ht h
end
end T3
namespace T3
open PySem PySem.Spec PyProof.Rows L2
noncomputable def rangeD (lo : Int) (n : Nat) : List D := (List.range n).map fun i => .int (lo + (i : Nat))
noncomputable def ciR1 (c : CE) : CI := fun ρ S => match c ρ S with
  | .ok (.val (.int j)) S1 => if decide (-1000000 ≤ j) && decide (j ≤ 1000000) then .ok (rangeD 0 j.toNat) S1 else .bad
  | .exc e S1 => .exc e S1
  | _ => .bad
noncomputable def ciR2 (c d : CE) : CI := fun ρ S => match c ρ S with
  | .ok (.val (.int i)) S1 => (match d ρ S1 with
    | .ok (.val (.int j)) S2 => if decide (-1000000 ≤ i) && decide (i ≤ 1000000) && decide (-1000000 ≤ j) && decide (j ≤ 1000000) then .ok (rangeD i (j - i).toNat) S2 else .bad
    | .exc e S1 => .exc e S1
    | _ => .bad)
  | .exc e S1 => .exc e S1
  | _ => .bad
noncomputable def signsD (s : Str) : List D := s.cps.toList.map fun c => .str ⟨#[c]⟩
/-- a list, a tuple, a text that nobody changes -/
noncomputable def ciV (c : CE) : CI := fun ρ S => match c ρ S with
  | .ok (.val (.lst ds)) S1 => .ok ds S1
  | .ok (.val (.ro ds)) S1 => .ok ds S1
  | .ok (.val (.tup ds)) S1 => .ok ds S1
  | .ok (.val (.str s)) S1 => .ok (signsD s) S1
  | .exc e S1 => .exc e S1
  | _ => .bad
noncomputable def enumD : Nat → List D → List D
  | _, [] => []
  | k, d :: r => .wt [.int (k : Nat), d] :: enumD (k + 1) r
noncomputable def ciE (c : CE) : CI := fun ρ S => match c ρ S with
  | .ok (.val (.lst ds)) S1 => .ok (enumD 0 ds) S1
  | .ok (.val (.ro ds)) S1 => .ok (enumD 0 ds) S1
  | .exc e S1 => .exc e S1
  | _ => .bad
theorem enumD_len : ∀ (k : Nat) (ds : List D), (enumD k ds).length = ds.length
  | _, [] => rfl
  | k, _ :: r => congrArg (· + 1) (enumD_len (k + 1) r)
theorem enumD_get : ∀ (k : Nat) (ds : List D) (i : Nat) (d : D), ds[i]? = some d → (enumD k ds)[i]? = some (.wt [.int ((k + i : Nat) : Nat), d])
  | k, [], i, d, h => by simp at h
  | k, a :: r, 0, d, h => by cases h; rfl
  | k, a :: r, i + 1, d, h => by
    have := enumD_get (k + 1) r i d h
    show (enumD (k + 1) r)[i]? = _
    rw [this, show k + 1 + i = k + (i + 1) by omega]
section
variable {X : Cx} {cl : ClT} {W : WX}
theorem src_rng (K : PySem.W.Frag) {lo : Int} {n : Nat} : Src K cl (fun _ _ => True) (Itr lo n) (rangeD lo n) where
  keep := fun _ _ => trivial
  go := fun i _ h => by
    show i < n
    simpa [rangeD] using h
  yld := fun {B H m S} i {y H'} o _ h => by
    obtain ⟨rfl, rfl⟩ := h
    refine ⟨.int (lo + i), fun hi => ?_, Step.refl, o, .int _⟩
    have hi' : i < n := by simpa [rangeD] using hi
    simp [rangeD, hi']
  stop := fun _ => by
    show n ≤ (rangeD lo n).length
    simp [rangeD]
theorem PI.imp {tg iter : Expr} {w u : TI} (h : PI X tg iter w) (k : ∀ σ H R, u σ H R → w σ H R) : PI X tg iter u := ⟨fun pins s σ H R I q => h.run pins s σ H R I (k _ _ _ q)⟩
theorem PI.or {tg iter : Expr} {w u : TI} (h : PI X tg iter w) (k : PI X tg iter u) : PI X tg iter (fun σ H R => w σ H R ∨ u σ H R) := ⟨fun pins s σ H R I q => q.elim (h.run pins s σ H R I) (k.run pins s σ H R I)⟩
theorem pi_r1 {tg a : Expr} {c : CE} {p pos : Pos} (hm : X.mg "range" = none) (ha : PE X a (tM X.K cl W c)) (hg : Gl X "range" := by rfl) (hs : starEach [a] X.env = (false, eval a X.env) :: starEach [] X.env := by rfl) : PI X tg (.Call (.Name "range" p) [a] [] pos) (tMI X.K cl W (ciR1 c)) :=
  PI.imp (pi_range1 hg hm (pa_cons ha pa_nil hs) hs) fun σ H R h => by
  obtain ⟨B, m, S, ρ, o, e, fin⟩ := h
  refine ⟨B, m, S, ρ, o, e, ?_⟩
  unfold ciR1 at fin
  cases hc : c ρ S with
  | bad => rw [hc] at fin; exact fin
  | exc e' S1 => rw [hc] at fin; exact fin
  | ok x S1 =>
    rw [hc] at fin
    intro v H1 m1 s1 o1 r1
    cases x with
    | ref i => exact fin.elim
    | val d =>
      cases d with
      | int j =>
        cases r1
        dsimp only at fin
        split at fin
        · rename_i hz
          simp only [Bool.and_eq_true, decide_eq_true_eq] at hz
          exact ⟨j, rfl, by omega, by omega, fin _ _ H1 m1 s1 o1 trivial (src_rng X.K)⟩
        · exact fin.elim
      | _ => exact fin.elim
theorem src_lst {K : PySem.W.Frag} {a : Addr} {ds : List D} {d : D} (hd : d = .lst ds ∨ d = .ro ds) : Src K cl (fun N H => Rep K cl N H (.ref a) d) (Itl K a) ds := by
  have view : ∀ {N H}, Rep K cl N H (.ref a) d → ∃ vs, SqL K H a vs ∧ RepL K cl N H vs ds := fun {N H} h => by
    rcases hd with rfl | rfl
    · cases h with
      | lst e n r => exact ⟨_, .of e, r⟩
    · cases h with
      | ro e r => exact ⟨_, e.seq, r⟩
  refine ⟨fun h k => h.mono k, fun i h hi => ?_, fun {B H m S} i {y H'} o h hy => ?_, fun h => ?_⟩
  · obtain ⟨vs, q, r⟩ := view h
    obtain ⟨v, e, _⟩ := r.got (List.getElem?_eq_getElem hi)
    exact ⟨vs, v, q, e⟩
  · obtain ⟨vs, q, r⟩ := view h
    obtain ⟨rfl, hy⟩ := hy
    obtain ⟨d, h1, h2⟩ := r.get (hy vs q)
    exact ⟨d, fun _ => h1, Step.refl, o, h2⟩
  · obtain ⟨vs, q, r⟩ := view h
    exact ⟨vs, q, by rw [r.length]; exact Nat.le_refl _⟩
theorem src_tup {K : PySem.W.Frag} {a : Addr} {ds : List D} : Src K cl (fun N H => Rep K cl N H (.ref a) (.tup ds)) (Itt K a) ds := by
  have view : ∀ {N H}, Rep K cl N H (.ref a) (.tup ds) → ∃ vs, SqT K H a vs ∧ RepL K cl N H vs ds := fun {N H} h => by
    cases h with
    | tup e r => exact ⟨_, e.seq, r⟩
  refine ⟨fun h k => h.mono k, fun i h hi => ?_, fun {B H m S} i {y H'} o h hy => ?_, fun h => ?_⟩
  · obtain ⟨vs, q, r⟩ := view h
    obtain ⟨v, e, _⟩ := r.got (List.getElem?_eq_getElem hi)
    exact ⟨vs, v, q, e⟩
  · obtain ⟨vs, q, r⟩ := view h
    obtain ⟨rfl, hy⟩ := hy
    obtain ⟨d, h1, h2⟩ := r.get (hy vs q)
    exact ⟨d, fun _ => h1, Step.refl, o, h2⟩
  · obtain ⟨vs, q, r⟩ := view h
    exact ⟨vs, q, by rw [r.length]; exact Nat.le_refl _⟩
theorem src_str {K : PySem.W.Frag} {s : Str} : Src K cl (fun _ _ => True) (Its s) (signsD s) := by
  refine ⟨fun _ _ => trivial, fun i _ hi => ?_, fun {B H m S} i {y H'} o _ hy => ?_, fun _ => ?_⟩
  · show i < s.cps.size
    simpa [signsD] using hi
  · obtain ⟨rfl, c, hc, rfl⟩ := hy
    refine ⟨.str ⟨#[c]⟩, fun _ => ?_, Step.refl, o, .str _⟩
    rw [← Array.getElem?_toList] at hc
    simp only [signsD, List.getElem?_map, hc]
    rfl
  · show s.cps.size ≤ (signsD s).length
    simp [signsD]
theorem pi_v {tg e : Expr} {c : CE} (he : PE X e (tM X.K cl W c)) : PI X tg e (tMI X.K cl W (ciV c)) :=
  PI.imp (PI.or (pi_list he) (PI.or (pi_tup he) (pi_str he))) fun σ H R h => by
  obtain ⟨B, m, S, ρ, o, e, fin⟩ := h
  unfold ciV at fin
  cases hc : c ρ S with
  | bad => rw [hc] at fin; exact fin.elim
  | exc e' S1 => rw [hc] at fin; exact .inl ⟨B, m, S, ρ, o, e, by rw [hc]; exact fin⟩
  | ok x S1 =>
    rw [hc] at fin
    cases x with
    | ref i => exact fin.elim
    | val d =>
      cases d with
      | lst ds =>
        refine .inl ⟨B, m, S, ρ, o, e, ?_⟩
        rw [hc]
        intro v H1 m1 s1 o1 r1
        obtain ⟨a, vs, rfl, q, rl⟩ := asL_ok (x := .val (.lst ds)) o1 r1 rfl
        exact ⟨a, rfl, ⟨vs, q⟩, fin _ _ H1 m1 s1 o1 r1 (src_lst (.inl rfl))⟩
      | ro ds =>
        refine .inl ⟨B, m, S, ρ, o, e, ?_⟩
        rw [hc]
        intro v H1 m1 s1 o1 r1
        obtain ⟨a, vs, rfl, q, rl⟩ := asL_ok (x := .val (.ro ds)) o1 r1 rfl
        exact ⟨a, rfl, ⟨vs, q⟩, fin _ _ H1 m1 s1 o1 r1 (src_lst (.inr rfl))⟩
      | tup ds =>
        refine .inr (.inl ⟨B, m, S, ρ, o, e, ?_⟩)
        rw [hc]
        intro v H1 m1 s1 o1 r1
        obtain ⟨a, vs, rfl, q, rl⟩ := asT_ok (x := .val (.tup ds)) r1 rfl
        exact ⟨a, rfl, ⟨vs, q⟩, fin _ _ H1 m1 s1 o1 r1 src_tup⟩
      | str s =>
        refine .inr (.inr ⟨B, m, S, ρ, o, e, ?_⟩)
        rw [hc]
        intro v H1 m1 s1 o1 r1
        cases r1
        exact ⟨s, rfl, fin _ _ H1 m1 s1 o1 trivial src_str⟩
      | _ => exact fin.elim
theorem src_enum {K : PySem.W.Frag} {a : Addr} {ds : List D} {d : D} (hd : d = .lst ds ∨ d = .ro ds) : Src K cl (fun N H => Rep K cl N H (.ref a) d) (Ite K a) (enumD 0 ds) := by
  have view : ∀ {N H}, Rep K cl N H (.ref a) d → ∃ vs, SqL K H a vs ∧ RepL K cl N H vs ds := fun {N H} h => by
    rcases hd with rfl | rfl
    · cases h with
      | lst e n r => exact ⟨_, .of e, r⟩
    · cases h with
      | ro e r => exact ⟨_, e.seq, r⟩
  refine ⟨fun h k => h.mono k, fun i h hi => ?_, fun {B H m S} i {y H'} o h hy => ?_, fun h => ?_⟩
  · obtain ⟨vs, q, r⟩ := view h
    rw [enumD_len] at hi
    obtain ⟨v, e, _⟩ := r.got (List.getElem?_eq_getElem hi)
    exact ⟨vs, v, q, e⟩
  · obtain ⟨vs, q, r⟩ := view h
    obtain ⟨T, x, rfl, nT, rfl, hy⟩ := hy
    obtain ⟨d, h1, h2⟩ := r.get (hy vs q)
    refine ⟨.wt [.int (i : Nat), d], fun _ => ?_, Step.new nT, o.new nT, .wt (.inl upd_same) (o.fresh nT) (.cons (.int _) (.cons (h2.mono (Kp.new nT)) .nil))⟩
    have := enumD_get 0 ds i d h1
    rwa [Nat.zero_add] at this
  · obtain ⟨vs, q, r⟩ := view h
    exact ⟨vs, q, by rw [r.length, enumD_len]; exact Nat.le_refl _⟩
theorem pi_e {e : Expr} {c : CE} {p pos tpos : Pos} {elts : List Expr} {kk : Nat} (hm : X.mg "enumerate" = none) (he : PE X e (tM X.K cl W c)) (hg : Gl X "enumerate" := by rfl) (hs : starEach [e] X.env = (false, eval e X.env) :: starEach [] X.env := by rfl) :
    PI X (.Tuple elts kk tpos) (.Call (.Name "enumerate" p) [e] [] pos) (tMI X.K cl W (ciE c)) :=
  PI.imp (pi_enum hg hm (pa_cons he pa_nil hs) hs) fun σ H R h => by
  obtain ⟨B, m, S, ρ, o, e, fin⟩ := h
  refine ⟨B, m, S, ρ, o, e, ?_⟩
  unfold ciE at fin
  cases hc : c ρ S with
  | bad => rw [hc] at fin; exact fin
  | exc e' S1 => rw [hc] at fin; exact fin
  | ok x S1 =>
    rw [hc] at fin
    intro v H1 m1 s1 o1 r1
    cases x with
    | ref i => exact fin.elim
    | val d =>
      cases d with
      | lst ds =>
        obtain ⟨a, vs, rfl, q, rl⟩ := asL_ok (x := .val (.lst ds)) o1 r1 rfl
        exact ⟨a, vs, rfl, q, fin _ _ H1 m1 s1 o1 r1 (src_enum (.inl rfl))⟩
      | ro ds =>
        obtain ⟨a, vs, rfl, q, rl⟩ := asL_ok (x := .val (.ro ds)) o1 r1 rfl
        exact ⟨a, vs, rfl, q, fin _ _ H1 m1 s1 o1 r1 (src_enum (.inr rfl))⟩
      | _ => exact fin.elim
end
end T3
namespace T3
open PySem PySem.Spec PyProof.Rows L2
noncomputable abbrev W0 : WX := fun _ _ _ _ => False
noncomputable def wipeR (ρ : Slots) : List Nat → Slots
  | [] => ρ
  | v :: vs => (wipeR ρ vs).set v none
/-- one item: what it gives, the store behind; none: not served -/
noncomputable abbrev Elm := D → Store → Option (Option D × Store)
noncomputable def lcGo (f : Elm) : List D → Store → Option (List D × Store)
  | [], S => some ([], S)
  | d :: r, S => match f d S with
    | some (some y, S') => (match lcGo f r S' with
      | some (ys, S2) => some (y :: ys, S2)
      | none => none)
    | some (none, S') => lcGo f r S'
    | none => none
noncomputable def elm (t : CT) (ct ce : CE) (ρ : Slots) : Elm := fun d S => match t (.val d) ρ S with
  | some (ρ', S') => (match ct ρ' S' with
    | .ok (.val (.bl true)) S2 => (match ce ρ' S2 with
      | .ok (.val y) S3 => some (some y, S3)
      | _ => none)
    | .ok (.val (.bl false)) S2 => some (none, S2)
    | _ => none)
  | none => none
noncomputable def cYes : CE := cB true
noncomputable def cLc (fr : Bool) (vs : List Nat) (ci : CI) (t : CT) (ct ce : CE) : CE := fun ρ S => match ci ρ S with
  | .ok xs S1 => (match lcGo (elm t ct ce (wipeR ρ vs)) xs S1 with
    | some (ds, S2) => if szOk ds.length then mkL fr ds S2 else .bad
    | none => .bad)
  | .exc e S1 => .exc e S1
  | .bad => .bad
/-- a block's target: just its own names -/
noncomputable def TgC (K : PySem.W.Frag) (cl : ClT) (vs : List Nat) (g : TG) (t : CT) : Prop :=
  ∀ {B : Addr → Prop} {H : Hp} {m : List Addr} {S S' : Store} {v : V} {x : A} {σ : L2.St} {ρ ρ' : Slots} {Q : L2.St → Hp → Prop}, Ok K cl B H m S → EnvOk K cl (NN B m) H m σ ρ → RepA K cl (NN B m) H m v x → t x ρ S = some (ρ', S') →
    (∀ σ', wipe σ' vs = wipe σ vs → S' = S → EnvOk K cl (NN B m) H m σ' ρ' → Q σ' H) → g v σ H Q
theorem wipe_get {σ : L2.St} : ∀ {vs : List Nat} {j : Nat}, j ∉ vs → (wipe σ vs)[j]? = σ[j]?
  | [], _, _ => rfl
  | v :: vs, j, h => by
    have h1 : v ≠ j := fun z => h (by rw [z]; exact List.mem_cons_self)
    show ((wipe σ vs).set v none)[j]? = _
    rw [List.getElem?_set_ne h1]
    exact wipe_get fun z => h (List.mem_cons_of_mem _ z)
theorem wipe_in {σ : L2.St} : ∀ {vs : List Nat} {j : Nat}, j ∈ vs → j < σ.length → (wipe σ vs)[j]? = some none
  | v :: vs, j, h, hl => by
    show ((wipe σ vs).set v none)[j]? = _
    by_cases e : v = j
    · subst e
      rw [List.getElem?_set_self (by rw [wipe_length]; exact hl)]
    · rw [List.getElem?_set_ne e]
      exact wipe_in ((List.mem_cons.mp h).resolve_left fun z => e z.symm) hl
theorem wipe_eq {σ τ : L2.St} {vs : List Nat} (hl : σ.length = τ.length) (h : ∀ j, j ∉ vs → σ[j]? = τ[j]?) : wipe σ vs = wipe τ vs := by
  apply List.ext_getElem?
  intro j
  by_cases hj : j ∈ vs
  · by_cases hlt : j < σ.length
    · rw [wipe_in hj hlt, wipe_in hj (by omega)]
    · rw [List.getElem?_eq_none (by rw [wipe_length]; omega), List.getElem?_eq_none (by rw [wipe_length]; omega)]
  · rw [wipe_get hj, wipe_get hj]
    exact h j hj
theorem wipe_set {σ : L2.St} {vs : List Nat} {i : Nat} {x : Option V} (hi : i ∈ vs) : wipe (σ.set i x) vs = wipe σ vs := wipe_eq (by simp) fun j hj => by
  have h1 : i ≠ j := fun z => hj (by rw [← z]; exact hi)
  rw [List.getElem?_set_ne h1]
theorem wipe_wipe {σ : L2.St} {vs us : List Nat} (h : ∀ i ∈ us, i ∈ vs) : wipe (wipe σ us) vs = wipe σ vs := wipe_eq (wipe_length _ _) fun j hj => wipe_get fun z => hj (h j z)
section
variable {X : Cx} {cl : ClT} {W : WX} {K : PySem.W.Frag}
theorem tgc_name {vs : List Nat} (i : Nat) (hi : i ∈ vs) : TgC K cl vs (gName i) (tgName i) := by
  intro B H m S S' v x σ ρ ρ' Q o e r h k
  cases h
  exact k _ (wipe_set hi) rfl (e.set i r)
theorem EnvOk.wipe {N : Addr → Prop} {H : Hp} {m : List Addr} {σ : L2.St} {ρ : Slots} (e : EnvOk K cl N H m σ ρ) : ∀ vs : List Nat, EnvOk K cl N H m (L2.wipe σ vs) (wipeR ρ vs)
  | [] => e
  | v :: vs => by
    have ih := EnvOk.wipe e vs
    refine ⟨by show ((wipeR ρ vs).set v none).length = ((L2.wipe σ vs).set v none).length; simp [ih.len], fun j x hj => ?_⟩
    have hj : ((wipeR ρ vs).set v none)[j]? = some (some x) := hj
    by_cases hv : v = j
    · subst hv
      by_cases hl : v < (wipeR ρ vs).length
      · rw [List.getElem?_set_self hl] at hj; cases hj
      · rw [List.getElem?_eq_none (by simpa using hl)] at hj; cases hj
    · rw [List.getElem?_set_ne hv] at hj
      obtain ⟨w, h1, h2⟩ := ih.get j x hj
      exact ⟨w, by show ((L2.wipe σ vs).set v none)[j]? = _; rw [List.getElem?_set_ne hv]; exact h1, h2⟩
/-- the list under construction as one more thing that others may not count on -/
noncomputable def BD (B : Addr → Prop) (p : Addr) : Addr → Prop := fun a => B a ∨ a = p
theorem Kp.born {B : Addr → Prop} {H : Hp} {m : List Addr} {p : Addr} {u : HO} (hp : H p = none) : Kp (NN B m) (NN (BD B p) m) H (upd H p u) := ⟨fun a x e _ _ => by rw [upd_ne (ne_of_none e hp)]; exact e, fun a z => by
  rcases z with (z | z) | z
  · exact .inl (.inl z)
  · rw [z]; exact .inr hp
  · exact .inl (.inr z)⟩
theorem Ok.born {B : Addr → Prop} {H : Hp} {m : List Addr} {S : Store} {p : Addr} {u : HO} (o : Ok K cl B H m S) (hp : H p = none) : Ok K cl (BD B p) (upd H p u) m S := by
  refine ⟨fun a z => ?_, o.len, o.nd, fun i a x hi hx => ?_, tabs_upd (.inl hp) o.tabs⟩
  · rcases z with z | z
    · exact ⟨(Step.new hp (m := m)).some (o.foreign a z).1, (o.foreign a z).2⟩
    · rw [z]; exact ⟨by rw [upd_same]; exact fun q => by (cases q), fun z => o.may (.inr z) hp⟩
  · have r := o.obj i a x hi hx
    exact r.mono (Kp.born hp) ⟨[], by simp⟩ (upd_ne (fun z => r.there (z ▸ hp)))
/-- it grows -/
theorem Ok.grow {B : Addr → Prop} {H : Hp} {m : List Addr} {S : Store} {p : Addr} {u : HO} (o : Ok K cl (BD B p) H m S) {ys : List V} (hL : H p = some (.lst ys)) : Ok K cl (BD B p) (upd H p u) m S := by
  have hpm : p ∉ m := (o.foreign p (.inr rfl)).2
  refine ⟨fun a z => ⟨?_, (o.foreign a z).2⟩, o.len, o.nd, fun i a x hi hx => ?_, tabs_upd (.inr ⟨_, hL, nt_of (.inl ⟨_, rfl⟩)⟩) o.tabs⟩
  · by_cases e : a = p
    · rw [e, upd_same]; exact fun q => by cases q
    · rw [upd_ne e]; exact (o.foreign a z).1
  · have r := o.obj i a x hi hx
    have ha : a ≠ p := fun z => hpm (z ▸ List.mem_of_getElem? hi)
    exact r.mono (kp_at (.inl (.inr rfl)) fun b hb => upd_ne hb) ⟨[], by simp⟩ (upd_ne ha)
theorem Ok.less {B B' : Addr → Prop} {H : Hp} {m : List Addr} {S : Store} (o : Ok K cl B' H m S) (h : ∀ a, B a → B' a) : Ok K cl B H m S := by
  have hw : ∀ a, NN B m a → NN B' m a := fun a z => z.imp (h a) id
  refine ⟨fun a z => o.foreign a (h a z), o.len, o.nd, fun i a x hi hx => ?_, o.tabs⟩
  have r := o.obj i a x hi hx
  cases x with
  | lst ds => obtain ⟨xs, e, r⟩ := r; exact ⟨xs, e, r.weak hw⟩
  | dic ks ds => obtain ⟨xs, e, l, r⟩ := r; exact ⟨xs, e, l, r.weak hw⟩
  | ins c ns zs => obtain ⟨dx, xs, e, l, r⟩ := r; exact ⟨dx, xs, e, l, r.weak hw⟩
  | tp zs => obtain ⟨ob, xs, e, hd, r⟩ := r; exact ⟨ob, xs, e, hd, r.weak hw⟩
/-- the made list at its end -/
theorem born_end {B : Addr → Prop} {σ : L2.St} {H1 H : Hp} {m1 m : List Addr} {S : Store} {fr : Bool} {ds : List D} {xs : List V} {p : Addr} {Q : VK} (hp : H1 p = none) (st : Step H1 m1 H m) (o : Ok K cl (BD B p) H m S) (e : H p = some (.lst xs)) (r : RepL K cl (NN (BD B p) m) H xs ds)
    (hB : ¬ B p) (h : Fin K cl B σ H1 m1 W (mkL fr ds S) Q) : Q (.ref p) H := by
  have hpm : p ∉ m := (o.foreign p (.inr rfl)).2
  have hw : ∀ a, NN B m a → NN (BD B p) m a := fun a z => z.imp .inl id
  have o' : Ok K cl B H m S := o.less fun a z => .inl z
  have hn : ¬ NN B m p := fun z => z.elim hB hpm
  cases fr with
  | true => exact h _ _ _ st o' (.lst e hn (r.weak hw))
  | false =>
    obtain ⟨q, rfl, hq⟩ := st.ext
    have hw2 : ∀ a, NN B (m1 ++ q ++ [p]) a → NN (BD B p) (m1 ++ q) a := fun a z => by
      rcases z with z | z
      · exact .inl (.inl z)
      · rcases List.mem_append.mp z with z | z
        · exact .inr z
        · exact .inl (.inr (List.mem_singleton.mp z))
    refine h _ H (m1 ++ q ++ [p]) ⟨⟨q ++ [p], by simp, fun a ha => ?_⟩, st.keep, st.stay⟩ ?_ ⟨p, by rw [← o.len, List.getElem?_append_right (Nat.le_refl _)]; simp, rfl⟩
    · rcases List.mem_append.mp ha with ha | ha
      · exact hq a ha
      · rw [List.mem_singleton.mp ha]; exact hp
    · refine ⟨fun a z => ⟨(o'.foreign a z).1, fun y => ?_⟩, by have := o.len; simp at this ⊢; omega, ?_, fun i a x hi hx => ?_, o.tabs⟩
      · rcases List.mem_append.mp y with y | y
        · exact (o'.foreign a z).2 y
        · rw [List.mem_singleton.mp y] at z; exact hB z
      · rw [List.nodup_append]
        exact ⟨o.nd, by simp, fun a ha b hb => by rw [List.mem_singleton.mp hb]; exact fun e => hpm (e ▸ ha)⟩
      · by_cases hl : i < (m1 ++ q).length
        · rw [List.getElem?_append_left hl] at hi
          rw [List.getElem?_append_left (by rw [← o.len]; exact hl)] at hx
          have r2 := o.obj i a x hi hx
          cases x with
          | lst ds => obtain ⟨xs, e, r⟩ := r2; exact ⟨xs, e, r.weak hw2⟩
          | dic ks ds => obtain ⟨xs, e, l, r⟩ := r2; exact ⟨xs, e, l, r.weak hw2⟩
          | ins c ns zs => obtain ⟨dx, xs, e, l, r⟩ := r2; exact ⟨dx, xs, e, l, RepAs.mono ⟨fun _ _ e _ _ => e, fun _ z => .inl z⟩ ⟨[p], rfl⟩ (r.weak hw2)⟩
          | tp zs => obtain ⟨ob, xs, e, hd, r⟩ := r2; exact ⟨ob, xs, e, hd, RepAs.mono ⟨fun _ _ e _ _ => e, fun _ z => .inl z⟩ ⟨[p], rfl⟩ (r.weak hw2)⟩
        · have hi' := (List.getElem?_eq_some_iff.mp hi).1
          have ei : i = (m1 ++ q).length := by simp at hi' hl ⊢; omega
          subst ei
          rw [List.getElem?_append_right (Nat.le_refl _)] at hi
          rw [o.len, List.getElem?_append_right (Nat.le_refl _)] at hx
          simp at hi hx
          subst hi hx
          exact ⟨xs, e, r.weak hw2⟩
theorem lcGo_cons {f : Elm} {d : D} {r : List D} {S S2 : Store} {ys : List D} (h : lcGo f (d :: r) S = some (ys, S2)) : (∃ y S' zs, f d S = some (some y, S') ∧ lcGo f r S' = some (zs, S2) ∧ ys = y :: zs) ∨ ∃ S', f d S = some (none, S') ∧ lcGo f r S' = some (ys, S2) := by
  unfold lcGo at h
  split at h
  · rename_i y S' h1
    split at h
    · rename_i zs S3 h2
      cases h
      exact .inl ⟨y, S', zs, h1, h2, rfl⟩
    · cases h
  · rename_i S' h1
    exact .inr ⟨S', h1, h⟩
  · cases h
theorem tLc_ok {fr : Bool} {vs : List Nat} {ci : CI} {g : TG} {t : CT} {ct ce : CE} (hg : TgC X.K cl vs g t) {tt : TT} (htt : ∀ σ H Q, tMT X.K cl W0 ct σ H Q → tt σ H Q) {σ : L2.St} {H : Hp} {Q : VK} (h : tM X.K cl W (cLc fr vs ci t ct ce) σ H Q) :
    tLc (tMI X.K cl W ci) g tt (tM X.K cl W0 ce) vs σ H Q := by
  obtain ⟨B, m, S, ρ, o, e, fin⟩ := h
  refine ⟨B, m, S, ρ, o, e, ?_⟩
  unfold cLc at fin
  cases hi : ci ρ S with
  | bad => rw [hi] at fin; exact fin
  | exc e' S' => rw [hi] at fin; exact fin
  | ok xs S1 =>
    rw [hi] at fin
    dsimp only at fin
    split at fin
    rotate_left
    · exact fin.elim
    rename_i ds S2 hgo
    split at fin
    rotate_left
    · exact fin.elim
    rename_i hz
    intro J live H1 m1 s1 o1 l1 src D hD
    have fin1 := Fin.step s1 fin
    have hB : ¬ B D := fun z => (o1.foreign D z).1 hD
    have e1 := s1.env o e
    have e1' : EnvOk X.K cl (NN (BD B D) m1) (upd H1 D (.lst [])) m1 σ ρ := e1.mono (Kp.born hD) ⟨[], by simp⟩
    refine ⟨fun i n H => n = xs.length - i ∧ i ≤ xs.length ∧ ∃ m S acc av rest, Step H1 m1 H m ∧ Ok X.K cl (BD B D) H m S ∧ EnvOk X.K cl (NN (BD B D) m) H m σ ρ ∧ live (NN (BD B D) m) H ∧ H D = some (.lst av) ∧ RepL X.K cl (NN (BD B D) m) H av acc ∧
        lcGo (elm t ct ce (wipeR ρ vs)) (xs.drop i) S = some (rest, S2) ∧ ds = acc ++ rest,
      ⟨xs.length, by simp, Nat.zero_le _, m1, S1, [], [], ds, Step.new hD, o1.born hD, e1', src.keep l1 (Kp.born hD), upd_same, .nil, hgo, rfl⟩, ?_⟩
    rintro i n H2 ⟨rfl, hle, m2, S3, acc, av, rest, st2, o2, e2, l2, hd2, ra2, go2, eds⟩
    by_cases hlt : i < xs.length
    · refine .inr ⟨src.go i l2 hlt, fun H => i + 1 ≤ xs.length ∧ ∃ m S acc av rest, Step H1 m1 H m ∧ Ok X.K cl (BD B D) H m S ∧ EnvOk X.K cl (NN (BD B D) m) H m σ ρ ∧ live (NN (BD B D) m) H ∧ H D = some (.lst av) ∧ RepL X.K cl (NN (BD B D) m) H av acc ∧
          lcGo (elm t ct ce (wipeR ρ vs)) (xs.drop (i + 1)) S = some (rest, S2) ∧ ds = acc ++ rest, fun H' hn => ⟨xs.length - (i + 1), by omega, rfl, hn⟩, fun y H3 hy => ?_⟩
      obtain ⟨d, hd, s3, o3, r3⟩ := src.yld i o2 l2 hy
      have hd := hd hlt
      rw [List.drop_eq_getElem_cons hlt] at go2
      rw [List.getElem?_eq_getElem hlt] at hd
      cases hd
      have l3 := src.step o2 l2 s3
      have e3 := s3.env o2 e2
      have kp3 : Kp (NN (BD B D) m2) (NN (BD B D) m2) H2 H3 := s3.kp fun a h => (o2.foreign a h).2
      have ra3 := ra2.mono kp3
      have hDm : D ∉ m2 := (o2.foreign D (.inr rfl)).2
      have hd3 : H3 D = some (.lst av) := s3.kept D _ hd2 hDm
      have st3 := st2.trans s3
      have he : ∃ ρ4, t (.val xs[i]) (wipeR ρ vs) S3 = some (ρ4, S3) ∧ ((∃ y S5 S6 zs, ct ρ4 S3 = .ok (.val (.bl true)) S5 ∧ ce ρ4 S5 = .ok (.val y) S6 ∧ lcGo (elm t ct ce (wipeR ρ vs)) (xs.drop (i + 1)) S6 = some (zs, S2) ∧ rest = y :: zs) ∨
          ∃ S5, ct ρ4 S3 = .ok (.val (.bl false)) S5 ∧ lcGo (elm t ct ce (wipeR ρ vs)) (xs.drop (i + 1)) S5 = some (rest, S2)) ∨ ∃ ρ4 S4, t (.val xs[i]) (wipeR ρ vs) S3 = some (ρ4, S4) ∧ S4 ≠ S3 := by
        rcases lcGo_cons go2 with ⟨y, S', zs, h1, h2, h3⟩ | ⟨S', h1, h2⟩
        all_goals
          unfold elm at h1
          cases ht : t (.val xs[i]) (wipeR ρ vs) S3 with
          | none => rw [ht] at h1; cases h1
          | some q =>
            obtain ⟨ρ4, S4⟩ := q
            rw [ht] at h1
            dsimp only at h1
            by_cases hS : S4 = S3
            · subst hS
              refine ⟨ρ4, .inl ⟨rfl, ?_⟩⟩
              cases hc : ct ρ4 S4 with
              | bad => rw [hc] at h1; cases h1
              | exc _ _ => rw [hc] at h1; cases h1
              | ok x S5 =>
                rw [hc] at h1
                cases x with
                | ref _ => cases h1
                | val z =>
                  cases z with
                  | bl b =>
                    cases b with
                    | true =>
                      dsimp only at h1
                      cases hv : ce ρ4 S5 with
                      | bad => rw [hv] at h1; cases h1
                      | exc _ _ => rw [hv] at h1; cases h1
                      | ok w S6 =>
                        rw [hv] at h1
                        cases w with
                        | ref _ => cases h1
                        | val w => first | (cases h1; exact .inl ⟨_, S5, _, zs, rfl, hv, h2, h3⟩) | cases h1
                    | false => first | (cases h1; exact .inr ⟨_, rfl, h2⟩) | cases h1
                  | _ => cases h1
            · exact ⟨ρ4, .inr ⟨ρ4, S4, rfl, hS⟩⟩
      obtain ⟨ρ4, he⟩ := he
      rcases he with ⟨ht, he⟩ | ⟨ρ5, S4, ht, hne⟩
      rotate_left
      · exact hg (x := .val xs[i]) o3 (e3.wipe vs) r3 ht fun σ' _ q _ => absurd q hne
      refine hg (x := .val xs[i]) o3 (e3.wipe vs) r3 ht fun σ4 w4 _ e4 => ⟨w4.trans (wipe_wipe fun i h => h), ?_⟩
      -- the test
      rcases he with ⟨y, S5, S6, zs, hc, hv, hgo', hr⟩ | ⟨S5, hc, hgo'⟩
      · refine htt _ _ _ ⟨BD B D, m2, S3, ρ4, o3, e4, ?_⟩
        rw [hc]
        intro H5 m5 s5 o5
        refine iteT ⟨BD B D, m5, S5, ρ4, o5, s5.env o3 e4, ?_⟩
        rw [hv]
        intro u H6 m6 s6 o6 r6
        have s56 := s5.trans s6
        have hD6 : D ∉ m6 := (o6.foreign D (.inr rfl)).2
        have hd6 : H6 D = some (.lst av) := s56.kept D _ hd3 hDm
        have kp6 : Kp (NN (BD B D) m2) (NN (BD B D) m6) H3 H6 := s56.kp fun a h => (o3.foreign a h).2
        have ex6 : ∃ r, m6 = m2 ++ r := let ⟨r, h, _⟩ := s56.ext; ⟨r, h⟩
        have ra6 := ra3.mono kp6
        have kg : Kp (NN (BD B D) m6) (NN (BD B D) m6) H6 (upd H6 D (.lst (av ++ [u]))) := kp_at (.inl (.inr rfl)) fun b hb => upd_ne hb
        have hlen : av.length < sizeLine := by
          rw [ra6.length]
          have := of_decide_eq_true hz
          rw [eds, List.length_append, hr, List.length_cons] at this
          exact Nat.lt_of_lt_of_le (by omega : acc.length < 16000000) (by decide)
        refine ⟨av, hd6, hlen, hlt, m6, S6, acc ++ [y], av ++ [u], zs, ?_, o6.grow hd6, (e3.mono kp6 ex6).mono kg ⟨[], by simp⟩, src.keep (src.keep l3 kp6) kg, upd_same, (ra6.append (.cons r6 .nil)).mono kg, hgo', by rw [eds, hr]; simp⟩
        have st6 := st3.trans s56
        refine ⟨st6.ext, fun a z hz hn nt => ?_, fun a hn => ?_⟩
        · rw [upd_ne fun q => by rw [q, hD] at hz; cases hz]; exact st6.keep a z hz hn nt
        · by_cases q : a = D
          · rw [q, upd_same]; exact fun z => by cases z
          · rw [upd_ne q]; exact st6.stay a hn
      · refine htt _ _ _ ⟨BD B D, m2, S3, ρ4, o3, e4, ?_⟩
        rw [hc]
        intro H5 m5 s5 o5
        have kp5 : Kp (NN (BD B D) m2) (NN (BD B D) m5) H3 H5 := s5.kp fun a h => (o3.foreign a h).2
        have ex5 : ∃ r, m5 = m2 ++ r := let ⟨r, h, _⟩ := s5.ext; ⟨r, h⟩
        exact iteF ⟨hlt, m5, S5, acc, av, rest, st3.trans s5, o5, e3.mono kp5 ex5, src.keep l3 kp5, s5.kept D _ hd3 hDm, ra3.mono kp5, hgo', eds⟩
    · have hi : i = xs.length := by omega
      subst hi
      rw [List.drop_length] at go2
      cases go2
      rw [List.append_nil] at eds
      subst eds
      exact .inl ⟨src.stop l2, born_end hD st2 o2 hd2 ra2 hB fin1⟩
end
end T3
namespace T3
open PySem PySem.Spec PyProof.Rows L2
section
variable {X : Cx} {cl : ClT} {W : WX}
theorem pm_lc (fr : Bool) {elt tg iter : Expr} {ifs : List Expr} {scope : Scope} {own : List (Str × Nat)} {pos : Pos} {ci : CI} {g : TG} {t : CT} {ct ce : CE} {tt : TT} (hc : X.calm = true) (hN : X.N.Nodup) (hi : PI X tg iter (tMI X.K cl W ci)) (ok : BlkOk X.N X.env.scope scope own)
    (hg : ∀ (s : Shared) (H : Hp) (C : Addr) (cl' : List (Str × Addr)) (fp : List Addr), PG (X.blk s H scope (compEnvC scope cl' C X.env) fp) tg g) (hgo : TgC X.K cl (own.map (·.2)) g t)
    (ht : ∀ (s : Shared) (H : Hp) (C : Addr) (cl' : List (Str × Addr)) (fp : List Addr), PTs (X.blk s H scope (compEnvC scope cl' C X.env) fp) ifs tt) (hto : ∀ σ H Q, tMT X.K cl W0 ct σ H Q → tt σ H Q)
    (he : ∀ (s : Shared) (H : Hp) (C : Addr) (cl' : List (Str × Addr)) (fp : List Addr), PE (X.blk s H scope (compEnvC scope cl' C X.env) fp) elt (tM X.K cl W0 ce)) (hs : ∀ x, foldedSetIterable iter X.env x = pure x := by intro _; rfl) :
    PE X (.ListComp elt [⟨tg, iter, ifs, 0⟩] scope pos) (tM X.K cl W (cLc fr (own.map (·.2)) ci t ct ce)) := PE.imp (pe_lc hc hN hi ok hg ht he hs) fun _ _ _ h => tLc_ok hgo hto h
theorem tYes_ok {K : PySem.W.Frag} {σ : L2.St} {H : Hp} {Q : Bool → Hp → Prop} (h : tMT K cl W0 cYes σ H Q) : tYes σ H Q := by
  obtain ⟨B, m, S, ρ, o, e, fin⟩ := h
  exact fin H m Step.refl o
theorem pm_setLc (fr : Bool) (i : Nat) {y : Str} {py : Pos} {elt tg iter : Expr} {ifs : List Expr} {scope : Scope} {own : List (Str × Nat)} {pos spos : Pos} {ci : CI} {g : TG} {t : CT} {ct ce : CE} {tt : TT} (hc : X.calm = true) (hN : X.N.Nodup)
    (hsw : swapsWith (.ListComp elt [⟨tg, iter, ifs, 0⟩] scope pos) (some (.Name y py)) spos.line X.env = pure true) (hi : PI X tg iter (tMI X.K cl W ci)) (ok : BlkOk X.N X.env.scope scope own)
    (hg : ∀ (s : Shared) (H : Hp) (C : Addr) (cl' : List (Str × Addr)) (fp : List Addr), PG (X.blk s H scope (compEnvC scope cl' C X.env) fp) tg g) (hgo : TgC X.K cl (own.map (·.2)) g t)
    (ht : ∀ (s : Shared) (H : Hp) (C : Addr) (cl' : List (Str × Addr)) (fp : List Addr), PTs (X.blk s H scope (compEnvC scope cl' C X.env) fp) ifs tt) (hto : ∀ σ H Q, tMT X.K cl W0 ct σ H Q → tt σ H Q)
    (he : ∀ (s : Shared) (H : Hp) (C : Addr) (cl' : List (Str × Addr)) (fp : List Addr), PE (X.blk s H scope (compEnvC scope cl' C X.env) fp) elt (tM X.K cl W0 ce)) (hs : ∀ x, foldedSetIterable iter X.env x = pure x := by intro _; rfl)
    (hy : X.N[i]? = some y := by rfl) (hyl : X.env.scope.names.lookup y = some .local := by rfl) :
    PS X (.Assign [.Name y py] (.ListComp elt [⟨tg, iter, ifs, 0⟩] scope pos) spos) (tMS X.K cl W (sAsg (tgName i) (cLc fr (own.map (·.2)) ci t ct ce))) :=
  PS.imp (ps_setLc hc hN hy hyl hsw hi ok hg ht he hs) fun E σ H h => by
  obtain ⟨B, m, S, ρ, o, e, fin⟩ := h
  refine tLc_ok hgo hto ⟨B, m, S, ρ, o, e, FinS.bind o e fin fun x S1 v H1 m1 s1 o1 e1 r1 f1 => ?_⟩
  exact f1 _ H1 m1 Step.refl o1 (e1.set i r1)
noncomputable def cB1 (f : List A → Store → Res) (c : CA) : CE := fun ρ S => (c ρ S).bind f
theorem tCB_ok {r : List V → Hp → VK → Prop} {f : List A → Store → Res} {c : CA} (hf : CaOk X.K cl r f) {σ : L2.St} {H : Hp} {Q : VK} (h : tM X.K cl W (cB1 f c) σ H Q) : tCB r (tML X.K cl W c) σ H Q := by
  obtain ⟨B, m, S, ρ, o, e, fin⟩ := h
  exact ⟨B, m, S, ρ, o, e, FinL.bind fin fun xs S1 vs H1 m1 s1 o1 r1 f1 => hf o1 r1 f1⟩
theorem pm_b {id nm : String} {x : Str} {r : List V → Hp → VK → Prop} {f : List A → Store → Res} {c : CA} {e : Expr} {es : List Expr} {p pos : Pos} (hr : CallR X (.builtin id) r) (hf : CaOk X.K cl r f) (hm : X.mg x = none) (hv : bootBuiltins x = some (.builtin id)) (ha : PA X (e :: es) (tML X.K cl W c)) (hg : Gl X x := by rfl)
    (hn : x ≠ "__name__" := by decide) (hdb : (x == ("__debug__" : Str)) = false := by decide) (he : starEach (e :: es) X.env = (false, eval e X.env) :: starEach es X.env := by rfl) (hpl : (backTo pos (starEach es X.env)).any (·.1) = false := by rfl) :
    PE X (.Call (.Name x p) (e :: es) [] pos) (tM X.K cl W (cB1 f c)) := by
  refine PE.imp (t := tCB r (tML X.K cl W c)) ?_ fun _ _ _ h => tCB_ok hf h
  first
    | exact pe_callB hr hg hm hv ha hn hdb he hpl
    | exact pe_callB hr hg hm hv ha
theorem pm_t {T : String} {x : Str} {r : List V → Hp → VK → Prop} {f : List A → Store → Res} {c : CA} {e : Expr} {es : List Expr} {p pos : Pos} (hr : CallR X (.type T) r) (hf : CaOk X.K cl r f) (hm : X.mg x = none) (hv : bootBuiltins x = some (.type T)) (ha : PA X (e :: es) (tML X.K cl W c)) (hg : Gl X x := by rfl)
    (hn : x ≠ "__name__" := by decide) (hdb : (x == ("__debug__" : Str)) = false := by decide) (he : starEach (e :: es) X.env = (false, eval e X.env) :: starEach es X.env := by rfl) (hpl : (backTo pos (starEach es X.env)).any (·.1) = false := by rfl) :
    PE X (.Call (.Name x p) (e :: es) [] pos) (tM X.K cl W (cB1 f c)) := by
  refine PE.imp (t := tCB r (tML X.K cl W c)) ?_ fun _ _ _ h => tCB_ok hf h
  first
    | exact pe_callTy hr hg hm hv ha hn hdb he hpl
    | exact pe_callTy hr hg hm hv ha
end
end T3
namespace T3
open PySem PySem.Spec PyProof.Rows L2
noncomputable def intsOf : List D → Option (List Int)
  | [] => some []
  | .int i :: r => (intsOf r).map (i :: ·)
  | _ => none
noncomputable def boolsOf : List D → Option (List Bool)
  | [] => some []
  | .bl i :: r => (boolsOf r).map (i :: ·)
  | _ => none
noncomputable def strsOf : List D → Option (List Str)
  | [] => some []
  | .str i :: r => (strsOf r).map (i :: ·)
  | _ => none
section
variable {K : PySem.W.Frag} {cl : ClT} {N : Addr → Prop} {B : Addr → Prop} {H : Hp} {m : List Addr} {S : Store}
theorem intsOf_ok : ∀ {vs : List V} {ds : List D} {is : List Int}, RepL K cl N H vs ds → intsOf ds = some is → vs = is.map V.int
  | _, _, _, .nil, h => by cases h; rfl
  | _, _, _, .cons h1 r, h => by
    cases h1 <;> simp only [intsOf, Option.map_eq_some_iff, reduceCtorEq] at h
    obtain ⟨a, h, rfl⟩ := h
    rw [intsOf_ok r h]
    rfl
theorem boolsOf_ok : ∀ {vs : List V} {ds : List D} {is : List Bool}, RepL K cl N H vs ds → boolsOf ds = some is → vs = is.map V.bl
  | _, _, _, .nil, h => by cases h; rfl
  | _, _, _, .cons h1 r, h => by
    cases h1 <;> simp only [boolsOf, Option.map_eq_some_iff, reduceCtorEq] at h
    obtain ⟨a, h, rfl⟩ := h
    rw [boolsOf_ok r h]
    rfl
theorem strsOf_ok : ∀ {vs : List V} {ds : List D} {is : List Str}, RepL K cl N H vs ds → strsOf ds = some is → vs = is.map V.str
  | _, _, _, .nil, h => by cases h; rfl
  | _, _, _, .cons h1 r, h => by
    cases h1 <;> simp only [strsOf, Option.map_eq_some_iff, reduceCtorEq] at h
    obtain ⟨a, h, rfl⟩ := h
    rw [strsOf_ok r h]
    rfl
theorem RepL.ints : ∀ is : List Int, RepL K cl N H (is.map V.int) (is.map D.int)
  | [] => .nil
  | i :: r => .cons (.int i) (RepL.ints r)
end
noncomputable def fLen : List A → Store → Res
  | [.val (.str s)], S => if szOk s.length then .ok (.val (.int s.length)) S else .bad
  | [.val (.tup ds)], S => .ok (.val (.int ds.length)) S
  | [x], S => (match asL S x with
    | some ds => .ok (.val (.int ds.length)) S
    | none => .bad)
  | _, _ => .bad
noncomputable def fTuple : List A → Store → Res
  | [.val (.tup ds)], S => .ok (.val (.tup ds)) S
  | [x], S => (match asL S x with
    | some ds => .ok (.val (.tup ds)) S
    | none => .bad)
  | _, _ => .bad
noncomputable def fList (fr : Bool) : List A → Store → Res
  | [.val (.tup ds)], S => mkL fr ds S
  | [x], S => (match asL S x with
    | some ds => mkL fr ds S
    | none => .bad)
  | _, _ => .bad
noncomputable def fAll : List A → Store → Res
  | [x], S => (match asL S x with
    | some ds => (match boolsOf ds with
      | some bs => .ok (.val (.bl (bs.all id))) S
      | none => .bad)
    | none => .bad)
  | _, _ => .bad
noncomputable def fAny : List A → Store → Res
  | [x], S => (match asL S x with
    | some ds => (match boolsOf ds with
      | some bs => .ok (.val (.bl (bs.any id))) S
      | none => .bad)
    | none => .bad)
  | _, _ => .bad
noncomputable def fStr : List A → Store → Res
  | [.val (.int i)], S => if decide (i.natAbs.log2 < 1920) then .ok (.val (.str (toString i : String))) S else .bad
  | [.val (.str s)], S => .ok (.val (.str s)) S
  | _, _ => .bad
noncomputable def fInt : List A → Store → Res
  | [.val (.int i)], S => .ok (.val (.int i)) S
  | [.val (.bl b)], S => .ok (.val (.int (if b then 1 else 0))) S
  | [.val (.str s)], S => (match PySem.intText? s with
    | some n => if decide (s.length ≤ 640) then .ok (.val (.int n)) S else .bad
    | none => .bad)
  | _, _ => .bad
noncomputable def fAbs : List A → Store → Res
  | [.val (.int i)], S => .ok (.val (.int (if i < 0 then -i else i))) S
  | _, _ => .bad
noncomputable def fMax2 : List A → Store → Res
  | [.val (.int i), .val (.int j)], S => .ok (.val (.int (if j > i then j else i))) S
  | _, _ => .bad
noncomputable def fMin2 : List A → Store → Res
  | [.val (.int i), .val (.int j)], S => .ok (.val (.int (if j < i then j else i))) S
  | _, _ => .bad
noncomputable def fDivmod : List A → Store → Res
  | [.val (.int i), .val (.int j)], S => if decide (0 < j) && decide (j < 1073741824) then .ok (.val (.tup [.int (i / j), .int (i % j)])) S else .bad
  | _, _ => .bad
noncomputable def maxI : List Int → Option Int
  | [] => none
  | i :: r => some (r.foldl max i)
section
variable {X : Cx} {cl : ClT}
theorem one_arg {K : PySem.W.Frag} {N : Addr → Prop} {H : Hp} {m : List Addr} {vs : List V} {x : A} (r : RepAs K cl N H m vs [x]) : ∃ v, vs = [v] ∧ RepA K cl N H m v x := by
  cases r with
  | cons h q => cases q; exact ⟨_, rfl, h⟩
theorem two_args {K : PySem.W.Frag} {N : Addr → Prop} {H : Hp} {m : List Addr} {vs : List V} {x y : A} (r : RepAs K cl N H m vs [x, y]) : ∃ v w, vs = [v, w] ∧ RepA K cl N H m v x ∧ RepA K cl N H m w y := by
  cases r with
  | cons h q =>
    obtain ⟨w, rfl, h2⟩ := one_arg q
    exact ⟨_, w, rfl, h, h2⟩
theorem ok_len : CaOk X.K cl (fun xs H Q => ∃ x n, xs = [x] ∧ LenV X.K x H n ∧ Q (.int n) H) fLen := by
  intro B H m S σ W vs xs Q o r h
  unfold fLen at h
  split at h
  · rename_i s
    obtain ⟨v, rfl, r1⟩ := one_arg r
    cases r1
    split at h
    · rename_i hz
      exact ⟨_, s.length, rfl, ⟨szOk_line hz, rfl⟩, h.here o (.int _)⟩
    · exact h.elim
  · rename_i ds
    obtain ⟨v, rfl, r1⟩ := one_arg r
    obtain ⟨a, xs, rfl, q, rl⟩ := asT_ok (x := .val (.tup ds)) r1 rfl
    exact ⟨_, xs.length, rfl, .inr ⟨xs, q, rfl⟩, by rw [rl.length]; exact h.here o (.int _)⟩
  · obtain ⟨v, rfl, r1⟩ := one_arg r
    split at h
    · rename_i ds hd
      obtain ⟨a, xs, rfl, q, rl⟩ := asL_ok o r1 hd
      exact ⟨_, xs.length, rfl, .inl ⟨xs, q, rfl⟩, by rw [rl.length]; exact h.here o (.int _)⟩
    · exact h.elim
  · exact h.elim
theorem ok_tuple : CaOk X.K cl (fun xs H Q => ∃ p ys, xs = [.ref p] ∧ ((SqL X.K H p ys ∧ NewT ys H Q) ∨ (SqT X.K H p ys ∧ Q (.ref p) H))) fTuple := by
  intro B H m S σ W vs xs Q o r h
  unfold fTuple at h
  split at h
  · rename_i ds
    obtain ⟨v, rfl, r1⟩ := one_arg r
    obtain ⟨a, xs, rfl, q, rl⟩ := asT_ok (x := .val (.tup ds)) r1 rfl
    exact ⟨a, xs, rfl, .inr ⟨q, h.here o r1⟩⟩
  · obtain ⟨v, rfl, r1⟩ := one_arg r
    split at h
    · rename_i ds hd
      obtain ⟨a, xs, rfl, q, rl⟩ := asL_ok o r1 hd
      exact ⟨a, xs, rfl, .inl ⟨q, mkT_ok o rl h⟩⟩
    · exact h.elim
  · exact h.elim
theorem ok_list (fr : Bool) : CaOk X.K cl (fun xs H Q => ∃ p ys, xs = [.ref p] ∧ (SqL X.K H p ys ∨ SqT X.K H p ys) ∧ ∀ l, H l = none → Q (.ref l) (upd H l (.lst ys))) (fList fr) := by
  intro B H m S σ W vs xs Q o r h
  unfold fList at h
  split at h
  · rename_i ds
    obtain ⟨v, rfl, r1⟩ := one_arg r
    obtain ⟨a, xs, rfl, q, rl⟩ := asT_ok (x := .val (.tup ds)) r1 rfl
    exact ⟨a, xs, rfl, .inr q, fun l hl => mkL_ok o rl hl h⟩
  · obtain ⟨v, rfl, r1⟩ := one_arg r
    split at h
    · rename_i ds hd
      obtain ⟨a, xs, rfl, q, rl⟩ := asL_ok o r1 hd
      exact ⟨a, xs, rfl, .inl q, fun l hl => mkL_ok o rl hl h⟩
    · exact h.elim
  · exact h.elim
theorem ok_all : CaOk X.K cl (rAll X.K) fAll := by
  intro B H m S σ W vs xs Q o r h
  unfold fAll at h
  split at h
  · obtain ⟨v, rfl, r1⟩ := one_arg r
    split at h
    · rename_i ds hd
      split at h
      · rename_i bs hb
        obtain ⟨a, xs, rfl, q, rl⟩ := asL_ok o r1 hd
        exact ⟨a, bs, rfl, boolsOf_ok rl hb ▸ q, h.here o (.bl _)⟩
      · exact h.elim
    · exact h.elim
  · exact h.elim
theorem call_strM : CallR X (.type "str") (fun xs H Q => (∃ i, xs = [.int i] ∧ i.natAbs.log2 < 1920 ∧ Q (.str (toString i : String)) H) ∨ ∃ a, xs = [.str a] ∧ Q (.str a) H) := CallR.or call_str_int SkE.call_str_str
theorem ok_str : CaOk X.K cl (fun xs H Q => (∃ i, xs = [.int i] ∧ i.natAbs.log2 < 1920 ∧ Q (.str (toString i : String)) H) ∨ ∃ a, xs = [.str a] ∧ Q (.str a) H) fStr := by
  intro B H m S σ W vs xs Q o r h
  unfold fStr at h
  split at h
  · rename_i i
    obtain ⟨v, rfl, r1⟩ := one_arg r
    cases r1
    split at h
    · rename_i hz
      exact .inl ⟨i, rfl, of_decide_eq_true hz, h.here o (.str _)⟩
    · exact h.elim
  · rename_i s
    obtain ⟨v, rfl, r1⟩ := one_arg r
    cases r1
    exact .inr ⟨s, rfl, h.here o (.str _)⟩
  · exact h.elim
noncomputable def rIntM : List V → Hp → VK → Prop := fun xs H Q => ((∃ i, xs = [.int i] ∧ Q (.int i) H) ∨ ∃ k, xs = [.bl k] ∧ Q (.int (if k then 1 else 0)) H) ∨ ∃ a n, xs = [.str a] ∧ PySem.intText? a = some n ∧ a.length ≤ 640 ∧ Q (.int n) H
theorem call_intM : CallR X (.type "int") rIntM := CallR.or call_int1 call_int_str
theorem ok_int : CaOk X.K cl rIntM fInt := by
  intro B H m S σ W vs xs Q o r h
  unfold fInt at h
  split at h
  · rename_i i
    obtain ⟨v, rfl, r1⟩ := one_arg r
    cases r1
    exact .inl (.inl ⟨i, rfl, h.here o (.int _)⟩)
  · rename_i b
    obtain ⟨v, rfl, r1⟩ := one_arg r
    cases r1
    exact .inl (.inr ⟨b, rfl, h.here o (.int _)⟩)
  · rename_i s
    obtain ⟨v, rfl, r1⟩ := one_arg r
    cases r1
    split at h
    · rename_i n hn
      split at h
      · rename_i hz
        exact .inr ⟨s, n, rfl, hn, of_decide_eq_true hz, h.here o (.int _)⟩
      · exact h.elim
    · exact h.elim
  · exact h.elim
theorem ok_abs : CaOk X.K cl (fun xs H Q => ∃ i, xs = [.int i] ∧ Q (.int (if i < 0 then -i else i)) H) fAbs := by
  intro B H m S σ W vs xs Q o r h
  unfold fAbs at h
  split at h
  · rename_i i
    obtain ⟨v, rfl, r1⟩ := one_arg r
    cases r1
    exact ⟨i, rfl, h.here o (.int _)⟩
  · exact h.elim
theorem ok_max2 : CaOk X.K cl (fun xs H Q => ∃ i j, xs = [.int i, .int j] ∧ Q (.int (if j > i then j else i)) H) fMax2 := by
  intro B H m S σ W vs xs Q o r h
  unfold fMax2 at h
  split at h
  · rename_i i j
    obtain ⟨v, w, rfl, r1, r2⟩ := two_args r
    cases r1; cases r2
    exact ⟨i, j, rfl, h.here o (.int _)⟩
  · exact h.elim
theorem ok_min2 : CaOk X.K cl (fun xs H Q => ∃ i j, xs = [.int i, .int j] ∧ Q (.int (if j < i then j else i)) H) fMin2 := by
  intro B H m S σ W vs xs Q o r h
  unfold fMin2 at h
  split at h
  · rename_i i j
    obtain ⟨v, w, rfl, r1, r2⟩ := two_args r
    cases r1; cases r2
    exact ⟨i, j, rfl, h.here o (.int _)⟩
  · exact h.elim
theorem ok_divmod : CaOk X.K cl (fun xs H Q => ∃ i j, xs = [.int i, .int j] ∧ CDiv i j ∧ NewT [.int (i / j), .int (i % j)] H Q) fDivmod := by
  intro B H m S σ W vs xs Q o r h
  unfold fDivmod at h
  split at h
  · rename_i i j
    obtain ⟨v, w, rfl, r1, r2⟩ := two_args r
    cases r1; cases r2
    split at h
    · rename_i hz
      simp only [Bool.and_eq_true, decide_eq_true_eq] at hz
      exact ⟨i, j, rfl, hz, mkT_ok o (.cons (.int _) (.cons (.int _) .nil)) h⟩
    · exact h.elim
  · exact h.elim
end
end T3
namespace T3
open PySem PySem.Spec PyProof.Rows L2
noncomputable def flatD : D → Bool
  | .non | .bl _ | .int _ | .str _ => true
  | _ => false
noncomputable def inD (x : D) (ds : List D) : Bool := ds.any fun y => dEq y x
noncomputable def fInB (x y : A) (S : Store) : Option Bool := match x, y with
  | .val (.str a), .val (.str b) => if a.cps.toList.length = 1 then some (decide (a.cps.toList.getD 0 0 ∈ b.cps.toList)) else none
  | .val d, y => match (match y with
      | .val (.tup ds) => some ds
      | y => asL S y) with
    | some ds => if flatD d && ds.all flatD then some (inD d ds) else (match asL S y with
      | some ds => if shp d && dOkL ds && decide (dDepL ds ≤ 50) then some (inD d ds) else none
      | none => none)
    | none => none
  | _, _ => none
noncomputable def fIn (x y : A) (S : Store) : Res := match fInB x y S with
  | some b => .ok (.val (.bl b)) S
  | none => .bad
noncomputable def fNotIn (x y : A) (S : Store) : Res := match fInB x y S with
  | some b => .ok (.val (.bl (!b))) S
  | none => .bad
section
variable {X : Cx} {cl : ClT} {W : WX}
theorem flat_V {K : PySem.W.Frag} {N : Addr → Prop} {H : Hp} {v : V} {d : D} (r : Rep K cl N H v d) (h : flatD d = true) : flatV v = true := by
  cases r <;> first | rfl | cases h
theorem flats_V {K : PySem.W.Frag} {N : Addr → Prop} {H : Hp} : ∀ {vs : List V} {ds : List D}, RepL K cl N H vs ds → ds.all flatD = true → vs.all flatV = true
  | _, _, .nil, _ => rfl
  | _, _, .cons h r, hz => by
    simp only [List.all_cons, Bool.and_eq_true] at hz ⊢
    exact ⟨flat_V h hz.1, flats_V r hz.2⟩
theorem eqV_dEq {K : PySem.W.Frag} {N : Addr → Prop} {H : Hp} {v w : V} {d e : D} (r : Rep K cl N H v d) (q : Rep K cl N H w e) (hd : flatD d = true) (he : flatD e = true) : eqV v w = dEq d e := by
  cases r <;> first | (cases q <;> first | rfl | cases he) | cases hd
theorem inV_inD {K : PySem.W.Frag} {N : Addr → Prop} {H : Hp} {v : V} {d : D} (r : Rep K cl N H v d) (hd : flatD d = true) : ∀ {vs : List V} {ds : List D}, RepL K cl N H vs ds → ds.all flatD = true → inV v vs = inD d ds
  | _, _, .nil, _ => rfl
  | _, _, .cons h q, hz => by
    simp only [List.all_cons, Bool.and_eq_true] at hz
    unfold inV inD
    rw [List.any_cons, List.any_cons, eqV_dEq h r hz.1 hd]
    have := inV_inD r hd q hz.2
    unfold inV inD at this
    rw [this]
theorem any_toP {d : D} (hd : dOk d = true) : ∀ {ds : List D}, dOkL ds = true → ((toPL ds).any fun z => PyData.eqv z (toP d)) = inD d ds
  | [], _ => rfl
  | e :: ds, h => by
    simp only [dOkL, Bool.and_eq_true] at h
    unfold inD
    show (PyData.eqv (toP e) (toP d) || (toPL ds).any _) = _
    rw [dEq_toP h.1 hd, any_toP hd h.2]
    rfl
noncomputable def rInM (K : PySem.W.Frag) (neg : Bool) : R2 := fun x y H Q => (∃ (c : Nat) (z : Str), x = .str ⟨#[c]⟩ ∧ y = .str z ∧ Q (.bl (if neg then !decide (c ∈ z.cps.toList) else decide (c ∈ z.cps.toList))) H) ∨
  (rIn K neg x y H Q ∨ ∃ d ds, Dp K H x d ∧ Dp K H y (.list ds) ∧ SeqAt.shaped d = true ∧ SeqAt.shaped (.list ds) = true ∧ Q (.bl (if neg then !ds.any (fun z => PyData.eqv z d) else ds.any fun z => PyData.eqv z d)) H)
theorem op_inM (hu : X.A.units + 65 < cLine) : OpR X (compareOp .In) (rInM X.K false) := by
  refine OpR.or ?_ (OpR.or op_in_seq ?_)
  · exact fun pins s σ H x y v u Q I rx ry q => op_in_sign pins s σ H x y v u Q I rx ry q
  · exact fun pins s σ H x y v u Q I rx ry q => op_inD hu pins s σ H x y v u Q I rx ry q
theorem op_notInM (hu : X.A.units + 65 < cLine) : OpR X (compareOp .NotIn) (rInM X.K true) := by
  refine OpR.or ?_ (OpR.or op_notIn_seq ?_)
  · exact fun pins s σ H x y v u Q I rx ry q => op_notIn_sign pins s σ H x y v u Q I rx ry q
  · exact fun pins s σ H x y v u Q I rx ry q => op_notInD hu pins s σ H x y v u Q I rx ry q
theorem asL_cur {S : Store} {y : A} {ds : List D} (h : asL S y = some ds) : ∃ e, cur S y = some e ∧ toP e = .list (toPL ds) ∧ (dOkL ds = true → dOk e = true) := by
  cases y with
  | ref i =>
    simp only [asL] at h
    split at h <;> cases h
    rename_i hs
    exact ⟨.lst ds, by simp only [cur, hs], rfl, fun q => q⟩
  | val d =>
    cases d <;> simp only [asL] at h <;> cases h
    · exact ⟨_, rfl, rfl, fun q => q⟩
    · exact ⟨_, rfl, rfl, fun q => q⟩
theorem in_ok {neg : Bool} {B : Addr → Prop} {H : Hp} {m : List Addr} {S : Store} {v w : V} {x y : A} {b : Bool} {Q : VK} (o : Ok X.K cl B H m S) (rx : RepA X.K cl (NN B m) H m v x) (ry : RepA X.K cl (NN B m) H m w y) (h : fInB x y S = some b) (q : Q (.bl (if neg then !b else b)) H) : rInM X.K neg v w H Q := by
  unfold fInB at h
  split at h
  · rename_i a c
    cases rx; cases ry
    split at h
    · rename_i hl
      cases h
      obtain ⟨k, hk⟩ := List.length_eq_one_iff.mp hl
      refine .inl ⟨k, c, ?_, rfl, ?_⟩
      · have : a = ⟨#[k]⟩ := by
          obtain ⟨arr⟩ := a
          have : arr.toList = [k] := hk
          congr 1
          exact Array.toList_inj.mp this
        rw [this]
      · rw [hk] at q
        exact q
    · cases h
  · rename_i d _
    split at h
    rotate_left
    · cases h
    rename_i ds hd
    have view : ∃ p vs, w = .ref p ∧ (SqL X.K H p vs ∨ SqT X.K H p vs) ∧ RepL X.K cl (NN B m) H vs ds := by
      split at hd
      · cases hd
        obtain ⟨a, vs, rfl, e, r⟩ := asT_ok (x := .val (.tup ds)) ry rfl
        exact ⟨a, vs, rfl, .inr e, r⟩
      · obtain ⟨a, vs, rfl, e, r⟩ := asL_ok o ry hd
        exact ⟨a, vs, rfl, .inl e, r⟩
    split at h
    · rename_i hz
      cases h
      simp only [Bool.and_eq_true] at hz
      obtain ⟨p, vs, rfl, e, r⟩ := view
      refine .inr (.inl ⟨p, vs, rfl, e, flat_V rx hz.1, flats_V r hz.2, ?_⟩)
      rw [inV_inD rx hz.1 r hz.2]
      exact q
    · split at h
      · rename_i es he
        split at h
        · rename_i hz
          cases h
          simp only [Bool.and_eq_true, decide_eq_true_eq] at hz
          obtain ⟨e, h1, h2, h3⟩ := asL_cur he
          have rd : Rep X.K cl N0 H v d := Rep.weak (fun _ z => z.elim) rx
          refine .inr (.inr ⟨toP d, toPL es, Dp.of rd (shp_ok hz.1.1), ?_, shp_shaped hz.1.1, ?_, ?_⟩)
          · rw [← h2]; exact Dp.of (cur_ok o ry h1) (h3 hz.1.2)
          · have := canLayL_toP hz.1.2
            have hdp := depthL_toP hz.1.2
            simp only [SeqAt.shaped, Bool.and_eq_true, decide_eq_true_eq]
            exact ⟨this, by show PyData.depthAll (toPL es) + 1 ≤ 64; omega⟩
          · rw [any_toP (shp_ok hz.1.1) hz.1.2]
            exact q
        · cases h
      · cases h
  · cases h
theorem ok_in : OpOk X.K cl (rInM X.K false) fIn := by
  intro B H m S σ W v w x y Q o rx ry h
  unfold fIn at h
  split at h
  · rename_i b hb
    exact in_ok (neg := false) o rx ry hb (h.here o (.bl _))
  · exact h.elim
theorem ok_notIn : OpOk X.K cl (rInM X.K true) fNotIn := by
  intro B H m S σ W v w x y Q o rx ry h
  unfold fNotIn at h
  split at h
  · rename_i b hb
    exact in_ok (neg := true) o rx ry hb (h.here o (.bl _))
  · exact h.elim
end
end T3
namespace T3
open PySem PySem.Spec PyProof.Rows L2
noncomputable def tyL (x : A) (S : Store) : Bool := (asL S x).isSome
noncomputable def tyS : A → Store → Bool
  | .val (.str _), _ => true
  | _, _ => false
noncomputable def cMt (ty : A → Store → Bool) (f : A → List A → Store → Res) (c : CE) (ca : CA) : CE := fun ρ S => (c ρ S).bind fun x S1 => if ty x S1 then (ca ρ S1).bind fun xs S2 => f x xs S2 else .bad
section
variable {X : Cx} {cl : ClT} {W : WX}
noncomputable def TyOk (K : PySem.W.Frag) (cl : ClT) (T : String) (ty : A → Store → Bool) : Prop := ∀ {B : Addr → Prop} {H : Hp} {m : List Addr} {S : Store} {v : V} {x : A}, Ok K cl B H m S → RepA K cl (NN B m) H m v x → ty x S = true → tyV K T v H
theorem ty_list {K : PySem.W.Frag} : TyOk K cl "list" tyL := by
  intro B H m S v x o r h
  unfold tyL at h
  cases e : asL S x with
  | none => rw [e] at h; cases h
  | some ds =>
    obtain ⟨a, vs, rfl, q, _⟩ := asL_ok o r e
    exact .inl ⟨rfl, vs, q⟩
theorem ty_str {K : PySem.W.Frag} : TyOk K cl "str" tyS := by
  intro B H m S v x o r h
  cases x with
  | ref i => cases h
  | val d =>
    cases d <;> first | cases h | skip
    cases r
    rfl
theorem tBM_ok {T : String} {ty : A → Store → Bool} {r : V → List V → Hp → VK → Prop} {f : A → List A → Store → Res} {c : CE} {ca : CA} (hty : TyOk X.K cl T ty) (hf : MtOk X.K cl r f) {σ : L2.St} {H : Hp} {Q : VK} (h : tM X.K cl W (cMt ty f c ca) σ H Q) : tBM X.K T r (tM X.K cl W c) (tML X.K cl W ca) σ H Q := by
  obtain ⟨B, m, S, ρ, o, e, fin⟩ := h
  refine ⟨B, m, S, ρ, o, e, Fin.bind fin fun x S1 v H1 m1 s1 o1 r1 f1 => ?_⟩
  split at f1
  · rename_i ht
    refine ⟨hty o1 r1 ht, B, m1, S1, ρ, o1, s1.env o e, FinL.bind f1 fun xs S2 vs H2 m2 s2 o2 r2 f2 => ?_⟩
    exact hf o2 (s2.rep o1 r1) r2 f2
  · exact f1.elim
noncomputable def fAppend (x : A) (xs : List A) (S : Store) : Res := match x, xs with
  | .ref i, [.val d] => (match S[i]? with
    | some (.lst ds) => if szOk ds.length then .ok (.val .non) (S.set i (.lst (ds ++ [d]))) else .bad
    | _ => .bad)
  | _, _ => .bad
theorem ok_append : MtOk X.K cl rAppend fAppend := by
  intro B H m S σ W v x vs xs Q o rx rs h
  unfold fAppend at h
  split at h
  · rename_i i d
    obtain ⟨w, rfl, r1⟩ := one_arg rs
    split at h
    · rename_i ds hs
      split at h
      · rename_i hz
        obtain ⟨a, ha, rfl⟩ := rx
        obtain ⟨ys, e, rl⟩ := o.obj i a _ ha hs
        obtain ⟨st, ok⟩ := Ok.write X.K o (u := .lst (ds ++ [d])) (w := .lst (ys ++ [w])) ha fun H' hb hw => ⟨_, hw, (rl.append (.cons r1 .nil)).mono (kp_at (.inr (List.mem_of_getElem? ha)) hb)⟩
        exact ⟨a, ys, w, rfl, rfl, e, by rw [rl.length]; exact szOk_lt hz, h _ _ m st ok .non⟩
      · exact h.elim
    · exact h.elim
  · exact h.elim
theorem pm_append {o e : Expr} {c ce : CE} {apos cpos : Pos} (ho : PE X o (tM X.K cl W c)) (ha : PE X e (tM X.K cl W ce)) (hs1 : starEach [e] X.env = (false, eval e X.env) :: starEach [] X.env := by rfl)
    (hbase : attributeBase o "append" X.env (eval o X.env) = eval o X.env := by rfl) (hfew : ((backTo cpos (starEach [e] X.env)).all (fun x => !x.1) && (backToKw cpos (keywordEach [] X.env)).all (fun x => x.1.isSome)
      && decide ([e].length + ([] : List Keyword).length + (if ([] : List Keyword).isEmpty then 0 else 1) < 30)) = true := by rfl) (hline : (apos.endLine == cpos.line) = true := by rfl) (hplain : (backTo cpos (starEach [] X.env)).any (·.1) = false := by rfl) :
    PE X (.Call (.Attribute o "append" apos) [e] [] cpos) (tM X.K cl W (cMt tyL fAppend c (cCons ce cNil))) :=
  PE.imp (pe_bm PySem.F.plainAttrs_list PySem.F.slot_list_append PySem.F.type_list_append mt_append ho (pm_cons ha pm_nil hs1) hbase hfew hline hs1 hplain) fun _ _ _ h => tBM_ok ty_list ok_append h
theorem RepL.erase {K : PySem.W.Frag} {N : Addr → Prop} {H : Hp} : ∀ {vs : List V} {ds : List D} (k : Nat), RepL K cl N H vs ds → RepL K cl N H (vs.eraseIdx k) (ds.eraseIdx k)
  | _, _, _, .nil => .nil
  | _, _, 0, .cons _ r => r
  | _, _, k + 1, .cons h r => .cons h (r.erase k)
/-- sep.join(texts) -/
noncomputable def joinN (ys : List Str) : Nat := (ys.map (·.length)).sum
noncomputable def fJoin (x : A) (xs : List A) (S : Store) : Res := match x, xs with
  | .val (.str s), [y] => (match (match y with
      | .val (.tup ds) => some ds
      | y => asL S y) with
    | some ds => (match strsOf ds with
      | some ys => if szOk (joinN ys + ys.length * s.length) then .ok (.val (.str (Txt.join s ys))) S else .bad
      | none => .bad)
    | none => .bad)
  | _, _ => .bad
theorem ok_join : MtOk X.K cl (fun x xs H Q => ∃ a p, ∃ ys : List Str, x = .str a ∧ xs = [.ref p] ∧ (SqL X.K H p (ys.map V.str) ∨ SqT X.K H p (ys.map V.str)) ∧ (ys.map (·.length)).sum + ys.length * a.length ≤ 16777216 ∧ Q (.str (Txt.join a ys)) H) fJoin := by
  intro B H m S σ W v x vs xs Q o rx rs h
  unfold fJoin at h
  split at h
  · rename_i s y
    cases rx
    obtain ⟨w, rfl, r1⟩ := one_arg rs
    split at h
    rotate_left
    · exact h.elim
    rename_i ds hd
    have view : ∃ p vs, w = .ref p ∧ (SqL X.K H p vs ∨ SqT X.K H p vs) ∧ RepL X.K cl (NN B m) H vs ds := by
      split at hd
      · cases hd
        obtain ⟨a, vs, rfl, e, r⟩ := asT_ok (x := .val (.tup ds)) r1 rfl
        exact ⟨a, vs, rfl, .inr e, r⟩
      · obtain ⟨a, vs, rfl, e, r⟩ := asL_ok o r1 hd
        exact ⟨a, vs, rfl, .inl e, r⟩
    obtain ⟨p, us, rfl, hq, rl⟩ := view
    split at h
    · rename_i ys hy
      split at h
      · rename_i hz
        have := strsOf_ok rl hy
        subst this
        exact ⟨s, p, ys, rfl, rfl, hq, Nat.le_trans (of_decide_eq_true hz) (by decide), h.here o (.str _)⟩
      · exact h.elim
    · exact h.elim
  · exact h.elim
theorem pm_join {o e : Expr} {c ce : CE} {apos cpos : Pos} (ho : PE X o (tM X.K cl W c)) (ha : PE X e (tM X.K cl W ce)) (hs1 : starEach [e] X.env = (false, eval e X.env) :: starEach [] X.env := by rfl)
    (hbase : attributeBase o "join" X.env (eval o X.env) = eval o X.env := by rfl) (hfew : ((backTo cpos (starEach [e] X.env)).all (fun x => !x.1) && (backToKw cpos (keywordEach [] X.env)).all (fun x => x.1.isSome)
      && decide ([e].length + ([] : List Keyword).length + (if ([] : List Keyword).isEmpty then 0 else 1) < 30)) = true := by rfl) (hline : (apos.endLine == cpos.line) = true := by rfl) (hplain : (backTo cpos (starEach [] X.env)).any (·.1) = false := by rfl) :
    PE X (.Call (.Attribute o "join" apos) [e] [] cpos) (tM X.K cl W (cMt tyS fJoin c (cCons ce cNil))) :=
  PE.imp (pe_bm PySem.F.plainAttrs_str PySem.F.slot_str_join PySem.F.type_str_join mt_join ho (pm_cons ha pm_nil hs1) hbase hfew hline hs1 hplain) fun _ _ _ h => tBM_ok ty_str ok_join h
end
end T3
namespace T3
open PySem PySem.Spec PyProof.Rows L2
mutual
/-- a bound for the text's length -/
noncomputable def rsz : D → Nat
  | .str s => 10 * s.length + 2
  | .tup xs => rszL xs + 4
  | .lst xs => rszL xs + 4
  | .ro xs => rszL xs + 4
  | _ => 2000
noncomputable def rszL : List D → Nat
  | [] => 0
  | x :: r => rsz x + 2 + rszL r
end
mutual
/-- ints that can be written -/
noncomputable def shw : D → Bool
  | .int i => decide (i.natAbs.log2 < 1920)
  | .tup xs => shwL xs
  | .lst xs => shwL xs
  | .ro xs => shwL xs
  | _ => true
noncomputable def shwL : List D → Bool
  | [] => true
  | x :: r => shw x && shwL r
end
mutual
theorem shw_toP : ∀ {d : D}, dOk d = true → shw d = true → PyData.showable (toP d) = true
  | .non, _, _ => rfl
  | .bl b, _, _ => rfl
  | .int b, _, h => h
  | .str b, _, _ => rfl
  | .tup xs, h, q => shwL_toP (ds := xs) h q
  | .lst xs, h, q => shwL_toP (ds := xs) h q
  | .ro xs, h, q => shwL_toP (ds := xs) h q
  | .dic _ _, h, _ => by cases h
  | .ins _ _ _, h, _ => by cases h
theorem shwL_toP : ∀ {ds : List D}, dOkL ds = true → shwL ds = true → PyData.showableAll (toPL ds) = true
  | [], _, _ => rfl
  | d :: ds, h, q => by
    simp only [dOkL, shwL, Bool.and_eq_true] at h q
    show (PyData.showable (toP d) && PyData.showableAll (toPL ds)) = true
    rw [shw_toP h.1 q.1, shwL_toP h.2 q.2]
    rfl
end
mutual
theorem noDict_toP : ∀ {d : D}, dOk d = true → PyData.hasDict (toP d) = false
  | .non, _ => rfl
  | .bl b, _ => rfl
  | .int b, _ => rfl
  | .str b, _ => rfl
  | .tup xs, h => noDictL_toP (ds := xs) h
  | .lst xs, h => noDictL_toP (ds := xs) h
  | .ro xs, h => noDictL_toP (ds := xs) h
  | .dic _ _, h => by cases h
  | .ins _ _ _, h => by cases h
theorem noDictL_toP : ∀ {ds : List D}, dOkL ds = true → PyData.hasDictAll (toPL ds) = false
  | [], _ => rfl
  | d :: ds, h => by
    simp only [dOkL, Bool.and_eq_true] at h
    show (PyData.hasDict (toP d) || PyData.hasDictAll (toPL ds)) = false
    rw [noDict_toP h.1, noDictL_toP h.2]
    rfl
end
theorem strLen_app (a b : Str) : (a ++ b).length = a.length + b.length := strLen_append a b
noncomputable def sumL : List Str → Nat
  | [] => 0
  | t :: r => t.length + 2 + sumL r
theorem textFrom_le : ∀ (ts : List Str) (k : Nat) (acc : Str), (textFrom k acc ts).length ≤ acc.length + sumL ts
  | [], k, acc => Nat.le_refl _
  | t :: r, k, acc => by
    have ih := textFrom_le r (k + 1) (acc ++ (if k > 0 then ", " else "" : String) ++ t)
    have e : (acc ++ (if k > 0 then ", " else "" : String) ++ t).length ≤ acc.length + 2 + t.length := by
      rw [strLen_app, strLen_app]
      by_cases hk : k > 0
      · rw [if_pos hk]; exact Nat.le_refl _
      · rw [if_neg hk]
        have : (("" : String) : Str).length = 0 := rfl
        omega
    show (textFrom (k + 1) _ r).length ≤ _
    simp only [sumL]
    omega
theorem join_le : ∀ ts : List Str, (Str.join ", " ts).length ≤ sumL ts
  | [] => Nat.le_refl _
  | [x] => by
    show x.length ≤ x.length + 2 + 0
    omega
  | x :: y :: r => by
    have ih := join_le (y :: r)
    show (x ++ ", " ++ Str.join ", " (y :: r)).length ≤ x.length + 2 + sumL (y :: r)
    rw [strLen_app, strLen_app]
    have : ((", " : String) : Str).length = 2 := rfl
    omega
theorem strOk_lt {s : Str} (h : PySem.PyData.strOk s = true) : ∀ c ∈ s.cps.toList, c < 16 ^ 8 := fun c hc => by
  unfold PySem.PyData.strOk at h
  rw [Array.all_eq_true_iff_forall_mem] at h
  have := of_decide_eq_true (h c (by simpa using hc))
  omega
mutual
theorem shown_le : ∀ {d : D}, dOk d = true → shw d = true → (PyData.shown (toP d)).length ≤ rsz d
  | .non, _, _ => by show ("None" : Str).length ≤ 2000; decide
  | .bl b, _, _ => by
    show (if b then ("True" : Str) else "False").length ≤ 2000
    cases b <;> decide
  | .int b, _, h => by
    have h1 : b.natAbs.log2 < 1920 := of_decide_eq_true h
    have h2 := int_text_length_le (by decide : 0 < 1920) h1
    show (Str.ofString (toString b)).length ≤ 2000
    rw [PySem.ofString_length]
    omega
  | .str s, h, _ => StrLaws.reprText_len s (strOk_lt h)
  | .tup xs, h, q => by
    have := shownL_le (ds := xs) h q
    show (tupleText (PyData.shownAll (toPL xs))).length ≤ rszL xs + 4
    unfold tupleText
    rw [strLen_app, strLen_app]
    have h1 := join_le (PyData.shownAll (toPL xs))
    have h2 : ((if (PyData.shownAll (toPL xs)).length == 1 then ",)" else ")" : String) : Str).length ≤ 2 := by split <;> decide
    have h3 : ("(" : Str).length = 1 := rfl
    omega
  | .lst xs, h, q => by
    have := shownL_le (ds := xs) h q
    show (listText (PyData.shownAll (toPL xs))).length ≤ rszL xs + 4
    unfold listText
    rw [strLen_app]
    have h1 := textFrom_le (PyData.shownAll (toPL xs)) 0 "["
    have h2 : (("[" : String) : Str).length = 1 := rfl
    have h3 : (("]" : String) : Str).length = 1 := rfl
    omega
  | .ro xs, h, q => by
    have := shownL_le (ds := xs) h q
    show (listText (PyData.shownAll (toPL xs))).length ≤ rszL xs + 4
    unfold listText
    rw [strLen_app]
    have h1 := textFrom_le (PyData.shownAll (toPL xs)) 0 "["
    have h2 : (("[" : String) : Str).length = 1 := rfl
    have h3 : (("]" : String) : Str).length = 1 := rfl
    omega
  | .dic _ _, h, _ => by cases h
  | .ins _ _ _, h, _ => by cases h
theorem shownL_le : ∀ {ds : List D}, dOkL ds = true → shwL ds = true → sumL (PyData.shownAll (toPL ds)) ≤ rszL ds
  | [], _, _ => Nat.le_refl _
  | d :: ds, h, q => by
    simp only [dOkL, shwL, Bool.and_eq_true] at h q
    have h1 := shown_le h.1 q.1
    have h2 := shownL_le h.2 q.2
    show (PyData.shown (toP d)).length + 2 + sumL (PyData.shownAll (toPL ds)) ≤ rsz d + 2 + rszL ds
    omega
end
noncomputable def rpOk (d : D) : Bool := shp d && shw d && szOk (rsz d)
noncomputable def rp (d : D) : Str := PyData.shown (toP d)
noncomputable def fRepr : List A → Store → Res
  | [x], S => (match cur S x with
    | some d => if rpOk d then .ok (.val (.str (rp d))) S else .bad
    | none => .bad)
  | _, _ => .bad
section
variable {X : Cx} {cl : ClT} {W : WX}
noncomputable def rRepr (K : PySem.W.Frag) : List V → Hp → VK → Prop := fun vs H Q => ∃ (v : V) (d : PyData), vs = [v] ∧ Dp K H v d ∧ SeqAt.shaped d = true ∧ d.showable = true ∧ d.hasDict = false ∧ d.shown.length ≤ sizeLine ∧ Q (.str d.shown) H
theorem cr_repr (g : X.A.guards = some []) (hu : X.A.units + 70 < cLine) : CallR X (.builtin "repr") (rRepr X.K) := by
  intro pins s σ H xs us Q I r h
  obtain ⟨v, d, rfl, hd, hs, hw, hn, hz, q⟩ := h
  cases r with
  | @cons _ u _ _ r1 r2 =>
    cases r2
    obtain ⟨as, rd⟩ := Dp.reads I d v u hd r1
    have hdep : d.depth ≤ 64 := by
      simp only [SeqAt.shaped, Bool.and_eq_true, decide_eq_true_eq] at hs
      exact hs.2
    cases hd with
    | non => cases r1; exact P.repr_of_none ⟨.str _, H, I.tok _, ⟨_, rfl⟩, q⟩
    | bl b => cases r1; exact P.repr_of_bool ⟨.str _, H, I.tok _, ⟨_, rfl⟩, q⟩
    | int i =>
      obtain ⟨t, rfl⟩ := r1
      exact P.repr_of_int (of_decide_eq_true hw) ⟨.str _, H, I.tok _, ⟨_, rfl⟩, q⟩
    | str z =>
      obtain ⟨t, rfl⟩ := r1
      exact P.repr_of_str ⟨.str _, H, I.tok _, ⟨_, rfl⟩, q⟩ hz
    | lst h1 h2 =>
      cases r1
      exact repr_of_reads' rd hw (fun z => by rw [hn] at z; cases z) g (by omega) (fun _ _ e => e) (fun h' t tk hk => ⟨.str _, H, I.kept (h' := h') (t' := tk) hk, ⟨_, rfl⟩, q⟩) hz
    | tup h1 h2 =>
      cases r1
      exact repr_of_reads' rd hw (fun z => by rw [hn] at z; cases z) g (by omega) (fun _ _ e => e) (fun h' t tk hk => ⟨.str _, H, I.kept (h' := h') (t' := tk) hk, ⟨_, rfl⟩, q⟩) hz
theorem ok_repr : CaOk X.K cl (rRepr X.K) fRepr := by
  intro B H m S σ W vs xs Q o r h
  unfold fRepr at h
  split at h
  · obtain ⟨v, rfl, r1⟩ := one_arg r
    split at h
    · rename_i d hd
      split at h
      · rename_i hz
        simp only [rpOk, Bool.and_eq_true] at hz
        have ok := shp_ok hz.1.1
        exact ⟨v, toP d, rfl, Dp.of (cur_ok o r1 hd) ok, shp_shaped hz.1.1, shw_toP ok hz.1.2, noDict_toP ok, Nat.le_trans (shown_le ok hz.1.2) (szOk_line hz.2), h.here o (.str _)⟩
      · exact h.elim
    · exact h.elim
  · exact h.elim
noncomputable def sBad : CS := fun _ _ => .bad
theorem pm_never {st : Stmt} : PS X st (tMS X.K cl W sBad) := PS.imp ps_never fun E σ H h => by
  obtain ⟨B, m, S, ρ, o, e, fin⟩ := h
  exact fin.elim
noncomputable def cChain (f g : A → A → Store → Res) (ca cb cc : CE) : CE := fun ρ S => (ca ρ S).bind fun x S1 => (cb ρ S1).bind fun y S2 => (f x y S2).bind fun z S3 => match z with
  | .val (.bl true) => (cc ρ S3).bind fun w S4 => g y w S4
  | .val (.bl false) => .ok (.val (.bl false)) S3
  | _ => .bad
theorem tChain_ok {r r' : R2} {f g : A → A → Store → Res} {ca cb cc : CE} (hf : OpOk X.K cl r f) (hg : OpOk X.K cl r' g) {σ : L2.St} {H : Hp} {Q : VK} (h : tM X.K cl W (cChain f g ca cb cc) σ H Q) : tChain r r' (tM X.K cl W ca) (tM X.K cl W cb) (tM X.K cl W cc) σ H Q := by
  obtain ⟨B, m, S, ρ, o, e, fin⟩ := h
  refine ⟨B, m, S, ρ, o, e, Fin.bind fin fun x S1 v H1 m1 s1 o1 r1 f1 => ?_⟩
  refine ⟨B, m1, S1, ρ, o1, s1.env o e, Fin.bind f1 fun y S2 w H2 m2 s2 o2 r2 f2 => ?_⟩
  refine hf o2 (s2.rep o1 r1) r2 (Fin.bind f2 fun z S3 u H3 m3 s3 o3 r3 f3 => ?_)
  have e3 := s3.env o2 (s2.env o1 (s1.env o e))
  split at f3
  · cases r3
    exact ⟨true, rfl, iteT ⟨B, m3, S3, ρ, o3, e3, Fin.bind f3 fun w' S4 u' H4 m4 s4 o4 r4 f4 => hg o4 (s4.rep o3 (s3.rep o2 r2)) r4 f4⟩⟩
  · cases r3
    exact ⟨false, rfl, iteF (f3.here o3 (.bl false))⟩
  · exact f3.elim
theorem pm_chain {a b c : Expr} {op op' : CmpOp} {r r' : R2} {f g : A → A → Store → Res} {ca cb cc : CE} {pos : Pos} (ho : OpR X (compareOp op) r) (ho' : OpR X (compareOp op') r') (hf : OpOk X.K cl r f) (hg : OpOk X.K cl r' g) (ha : PE X a (tM X.K cl W ca)) (hb : PE X b (tM X.K cl W cb)) (hc : PE X c (tM X.K cl W cc)) (hm : lastMarks [op, op'] [b, c] = false := by with_unfolding_all rfl) :
    PE X (.Compare a [op, op'] [b, c] pos) (tM X.K cl W (cChain f g ca cb cc)) := PE.imp (pe_chain ho ho' ha hb hc hm) fun _ _ _ h => tChain_ok hf hg h
noncomputable def isNon : A → Bool
  | .val .non => true
  | _ => false
noncomputable def fIsN (x y : A) (S : Store) : Res := match y with
  | .val .non => .ok (.val (.bl (isNon x))) S
  | _ => .bad
theorem isN_val {K : PySem.W.Frag} {N : Addr → Prop} {H : Hp} {m : List Addr} {v : V} {x : A} (r : RepA K cl N H m v x) : decide (v = V.non) = isNon x := by
  cases x with
  | ref i => obtain ⟨a, _, rfl⟩ := r; rfl
  | val d => cases r <;> rfl
theorem ok_isN : OpOk X.K cl (fun x y H Q => y = .non ∧ Q (.bl (decide (x = .non))) H) fIsN := by
  intro B H m S σ W v w x y Q o rx ry h
  unfold fIsN at h
  split at h
  · cases ry
    refine ⟨rfl, ?_⟩
    rw [isN_val rx]
    exact h.here o (.bl _)
  · exact h.elim
end
end T3
namespace T3
open PySem PySem.Spec PyProof.Rows L2
noncomputable def cStar (c : CE) (r : CA) : CA := fun ρ S => match c ρ S with
  | .ok x S1 => (match (match x with
      | .val (.tup ds) => some ds
      | y => asL S1 y) with
    | some ds => (match r ρ S1 with
      | .ok xs S2 => .ok (ds.map A.val ++ xs) S2
      | .exc e S2 => .exc e S2
      | .bad => .bad)
    | none => .bad)
  | .exc e S1 => .exc e S1
  | .bad => .bad
section
variable {X : Cx} {cl : ClT} {W : WX}
theorem vals_As {K : PySem.W.Frag} {N : Addr → Prop} {H : Hp} {m : List Addr} : ∀ {vs : List V} {ds : List D}, RepL K cl N H vs ds → RepAs K cl N H m vs (ds.map A.val)
  | _, _, .nil => .nil
  | _, _, .cons h r => .cons (x := .val _) h (vals_As r)
theorem RepAs.append {K : PySem.W.Frag} {N : Addr → Prop} {H : Hp} {m : List Addr} : ∀ {vs ws : List V} {xs ys : List A}, RepAs K cl N H m vs xs → RepAs K cl N H m ws ys → RepAs K cl N H m (vs ++ ws) (xs ++ ys)
  | _, _, _, _, .nil, s => s
  | _, _, _, _, .cons h r, s => .cons h (RepAs.append r s)
theorem pm_star {e : Expr} {es : List Expr} {c : CE} {r : CA} {p : Pos} (he : PE X e (tM X.K cl W c)) (hr : PA X es (tML X.K cl W r)) (hs : starEach (.Starred e p :: es) X.env = (true, eval e X.env) :: starEach es X.env := by rfl) : PA X (.Starred e p :: es) (tML X.K cl W (cStar c r)) :=
  PA.imp (StX.pa_star he hr hs) fun σ H Q h => by
  obtain ⟨B, m, S, ρ, o, e, fin⟩ := h
  refine ⟨B, m, S, ρ, o, e, ?_⟩
  unfold cStar at fin
  cases hc : c ρ S with
  | bad => rw [hc] at fin; exact fin
  | exc e' S1 => rw [hc] at fin; exact fin
  | ok x S1 =>
    rw [hc] at fin
    intro v H1 m1 s1 o1 r1
    dsimp only at fin
    split at fin
    rotate_left
    · exact fin.elim
    rename_i ds hd
    have view : ∃ p vs, v = .ref p ∧ (SqT X.K H1 p vs ∨ SqL X.K H1 p vs) ∧ RepL X.K cl (NN B m1) H1 vs ds := by
      split at hd
      · cases hd
        obtain ⟨a, vs, rfl, e, r⟩ := asT_ok (x := .val (.tup ds)) r1 rfl
        exact ⟨a, vs, rfl, .inl e, r⟩
      · obtain ⟨a, vs, rfl, e, r⟩ := asL_ok o1 r1 hd
        exact ⟨a, vs, rfl, .inr e, r⟩
    obtain ⟨p, vs, rfl, hq, rl⟩ := view
    refine ⟨p, vs, rfl, hq, B, m1, S1, ρ, o1, s1.env o e, ?_⟩
    cases h2 : r ρ S1 with
    | bad => rw [h2] at fin; exact fin
    | exc y S2 => rw [h2] at fin; exact fun c d H' m' s' => fin c d H' m' (s1.trans s')
    | ok xs S2 =>
      rw [h2] at fin
      intro ws H2 m2 s2 o2 r2
      exact fin (vs ++ ws) H2 m2 (s1.trans s2) o2 ((s2.reps o1 (vals_As rl)).append r2)
noncomputable def dedupI (ns : List Int) : List Int := firstMet (fun i => ns.getD i 0) ns.length
noncomputable def cLenSet (c : CE) : CE := fun ρ S => (c ρ S).bind fun x S1 => match (match x with
    | .val (.tup ds) => some ds
    | y => asL S1 y) with
  | some ds => (match intsOf ds with
    | some ns => if decide (ns.length ≤ 1000) then .ok (.val (.int (dedupI ns).length)) S1 else .bad
    | none => .bad)
  | none => .bad
theorem map_getD : ∀ (ns : List Int), (List.range ns.length).map (fun i => ns.getD i 0) = ns := fun ns => by
  apply List.ext_getElem
  · simp
  · intro i h1 h2
    simp [List.getD, List.getElem?_eq_getElem h2]
theorem step_nodup {l : List Int} {v : Int} (h : l.Nodup) : (step_dedup l v).Nodup := by
  unfold step_dedup
  split
  · exact h
  · rename_i q
    rw [List.nodup_append]
    refine ⟨h, by simp, fun a ha b hb => ?_⟩
    rw [List.mem_singleton.mp hb]
    intro e
    subst e
    exact q (by simpa using ha)
theorem firstMet_nd (f : Nat → Int) : ∀ n, (firstMet f n).Nodup
  | 0 => by rw [firstMet_zero]; exact .nil
  | n + 1 => by rw [firstMet_succ]; exact step_nodup (firstMet_nd f n)
theorem dedupI_mem (ns : List Int) (k : Int) : k ∈ dedupI ns ↔ k ∈ ns := by
  have h := firstMet_any (fun i => ns.getD i 0) ns.length k
  rw [map_getD] at h
  have e : ∀ l : List Int, (l.any (· == k) = true) ↔ k ∈ l := fun l => by simp
  unfold dedupI
  rw [← e, ← e, h]
theorem nodup_len : ∀ {l k : List Int}, l.Nodup → (∀ x ∈ l, x ∈ k) → l.length ≤ k.length
  | [], _, _, _ => Nat.zero_le _
  | x :: l, k, h, hs => by
    have hx := hs x List.mem_cons_self
    have h' := List.nodup_cons.mp h
    have := nodup_len (k := k.erase x) h'.2 fun y hy => (List.mem_erase_of_ne fun e => h'.1 (by rw [← e]; exact hy)).mpr (hs y (List.mem_cons_of_mem _ hy))
    have e := List.length_erase_of_mem hx
    have : 0 < k.length := List.length_pos_of_mem hx
    simp only [List.length_cons]
    omega
noncomputable def tLenSetM (K : PySem.W.Frag) (ta : TE) : TE := fun σ H Q => ta σ H fun x H1 => ∃ (l : Addr) (ns : List Int), x = .ref l ∧ (SqL K H1 l (ns.map V.int) ∨ SqT K H1 l (ns.map V.int)) ∧ ns.length ≤ 1000 ∧ Q (.int ((dedupI ns).length : Nat)) H1
theorem pe_lenSetM {a : Expr} {ta : TE} {p p2 q pos : Pos} (hg : Gl X "len") (hm : X.mg "len" = none) (hg2 : Gl X "set") (hm2 : X.mg "set" = none) (ha : PE X a ta) (hc : X.calm = true)
    (na : starEach [a] X.env = (false, eval a X.env) :: starEach [] X.env) (nb : starEach [Expr.Call (.Name "set" p2) [a] [] q] X.env = (false, eval (.Call (.Name "set" p2) [a] [] q) X.env) :: starEach [] X.env) : PE X (.Call (.Name "len" p) [.Call (.Name "set" p2) [a] [] q] [] pos) (tLenSetM X.K ta) := by
  constructor
  intro pins s σ H Q I h
  refine Call_ (ld_blt I hg hm PySem.boot_len ?_)
  refine PyProof.Rows.callWith_builtin1 (PyProof.Rows.args_cons ?_ nb) nb rfl
  refine Call_ (ld_blt I hg2 hm2 PyProof.Rows.boot_set ?_)
  refine PyProof.Rows.callWith_type1 (PyProof.Rows.args_cons (thn (ha.run pins s σ H _ I h) fun v s1 ⟨x, H1, I1, r1, q1⟩ => PyProof.Rows.args_nil ?_) na) na rfl
  obtain ⟨l, ns, rfl, hq, hl, q1⟩ := q1
  cases r1
  have big : ns.length + 1 < scanBound := by unfold scanBound; omega
  rcases hq with hq | hq
  · obtain ⟨its, r, pl, hz⟩ := I1.list hq
    have lens : its.toArray.size = ns.length := by simp [← r.length]
    refine call_set_list (I1.ok.hd hc) pl.isList (by simpa using RZ.intsAre_vals r) (by rw [lens]; exact big) fun h' tk hS hk => ?_
    obtain ⟨o, es, ep, t, ho, hex, hd, _, _, _, hf, hn⟩ := hS
    refine PyProof.Rows.args_nil ?_
    rw [lens] at hn
    have le := firstMet_length_le (fun i => ns.getD i 0) ns.length
    have J : Inv X pins σ H1 { s1 with heap := h', toks := tk } := I1.kept fun b u e => hk b u (Heap.lt_size e) e
    exact call_len_set ho hex hd hf (by rw [hn]; omega) ⟨.int (dedupI ns).length, H1, J.tok _, ⟨_, by rw [hn]; rfl⟩, q1⟩
  · obtain ⟨its, r, pl, hz⟩ := I1.tuple hq
    refine call_set_tupI ns (I1.ok.hd hc) (show s1.heap.IsTuple l its.toArray from pl) (by simpa using RZ.intsAre_vals r) big fun h' tk c hS hc' hk => ?_
    obtain ⟨o, es, ep, t, ho, hex, hd, _, nd, mem, _, hf, hn, _, _⟩ := hS
    refine PyProof.Rows.args_nil ?_
    have hsz : es.size = (dedupI ns).length := by
      have e1 : es.size = (es.toList.map keyOf).length := by simp
      rw [e1]
      refine Nat.le_antisymm (nodup_len nd fun x hx => ?_) (nodup_len (firstMet_nd _ _) fun x hx => ?_)
      · exact (dedupI_mem ns x).mpr (of_decide_eq_true ((mem x).mpr hx))
      · exact (mem x).mp (decide_eq_true ((dedupI_mem ns x).mp hx))
    have J : Inv X pins σ H1 { s1 with heap := h', toks := tk } := I1.kept hk
    exact call_len_set ho hex hd hf (by omega) ⟨.int (dedupI ns).length, H1, J.tok _, ⟨_, by rw [hsz]⟩, q1⟩
theorem pm_lenSet {a : Expr} {c : CE} {p p2 q pos : Pos} (hm : X.mg "len" = none) (hm2 : X.mg "set" = none) (ha : PE X a (tM X.K cl W c)) (hc : X.calm = true) (hg : Gl X "len" := by rfl) (hg2 : Gl X "set" := by rfl)
    (na : starEach [a] X.env = (false, eval a X.env) :: starEach [] X.env := by rfl) (nb : starEach [Expr.Call (.Name "set" p2) [a] [] q] X.env = (false, eval (.Call (.Name "set" p2) [a] [] q) X.env) :: starEach [] X.env := by rfl) :
    PE X (.Call (.Name "len" p) [.Call (.Name "set" p2) [a] [] q] [] pos) (tM X.K cl W (cLenSet c)) :=
  PE.imp (pe_lenSetM hg hm hg2 hm2 ha hc na nb) fun σ H Q h => by
  obtain ⟨B, m, S, ρ, o, e, fin⟩ := h
  refine ⟨B, m, S, ρ, o, e, Fin.bind fin fun x S1 v H1 m1 s1 o1 r1 f1 => ?_⟩
  split at f1
  rotate_left
  · exact f1.elim
  rename_i ds hd
  have view : ∃ p vs, v = .ref p ∧ (SqL X.K H1 p vs ∨ SqT X.K H1 p vs) ∧ RepL X.K cl (NN B m1) H1 vs ds := by
    split at hd
    · cases hd
      obtain ⟨a, vs, rfl, e, r⟩ := asT_ok (x := .val (.tup ds)) r1 rfl
      exact ⟨a, vs, rfl, .inr e, r⟩
    · obtain ⟨a, vs, rfl, e, r⟩ := asL_ok o1 r1 hd
      exact ⟨a, vs, rfl, .inl e, r⟩
  obtain ⟨p, vs, rfl, hq, rl⟩ := view
  split at f1
  · rename_i ns hn
    split at f1
    · rename_i hz
      have := intsOf_ok rl hn
      subst this
      exact ⟨p, ns, rfl, hq, of_decide_eq_true hz, f1.here o1 (.int _)⟩
    · exact f1.elim
  · exact f1.elim
end
end T3
namespace T3
open PySem PySem.Spec PyProof.Rows L2
noncomputable abbrev Elm2 := D → Store → Option (List D × Store)
noncomputable def lcGo2 (f : Elm2) : List D → Store → Option (List D × Store)
  | [], S => some ([], S)
  | d :: r, S => match f d S with
    | some (ys, S') => (match lcGo2 f r S' with
      | some (zs, S2) => some (ys ++ zs, S2)
      | none => none)
    | none => none
noncomputable def elm2 (t : CT) (ct : CE) (ci1 : CI) (vs1 : List Nat) (t1 : CT) (ct1 ce : CE) (ρ : Slots) : Elm2 := fun d S => match t (.val d) ρ S with
  | some (ρ', S') => (match ct ρ' S' with
    | .ok (.val (.bl true)) S2 => (match ci1 ρ' S2 with
      | .ok ys S3 => lcGo (elm t1 ct1 ce (wipeR ρ' vs1)) ys S3
      | _ => none)
    | .ok (.val (.bl false)) S2 => some ([], S2)
    | _ => none)
  | none => none
noncomputable def cLc2 (fr : Bool) (vs vs1 : List Nat) (ci : CI) (t : CT) (ct : CE) (ci1 : CI) (t1 : CT) (ct1 ce : CE) : CE := fun ρ S => match ci ρ S with
  | .ok xs S1 => (match lcGo2 (elm2 t ct ci1 vs1 t1 ct1 ce (wipeR ρ vs)) xs S1 with
    | some (ds, S2) => if szOk ds.length then mkL fr ds S2 else .bad
    | none => .bad)
  | .exc e S1 => .exc e S1
  | .bad => .bad
theorem lcGo2_cons {f : Elm2} {d : D} {r : List D} {S S2 : Store} {ys : List D} (h : lcGo2 f (d :: r) S = some (ys, S2)) : ∃ us S' zs, f d S = some (us, S') ∧ lcGo2 f r S' = some (zs, S2) ∧ ys = us ++ zs := by
  unfold lcGo2 at h
  split at h
  · rename_i us S' h1
    split at h
    · rename_i zs S3 h2
      cases h
      exact ⟨us, S', zs, h1, h2, rfl⟩
    · cases h
  · cases h
section
variable {X : Cx} {cl : ClT} {W : WX}
/-- a block's state: the made list p holds acc -/
structure Blk (K : PySem.W.Frag) (cl : ClT) (B : Addr → Prop) (p : Addr) (H1 : Hp) (m1 : List Addr) (σ : L2.St) (ρ : Slots) (acc : List D) (H : Hp) (m : List Addr) (S : Store) : Prop where
  st : Step H1 m1 H m
  ok : Ok K cl (BD B p) H m S
  env : EnvOk K cl (NN (BD B p) m) H m σ ρ
  at_ : ∃ av, H p = some (.lst av) ∧ RepL K cl (NN (BD B p) m) H av acc
theorem Blk.kp {K : PySem.W.Frag} {B : Addr → Prop} {p : Addr} {H1 H H' : Hp} {m1 m m' : List Addr} {σ : L2.St} {ρ : Slots} {acc : List D} {S S' : Store} (b : Blk K cl B p H1 m1 σ ρ acc H m S) (s : Step H m H' m') : Kp (NN (BD B p) m) (NN (BD B p) m') H H' := s.kp fun a h => (b.ok.foreign a h).2
theorem Blk.step {K : PySem.W.Frag} {B : Addr → Prop} {p : Addr} {H1 H H' : Hp} {m1 m m' : List Addr} {σ : L2.St} {ρ : Slots} {acc : List D} {S S' : Store} (b : Blk K cl B p H1 m1 σ ρ acc H m S) (s : Step H m H' m') (o : Ok K cl (BD B p) H' m' S') : Blk K cl B p H1 m1 σ ρ acc H' m' S' := by
  obtain ⟨av, e, r⟩ := b.at_
  exact ⟨b.st.trans s, o, s.env b.ok b.env, av, s.kept p _ e (b.ok.foreign p (.inr rfl)).2, r.mono (b.kp (S' := S') s)⟩
theorem Blk.slots {K : PySem.W.Frag} {B : Addr → Prop} {p : Addr} {H1 H : Hp} {m1 m : List Addr} {σ σ' : L2.St} {ρ ρ' : Slots} {acc : List D} {S : Store} (b : Blk K cl B p H1 m1 σ ρ acc H m S) (e : EnvOk K cl (NN (BD B p) m) H m σ' ρ') : Blk K cl B p H1 m1 σ' ρ' acc H m S := ⟨b.st, b.ok, e, b.at_⟩
theorem Blk.push {K : PySem.W.Frag} {B : Addr → Prop} {p : Addr} {H1 H : Hp} {m1 m : List Addr} {σ : L2.St} {ρ : Slots} {acc : List D} {S : Store} {v : V} {y : D} {av : List V} (hp : H1 p = none) (b : Blk K cl B p H1 m1 σ ρ acc H m S) (r : Rep K cl (NN (BD B p) m) H v y) (e : H p = some (.lst av)) :
    Blk K cl B p H1 m1 σ ρ (acc ++ [y]) (upd H p (.lst (av ++ [v]))) m S ∧ Kp (NN (BD B p) m) (NN (BD B p) m) H (upd H p (.lst (av ++ [v]))) := by
  have kg : Kp (NN (BD B p) m) (NN (BD B p) m) H (upd H p (.lst (av ++ [v]))) := kp_at (.inl (.inr rfl)) fun b hb => upd_ne hb
  obtain ⟨av', e', ra⟩ := b.at_
  rw [e] at e'
  cases e'
  refine ⟨⟨⟨b.st.ext, fun a z hz hn nt => ?_, fun a hn => ?_⟩, b.ok.grow e, b.env.mono kg ⟨[], by simp⟩, _, upd_same, (ra.append (.cons r .nil)).mono kg⟩, kg⟩
  · rw [upd_ne fun q => by rw [q, hp] at hz; cases hz]; exact b.st.keep a z hz hn nt
  · by_cases q : a = p
    · rw [q, upd_same]; exact fun z => by cases z
    · rw [upd_ne q]; exact b.st.stay a hn
theorem elm_some {t : CT} {ct ce : CE} {ρ : Slots} {d : D} {S S' : Store} {w : Option D} (h : elm t ct ce ρ d S = some (w, S')) : ∃ ρ4 S4, t (.val d) ρ S = some (ρ4, S4) ∧ ((∃ y S5, w = some y ∧ ct ρ4 S4 = .ok (.val (.bl true)) S5 ∧ ce ρ4 S5 = .ok (.val y) S') ∨ (w = none ∧ ct ρ4 S4 = .ok (.val (.bl false)) S')) := by
  unfold elm at h
  split at h
  · rename_i ρ4 S4 h1
    refine ⟨ρ4, S4, h1, ?_⟩
    split at h
    · rename_i S5 h2
      split at h
      · rename_i y S6 h3
        cases h
        exact .inl ⟨y, S5, rfl, h2, h3⟩
      · cases h
    · rename_i S5 h2
      cases h
      exact .inr ⟨rfl, h2⟩
    · cases h
  · cases h
theorem elm2_some {t : CT} {ct : CE} {ci1 : CI} {vs1 : List Nat} {t1 : CT} {ct1 ce : CE} {ρ : Slots} {d : D} {S S' : Store} {w : List D} (h : elm2 t ct ci1 vs1 t1 ct1 ce ρ d S = some (w, S')) :
    ∃ ρ4 S4, t (.val d) ρ S = some (ρ4, S4) ∧ ((∃ S5 ys S6, ct ρ4 S4 = .ok (.val (.bl true)) S5 ∧ ci1 ρ4 S5 = .ok ys S6 ∧ lcGo (elm t1 ct1 ce (wipeR ρ4 vs1)) ys S6 = some (w, S')) ∨ (w = [] ∧ ct ρ4 S4 = .ok (.val (.bl false)) S')) := by
  unfold elm2 at h
  split at h
  · rename_i ρ4 S4 h1
    refine ⟨ρ4, S4, h1, ?_⟩
    split at h
    · rename_i S5 h2
      split at h
      · rename_i ys S6 h3
        exact .inl ⟨S5, ys, S6, h2, h3, h⟩
      · cases h
    · rename_i S5 h2
      cases h
      exact .inr ⟨rfl, h2⟩
    · cases h
  · cases h
theorem tLc2_ok {fr : Bool} {vs vs1 : List Nat} {ci ci1 : CI} {g g1 : TG} {t t1 : CT} {ct ct1 ce : CE} (hv : ∀ i ∈ vs1, i ∈ vs) (hg : TgC X.K cl vs g t) (hg1 : TgC X.K cl vs1 g1 t1) {tt tt1 : TT} (htt : ∀ σ H Q, tMT X.K cl W0 ct σ H Q → tt σ H Q) (htt1 : ∀ σ H Q, tMT X.K cl W0 ct1 σ H Q → tt1 σ H Q)
    {σ : L2.St} {H : Hp} {Q : VK} (h : tM X.K cl W (cLc2 fr vs vs1 ci t ct ci1 t1 ct1 ce) σ H Q) : tLc2 (tMI X.K cl W ci) g tt (tMI X.K cl W0 ci1) g1 tt1 (tM X.K cl W0 ce) vs vs1 σ H Q := by
  obtain ⟨B, m, S, ρ, o, e, fin⟩ := h
  refine ⟨B, m, S, ρ, o, e, ?_⟩
  unfold cLc2 at fin
  cases hi : ci ρ S with
  | bad => rw [hi] at fin; exact fin
  | exc e' S' => rw [hi] at fin; exact fin
  | ok xs S1 =>
    rw [hi] at fin
    dsimp only at fin
    split at fin
    rotate_left
    · exact fin.elim
    rename_i ds S2 hgo
    split at fin
    rotate_left
    · exact fin.elim
    rename_i hz
    have hz : ds.length ≤ 16000000 := of_decide_eq_true hz
    intro J live H1 m1 s1 o1 l1 src D hD
    have fin1 := Fin.step s1 fin
    have hB : ¬ B D := fun z => (o1.foreign D z).1 hD
    have e1 := s1.env o e
    have b1 : Blk X.K cl B D H1 m1 σ ρ [] (upd H1 D (.lst [])) m1 S1 := ⟨Step.new hD, o1.born hD, e1.mono (Kp.born hD) ⟨[], by simp⟩, [], upd_same, .nil⟩
    refine ⟨fun i n H => n = xs.length - i ∧ i ≤ xs.length ∧ ∃ m S acc rest, Blk X.K cl B D H1 m1 σ ρ acc H m S ∧ live (NN (BD B D) m) H ∧ lcGo2 (elm2 t ct ci1 vs1 t1 ct1 ce (wipeR ρ vs)) (xs.drop i) S = some (rest, S2) ∧ ds = acc ++ rest,
      ⟨xs.length, by simp, Nat.zero_le _, m1, S1, [], ds, b1, src.keep l1 (Kp.born hD), hgo, rfl⟩, ?_⟩
    rintro i n H2 ⟨rfl, hle, m2, S3, acc, rest, b2, l2, go2, eds⟩
    by_cases hlt : i < xs.length
    · refine .inr ⟨src.go i l2 hlt, fun H => i + 1 ≤ xs.length ∧ ∃ m S acc rest, Blk X.K cl B D H1 m1 σ ρ acc H m S ∧ live (NN (BD B D) m) H ∧ lcGo2 (elm2 t ct ci1 vs1 t1 ct1 ce (wipeR ρ vs)) (xs.drop (i + 1)) S = some (rest, S2) ∧ ds = acc ++ rest,
        fun H' hn => ⟨xs.length - (i + 1), by omega, rfl, hn⟩, fun y H3 hy => ?_⟩
      obtain ⟨d, hd, s3, o3, r3⟩ := src.yld i b2.ok l2 hy
      have hd := hd hlt
      rw [List.drop_eq_getElem_cons hlt] at go2
      rw [List.getElem?_eq_getElem hlt] at hd
      cases hd
      have l3 := src.step b2.ok l2 s3
      have b3 := b2.step s3 o3
      obtain ⟨us, S', zs, h1, h2, rfl⟩ := lcGo2_cons go2
      obtain ⟨ρ4, S4, ht, he⟩ := elm2_some h1
      refine hg (x := .val xs[i]) o3 (b3.env.wipe vs) r3 ht fun σ4 w4 eS e4 => ⟨w4.trans (wipe_wipe fun i h => h), ?_⟩
      subst eS
      rcases he with ⟨S5, ys, S6, hc, hy1, hin⟩ | ⟨rfl, hc⟩
      rotate_left
      · refine htt _ _ _ ⟨BD B D, m2, S4, ρ4, o3, e4, ?_⟩
        rw [hc]
        intro H5 m5 s5 o5
        exact iteF ⟨hlt, m5, S', acc, zs, b3.step s5 o5, src.step o3 l3 s5, h2, by simpa using eds⟩
      refine htt _ _ _ ⟨BD B D, m2, S4, ρ4, o3, e4, ?_⟩
      rw [hc]
      intro H5 m5 s5 o5
      have b5 := b3.step s5 o5
      have l5 := src.step o3 l3 s5
      have e5 := s5.env o3 e4
      refine iteT ⟨BD B D, m5, S5, ρ4, o5, e5, ?_⟩
      rw [hy1]
      intro J1 live1 H6 m6 s6 o6 l6 src1
      have b6 := b5.step s6 o6
      have l6' := src.step o5 l5 s6
      have e6 := s6.env o5 e5
      -- the inner walk
      refine ⟨fun j k H => k = ys.length - j ∧ j ≤ ys.length ∧ ∃ m S acc' rest', Blk X.K cl B D H1 m1 σ ρ acc' H m S ∧ EnvOk X.K cl (NN (BD B D) m) H m σ4 ρ4 ∧ live (NN (BD B D) m) H ∧ live1 (NN (BD B D) m) H ∧
          lcGo (elm t1 ct1 ce (wipeR ρ4 vs1)) (ys.drop j) S = some (rest', S') ∧ acc' ++ rest' = acc ++ us,
        ⟨ys.length, by simp, Nat.zero_le _, m6, S6, acc, us, b6, e6, l6', l6, hin, rfl⟩, ?_⟩
      rintro j k H7 ⟨rfl, hle1, m7, S7, acc7, rest7, b7, e7, l7, k7, go7, eq7⟩
      by_cases hlt1 : j < ys.length
      · refine .inr ⟨src1.go j k7 hlt1, fun H => j + 1 ≤ ys.length ∧ ∃ m S acc' rest', Blk X.K cl B D H1 m1 σ ρ acc' H m S ∧ EnvOk X.K cl (NN (BD B D) m) H m σ4 ρ4 ∧ live (NN (BD B D) m) H ∧ live1 (NN (BD B D) m) H ∧
            lcGo (elm t1 ct1 ce (wipeR ρ4 vs1)) (ys.drop (j + 1)) S = some (rest', S') ∧ acc' ++ rest' = acc ++ us, fun H' hn => ⟨ys.length - (j + 1), by omega, rfl, hn⟩, fun z H8 hz8 => ?_⟩
        obtain ⟨d8, hd8, s8, o8, r8⟩ := src1.yld j b7.ok k7 hz8
        have hd8 := hd8 hlt1
        rw [List.drop_eq_getElem_cons hlt1] at go7
        rw [List.getElem?_eq_getElem hlt1] at hd8
        cases hd8
        have b8 := b7.step s8 o8
        have e8 := s8.env b7.ok e7
        have l8 := src.step b7.ok l7 s8
        have k8 := src1.step b7.ok k7 s8
        have fin8 : ∀ (w : Option _) (S9 : Store) (rest9 : List T3.D), elm t1 ct1 ce (wipeR ρ4 vs1) ys[j] S7 = some (w, S9) → lcGo (elm t1 ct1 ce (wipeR ρ4 vs1)) (ys.drop (j + 1)) S9 = some (rest9, S') → acc7 ++ (w.toList ++ rest9) = acc ++ us →
            g1 z (wipe σ4 vs1) H8 fun σ3 H5 => wipe σ3 vs1 = wipe σ4 vs1 ∧ tt1 σ3 H5 fun b H6 =>
              if b = true then tM X.K cl W0 ce σ3 H6 fun y H7 => ∃ acc', H7 D = some (.lst acc') ∧ acc'.length < sizeLine ∧ (fun H => j + 1 ≤ ys.length ∧ ∃ m S acc' rest', Blk X.K cl B D H1 m1 σ ρ acc' H m S ∧ EnvOk X.K cl (NN (BD B D) m) H m σ4 ρ4 ∧ live (NN (BD B D) m) H ∧ live1 (NN (BD B D) m) H ∧
                lcGo (elm t1 ct1 ce (wipeR ρ4 vs1)) (ys.drop (j + 1)) S = some (rest', S') ∧ acc' ++ rest' = acc ++ us) (upd H7 D (.lst (acc' ++ [y]))) else (fun H => j + 1 ≤ ys.length ∧ ∃ m S acc' rest', Blk X.K cl B D H1 m1 σ ρ acc' H m S ∧ EnvOk X.K cl (NN (BD B D) m) H m σ4 ρ4 ∧ live (NN (BD B D) m) H ∧ live1 (NN (BD B D) m) H ∧
                lcGo (elm t1 ct1 ce (wipeR ρ4 vs1)) (ys.drop (j + 1)) S = some (rest', S') ∧ acc' ++ rest' = acc ++ us) H6 := by
          intro w S9 rest9 hw hgo9 heq9
          obtain ⟨ρ9, S10, ht9, he9⟩ := elm_some hw
          refine hg1 (x := .val ys[j]) o8 (e8.wipe vs1) r8 ht9 fun σ9 w9 eS9 e9 => ⟨w9.trans (wipe_wipe fun i h => h), ?_⟩
          subst eS9
          rcases he9 with ⟨y9, S11, rfl, hc9, hv9⟩ | ⟨rfl, hc9⟩
          · refine htt1 _ _ _ ⟨BD B D, m7, _, ρ9, o8, e9, ?_⟩
            rw [hc9]
            intro Ha ma sa oa
            refine iteT ⟨BD B D, ma, S11, ρ9, oa, sa.env o8 e9, ?_⟩
            rw [hv9]
            intro u Hb mb sb ob rb
            have sab := sa.trans sb
            have bb := b8.step sab ob
            obtain ⟨av, ea, ra⟩ := bb.at_
            obtain ⟨bp, kg⟩ := bb.push hD rb ea
            have hlen : av.length < sizeLine := by
              rw [ra.length]
              have := congrArg List.length heq9
              simp only [List.length_append, Option.toList_some, List.length_cons, List.length_nil] at this
              rw [eds, List.length_append, List.length_append] at hz
              exact Nat.lt_of_lt_of_le (by omega : acc7.length < 16000000) (by decide)
            exact ⟨av, ea, hlen, hlt1, mb, S9, acc7 ++ [y9], rest9, bp, (sab.env o8 e8).mono kg ⟨[], by simp⟩, src.keep (src.step o8 l8 sab) kg, src1.keep (src1.step o8 k8 sab) kg, hgo9, by simpa using heq9⟩
          · refine htt1 _ _ _ ⟨BD B D, m7, _, ρ9, o8, e9, ?_⟩
            rw [hc9]
            intro Ha ma sa oa
            exact iteF ⟨hlt1, ma, S9, acc7, rest9, b8.step sa oa, sa.env o8 e8, src.step o8 l8 sa, src1.step o8 k8 sa, hgo9, by simpa using heq9⟩
        rcases lcGo_cons go7 with ⟨y, Sx, zz, h1, h2, rfl⟩ | ⟨Sx, h1, h2⟩
        · exact fin8 (some y) Sx zz h1 h2 eq7
        · exact fin8 none Sx rest7 h1 h2 eq7
      · have hj : j = ys.length := by omega
        subst hj
        rw [List.drop_length] at go7
        cases go7
        rw [List.append_nil] at eq7
        exact .inl ⟨src1.stop k7, hlt, m7, _, acc7, zs, b7, l7, h2, by rw [eds, eq7, List.append_assoc]⟩
    · have hi : i = xs.length := by omega
      subst hi
      rw [List.drop_length] at go2
      cases go2
      rw [List.append_nil] at eds
      subst eds
      obtain ⟨av, ea, ra⟩ := b2.at_
      exact .inl ⟨src.stop l2, born_end hD b2.st b2.ok ea ra hB fin1⟩
theorem pm_setLc2 (fr : Bool) (i : Nat) {y : Str} {py : Pos} {elt tg iter tg1 iter1 : Expr} {ifs ifs1 : List Expr} {scope : Scope} {own : List (Str × Nat)} {vs1 : List Nat} {pos spos : Pos} {ci ci1 : CI} {g g1 : TG} {t t1 : CT} {ct ct1 ce : CE} {tt tt1 : TT} (hc : X.calm = true) (hN : X.N.Nodup)
    (hsw : swapsWith (.ListComp elt [⟨tg, iter, ifs, 0⟩, ⟨tg1, iter1, ifs1, 0⟩] scope pos) (some (.Name y py)) spos.line X.env = pure true) (hi : PI X tg iter (tMI X.K cl W ci)) (ok : BlkOk X.N X.env.scope scope own) (hv : ∀ i ∈ vs1, i ∈ own.map (·.2))
    (hg : ∀ (s : Shared) (H : Hp) (C : Addr) (cl' : List (Str × Addr)) (fp : List Addr), PG (X.blk s H scope (compEnvC scope cl' C X.env) fp) tg g) (hgo : TgC X.K cl (own.map (·.2)) g t)
    (ht : ∀ (s : Shared) (H : Hp) (C : Addr) (cl' : List (Str × Addr)) (fp : List Addr), PTs (X.blk s H scope (compEnvC scope cl' C X.env) fp) ifs tt) (hto : ∀ σ H Q, tMT X.K cl W0 ct σ H Q → tt σ H Q)
    (hi1 : ∀ (s : Shared) (H : Hp) (C : Addr) (cl' : List (Str × Addr)) (fp : List Addr), PI (X.blk s H scope (compEnvC scope cl' C X.env) fp) tg1 iter1 (tMI X.K cl W0 ci1))
    (hg1 : ∀ (s : Shared) (H : Hp) (C : Addr) (cl' : List (Str × Addr)) (fp : List Addr), PG (X.blk s H scope (compEnvC scope cl' C X.env) fp) tg1 g1) (hgo1 : TgC X.K cl vs1 g1 t1)
    (ht1 : ∀ (s : Shared) (H : Hp) (C : Addr) (cl' : List (Str × Addr)) (fp : List Addr), PTs (X.blk s H scope (compEnvC scope cl' C X.env) fp) ifs1 tt1) (hto1 : ∀ σ H Q, tMT X.K cl W0 ct1 σ H Q → tt1 σ H Q)
    (he : ∀ (s : Shared) (H : Hp) (C : Addr) (cl' : List (Str × Addr)) (fp : List Addr), PE (X.blk s H scope (compEnvC scope cl' C X.env) fp) elt (tM X.K cl W0 ce)) (hs : ∀ x, foldedSetIterable iter X.env x = pure x := by intro _; rfl) (hs1 : ∀ env x, foldedSetIterable iter1 env x = pure x := by intro _ _; rfl)
    (hy : X.N[i]? = some y := by rfl) (hyl : X.env.scope.names.lookup y = some .local := by rfl) :
    PS X (.Assign [.Name y py] (.ListComp elt [⟨tg, iter, ifs, 0⟩, ⟨tg1, iter1, ifs1, 0⟩] scope pos) spos) (tMS X.K cl W (sAsg (tgName i) (cLc2 fr (own.map (·.2)) vs1 ci t ct ci1 t1 ct1 ce))) :=
  PS.imp (ps_setLc2 hc hN hy hyl hsw hi ok hv hg ht hi1 hg1 ht1 he hs hs1) fun E σ H h => by
  obtain ⟨B, m, S, ρ, o, e, fin⟩ := h
  refine tLc2_ok hv hgo hgo1 hto hto1 ⟨B, m, S, ρ, o, e, FinS.bind o e fin fun x S1 v H1 m1 s1 o1 e1 r1 f1 => ?_⟩
  exact f1 _ H1 m1 Step.refl o1 (e1.set i r1)
end
end T3
namespace T3
open PySem PySem.Spec PyProof.Rows L2
noncomputable def sPar (i j : Nat) (c : CA) : CS := fun ρ S => match c ρ S with
  | .ok [x, y] S1 => .nx ((ρ.set i (some x)).set j (some y)) S1
  | .ok _ _ => .bad
  | .exc e S1 => .exc e ρ S1
  | .bad => .bad
section
variable {X : Cx} {cl : ClT} {W : WX}
theorem pm_g {x : Str} {v : V} {d : D} {pos : Pos} (h : ∃ u, X.mg x = some u ∧ RelV v u) (r : ∀ N H, Rep X.K cl N H v d) (hg : Gl X x := by rfl) (hd : (x == ("__debug__" : Str)) = false := by decide) : PE X (.Name x pos) (tM X.K cl W (cK d)) := by
  obtain ⟨u, h1, h2⟩ := h
  exact pm_c (pe_glob hg h1 h2 hd) r
end
section
end
end T3
namespace T3
open PySem PySem.Spec PyProof.Rows L2
/-- what the law's def tells of a script -/
noncomputable def LawSays (f : Fn) : Prop := ∀ ns : List Int, ns.length ≤ 63 → ∃ S, f [.val (.ro (ns.map D.int))] [] = .ok (.val (.bl true)) S
theorem repl_ints {K : PySem.W.Frag} {cl : ClT} {N : Addr → Prop} {H : Hp} : ∀ ns : List Int, RepL K cl N H (ns.map V.int) (ns.map D.int)
  | [] => .nil
  | n :: r => .cons (.int n) (repl_ints r)
theorem ok_nil {K : PySem.W.Frag} {cl : ClT} {H : Hp} (t : LamX.Tabs cl.T H) : Ok K cl (fun _ => False) H [] [] :=
  ⟨fun _ h => h.elim, rfl, List.nodup_nil, fun i a o h => by simp at h, t⟩
theorem spLaw {K : PySem.W.Frag} {cl : ClT} {f : Fn} (L : LawSays f) (H : Hp) (a : Addr) (ns : List Int) (hl : ns.length ≤ 63) (hS : SqL K H a (ns.map V.int)) (ht : LamX.Tabs cl.T H) :
    spF K cl 1 f [.ref a] H (fun v _ => v = V.bl true) fun _ _ _ => False := by
  obtain ⟨S, e⟩ := L ns hl
  have hq : RoAt K (NN (fun _ => False) []) H a (ns.map V.int) := by
    rcases hS with h | h
    · exact .inl ⟨h, fun z => by rcases z with z | z; exact z; simp at z⟩
    · exact .inr h
  refine ⟨rfl, fun _ => False, [], [], _, ok_nil ht, .cons (show RepA K cl _ H [] (.ref a) (.val (.ro (ns.map D.int))) from .ro hq (repl_ints ns)) .nil, ?_⟩
  rw [e]
  intro v H' m' _ _ r
  cases r
  rfl
section
variable {P : Program} {w : World} {K : PySem.W.Frag} {mg mb : Str → Option Value} {k : Nat} {fa a : Addr} {fd : FuncData} {x : Str} {sp : Sp} {s₁ : Shared} {vs : List Value} {ns : List Int}
/-- from a heap in which at most the script is seen -/
theorem law_coreG (KX : K.In s₁.heap) (hns : s₁.heap.Ns mainGlobals mg) (hb : s₁.heap.Ns builtinsNs mb) (hbb : ∀ y : Str, y ≠ "__name__" → mb y = bootBuiltins y) (hlim : s₁.heap.NoLimit)
    (hg : s₁.gens = #[]) (ha : s₁.heap.get? a = some { cls := .type "list", data := .seq vs.toArray }) (hr : Room k callerA)
    (F : ∀ b : Heap, K.In b → b.Ns mainGlobals mg → FnG P w K mg b k fa fd [x] sp) (hbind : ∀ (s : Shared) (u : Value), BindsTo s fd ⟨[u], []⟩ [(x, u)])
    (H : Hp) (hO : Only H) (hok : HOk P w H s₁.heap) (hA : ∀ b, H b ≠ none → b = a) (hK : H a ≠ none → K.lookup a = none) (hsp : sp [.ref a] H (fun v _ => v = V.bl true) fun _ _ _ => False) :
    codeAny (model P w) callerA (.call (.ref fa) ⟨[.ref a], []⟩) (fun r s' => r = .ok (.ret (.bool true)) ∧ OldK s₁.heap s'.heap ∧ s'.os = s₁.os ∧ AllBare s'.gens) s₁ := by
  -- an object that is no list is not seen
  have unseen : ∀ {b : Addr} {o : Obj}, s₁.heap.get? b = some o → o.data ≠ .seq vs.toArray 0 → H b = none := by
    intro b o e d
    cases q : H b with
    | none => rfl
    | some u =>
      have := hA b (by rw [q]; exact fun z => by cases z)
      subst this
      rw [ha] at e
      cases e
      exact absurd rfl d
  have nsK : ∀ {b : Addr} {m : Str → Option Value}, s₁.heap.Ns b m → (hidT s₁.heap H).Ns b m := by
    rintro b m ⟨o, es, ep, e, d, r⟩
    exact ⟨o, es, ep, hidT_get e (unseen e (by rw [d]; exact fun z => by cases z)), d, r⟩
  have hKb : K.In (hidT s₁.heap H) := by
    intro b o e
    refine hidT_get (KX b o e) ?_
    cases q : H b with
    | none => rfl
    | some u =>
      have := hA b (by rw [q]; exact fun z => by cases z)
      subst this
      have z := hK (by rw [q]; exact fun z => by cases z)
      rw [z] at e
      cases e
  obtain ⟨mc, l1, l2⟩ := hlim
  have hM : Mod K mg (hidT s₁.heap H) := ⟨hKb, nsK hns, ⟨mb, nsK hb, hbb⟩, ⟨mc, nsK l1, l2⟩⟩
  have e0 : Env0 P w K mg (hidT s₁.heap H) callerA [] s₁ H := ⟨rfl, hM, fun b o => of_hidT, Nat.le_of_eq (hidT_size _ _), trivial, fun b (hb : b ∈ ([] : List Addr)) => by simp at hb, hok, .of_eq hg⟩
  have run := (F _ hKb (nsK hns)).run (A := callerA) (outer := []) (s := s₁) (H := H) (args := ⟨[.ref a], []⟩) (us := [.ref a]) (vs := [.ref a]) rfl hr e0 (hbind s₁ (.ref a)) (.cons rfl .nil) hsp
  refine codeAny_mono run fun r s' h => ?_
  match r, h with
  | .error e, h => obtain ⟨_, _, _, _, _, _, _, _, _, _, _, _, z⟩ := h; exact z.elim
  | .ok .next, h => exact h.elim
  | .ok .brk, h => exact h.elim
  | .ok .cont, h => exact h.elim
  | .ok (.ret u), h =>
    obtain ⟨v, H', os, bare, un, hok', r', q⟩ := h
    cases (show v = V.bl true from q)
    obtain rfl : u = Value.bool true := r'
    refine ⟨rfl, OldK.of_keep fun b o e => ?_, os, bare⟩
    rcases hO b with z | ⟨ob, xs, z⟩
    · exact un.keep b o e z (fun z => List.not_mem_nil (show b ∈ ([] : List Addr) from z)) (by simp)
    · have e1 := (hok b _ z).1
      have e2 := (hok' b _ (un.frzs b ob _ z)).1
      rw [e] at e1
      cases e1
      exact e2
theorem law_callG (KX : K.In s₁.heap) (hns : s₁.heap.Ns mainGlobals mg) (hb : s₁.heap.Ns builtinsNs mb) (hbb : ∀ y : Str, y ≠ "__name__" → mb y = bootBuiltins y) (hlim : s₁.heap.NoLimit)
    (hg : s₁.gens = #[]) (ha : s₁.heap.get? a = some { cls := .type "list", data := .seq vs.toArray }) (hi : IntsAre vs ns) (hl : ns.length ≤ sizeLine) (hr : Room k callerA)
    (F : ∀ b : Heap, K.In b → b.Ns mainGlobals mg → FnG P w K mg b k fa fd [x] sp) (hbind : ∀ (s : Shared) (u : Value), BindsTo s fd ⟨[u], []⟩ [(x, u)])
    (hsp : ∀ H : Hp, SqL K H a (ns.map V.int) → sp [.ref a] H (fun v _ => v = V.bl true) fun _ _ _ => False) :
    codeAny (model P w) callerA (.call (.ref fa) ⟨[.ref a], []⟩) (fun r s' => r = .ok (.ret (.bool true)) ∧ OldK s₁.heap s'.heap ∧ s'.os = s₁.os ∧ AllBare s'.gens) s₁ := by
  have rv := vals_ints hi
  cases hk : K.lookup a with
  | some o =>
    have e := (KX a o hk).symm.trans ha
    cases e
    refine law_coreG KX hns hb hbb hlim hg ha hr F hbind (fun _ => none) (fun _ => .inl rfl) (fun b u z => ?_) (fun b z => absurd rfl z) (fun z => absurd rfl z) (hsp _ (.inr ⟨_, vs.toArray, _, hk, rfl, rfl, rfl, ?_, by simpa using rv⟩))
    · cases (show (none : Option HO) = some u from z)
    · rw [List.size_toArray, hi.length]
      exact hl
  | none =>
    let H : Hp := fun b => if b = a then some (.frz { cls := .type "list", data := .seq vs.toArray } (.lst (ns.map V.int))) else none
    have at1 : H a = some (.frz { cls := .type "list", data := .seq vs.toArray } (.lst (ns.map V.int))) := if_pos rfl
    have at2 : ∀ {b}, b ≠ a → H b = none := fun h => if_neg h
    refine law_coreG KX hns hb hbb hlim hg ha hr F hbind H (fun b => ?_) (fun b u z => ?_) (fun b z => ?_) (fun _ => hk) (hsp H (.inl (.inr ⟨_, at1⟩)))
    · by_cases h : b = a
      · subst h; exact .inr ⟨_, _, at1⟩
      · exact .inl (at2 h)
    · by_cases h : b = a
      · subst h
        rw [at1] at z
        cases z
        exact ⟨ha, by rw [List.length_map]; exact hl, vs, _, rv, ha⟩
      · rw [at2 h] at z
        cases z
    · by_cases h : b = a
      · exact h
      · exact absurd (at2 h) z
end
theorem walkG {l : PySem.W.OpenLaw} {k : Nat} {q : Program} {loose : List Str} {XP : (Str → Option Value) → Heap → Prop} {YP : World → Heap → Prop} {d : DefRec} {K : Params → PySem.W.Frag} {x : Str} {f : Fn} (L : LawSays f)
    (hn : l.most = some 63) (hdf : d.params.defaults = []) (hr : Room k callerA) (hY : ∀ (w : World) (h : Heap), YP w h → (K w.params).In h)
    (F : ∀ (w : World) (mg : Str → Option Value) (fa : Addr) (h : Heap), (K w.params).In h → h.Ns mainGlobals mg → mg d.name = some (.ref fa) →
      ∃ (fd : FuncData) (cl : Nat → Addr), (∀ (s : Shared) (u : Value), BindsTo s fd ⟨[u], []⟩ [(x, u)]) ∧
        ∀ base : Heap, (K w.params).In base → base.Ns mainGlobals mg → FnG l.prog w (K w.params) mg base k fa fd [x] (spF (K w.params) ⟨cl, []⟩ 1 f)) :
    PySem.W.WalkO q loose XP YP l.row.toRowW d [] (fun f vs => PySem.call f vs) := by
  refine Att.attach_call hn hdf fun w s₀ s₁ mg mb fa o pm cd doc a vs ns G Y ho hd hcd hmg hobj hints hlen hg => ?_
  have KX := hY w _ Y
  obtain ⟨fd, cl, hb, hF⟩ := F w mg fa _ KX G.T.g hmg
  exact law_callG KX G.T.g G.T.b G.T.builtins G.T.nolimit hg hobj hints (Nat.le_trans hlen (by decide)) hr hF hb fun H hS => spLaw L H a ns hlen hS fun _ z => by cases z
end T3
namespace T3
open PySem PySem.Spec PyProof.Rows L2
/-- the type's name; an instance has none here -/
noncomputable def tyD (S : Store) : A → Option String
  | .val .non => some "NoneType"
  | .val (.bl _) => some "bool"
  | .val (.int _) => some "int"
  | .val (.str _) => some "str"
  | .val (.tup _) => some "tuple"
  | .val (.lst _) => some "list"
  | .val (.ro _) => some "list"
  | .val (.dic _ _) => some "dict"
  | .val (.ins _ _ _) => none
  | .val (.wt _) => none
  | .ref i => (match S[i]? with
    | some (.lst _) => some "list"
    | some (.dic _ _) => some "dict"
    | _ => none)
noncomputable def subT (t T : String) : Bool := t == T || (t == "bool" && T == "int")
noncomputable def cIsi (T : String) (c : CE) : CE := fun ρ S => (c ρ S).bind fun x S1 => match tyD S1 x with
  | some t => .ok (.val (.bl (subT t T))) S1
  | none => .bad
/-- the answers of the kit for the built-in types in use -/
noncomputable def IsiT (K : PySem.W.Frag) (T : String) : Prop := ∀ t ∈ ["NoneType", "bool", "int", "str", "tuple", "list", "dict"], PySem.W.kitOne K (.type t) (.type T) = some (subT t T)
section
variable {X : Cx} {cl : ClT} {W : WX}
theorem tyD_ok {B : Addr → Prop} {H : Hp} {m : List Addr} {S : Store} {v : V} {x : A} {t : String} (o : Ok X.K cl B H m S) (r : RepA X.K cl (NN B m) H m v x) (h : tyD S x = some t) : TyX X.K H v (.type t) ∧ t ∈ ["NoneType", "bool", "int", "str", "tuple", "list", "dict"] := by
  cases x with
  | val d =>
    cases r with
    | non => cases h; exact ⟨.base .non, by decide⟩
    | bl b => cases h; exact ⟨.base (.bl b), by decide⟩
    | int i => cases h; exact ⟨.base (.int i), by decide⟩
    | str s => cases h; exact ⟨.base (.str s), by decide⟩
    | tup ht _ =>
      cases h
      refine ⟨?_, by decide⟩
      rcases ht with ⟨ob, h1, _⟩ | ⟨ob, its, n, h1, h2, _⟩
      · exact .fTuple h1
      · exact .kTuple h1 h2
    | lst h1 _ _ => cases h; exact ⟨.base (.lst h1), by decide⟩
    | ro ht _ =>
      cases h
      refine ⟨?_, by decide⟩
      rcases ht with ⟨h1 | ⟨ob, h1⟩, _⟩ | ⟨ob, its, n, h1, h2, _⟩
      · exact .base (.lst h1)
      · exact .base (.frz h1)
      · exact .kList h1 h2
    | dic h1 _ _ _ => cases h; exact ⟨.base (.dK h1), by decide⟩
    | ins _ _ => cases h
    | wt _ _ _ => cases h
  | ref i =>
    obtain ⟨a, ha, rfl⟩ := r
    simp only [tyD] at h
    split at h <;> cases h
    · rename_i ds hs
      obtain ⟨xs, e, _⟩ := o.obj i a _ ha hs
      exact ⟨.base (.lst e), by decide⟩
    · rename_i ks vs hs
      obtain ⟨xs, e, _⟩ := o.obj i a _ ha hs
      exact ⟨.base (.dK e), by decide⟩
theorem pm_isi {T : String} {x : Str} {e : Expr} {c : CE} {p q pos : Pos} (hT : IsiT X.K T) (he : PE X e (tM X.K cl W c)) (hm : X.mg "isinstance" = none) (hmx : X.mg x = none) (hv : bootBuiltins x = some (.type T)) (hg : Gl X "isinstance" := by rfl) (hgx : Gl X x := by rfl)
    (hn : x ≠ "__name__" := by decide) (hd : (x == ("__debug__" : Str)) = false := by decide) (hs : starEach [e, .Name x q] X.env = (false, eval e X.env) :: starEach [.Name x q] X.env := by rfl) (hs2 : starEach [.Name x q] X.env = (false, eval (.Name x q) X.env) :: starEach [] X.env := by rfl)
    (hpl : (backTo pos (starEach [.Name x q] X.env)).any (·.1) = false := by rfl) : PE X (.Call (.Name "isinstance" p) [e, .Name x q] [] pos) (tM X.K cl W (cIsi T c)) := by
  have ht : PE X (.Name x q) (tC (.ty T)) := pe_bltn hgx hmx hv (by rfl) hn hd
  have ha : PA X [e, .Name x q] (tCons (tM X.K cl W c) (tCons (tC (.ty T)) tNil)) := pa_cons he (pa_cons ht pa_nil hs2) hs
  refine PE.imp (pe_callB call_isi hg hm (by rfl) ha (by decide) (by decide) hs hpl) fun σ H Q h => ?_
  obtain ⟨B, m, S, ρ, o, en, fin⟩ := h
  refine ⟨B, m, S, ρ, o, en, Fin.bind fin fun x S1 v H1 m1 s1 o1 r1 f1 => ?_⟩
  split at f1
  · rename_i t ht
    obtain ⟨h1, h2⟩ := tyD_ok o1 r1 ht
    exact ⟨v, .ty T, .type t, .type T, _, rfl, .ty T, h1, hT t h2, f1.here o1 (.bl _)⟩
  · exact f1.elim
noncomputable def findD (x : D) : List D → Option Nat
  | [] => none
  | d :: r => if dEq d x then some 0 else (findD x r).map (· + 1)
noncomputable def fIndex (x : A) (xs : List A) (S : Store) : Res := match x, xs with
  | x, [y] => (match cur S x, cur S y with
    | some (.lst ds), some d => if shp d && shp (.lst ds) then (match findD d ds with
      | some j => .ok (.val (.int (j : Nat))) S
      | none => .bad) else .bad
    | _, _ => .bad)
  | _, _ => .bad
theorem find_ok {K : PySem.W.Frag} {d : D} (hd : dOk d = true) : ∀ {ds : List D} {j : Nat}, dOkL ds = true → findD d ds = some j →
    ∃ z, (toPL ds)[j]? = some z ∧ PyData.eqv z (toP d) = true ∧ ∀ (m : Nat) (z' : PyData), m < j → (toPL ds)[m]? = some z' → PyData.eqv z' (toP d) = false
  | [], j, _, h => by cases h
  | x :: r, j, hl, h => by
    simp only [dOkL, Bool.and_eq_true] at hl
    simp only [findD] at h
    split at h
    · rename_i he
      cases h
      exact ⟨toP x, rfl, by rw [dEq_toP hl.1 hd]; exact he, fun m z' hm => absurd hm (Nat.not_lt_zero m)⟩
    · rename_i he
      cases q : findD d r with
      | none => rw [q] at h; cases h
      | some i =>
        rw [q] at h
        cases h
        obtain ⟨z, h1, h2, h3⟩ := find_ok (K := K) hd hl.2 q
        refine ⟨z, h1, h2, fun m z' hm hz => ?_⟩
        cases m with
        | zero =>
          cases hz
          rw [dEq_toP hl.1 hd]
          exact Bool.eq_false_iff.mpr he
        | succ m => exact h3 m z' (Nat.lt_of_succ_lt_succ hm) hz
theorem ok_index : MtOk X.K cl (rIndexD X.K) fIndex := by
  intro B H m S σ W v x vs xs Q o rx rs h
  unfold fIndex at h
  split at h
  · rename_i y
    obtain ⟨w, rfl, r1⟩ := one_arg rs
    split at h
    · rename_i ds d h1 h2
      split at h
      · rename_i hz
        simp only [Bool.and_eq_true] at hz
        split at h
        · rename_i j hj
          have hl := Dp.of (cur_ok o rx h1) (shp_ok hz.2)
          obtain ⟨a, rfl⟩ : ∃ a, v = .ref a := by cases cur_ok o rx h1 with | lst _ _ _ => exact ⟨_, rfl⟩
          obtain ⟨z, e1, e2, e3⟩ := find_ok (K := X.K) (shp_ok hz.1) (ds := ds) (shp_ok hz.2) hj
          exact ⟨a, w, toP d, toPL ds, j, z, rfl, rfl, hl, Dp.of (cur_ok o r1 h2) (shp_ok hz.1), shp_shaped hz.2, shp_shaped hz.1, e1, e2, e3, h.here o (.int _)⟩
        · exact h.elim
      · exact h.elim
    · exact h.elim
  · exact h.elim
/-- s.split(t) -/
noncomputable def fSplit (fr : Bool) (x : A) (xs : List A) (S : Store) : Res := match x, xs with
  | .val (.str a), [.val (.str b)] => if b.length == 0 then .bad else if szOk (a.length + 2) then mkL fr ((Txt.split a b).map D.str) S else .bad
  | _, _ => .bad
theorem repl_strs {K : PySem.W.Frag} {N : Addr → Prop} {H : Hp} : ∀ ns : List Str, RepL K cl N H (ns.map V.str) (ns.map D.str)
  | [] => .nil
  | n :: r => .cons (.str n) (repl_strs r)
theorem ok_split (fr : Bool) : MtOk X.K cl (fun x xs H Q => ∃ a b, x = .str a ∧ xs = [.str b] ∧ (b.length == 0) = false ∧ a.length + 2 ≤ sizeLine ∧ rNewStrs (Txt.split a b) H Q) (fSplit fr) := by
  intro B H m S σ W v x vs xs Q o rx rs h
  unfold fSplit at h
  split at h
  · rename_i a b
    obtain ⟨w, rfl, r1⟩ := one_arg rs
    cases rx; cases r1
    split at h
    · exact h.elim
    · rename_i hb
      split at h
      · rename_i hz
        exact ⟨a, b, rfl, rfl, Bool.eq_false_iff.mpr hb, szOk_line hz, fun p hp => mkL_ok o (repl_strs _) hp h⟩
      · exact h.elim
  · exact h.elim
theorem pm_index {o e : Expr} {c ce : CE} {apos cpos : Pos} (hu : X.A.units + 65 < cLine) (ho : PE X o (tM X.K cl W c)) (ha : PE X e (tM X.K cl W ce)) (hs1 : starEach [e] X.env = (false, eval e X.env) :: starEach [] X.env := by rfl)
    (hbase : attributeBase o "index" X.env (eval o X.env) = eval o X.env := by rfl) (hfew : ((backTo cpos (starEach [e] X.env)).all (fun x => !x.1) && (backToKw cpos (keywordEach [] X.env)).all (fun x => x.1.isSome)
      && decide ([e].length + ([] : List Keyword).length + (if ([] : List Keyword).isEmpty then 0 else 1) < 30)) = true := by rfl) (hline : (apos.endLine == cpos.line) = true := by rfl) (hplain : (backTo cpos (starEach [] X.env)).any (·.1) = false := by rfl) :
    PE X (.Call (.Attribute o "index" apos) [e] [] cpos) (tM X.K cl W (cMt tyL fIndex c (cCons ce cNil))) :=
  PE.imp (pe_bm PySem.F.plainAttrs_list PySem.F.slot_list_index PySem.F.type_list_index (mt_indexD hu) ho (pm_cons ha pm_nil hs1) hbase hfew hline hs1 hplain) fun _ _ _ h => tBM_ok ty_list ok_index h
theorem pm_split (fr : Bool) {o e : Expr} {c ce : CE} {apos cpos : Pos} (ho : PE X o (tM X.K cl W c)) (ha : PE X e (tM X.K cl W ce)) (hs1 : starEach [e] X.env = (false, eval e X.env) :: starEach [] X.env := by rfl)
    (hbase : attributeBase o "split" X.env (eval o X.env) = eval o X.env := by rfl) (hfew : ((backTo cpos (starEach [e] X.env)).all (fun x => !x.1) && (backToKw cpos (keywordEach [] X.env)).all (fun x => x.1.isSome)
      && decide ([e].length + ([] : List Keyword).length + (if ([] : List Keyword).isEmpty then 0 else 1) < 30)) = true := by rfl) (hline : (apos.endLine == cpos.line) = true := by rfl) (hplain : (backTo cpos (starEach [] X.env)).any (·.1) = false := by rfl) :
    PE X (.Call (.Attribute o "split" apos) [e] [] cpos) (tM X.K cl W (cMt tyS (fSplit fr) c (cCons ce cNil))) :=
  PE.imp (pe_bm PySem.F.plainAttrs_str PySem.F.slot_str_split PySem.F.type_str_split mt_split ho (pm_cons ha pm_nil hs1) hbase hfew hline hs1 hplain) fun _ _ _ h => tBM_ok ty_str (ok_split fr) h
end
end T3
namespace T3
open PySem PySem.Spec PyProof.Rows L2
theorem hu65 {k : Nat} {A : Around} (r : Room k A) : A.units + 65 < cLine := by have := r.un; omega
theorem hu64 {k : Nat} {A : Around} (r : Room k A) : A.units + 64 < cLine := by have := r.un; omega
theorem hu70 {k : Nat} {A : Around} (r : Room k A) : A.units + 70 < cLine := by have := r.un; omega
noncomputable def fNeg (x : A) (S : Store) : Res := match x with
  | .val (.int i) => .ok (.val (.int (-i))) S
  | _ => .bad
section
variable {K : PySem.W.Frag} {cl : ClT}
theorem ok_neg : UnOk K cl (rU fun i => .int (-i)) fNeg := by
  intro B H m S σ W v x Q o r h
  unfold fNeg at h
  split at h
  · cases r
    exact ⟨_, rfl, h.here o (.int _)⟩
  · exact h.elim
theorem ok_fSub : OpOk K cl (rI0 fun i j => .int (i - j)) fSub := ok_i20 fun _ _ _ _ => .int _
theorem ok_fLt : OpOk K cl (rI0 fun i j => .bl (decide (i < j))) fLt := ok_i20 fun _ _ _ _ => .bl _
theorem ok_fLe : OpOk K cl (rI0 fun i j => .bl (decide (i ≤ j))) fLe := ok_i20 fun _ _ _ _ => .bl _
theorem ok_fGt : OpOk K cl (rI0 fun i j => .bl (decide (j < i))) fGt := ok_i20 fun _ _ _ _ => .bl _
theorem ok_fGe : OpOk K cl (rI0 fun i j => .bl (decide (j ≤ i))) fGe := ok_i20 fun _ _ _ _ => .bl _
theorem ok_fMod : OpOk K cl (rI (fun _ j => 0 < j) fun i j => .int (i % j)) fMod := ok_i2 (fun _ _ h => by simpa using h) fun _ _ _ _ => .int _
theorem ok_fFdv : OpOk K cl (rI CDiv fun i j => .int (i / j)) fFdv := ok_i2 (fun _ _ h => by simpa [CDiv] using h) fun _ _ _ _ => .int _
theorem ok_fPow : OpOk K cl (rI CPow fun i j => .int (i ^ j.toNat)) fPow := ok_i2 (fun i j h => by
  simp only [Bool.and_eq_true, decide_eq_true_eq] at h
  refine ⟨?_, ?_, ?_⟩ <;> omega) fun _ _ _ _ => .int _
end
end T3
namespace T3
open PySem PySem.Spec PyProof.Rows L2
/-- where a def stands -/
noncomputable def At (K : PySem.W.Frag) (mg : Str → Option Value) (nm : Str) (st : Stmt) : Prop := ∃ (fa : Addr) (fd : FuncData), mg nm = some (.ref fa) ∧ Fun K nm nm st fa fd
/-- a module's constant -/
noncomputable def Cn (mg : Str → Option Value) (nm : Str) (v : V) : Prop := ∃ u, mg nm = some u ∧ RelV v u
section
variable {P : Program} {w : World} {K : PySem.W.Frag} {mg : Str → Option Value} {base : Heap} {cl : ClT}
theorem binds_of {nm : Str} {st : Stmt} {ps : List Str} (h : ∀ (kV doc pm : Value) (an : Option Addr) (cdv ct : Value) (us : List Value), us.length = ps.length → bindArgs (PySem.W.fnOf nm nm (defArgs st) (defBody st) (defScope st) .none kV doc pm an cdv ct) ⟨us, []⟩ = pure (ps.zip us))
    (fa : Addr) (fd : FuncData) (F : Fun K nm nm st fa fd) : Binds K fd ps [] := F.binds h
theorem kb_of {nm : Str} {st : Stmt} {ps ks : List Str} {perm : List Nat} (h : ∀ (kV doc pm : Value) (an : Option Addr) (cdv ct : Value) (ws : List Value), ws.length = ks.length → ∃ us, perm.map (fun i => ws[i]?) = us.map some ∧
      bindArgs (PySem.W.fnOf nm nm (defArgs st) (defBody st) (defScope st) .none kV doc pm an cdv ct) ⟨[], ks.zip ws⟩ = pure (ps.zip us))
    (fa : Addr) (fd : FuncData) (F : Fun K nm nm st fa fd) : KB K fd ps ks perm := by
  obtain ⟨oc, od, kV, doc, pm, an, cdv, ct, osl, rfl, lk, hcd⟩ := F.ex
  refine ⟨fun s ws _ hl => ?_⟩
  obtain ⟨us, e1, e2⟩ := h kV doc pm an cdv ct ws hl
  exact ⟨us, e1, .of_eq e2⟩
/-- a def by its body -/
theorem fnD {nm : Str} {st : Stmt} {N ps : List Str} {k : Nat} {b : CS} (S : FnScope N ps (defScope st))
    (body : ∀ (fa : Addr) (cdv : Value) (A : Around) (outer : List Env) (s : Shared) (H : Hp) (E : XK),
      (A.deeper (envOfC nm (defScope st) s.heap.objs.size fa cdv)).guards = some [] → Room k (A.deeper (envOfC nm (defScope st) s.heap.objs.size fa cdv)) →
      Takes (cxOf (L2.CX P w) P w K mg base N nm (defScope st) fa cdv A outer s H E) (fun c d _ H => E c d H) →
      PSs (cxOf (L2.CX P w) P w K mg base N nm (defScope st) fa cdv A outer s H E) (defBody st) (tMS K cl (fun c d _ H => E c d H) b))
    (fa : Addr) (fd : FuncData) (F : Fun K nm nm st fa fd) : FnG P w K mg base (k + 1) fa fd ps (spF K cl ps.length (runF N.length b)) := fnM F S (body fa)
theorem calG_of {nm : Str} {st : Stmt} {ps : List Str} {j n : Nat} {f : Fn} (D : At K mg nm st) (bd : ∀ fa fd, Fun K nm nm st fa fd → Binds K fd ps []) (h : ∀ fa fd, Fun K nm nm st fa fd → FnG P w K mg base j fa fd ps (spF K cl n f)) (hn : ps.length = n := by rfl) : CalG P w K mg base cl j nm n f := by
  obtain ⟨fa, fd, hm, F⟩ := D
  exact ⟨fa, fd, ps, hm, F.kp, bd _ _ F, hn, h _ _ F⟩
theorem calK_of {nm : Str} {st : Stmt} {ps ks : List Str} {perm : List Nat} {j n : Nat} {f : Fn} (D : At K mg nm st) (kb : ∀ fa fd, Fun K nm nm st fa fd → KB K fd ps ks perm) (h : ∀ fa fd, Fun K nm nm st fa fd → FnG P w K mg base j fa fd ps (spF K cl n f)) : CalK P w K mg base cl j nm n f ks perm := by
  obtain ⟨fa, fd, hm, F⟩ := D
  exact ⟨fa, fd, ps, hm, F.kp, kb _ _ F, h _ _ F⟩
/-- the whole's end: law's own def -/
theorem law_end {pn : Str} {cl : Nat → Addr} {st : Stmt} {fa : Addr} {j : Nat} {f : Fn} (hm : mg "law" = some (.ref fa)) (D : At K mg "law" st) (bd : ∀ fa fd, Fun K "law" "law" st fa fd → ∀ (s : Shared) (u : Value), BindsTo s fd ⟨[u], []⟩ [(pn, u)])
    (h : ∀ (base : Heap) fa fd, Fun K "law" "law" st fa fd → FnG P w K mg base j fa fd [pn] (spF K ⟨cl, []⟩ 1 f)) :
    ∃ (fd : FuncData) (cl : Nat → Addr), (∀ (s : Shared) (u : Value), BindsTo s fd ⟨[u], []⟩ [(pn, u)]) ∧ ∀ base : Heap, K.In base → base.Ns mainGlobals mg → FnG P w K mg base j fa fd [pn] (spF K ⟨cl, []⟩ 1 f) := by
  obtain ⟨fa', fd, hm', F⟩ := D
  cases hm.symm.trans hm'
  exact ⟨fd, cl, bd _ _ F, fun base _ _ => h base _ _ F⟩
theorem bindsL {pn : Str} {st : Stmt} (h : ∀ (kV doc pm : Value) (an : Option Addr) (cdv ct u : Value), bindArgs (PySem.W.fnOf "law" "law" (defArgs st) (defBody st) (defScope st) .none kV doc pm an cdv ct) ⟨[u], []⟩ = pure [(pn, u)])
    (fa : Addr) (fd : FuncData) (F : Fun K "law" "law" st fa fd) (s : Shared) (u : Value) : BindsTo s fd ⟨[u], []⟩ [(pn, u)] := by
  obtain ⟨oc, od, kV, doc, pm, an, cdv, ct, osl, rfl, lk, hcd⟩ := F.ex
  exact .of_eq (h kV doc pm an cdv ct u)
end
end T3
namespace T3
open PySem PySem.Spec PyProof.Rows L2
theorem isiT_int (K : PySem.W.Frag) : IsiT K "int" := by
  intro t ht
  simp only [List.mem_cons, List.not_mem_nil, or_false] at ht
  rcases ht with rfl | rfl | rfl | rfl | rfl | rfl | rfl <;> rfl
theorem isiT_bool (K : PySem.W.Frag) : IsiT K "bool" := by
  intro t ht
  simp only [List.mem_cons, List.not_mem_nil, or_false] at ht
  rcases ht with rfl | rfl | rfl | rfl | rfl | rfl | rfl <;> rfl
theorem isiT_str (K : PySem.W.Frag) : IsiT K "str" := by
  intro t ht
  simp only [List.mem_cons, List.not_mem_nil, or_false] at ht
  rcases ht with rfl | rfl | rfl | rfl | rfl | rfl | rfl <;> rfl
theorem isiT_tuple (K : PySem.W.Frag) : IsiT K "tuple" := by
  intro t ht
  simp only [List.mem_cons, List.not_mem_nil, or_false] at ht
  rcases ht with rfl | rfl | rfl | rfl | rfl | rfl | rfl <;> rfl
end T3
namespace T3
open PySem PySem.Spec PyProof.Rows L2
/-- a turn of a loop -/
noncomputable def lb (t : CT) (b : CS) : D → CS := fun d ρ S => match t (.val d) ρ S with
  | some (ρ', S') => b ρ' S'
  | none => .bad
section
variable {ρ : Slots} {S S1 S2 : Store} {i j : Nat}
@[simp ↓] theorem ap_V : cV i ρ S = (match ρ[i]? with | some (some x) => Res.ok x S | _ => .bad) := by
  first | rfl | (unfold cV; rfl)
@[simp ↓] theorem ap_K {d : D} : cK d ρ S = .ok (.val d) S := rfl
@[simp ↓] theorem ap_Bin {f : A → A → Store → Res} {a b : CE} : cBin f a b ρ S = (match a ρ S with | .ok x S1 => ((match b ρ S1 with | .ok y S2 => (f x y S2) | .exc e S9 => .exc e S9 | .bad => .bad)) | .exc e S9 => .exc e S9 | .bad => .bad) := rfl
@[simp ↓] theorem ap_Un {f : A → Store → Res} {a : CE} : cUn f a ρ S = (match a ρ S with | .ok x9 S8 => (f x9 S8) | .exc e S9 => .exc e S9 | .bad => .bad) := rfl
@[simp ↓] theorem ap_Nil : cNil ρ S = .ok [] S := rfl
@[simp ↓] theorem ap_Cons {c : CE} {r : CA} : cCons c r ρ S = (match c ρ S with | .ok x S1 => (match r ρ S1 with | .ok xs S2 => LRes.ok (x :: xs) S2 | .exc e S2 => .exc e S2 | .bad => .bad) | .exc e S1 => .exc e S1 | .bad => .bad) := rfl
@[simp ↓] theorem ap_Tup {c : CA} : cTup c ρ S = (match c ρ S with | .ok xs S1 => (match valsOf xs with | some ds => if szOk ds.length then .ok (.val (.tup ds)) S1 else .bad | none => .bad) | .exc e S9 => .exc e S9 | .bad => .bad) := rfl
@[simp ↓] theorem ap_Lst {fr : Bool} {c : CA} : cLst fr c ρ S = (match c ρ S with | .ok xs S1 => (match valsOf xs with | some ds => if szOk ds.length then mkL fr ds S1 else .bad | none => .bad) | .exc e S9 => .exc e S9 | .bad => .bad) := rfl
@[simp] theorem mkL_t {ds : List D} : mkL true ds S = .ok (.val (.lst ds)) S := rfl
@[simp] theorem mkL_f {ds : List D} : mkL false ds S = .ok (.ref S.length) (S ++ [.lst ds]) := rfl
@[simp ↓] theorem ap_If {ct ca cb : CE} : cIf ct ca cb ρ S = (match ct ρ S with | .ok x S1 => (match x with | .val (.bl true) => ca ρ S1 | .val (.bl false) => cb ρ S1 | _ => .bad) | .exc e S9 => .exc e S9 | .bad => .bad) := rfl
@[simp ↓] theorem ap_Tru {c : CE} : cTru c ρ S = (match c ρ S with | .ok x S1 => (match tru S1 x with | some b => .ok (.val (.bl b)) S1 | none => .bad) | .exc e S9 => .exc e S9 | .bad => .bad) := rfl
@[simp ↓] theorem ap_And {a b : CE} : cAnd a b ρ S = cIf a b (cB false) ρ S := rfl
@[simp ↓] theorem ap_Or {a b : CE} : cOr a b ρ S = cIf a (cB true) b ρ S := rfl
@[simp ↓] theorem ap_Not {a : CE} : cNot a ρ S = cIf a (cB false) (cB true) ρ S := rfl
@[simp ↓] theorem ap_sNil : sNil ρ S = .nx ρ S := rfl
@[simp ↓] theorem ap_sSeq {a b : CS} : sSeq a b ρ S = (match a ρ S with | .nx ρ' S' => b ρ' S' | r => r) := rfl
@[simp ↓] theorem ap_sAsg {t : CT} {c : CE} : sAsg t c ρ S = (match c ρ S with | .ok x S1 => (match t x ρ S1 with | some (ρ', S') => SRes.nx ρ' S' | none => .bad) | .exc e S9 => .exc e ρ S9 | .bad => .bad) := rfl
@[simp ↓] theorem ap_sExp {c : CE} : sExp c ρ S = (match c ρ S with | .ok _ S1 => (.nx ρ S1) | .exc e S9 => .exc e ρ S9 | .bad => .bad) := rfl
@[simp ↓] theorem ap_sRet {c : CE} : sRet c ρ S = (match c ρ S with | .ok x S1 => (.rt x S1) | .exc e S9 => .exc e ρ S9 | .bad => .bad) := rfl
@[simp ↓] theorem ap_sIf {c : CE} {a b : CS} : sIf c a b ρ S = (match c ρ S with | .ok x S1 => (match x with | .val (.bl true) => a ρ S1 | .val (.bl false) => b ρ S1 | _ => .bad) | .exc e S9 => .exc e ρ S9 | .bad => .bad) := rfl
@[simp ↓] theorem ap_sFor {ci : CI} {t : CT} {b : CS} : sFor ci t b ρ S = (match ci ρ S with | .ok xs S1 => forL (lb t b) xs ρ S1 | .exc e S1 => .exc e ρ S1 | .bad => .bad) := rfl
@[simp ↓] theorem ap_lb {t : CT} {b : CS} {d : D} : lb t b d ρ S = (match t (.val d) ρ S with | some (ρ', S') => b ρ' S' | none => .bad) := rfl
@[simp ↓] theorem ap_tgName {x : A} : tgName i x ρ S = some (ρ.set i (some x), S) := rfl
@[simp ↓] theorem ap_tgNil {ds : List D} : tgNil ds ρ S = if ds.isEmpty then some (ρ, S) else none := rfl
@[simp ↓] theorem ap_tgCons {t : CT} {u : List D → Slots → Store → Option (Slots × Store)} {ds : List D} : tgCons t u ds ρ S = (match ds with | d :: r => (match t (.val d) ρ S with | some (ρ', S') => u r ρ' S' | none => none) | [] => none) := rfl
@[simp ↓] theorem ap_tgTup {n : Nat} {u : List D → Slots → Store → Option (Slots × Store)} {x : A} : tgTup n u x ρ S = (match x with | .val (.tup ds) => (if ds.length = n then u ds ρ S else none) | .val (.wt ds) => (if ds.length = n then u ds ρ S else none) | _ => none) := rfl
end
noncomputable def tgAny (n : Nat) (u : List D → Slots → Store → Option (Slots × Store)) : CT := fun x ρ S => match (match x with
    | .val (.tup ds) => some ds
    | .val (.wt ds) => some ds
    | y => asL S y) with
  | some ds => if ds.length = n then u ds ρ S else none
  | none => none
noncomputable def gAny (K : PySem.W.Frag) (n : Nat) (gs : TGs) : TG := fun v σ H Q => gTup K n gs v σ H Q ∨ gUnl K n gs v σ H Q
section
variable {X : Cx} {cl : ClT}
theorem pg_any {es : List Expr} {k : Nat} {t : TGs} {n : Nat} {pos : Pos} (hc : X.calm = true) (h : PGs X es t) (hn : (assignEach es X.env).length = n := by rfl) (hst : (assignEach es X.env).findIdx? (·.1) = none := by rfl) : PG X (.Tuple es k pos) (gAny X.K n t) :=
  ⟨fun pins s σ H v u Q I r q => q.elim (fun q => (pg_tup hc h hn hst).run pins s σ H v u Q I r q) fun q => (pg_unl hc h hn hst).run pins s σ H v u Q I r q⟩
theorem tgAny_eq {n : Nat} {u : List D → Slots → Store → Option (Slots × Store)} {x : A} {ρ ρ' : Slots} {S S' : Store} (h : tgAny n u x ρ S = some (ρ', S')) : tgTup n u x ρ S = some (ρ', S') ∨ tgSeq n u x ρ S = some (ρ', S') := by
  unfold tgAny at h
  cases x with
  | ref i => exact .inr h
  | val d => cases d <;> first | exact .inl h | exact .inr h
theorem tg_any {n : Nat} {gs : TGs} {u : List D → Slots → Store → Option (Slots × Store)} (hs : TgsOk X.K cl gs u) : TgOk X.K cl (gAny X.K n gs) (tgAny n u) := by
  intro B H m S S' v x σ ρ ρ' Q o e r h k
  rcases tgAny_eq h with h | h
  · exact .inl (tg_tup hs o e r h k)
  · exact .inr (tg_seq hs o e r h k)
end
section
variable {ρ : Slots} {S S1 S2 : Store} {i j : Nat}
@[simp ↓] theorem ap_tgAny {n : Nat} {u : List D → Slots → Store → Option (Slots × Store)} {x : A} : tgAny n u x ρ S = (match (match x with | .val (.tup ds) => some ds | .val (.wt ds) => some ds | y => asL S y) with | some ds => if ds.length = n then u ds ρ S else none | none => none) := rfl
@[simp ↓] theorem ap_tgSub {co ci : CE} {x : A} : tgSub co ci x ρ S = (match co ρ S, x with | .ok (.ref j) S1, .val d => (match ci ρ S1 with | .ok (.val (.int k)) S2 => (match S2[j]? with | some (.lst ds) => (match ixN ds.length k with | some q => some (ρ, S2.set j (.lst (ds.set q d))) | none => none) | _ => none) | _ => none) | _, _ => none) := rfl
@[simp ↓] theorem ap_R1 {c : CE} : ciR1 c ρ S = (match c ρ S with | .ok (.val (.int j)) S1 => if decide (-1000000 ≤ j) && decide (j ≤ 1000000) then .ok (rangeD 0 j.toNat) S1 else .bad | .exc e S1 => .exc e S1 | _ => .bad) := rfl
@[simp ↓] theorem ap_R2 {c d : CE} : ciR2 c d ρ S = (match c ρ S with | .ok (.val (.int i)) S1 => (match d ρ S1 with | .ok (.val (.int j)) S2 => if decide (-1000000 ≤ i) && decide (i ≤ 1000000) && decide (-1000000 ≤ j) && decide (j ≤ 1000000) then .ok (rangeD i (j - i).toNat) S2 else .bad | .exc e S1 => .exc e S1 | _ => .bad) | .exc e S1 => .exc e S1 | _ => .bad) := rfl
@[simp ↓] theorem ap_ciV {c : CE} : ciV c ρ S = (match c ρ S with | .ok (.val (.lst ds)) S1 => .ok ds S1 | .ok (.val (.ro ds)) S1 => .ok ds S1 | .ok (.val (.tup ds)) S1 => .ok ds S1 | .ok (.val (.str s)) S1 => .ok (signsD s) S1 | .exc e S1 => .exc e S1 | _ => .bad) := rfl
@[simp ↓] theorem ap_B1 {f : List A → Store → Res} {c : CA} : cB1 f c ρ S = (match c ρ S with | .ok x9 S8 => (f x9 S8) | .exc e S9 => .exc e S9 | .bad => .bad) := rfl
@[simp ↓] theorem ap_Mt {ty : A → Store → Bool} {f : A → List A → Store → Res} {c : CE} {ca : CA} : cMt ty f c ca ρ S = (match c ρ S with | .ok x S1 => (if ty x S1 then (match ca ρ S1 with | .ok xs S2 => f x xs S2 | .exc e S9 => .exc e S9 | .bad => .bad) else .bad) | .exc e S9 => .exc e S9 | .bad => .bad) := rfl
@[simp ↓] theorem ap_Call {n : Nat} {ad : Bool} {f : Fn} {c : CA} : cCall n ad f c ρ S = (match c ρ S with | .ok xs S1 => (if xs.length = n then callIn ad f xs S1 else .bad) | .exc e S9 => .exc e S9 | .bad => .bad) := rfl
@[simp ↓] theorem ap_Call0 {ad : Bool} {f : Fn} : cCall0 ad f ρ S = callIn ad f [] S := rfl
@[simp ↓] theorem ap_CallK {n q : Nat} {ad : Bool} {perm : List Nat} {f : Fn} {c : CA} : cCallK n q ad perm f c ρ S = (match c ρ S with | .ok xs S1 => (if xs.length = q then (match pick xs perm with | some ys => if ys.length = n then callIn ad f ys S1 else .bad | none => .bad) else .bad) | .exc e S9 => .exc e S9 | .bad => .bad) := rfl
@[simp ↓] theorem ap_Isi {T : String} {c : CE} : cIsi T c ρ S = (match c ρ S with | .ok x S1 => (match tyD S1 x with | some t => .ok (.val (.bl (subT t T))) S1 | none => .bad) | .exc e S9 => .exc e S9 | .bad => .bad) := rfl
@[simp ↓] theorem ap_Lc {fr : Bool} {vs : List Nat} {ci : CI} {t : CT} {ct ce : CE} : cLc fr vs ci t ct ce ρ S = (match ci ρ S with | .ok xs S1 => (match lcGo (elm t ct ce (wipeR ρ vs)) xs S1 with | some (ds, S2) => if szOk ds.length then mkL fr ds S2 else .bad | none => .bad) | .exc e S1 => .exc e S1 | .bad => .bad) := rfl
@[simp ↓] theorem ap_elm {t : CT} {ct ce : CE} {d : D} : elm t ct ce ρ d S = (match t (.val d) ρ S with | some (ρ', S') => (match ct ρ' S' with | .ok (.val (.bl true)) S2 => (match ce ρ' S2 with | .ok (.val y) S3 => some (some y, S3) | _ => none) | .ok (.val (.bl false)) S2 => some (none, S2) | _ => none) | none => none) := rfl
@[simp ↓] theorem ap_Yes : cYes ρ S = .ok (.val (.bl true)) S := rfl
@[simp ↓] theorem ap_Sl {fr : Bool} {c : CE} {lo hi : Option CE} : cSl fr c lo hi ρ S = (match c ρ S with | .ok x S1 => (withO lo ρ S1 fun l S2 => withO hi ρ S2 fun u S3 => slD fr x l u S3) | .exc e S9 => .exc e S9 | .bad => .bad) := rfl
@[simp ↓] theorem ap_Star {c : CE} {r : CA} : cStar c r ρ S = (match c ρ S with | .ok x S1 => (match (match x with | .val (.tup ds) => some ds | y => asL S1 y) with | some ds => (match r ρ S1 with | .ok xs S2 => .ok (ds.map A.val ++ xs) S2 | .exc e S2 => .exc e S2 | .bad => .bad) | none => .bad) | .exc e S1 => .exc e S1 | .bad => .bad) := rfl
@[simp ↓] theorem ap_Par {c : CA} : sPar i j c ρ S = (match c ρ S with | .ok [x, y] S1 => .nx ((ρ.set i (some x)).set j (some y)) S1 | .ok _ _ => .bad | .exc e S1 => .exc e ρ S1 | .bad => .bad) := rfl
@[simp ↓] theorem ap_LenSet {c : CE} : cLenSet c ρ S = (match c ρ S with | .ok x S1 => (match (match x with | .val (.tup ds) => some ds | y => asL S1 y) with | some ds => (match intsOf ds with | some ns => (if decide (ns.length ≤ 1000) then .ok (.val (.int (dedupI ns).length)) S1 else .bad) | none => .bad) | none => .bad) | .exc e S9 => .exc e S9 | .bad => .bad) := rfl
@[simp ↓] theorem ap_Chain {f g : A → A → Store → Res} {ca cb cc : CE} : cChain f g ca cb cc ρ S = (match ca ρ S with | .ok x S1 => (match cb ρ S1 with | .ok y S2 => (match f x y S2 with | .ok z S3 => (match z with | .val (.bl true) => (match cc ρ S3 with | .ok w S4 => g y w S4 | .exc e S9 => .exc e S9 | .bad => .bad) | .val (.bl false) => .ok (.val (.bl false)) S3 | _ => .bad) | .exc e S9 => .exc e S9 | .bad => .bad) | .exc e S9 => .exc e S9 | .bad => .bad) | .exc e S9 => .exc e S9 | .bad => .bad) := rfl
end
section
variable {S : Store} {i j : Nat}
@[simp] theorem add_int {fr : Bool} {a b : Int} : fAdd fr (.val (.int a)) (.val (.int b)) S = .ok (.val (.int (a + b))) S := rfl
@[simp] theorem add_str {fr : Bool} {a b : Str} : fAdd fr (.val (.str a)) (.val (.str b)) S = if szOk (a.length + b.length) then .ok (.val (.str (a ++ b))) S else .bad := rfl
@[simp] theorem add_tup {fr : Bool} {a b : List D} : fAdd fr (.val (.tup a)) (.val (.tup b)) S = if szOk (a.length + b.length) then .ok (.val (.tup (a ++ b))) S else .bad := rfl
@[simp] theorem add_lst {fr : Bool} {a b : List D} : fAdd fr (.val (.lst a)) (.val (.lst b)) S = if szOk (a.length + b.length) then mkL fr (a ++ b) S else .bad := rfl
@[simp] theorem add_ref {fr : Bool} {b : List D} : fAdd fr (.ref i) (.val (.lst b)) S = (match asM S (.ref i) with | some a => if szOk (a.length + b.length) then mkL fr (a ++ b) S else .bad | none => .bad) := by
  show (match asM S (.ref i), (some b : Option (List D)) with | some a, some b => if szOk (a.length + b.length) then mkL fr (a ++ b) S else .bad | _, _ => .bad) = _
  cases h : asM S (.ref i) <;> rfl
@[simp] theorem mul_int {fr : Bool} {a b : Int} : fMul fr (.val (.int a)) (.val (.int b)) S = if mulOk a b then .ok (.val (.int (a * b))) S else .bad := rfl
@[simp] theorem mul_tup {fr : Bool} {a : List D} {k : Int} : fMul fr (.val (.tup a)) (.val (.int k)) S = if decide (k = 1) then .ok (.val (.tup a)) S else if !a.isEmpty && decide (2 ≤ k) && decide (k ≤ 1000) && decide (a.length ≤ 1000) then .ok (.val (.tup (List.replicate k.toNat a).flatten)) S else .bad := rfl
@[simp] theorem mul_lst {fr : Bool} {a : List D} {k : Int} : fMul fr (.val (.lst a)) (.val (.int k)) S = if decide (-1000000 ≤ k) && decide (k ≤ 1000000) && szOk (a.length * k.toNat) then mkL fr (List.replicate k.toNat a).flatten S else .bad := rfl
@[simp] theorem i2_int {c : Int → Int → Bool} {g : Int → Int → D} {a b : Int} : fI2 c g (.val (.int a)) (.val (.int b)) S = if c a b then .ok (.val (g a b)) S else .bad := rfl
@[simp] theorem ix_str {s : Str} {k : Int} : fIx (.val (.str s)) (.val (.int k)) S = if szOk s.length then (match (ixN s.cps.toList.length k).bind fun j => s.cps.toList[j]? with
      | some c => .ok (.val (.str ⟨#[c]⟩)) S
      | none => .bad) else .bad := rfl
@[simp] theorem ix_tup' {ds : List D} {k : Int} : fIx (.val (.tup ds)) (.val (.int k)) S = (match (ixN ds.length k).bind fun j => ds[j]? with
      | some d => .ok (.val d) S
      | none => .bad) := rfl
@[simp] theorem ix_lst {ds : List D} {k : Int} : fIx (.val (.lst ds)) (.val (.int k)) S = (match (ixN ds.length k).bind fun j => ds[j]? with
      | some d => .ok (.val d) S
      | none => .bad) := rfl
@[simp] theorem ix_ro {ds : List D} {k : Int} : fIx (.val (.ro ds)) (.val (.int k)) S = (match (ixN ds.length k).bind fun j => ds[j]? with
      | some d => .ok (.val d) S
      | none => .bad) := rfl
@[simp] theorem ix_ref {k : Int} : fIx (.ref i) (.val (.int k)) S = (match asL S (.ref i) with
      | some ds => (match (ixN ds.length k).bind fun j => ds[j]? with
        | some d => .ok (.val d) S
        | none => .bad)
      | none => .bad) := rfl
@[simp] theorem len_str {s : Str} : fLen [.val (.str s)] S = if szOk s.length then .ok (.val (.int s.length)) S else .bad := rfl
@[simp] theorem len_tup {ds : List D} : fLen [.val (.tup ds)] S = .ok (.val (.int ds.length)) S := rfl
@[simp] theorem len_lst {ds : List D} : fLen [.val (.lst ds)] S = .ok (.val (.int ds.length)) S := rfl
@[simp] theorem len_ro {ds : List D} : fLen [.val (.ro ds)] S = .ok (.val (.int ds.length)) S := rfl
@[simp] theorem tuple_tup {ds : List D} : fTuple [.val (.tup ds)] S = .ok (.val (.tup ds)) S := rfl
@[simp] theorem tuple_lst {ds : List D} : fTuple [.val (.lst ds)] S = .ok (.val (.tup ds)) S := rfl
@[simp] theorem all_lst {ds : List D} : fAll [.val (.lst ds)] S = (match boolsOf ds with
      | some bs => .ok (.val (.bl (bs.all id))) S
      | none => .bad) := rfl
@[simp] theorem any_lst {ds : List D} : fAny [.val (.lst ds)] S = (match boolsOf ds with
      | some bs => .ok (.val (.bl (bs.any id))) S
      | none => .bad) := rfl
@[simp] theorem str_int {k : Int} : fStr [.val (.int k)] S = if decide (k.natAbs.log2 < 1920) then .ok (.val (.str (toString k : String))) S else .bad := rfl
@[simp] theorem int_int {k : Int} : fInt [.val (.int k)] S = .ok (.val (.int k)) S := rfl
@[simp] theorem int_str {s : Str} : fInt [.val (.str s)] S = (match PySem.intText? s with
    | some n => if decide (s.length ≤ 640) then .ok (.val (.int n)) S else .bad
    | none => .bad) := rfl
@[simp] theorem abs_int {k : Int} : fAbs [.val (.int k)] S = .ok (.val (.int (if k < 0 then -k else k))) S := rfl
@[simp] theorem max_int {a b : Int} : fMax2 [.val (.int a), .val (.int b)] S = .ok (.val (.int (if b > a then b else a))) S := rfl
@[simp] theorem min_int {a b : Int} : fMin2 [.val (.int a), .val (.int b)] S = .ok (.val (.int (if b < a then b else a))) S := rfl
@[simp] theorem dm_int {a b : Int} : fDivmod [.val (.int a), .val (.int b)] S = if decide (0 < b) && decide (b < 1073741824) then .ok (.val (.tup [.int (a / b), .int (a % b)])) S else .bad := rfl
@[simp] theorem app_ref {d : D} : fAppend (.ref i) [.val d] S = (match S[i]? with
    | some (.lst ds) => if szOk ds.length then .ok (.val .non) (S.set i (.lst (ds ++ [d]))) else .bad
    | _ => .bad) := rfl
@[simp] theorem withO_n {ρ : Slots} {f : Option Int → Store → Res} : withO none ρ S f = f none S := rfl
@[simp ↓] theorem withO_s {ρ : Slots} {c : CE} {f : Option Int → Store → Res} : withO (some c) ρ S f = (match c ρ S with | .ok x S1 => (match x with | .val (.int i) => f (some i) S1 | _ => .bad) | .exc e S9 => .exc e S9 | .bad => .bad) := rfl
@[simp] theorem sl_str {fr : Bool} {s : Str} {l u : Option Int} : slD fr (.val (.str s)) l u S = if szOk s.length then .ok (.val (.str (cutS s l u))) S else .bad := rfl
@[simp] theorem sl_tup {fr : Bool} {ds : List D} {l u : Option Int} : slD fr (.val (.tup ds)) l u S = .ok (.val (.tup (cutD ds l u))) S := rfl
@[simp] theorem sl_lst {fr : Bool} {ds : List D} {l u : Option Int} : slD fr (.val (.lst ds)) l u S = mkL fr (cutD ds l u) S := rfl
@[simp] theorem sl_ro {fr : Bool} {ds : List D} {l u : Option Int} : slD fr (.val (.ro ds)) l u S = mkL fr (cutD ds l u) S := rfl
@[simp] theorem ixN_lit0 {n : Nat} : ixN (n + 1) 0 = some 0 := by unfold ixN; rw [if_pos (by omega), if_pos (by omega)]; rfl
@[simp] theorem ixN_lit1 {n : Nat} : ixN (n + 2) 1 = some 1 := by unfold ixN; rw [if_pos (by omega), if_pos (by omega)]; rfl
@[simp] theorem ixN_lit2 {n : Nat} : ixN (n + 3) 2 = some 2 := by unfold ixN; rw [if_pos (by omega), if_pos (by omega)]; rfl
theorem ixN_nat {n k : Nat} (h : k < n) : ixN n (k : Int) = some k := by unfold ixN; rw [if_pos (by omega), if_pos (by omega)]; rfl
theorem ixN_int {n : Nat} {k : Int} (h0 : 0 ≤ k) (h : k < n) : ixN n k = some k.toNat := by unfold ixN; rw [if_pos h0, if_pos h]
end
section
variable {S : Store} {ρ : Slots} {d : D} {ds : List D} {i : Nat} {xs : List A} {a b : Str} {k : Int} {x : A}
@[simp] theorem vo_nil : valsOf [] = some [] := rfl
@[simp] theorem vo_val : valsOf (.val d :: xs) = (valsOf xs).map (d :: ·) := rfl
@[simp] theorem vo_ref : valsOf (.ref i :: xs) = none := rfl
@[simp] theorem asL_lst : asL S (.val (.lst ds)) = some ds := rfl
@[simp] theorem asL_ro : asL S (.val (.ro ds)) = some ds := rfl
@[simp] theorem asL_ref : asL S (.ref i) = (match S[i]? with | some (.lst ds) => some ds | _ => none) := rfl
@[simp] theorem asL_tup : asL S (.val (.tup ds)) = none := rfl
@[simp] theorem asL_str : asL S (.val (.str a)) = none := rfl
@[simp] theorem asL_int : asL S (.val (.int k)) = none := rfl
@[simp] theorem asL_non : asL S (.val .non) = none := rfl
@[simp] theorem asM_lst : asM S (.val (.lst ds)) = some ds := rfl
@[simp] theorem asM_ref : asM S (.ref i) = (match S[i]? with | some (.lst ds) => some ds | _ => none) := rfl
@[simp] theorem tru_non : tru S (.val .non) = some false := rfl
@[simp] theorem tru_bl {c : Bool} : tru S (.val (.bl c)) = some c := rfl
@[simp] theorem tru_int : tru S (.val (.int k)) = some (k != 0) := rfl
@[simp] theorem tru_str : tru S (.val (.str a)) = if szOk a.length then some (a.length != 0) else none := rfl
@[simp] theorem tru_tup : tru S (.val (.tup ds)) = some (!ds.isEmpty) := rfl
@[simp] theorem tru_lst : tru S (.val (.lst ds)) = some (!ds.isEmpty) := rfl
@[simp] theorem tru_ro : tru S (.val (.ro ds)) = some (!ds.isEmpty) := rfl
@[simp] theorem tru_ref : tru S (.ref i) = (match asL S (.ref i) with | some ds => some (!ds.isEmpty) | none => none) := rfl
@[simp] theorem wipe_nil : wipeR ρ [] = ρ := rfl
@[simp] theorem wipe_cons {v : Nat} {vs : List Nat} : wipeR ρ (v :: vs) = (wipeR ρ vs).set v none := rfl
@[simp] theorem ret_nx : retF (.nx ρ S) = .ok (.val .non) S := rfl
@[simp] theorem ret_rt : retF (.rt x S) = .ok x S := rfl
@[simp] theorem ret_exc {e : X0} : retF (.exc e ρ S) = .exc e S := rfl
@[simp] theorem ret_bad : retF .bad = .bad := rfl
@[simp] theorem pick_nil : pick xs [] = some [] := rfl
@[simp] theorem pick_cons {r : List Nat} : pick xs (i :: r) = (match xs[i]?, pick xs r with | some x, some t => some (x :: t) | _, _ => none) := rfl
@[simp] theorem tyD_non : tyD S (.val .non) = some "NoneType" := rfl
@[simp] theorem tyD_bl {c : Bool} : tyD S (.val (.bl c)) = some "bool" := rfl
@[simp] theorem tyD_int : tyD S (.val (.int k)) = some "int" := rfl
@[simp] theorem tyD_str : tyD S (.val (.str a)) = some "str" := rfl
@[simp] theorem tyD_tup : tyD S (.val (.tup ds)) = some "tuple" := rfl
@[simp] theorem tyD_lst : tyD S (.val (.lst ds)) = some "list" := rfl
@[simp] theorem tyD_ro : tyD S (.val (.ro ds)) = some "list" := rfl
@[simp] theorem subT_eq {t T : String} : subT t T = (t == T || (t == "bool" && T == "int")) := rfl
@[simp] theorem tyL_eq : tyL x S = (asL S x).isSome := rfl
@[simp] theorem tyS_str : tyS (.val (.str a)) S = true := rfl
@[simp] theorem getAll_nil : getAll S [] = some [] := rfl
@[simp] theorem getAll_cons {r : List Nat} : getAll S (i :: r) = (match S[i]?, getAll S r with | some o, some t => some (o :: t) | _, _ => none) := rfl
@[simp] theorem refs_nil : refsOf [] = [] := rfl
@[simp] theorem refs_ref : refsOf (.ref i :: xs) = i :: refsOf xs := rfl
@[simp] theorem refs_val : refsOf (.val d :: xs) = refsOf xs := rfl
@[simp] theorem renum_nil {n : Nat} : renum n [] = [] := rfl
@[simp] theorem renum_ref {n : Nat} : renum n (.ref i :: xs) = .ref n :: renum (n + 1) xs := rfl
@[simp] theorem renum_val {n : Nat} : renum n (.val d :: xs) = .val d :: renum n xs := rfl
@[simp] theorem bo_nil : boolsOf [] = some [] := rfl
@[simp] theorem bo_cons {c : Bool} : boolsOf (.bl c :: ds) = (boolsOf ds).map (c :: ·) := rfl
@[simp] theorem io_nil : intsOf [] = some [] := rfl
@[simp] theorem io_cons : intsOf (.int k :: ds) = (intsOf ds).map (k :: ·) := rfl
@[simp] theorem so_nil : strsOf [] = some [] := rfl
@[simp] theorem so_cons : strsOf (.str a :: ds) = (strsOf ds).map (a :: ·) := rfl
end
end T3
namespace T3
open PySem PySem.Spec PyProof.Rows L2
noncomputable def forR (b : D → CS) (j : Nat) : Nat → Nat → CS
  | 0, _, _, _ => .bad
  | n + 1, i, ρ, S => match S[j]? with
    | some (.lst ds) => (match ds[i]? with
      | none => .nx ρ S
      | some d => (match b d ρ S with
        | .nx ρ' S' => forR b j n (i + 1) ρ' S'
        | .ct ρ' S' => forR b j n (i + 1) ρ' S'
        | .bk ρ' S' => .nx ρ' S'
        | q => q))
    | _ => .bad
noncomputable def lenAt (S : Store) (j : Nat) : Nat := match S[j]? with
  | some (.lst ds) => ds.length
  | _ => 0
noncomputable def sForV (c : CE) (t : CT) (b : CS) : CS := fun ρ S => match c ρ S with
  | .ok (.ref j) S1 => forR (lb t b) j (lenAt S1 j + 1) 0 ρ S1
  | _ => sFor (ciV c) t b ρ S
noncomputable def lcR (f : Elm) (j : Nat) : Nat → Nat → Store → Option (List D × Store)
  | 0, _, _ => none
  | n + 1, i, S => match S[j]? with
    | some (.lst ds) => (match ds[i]? with
      | none => some ([], S)
      | some d => (match f d S with
        | some (some y, S') => (match lcR f j n (i + 1) S' with
          | some (ys, S2) => some (y :: ys, S2)
          | none => none)
        | some (none, S') => lcR f j n (i + 1) S'
        | none => none))
    | _ => none
noncomputable def cLcV (fr : Bool) (vs : List Nat) (c : CE) (t : CT) (ct ce : CE) : CE := fun ρ S => match c ρ S with
  | .ok (.ref j) S1 => (match lcR (elm t ct ce (wipeR ρ vs)) j (lenAt S1 j + 1) 0 S1 with
    | some (ds, S2) => if szOk ds.length then mkL fr ds S2 else .bad
    | none => .bad)
  | _ => cLc fr vs (ciV c) t ct ce ρ S
section
variable {X : Cx} {cl : ClT} {W : WX}
theorem pre_step {H H' : Hp} {m m' : List Addr} (s : Step H m H' m') {i : Nat} {a : Addr} (h : m[i]? = some a) : m'[i]? = some a := by
  obtain ⟨r, rfl, _⟩ := s.ext
  rw [List.getElem?_append_left (List.getElem?_eq_some_iff.mp h).1]
  exact h
/-- the reading where the source is a list of the store -/
noncomputable def tRef (K : PySem.W.Frag) (cl : ClT) (W : WX) (c : CE) : TI := fun σ H R => ∃ B m S ρ j S1, Ok K cl B H m S ∧ EnvOk K cl (NN B m) H m σ ρ ∧ c ρ S = .ok (.ref j) S1 ∧ (∃ ds, S1[j]? = some (.lst ds)) ∧
  ∀ H' m' a, Step H m H' m' → Ok K cl B H' m' S1 → m'[j]? = some a → R (Itl K a) H'
noncomputable def tMV (K : PySem.W.Frag) (cl : ClT) (W : WX) (c : CE) : TI := fun σ H R => tMI K cl W (ciV c) σ H R ∨ tRef K cl W c σ H R
theorem tRef_ok {c : CE} {σ : L2.St} {H : Hp} {R : It → Hp → Prop} (h : tRef X.K cl W c σ H R) : iList X.K (tM X.K cl W c) σ H R := by
  obtain ⟨B, m, S, ρ, j, S1, o, e, hc, ⟨ds, hs⟩, k⟩ := h
  refine ⟨B, m, S, ρ, o, e, ?_⟩
  rw [hc]
  intro v H1 m1 s1 o1 r1
  obtain ⟨a, ha, rfl⟩ := r1
  obtain ⟨xs, e1, _⟩ := o1.obj j a _ ha hs
  exact ⟨a, rfl, ⟨xs, .of e1⟩, k H1 m1 a s1 o1 ha⟩
theorem pi_vv {tg e : Expr} {c : CE} (he : PE X e (tM X.K cl W c)) : PI X tg e (tMV X.K cl W c) :=
  PI.or (pi_v he) (PI.imp (pi_list he) fun _ _ _ h => tRef_ok h)
theorem at_ref {B : Addr → Prop} {H : Hp} {m : List Addr} {S : Store} {j : Nat} {a : Addr} {ds : List D} (o : Ok X.K cl B H m S) (ha : m[j]? = some a) (hs : S[j]? = some (.lst ds)) : ∃ xs, SqL X.K H a xs ∧ RepL X.K cl (NN B m) H xs ds ∧ H a = some (.lst xs) := by
  obtain ⟨xs, e1, r⟩ := o.obj j a _ ha hs
  exact ⟨xs, .of e1, r, e1⟩
theorem tForV_ok {c : CE} {g : TG} {t : CT} {b : CS} (hg : TgOk X.K cl g t) {E : Ends} {σ : L2.St} {H : Hp} (h : tMS X.K cl W (sForV c t b) E σ H) : tFor (tMV X.K cl W c) g (tMS X.K cl W b) E σ H := by
  have h0 := h
  obtain ⟨B, m, S, ρ, o, e, fin⟩ := h
  unfold sForV at fin
  split at fin
  rotate_left
  · have h1 : tMS X.K cl W (sFor (ciV c) t b) E σ H := ⟨B, m, S, ρ, o, e, fin⟩
    exact .inl (tFor_ok hg h1)
  · rename_i j S1 hc
    have hds : ∃ ds, S1[j]? = some (.lst ds) := by
      unfold forR at fin
      split at fin
      · rename_i ds hs
        exact ⟨ds, hs⟩
      · exact fin.elim
    refine .inr ⟨B, m, S, ρ, j, S1, o, e, hc, hds, fun H1 m1 a s1 o1 ha => ?_⟩
    refine ⟨fun i n σ H => ∃ m S ρ, Ok X.K cl B H m S ∧ EnvOk X.K cl (NN B m) H m σ ρ ∧ m[j]? = some a ∧ FinS X.K cl B H m W (forR (lb t b) j n i ρ S) E,
      ⟨lenAt S1 j + 1, m1, S1, ρ, o1, s1.env o e, ha, FinS.step s1 fin⟩, ?_⟩
    rintro i n σ2 H2 ⟨m2, S2, ρ2, o2, e2, ha2, f2⟩
    cases n with
    | zero => exact f2.elim
    | succ n =>
      unfold forR at f2
      split at f2
      rotate_left
      · exact f2.elim
      · rename_i ds hs
        obtain ⟨xs, q, rl, ea⟩ := at_ref o2 ha2 hs
        split at f2
        · rename_i hi
          refine .inl ⟨⟨xs, q, ?_⟩, f2.here o2 e2⟩
          rw [rl.length]
          exact List.getElem?_eq_none_iff.mp hi
        · rename_i d hd
          obtain ⟨v, hv, rv⟩ := rl.got hd
          refine .inr ⟨⟨xs, v, q, hv⟩, fun σ H => ∃ m S ρ, Ok X.K cl B H m S ∧ EnvOk X.K cl (NN B m) H m σ ρ ∧ m[j]? = some a ∧ FinS X.K cl B H m W (forR (lb t b) j n (i + 1) ρ S) E,
            fun σ' H' hn => ⟨n, Nat.lt_succ_self n, hn⟩, fun y H3 hy => ?_⟩
          obtain ⟨rfl, hy⟩ := hy
          have ey := hy xs q
          rw [hv] at ey
          cases ey
          cases ht : t (.val d) ρ2 S2 with
          | none =>
            have hb : lb t b d ρ2 S2 = .bad := by show (match t (.val d) ρ2 S2 with | some (ρ', S') => b ρ' S' | none => .bad) = _; rw [ht]
            rw [hb] at f2
            exact f2.elim
          | some z =>
            obtain ⟨ρ4, S4⟩ := z
            have hb : lb t b d ρ2 S2 = b ρ4 S4 := by show (match t (.val d) ρ2 S2 with | some (ρ', S') => b ρ' S' | none => .bad) = _; rw [ht]
            rw [hb] at f2
            refine hg (x := .val d) o2 e2 rv ht fun σ4 H4 m4 s4 o4 e4 => ⟨B, m4, S4, ρ4, o4, e4, ?_⟩
            have f4 := FinS.step s4 f2
            have ha4 := pre_step s4 ha2
            cases hr : b ρ4 S4 with
            | bad => rw [hr] at f4; exact f4
            | exc e' ρ' S' => rw [hr] at f4; exact f4
            | rt x S' => rw [hr] at f4; exact f4
            | nx ρ' S' => rw [hr] at f4; exact fun σ' H' m' s' o' e' => ⟨m', S', ρ', o', e', pre_step s' ha4, FinS.step s' f4⟩
            | ct ρ' S' => rw [hr] at f4; exact fun σ' H' m' s' o' e' => ⟨m', S', ρ', o', e', pre_step s' ha4, FinS.step s' f4⟩
            | bk ρ' S' => rw [hr] at f4; exact fun σ' H' m' s' o' e' => f4 σ' H' m' s' o' e'
theorem pm_forV {tg iter : Expr} {body : List Stmt} {c : CE} {g : TG} {t : CT} {b : CS} {pos : Pos} (hp : PassesOwn (model X.prog X.w) X.A X.env X.xe) (hc : X.calm = true) (he : PE X iter (tM X.K cl W c)) (hg : PG X tg g) (ht : TgOk X.K cl g t) (hb : PSs X body (tMS X.K cl W b))
    (hs : ∀ x, foldedSetIterable iter X.env x = pure x := by intro _; rfl) : PS X (.For tg iter body [] pos) (tMS X.K cl W (sForV c t b)) := PS.imp (ps_for hp hc (pi_vv he) hg hb hs) fun _ _ _ h => tForV_ok ht h
theorem tLcV_ok {fr : Bool} {vs : List Nat} {c : CE} {g : TG} {t : CT} {ct ce : CE} (hg : TgC X.K cl vs g t) {tt : TT} (htt : ∀ σ H Q, tMT X.K cl W0 ct σ H Q → tt σ H Q) {σ : L2.St} {H : Hp} {Q : VK} (h : tM X.K cl W (cLcV fr vs c t ct ce) σ H Q) :
    tLc (tMV X.K cl W c) g tt (tM X.K cl W0 ce) vs σ H Q := by
  obtain ⟨B, m, S, ρ, o, e, fin⟩ := h
  unfold cLcV at fin
  split at fin
  rotate_left
  · have h1 : tM X.K cl W (cLc fr vs (ciV c) t ct ce) σ H Q := ⟨B, m, S, ρ, o, e, fin⟩
    exact .inl (tLc_ok hg htt h1)
  rename_i j S1 hcj
  split at fin
  rotate_left
  · exact fin.elim
  rename_i ds S2 hgo
  split at fin
  rotate_left
  · exact fin.elim
  rename_i hz
  have hds : ∃ ds, S1[j]? = some (.lst ds) := by
    unfold lcR at hgo
    split at hgo
    · rename_i ds hs
      exact ⟨ds, hs⟩
    · cases hgo
  refine .inr ⟨B, m, S, ρ, j, S1, o, e, hcj, hds, fun H1 m1 a s1 o1 ha => ?_⟩
  intro D hD
  have fin1 := Fin.step s1 fin
  have hB : ¬ B D := fun z => (o1.foreign D z).1 hD
  have e1 := s1.env o e
  have e1' : EnvOk X.K cl (NN (BD B D) m1) (upd H1 D (.lst [])) m1 σ ρ := e1.mono (Kp.born hD) ⟨[], by simp⟩
  refine ⟨fun i n H => ∃ m S acc av rest, Step H1 m1 H m ∧ Ok X.K cl (BD B D) H m S ∧ EnvOk X.K cl (NN (BD B D) m) H m σ ρ ∧ m[j]? = some a ∧ H D = some (.lst av) ∧ RepL X.K cl (NN (BD B D) m) H av acc ∧
      lcR (elm t ct ce (wipeR ρ vs)) j n i S = some (rest, S2) ∧ ds = acc ++ rest,
    ⟨lenAt S1 j + 1, m1, S1, [], [], ds, Step.new hD, o1.born hD, e1', ha, upd_same, .nil, hgo, rfl⟩, ?_⟩
  rintro i n H2 ⟨m2, S3, acc, av, rest, st2, o2, e2, ha2, hd2, ra2, go2, eds⟩
  cases n with
  | zero => cases go2
  | succ n =>
  unfold lcR at go2
  split at go2
  rotate_left
  · cases go2
  rename_i ys hs
  obtain ⟨xs, q, rl, ea⟩ := at_ref o2 ha2 hs
  split at go2
  · rename_i hi
    cases go2
    rw [List.append_nil] at eds
    subst eds
    refine .inl ⟨⟨xs, q, ?_⟩, born_end hD st2 o2 hd2 ra2 hB fin1⟩
    rw [rl.length]
    exact List.getElem?_eq_none_iff.mp hi
  rename_i d hd
  obtain ⟨v, hv, r3⟩ := rl.got hd
  refine .inr ⟨⟨xs, v, q, hv⟩, fun H => ∃ m S acc av rest, Step H1 m1 H m ∧ Ok X.K cl (BD B D) H m S ∧ EnvOk X.K cl (NN (BD B D) m) H m σ ρ ∧ m[j]? = some a ∧ H D = some (.lst av) ∧ RepL X.K cl (NN (BD B D) m) H av acc ∧
      lcR (elm t ct ce (wipeR ρ vs)) j n (i + 1) S = some (rest, S2) ∧ ds = acc ++ rest, fun H' hn => ⟨n, Nat.lt_succ_self n, hn⟩, fun y H3 hy => ?_⟩
  obtain ⟨rfl, hy⟩ := hy
  have ey := hy xs q
  rw [hv] at ey
  cases ey
  have hDm : D ∉ m2 := (o2.foreign D (.inr rfl)).2
  have he : ∃ ρ4, t (.val d) (wipeR ρ vs) S3 = some (ρ4, S3) ∧ ((∃ y S5 S6 zs, ct ρ4 S3 = .ok (.val (.bl true)) S5 ∧ ce ρ4 S5 = .ok (.val y) S6 ∧ lcR (elm t ct ce (wipeR ρ vs)) j n (i + 1) S6 = some (zs, S2) ∧ rest = y :: zs) ∨
      ∃ S5, ct ρ4 S3 = .ok (.val (.bl false)) S5 ∧ lcR (elm t ct ce (wipeR ρ vs)) j n (i + 1) S5 = some (rest, S2)) ∨ ∃ ρ4 S4, t (.val d) (wipeR ρ vs) S3 = some (ρ4, S4) ∧ S4 ≠ S3 := by
    have go3 : (∃ y S' zs, elm t ct ce (wipeR ρ vs) d S3 = some (some y, S') ∧ lcR (elm t ct ce (wipeR ρ vs)) j n (i + 1) S' = some (zs, S2) ∧ rest = y :: zs) ∨ ∃ S', elm t ct ce (wipeR ρ vs) d S3 = some (none, S') ∧ lcR (elm t ct ce (wipeR ρ vs)) j n (i + 1) S' = some (rest, S2) := by
      split at go2
      · rename_i y S' h1
        split at go2
        · rename_i zs S5 h2
          cases go2
          exact .inl ⟨y, S', zs, h1, h2, rfl⟩
        · cases go2
      · rename_i S' h1
        exact .inr ⟨S', h1, go2⟩
      · cases go2
    rcases go3 with ⟨y, S', zs, h1, h2, h3⟩ | ⟨S', h1, h2⟩
    all_goals
      unfold elm at h1
      cases ht : t (.val d) (wipeR ρ vs) S3 with
      | none => rw [ht] at h1; cases h1
      | some q =>
        obtain ⟨ρ4, S4⟩ := q
        rw [ht] at h1
        dsimp only at h1
        by_cases hS : S4 = S3
        · subst hS
          refine ⟨ρ4, .inl ⟨rfl, ?_⟩⟩
          cases hc : ct ρ4 S4 with
          | bad => rw [hc] at h1; cases h1
          | exc _ _ => rw [hc] at h1; cases h1
          | ok x S5 =>
            rw [hc] at h1
            cases x with
            | ref _ => cases h1
            | val z =>
              cases z with
              | bl b =>
                cases b with
                | true =>
                  dsimp only at h1
                  cases hv : ce ρ4 S5 with
                  | bad => rw [hv] at h1; cases h1
                  | exc _ _ => rw [hv] at h1; cases h1
                  | ok w S6 =>
                    rw [hv] at h1
                    cases w with
                    | ref _ => cases h1
                    | val w => first | (cases h1; exact .inl ⟨_, S5, _, zs, rfl, hv, h2, h3⟩) | cases h1
                | false => first | (cases h1; exact .inr ⟨_, rfl, h2⟩) | cases h1
              | _ => cases h1
        · exact ⟨ρ4, .inr ⟨ρ4, S4, rfl, hS⟩⟩
  obtain ⟨ρ4, he⟩ := he
  rcases he with ⟨ht, he⟩ | ⟨ρ5, S4, ht, hne⟩
  rotate_left
  · exact hg (x := .val d) o2 (e2.wipe vs) r3 ht fun σ' _ q _ => absurd q hne
  refine hg (x := .val d) o2 (e2.wipe vs) r3 ht fun σ4 w4 _ e4 => ⟨w4.trans (wipe_wipe fun i h => h), ?_⟩
  rcases he with ⟨y, S5, S6, zs, hc, hv, hgo', hr⟩ | ⟨S5, hc, hgo'⟩
  · refine htt _ _ _ ⟨BD B D, m2, S3, ρ4, o2, e4, ?_⟩
    rw [hc]
    intro H5 m5 s5 o5
    refine iteT ⟨BD B D, m5, S5, ρ4, o5, s5.env o2 e4, ?_⟩
    rw [hv]
    intro u H6 m6 s6 o6 r6
    have s56 := s5.trans s6
    have hD6 : D ∉ m6 := (o6.foreign D (.inr rfl)).2
    have hd6 : H6 D = some (.lst av) := s56.kept D _ hd2 hDm
    have kp6 : Kp (NN (BD B D) m2) (NN (BD B D) m6) H3 H6 := s56.kp fun a h => (o2.foreign a h).2
    have ex6 : ∃ r, m6 = m2 ++ r := let ⟨r, h, _⟩ := s56.ext; ⟨r, h⟩
    have ra6 := ra2.mono kp6
    have kg : Kp (NN (BD B D) m6) (NN (BD B D) m6) H6 (upd H6 D (.lst (av ++ [u]))) := kp_at (.inl (.inr rfl)) fun b hb => upd_ne hb
    have hlen : av.length < sizeLine := by
      rw [ra6.length]
      have := of_decide_eq_true hz
      rw [eds, List.length_append, hr, List.length_cons] at this
      exact Nat.lt_of_lt_of_le (by omega : acc.length < 16000000) (by decide)
    refine ⟨av, hd6, hlen, m6, S6, acc ++ [y], av ++ [u], zs, ?_, o6.grow hd6, (e2.mono kp6 ex6).mono kg ⟨[], by simp⟩, pre_step s56 ha2, upd_same, (ra6.append (.cons r6 .nil)).mono kg, hgo', by rw [eds, hr]; simp⟩
    have st6 := st2.trans s56
    refine ⟨st6.ext, fun a z hz hn nt => ?_, fun a hn => ?_⟩
    · rw [upd_ne fun q => by rw [q, hD] at hz; cases hz]; exact st6.keep a z hz hn nt
    · by_cases q : a = D
      · rw [q, upd_same]; exact fun z => by cases z
      · rw [upd_ne q]; exact st6.stay a hn
  · refine htt _ _ _ ⟨BD B D, m2, S3, ρ4, o2, e4, ?_⟩
    rw [hc]
    intro H5 m5 s5 o5
    have kp5 : Kp (NN (BD B D) m2) (NN (BD B D) m5) H3 H5 := s5.kp fun a h => (o2.foreign a h).2
    have ex5 : ∃ r, m5 = m2 ++ r := let ⟨r, h, _⟩ := s5.ext; ⟨r, h⟩
    exact iteF ⟨m5, S5, acc, av, rest, st2.trans s5, o5, e2.mono kp5 ex5, pre_step s5 ha2, s5.kept D _ hd2 hDm, ra2.mono kp5, hgo', eds⟩
theorem pm_lcV (fr : Bool) {elt tg iter : Expr} {ifs : List Expr} {scope : Scope} {own : List (Str × Nat)} {pos : Pos} {c : CE} {g : TG} {t : CT} {ct ce : CE} {tt : TT} (hc : X.calm = true) (hN : X.N.Nodup) (hi : PE X iter (tM X.K cl W c)) (ok : BlkOk X.N X.env.scope scope own)
    (hg : ∀ (s : Shared) (H : Hp) (C : Addr) (cl' : List (Str × Addr)) (fp : List Addr), PG (X.blk s H scope (compEnvC scope cl' C X.env) fp) tg g) (hgo : TgC X.K cl (own.map (·.2)) g t)
    (ht : ∀ (s : Shared) (H : Hp) (C : Addr) (cl' : List (Str × Addr)) (fp : List Addr), PTs (X.blk s H scope (compEnvC scope cl' C X.env) fp) ifs tt) (hto : ∀ σ H Q, tMT X.K cl W0 ct σ H Q → tt σ H Q)
    (he : ∀ (s : Shared) (H : Hp) (C : Addr) (cl' : List (Str × Addr)) (fp : List Addr), PE (X.blk s H scope (compEnvC scope cl' C X.env) fp) elt (tM X.K cl W0 ce)) (hs : ∀ x, foldedSetIterable iter X.env x = pure x := by intro _; rfl) :
    PE X (.ListComp elt [⟨tg, iter, ifs, 0⟩] scope pos) (tM X.K cl W (cLcV fr (own.map (·.2)) c t ct ce)) := PE.imp (pe_lc hc hN (pi_vv hi) ok hg ht he hs) fun _ _ _ h => tLcV_ok hgo hto h
noncomputable def cListR (fr : Bool) (c : CE) : CE := fun ρ S => match c ρ S with
  | .ok (.val (.int n)) S1 => if decide (0 ≤ n) && decide (n ≤ 1000000) then mkL fr (rangeD 0 n.toNat) S1 else .bad
  | .exc e S1 => .exc e S1
  | _ => .bad
theorem rep_rg {N : Addr → Prop} {H : Hp} {n : Int} : RepL X.K cl N H (rgV 0 n) (rangeD 0 n.toNat) := by
  unfold rgV rangeD
  rw [Int.sub_zero]
  generalize List.range n.toNat = l
  induction l with
  | nil => exact .nil
  | cons x r ih => exact .cons (.int _) ih
theorem pm_listR (fr : Bool) {e : Expr} {c : CE} {p p2 pos pos2 : Pos} (hm : X.mg "list" = none) (hm2 : X.mg "range" = none) (he : PE X e (tM X.K cl W c)) (hc : X.calm = true) (hg : Gl X "list" := by rfl) (hg2 : Gl X "range" := by rfl)
    (na : starEach [e] X.env = (false, eval e X.env) :: starEach [] X.env := by rfl) (na2 : starEach [.Call (.Name "range" p2) [e] [] pos2] X.env = (false, eval (.Call (.Name "range" p2) [e] [] pos2) X.env) :: starEach [] X.env := by rfl) :
    PE X (.Call (.Name "list" p) [.Call (.Name "range" p2) [e] [] pos2] [] pos) (tM X.K cl W (cListR fr c)) :=
  PE.imp (pe_listRg hc hg hm (prg_1 hg2 hm2 he na) na2) fun σ H Q h => by
  obtain ⟨B, m, S, ρ, o, en, fin⟩ := h
  refine ⟨B, m, S, ρ, o, en, ?_⟩
  unfold cListR at fin
  cases hc : c ρ S with
  | bad => rw [hc] at fin; exact fin
  | exc e' S1 => rw [hc] at fin; exact fin
  | ok x S1 =>
    rw [hc] at fin
    intro v H1 m1 s1 o1 r1
    cases x with
    | ref i => exact fin.elim
    | val d =>
      cases d with
      | int n =>
        cases r1
        dsimp only at fin
        split at fin
        · rename_i hz
          simp only [Bool.and_eq_true, decide_eq_true_eq] at hz
          exact ⟨n, rfl, .of_le (by omega) (by omega) (by omega) (by omega), fun q hq => mkL_ok o1 rep_rg hq (Fin.step s1 fin)⟩
        · exact fin.elim
      | _ => exact fin.elim
end
end T3
namespace T3
open PySem PySem.Spec PyProof.Rows L2
section
variable {X : Cx} {cl : ClT} {W : WX}
noncomputable def rTIndex (K : PySem.W.Frag) : V → List V → Hp → VK → Prop := fun x xs H Q => ∃ (a : Addr) (y : V) (d : PyData) (ds : List PyData) (j : Nat) (z : PyData), x = V.ref a ∧ xs = [y] ∧ Dp K H (V.ref a) (.tuple ds) ∧ Dp K H y d ∧
  SeqAt.shaped (.tuple ds) = true ∧ SeqAt.shaped d = true ∧ ds[j]? = some z ∧ PyData.eqv z d = true ∧ (∀ (m : Nat) (z' : PyData), m < j → ds[m]? = some z' → PyData.eqv z' d = false) ∧ Q (.int (j : Nat)) H
theorem mt_tindex (hu : X.A.units + 65 < cLine) : MtR X "tuple.index" (rTIndex X.K) := by
  intro pins s σ H x xs v us Q I rx rxs h
  obtain ⟨a, y, d, ds, j, z, rfl, rfl, hl, hy, sl, sd, hz, hzj, hno, q⟩ := h
  cases rx
  obtain ⟨uy, rfl, ry⟩ := vals1 rxs
  obtain ⟨bs, r1⟩ := Dp.reads I d y uy hy ry
  have hxs : PyData.canLayAll0 ds = true := SeqAt.canLay_of_shaped sl
  have hroom : X.A.units + 1 + min (PyData.depthAll ds) d.depth < cLine := room_in_shaped sd hu
  cases hl with
  | tup hs ha =>
    obtain ⟨its, rv, ⟨⟨cls, dd, data, sls⟩, ho, hc, n, hdt⟩, hlen⟩ := I.tuple hs
    simp only at hc hdt
    subst hc hdt
    obtain ⟨as, h4⟩ := Dp.readsAll I ds _ its ha rv
    have hn : its.length = ds.length := SeqAt.ReadsAll.length ds its as h4
    have hmap : its.map (SeqAt.readOf s.heap) = ds := SeqAt.readsAll_map ds its as hxs h4
    obtain ⟨hjd, _⟩ := List.getElem?_eq_some_iff.mp hz
    have hj : j < its.toArray.size := by rw [List.size_toArray]; omega
    have look : ∀ (m : Nat) (hm : m < its.toArray.size) (z' : PyData), ds[m]? = some z' → SeqAt.readOf s.heap its.toArray[m] = z' := by
      intro m hm z' hz'
      have hml : m < its.length := by simpa using hm
      rw [← hmap, List.getElem?_map, List.getElem?_eq_getElem hml] at hz'
      cases hz'
      simp
    refine call_meets PySem.F.slot_tuple_index ⟨_, ho, rfl⟩ PySem.F.entry_tuple_index (PySem.F.args_tuple_index_2 _ _)
      (TI.tuple_indexAt a its.toArray n dd sls uy (fun u => PyData.eqv (SeqAt.readOf s.heap u) d) j hj ?_ ?_) ⟨ho, SeqAt.items_eqAt (vs := its.toArray) (show ReadsAll s.heap its.toArray.toList ds as from h4) r1 hxs (SeqAt.canLay_of_shaped sd) hroom, ?_⟩
    · show PyData.eqv (SeqAt.readOf s.heap its.toArray[j]) d = true
      rw [look j hj z hz]
      exact hzj
    · intro m hm hmj
      have hmd : m < ds.length := by omega
      have hz' : ds[m]? = some ds[m] := List.getElem?_eq_getElem hmd
      show PyData.eqv (SeqAt.readOf s.heap its.toArray[m]) d = false
      rw [look m hm _ hz']
      exact hno m _ hmj hz'
    · exact ⟨.int (j : Nat), H, I.tok _, ⟨_, rfl⟩, q⟩
/-- a tuple that bears no dict -/
noncomputable def TupV (K : PySem.W.Frag) (x : V) (H : Hp) : Prop := ∃ a, x = .ref a ∧ ((∃ (ob : Obj) (xs : List V), H a = some (.frz ob (.tup xs)) ∧ ob.dict = none) ∨ ∃ o : Obj, K.lookup a = some o ∧ o.cls = .type "tuple" ∧ o.dict = none)
theorem tupV_is {pins : List (Addr × Obj)} {σ : L2.St} {H : Hp} {s : Shared} {x : V} {v : Value} (I : Inv X pins σ H s) (r : RelV x v) (ty : TupV X.K x H) : s.TypeIs v "tuple" ∧ ∀ a, v = .ref a → ∃ ob, s.heap.get? a = some ob ∧ ob.dict = none := by
  obtain ⟨a, rfl, h⟩ := ty
  cases (show v = Value.ref a from r)
  rcases h with ⟨ob, xs, e, hd⟩ | ⟨ob, e, hc, hd⟩
  · obtain ⟨g1, g2⟩ := (show s.heap.get? a = some ob ∧ ObjOk X.prog X.w H s.heap a (.tup xs) from I.hok a _ e)
    obtain ⟨_, _, _, o2, g3, g4, _⟩ := g2
    rw [g1] at g3
    cases g3
    exact ⟨⟨ob, g1, g4⟩, fun b z => by cases z; exact ⟨ob, g1, hd⟩⟩
  · have g1 := I.kIn a ob e
    exact ⟨⟨ob, g1, hc⟩, fun b z => by cases z; exact ⟨ob, g1, hd⟩⟩
noncomputable def tBMZ (K : PySem.W.Frag) (r : V → List V → Hp → VK → Prop) (to : TE) (t : TA) : TE := fun σ H Q => to σ H fun x H1 => TupV K x H1 ∧ t σ H1 fun xs H2 => r x xs H2 Q
theorem pe_bmZ {o e : Expr} {es : List Expr} {to : TE} {t : TA} {name : Str} {apos cpos : Pos} {id : String} {r : V → List V → Hp → VK → Prop} (slot : Slot "tuple" name id) (hty : typeOf (.builtin id) = pure (.type "method_descriptor")) (hm : MtR X id r) (ho : PE X o to) (ha : PA X (e :: es) t)
    (hbase : attributeBase o name X.env (eval o X.env) = eval o X.env := by rfl) (hfew : ((backTo cpos (starEach (e :: es) X.env)).all (fun x => !x.1) && (backToKw cpos (keywordEach [] X.env)).all (fun x => x.1.isSome)
      && decide ((e :: es).length + ([] : List Keyword).length + (if ([] : List Keyword).isEmpty then 0 else 1) < 30)) = true := by rfl)
    (hline : (apos.endLine == cpos.line) = true := by rfl) (hs : starEach (e :: es) X.env = (false, eval e X.env) :: starEach es X.env := by rfl) (hplain : (backTo cpos (starEach es X.env)).any (·.1) = false := by rfl) :
    PE X (.Call (.Attribute o name apos) (e :: es) [] cpos) (tBMZ X.K r to t) := by
  refine ⟨fun pins s σ H Q I h => wpAny_Call_method_late hbase hfew hline rfl (thn (ho.run pins s σ H _ I h) fun v s1 w => ?_)⟩
  obtain ⟨x, H1, I1, r1, ty, q1⟩ := w
  obtain ⟨h1, h2⟩ := tupV_is I1 r1 ty
  refine ⟨"tuple", id, PySem.F.plainAttrs_tuple, slot, hty, h1, h2, ?_⟩
  have hA := ha.run cpos pins s1 σ H1 _ I1 q1
  rw [hs] at hA ⊢
  have hz : (false || (backTo cpos (starEach es X.env)).any (·.1)) = false := by
    rw [hplain]
    rfl
  refine Calls.callWith_builtin hz (Calls.evalArgs_plain (thn hA fun us s2 w2 => ?_))
  obtain ⟨vs, H2, I2, r2, q2⟩ := w2
  exact hm pins s2 σ H2 x vs v us Q I2 r1 r2 q2
noncomputable def tyT : A → Store → Bool
  | .val (.tup _), _ => true
  | _, _ => false
theorem ty_tup {B : Addr → Prop} {H : Hp} {m : List Addr} {S : Store} {v : V} {x : A} (r : RepA X.K cl (NN B m) H m v x) (h : tyT x S = true) : TupV X.K v H := by
  cases x with
  | ref i => cases h
  | val d =>
    cases d <;> first | cases h | skip
    cases r with
    | tup ht _ =>
      rcases ht with ⟨ob, h1, hd, _⟩ | ⟨ob, its, n, h1, h2, h3, _⟩
      · exact ⟨_, rfl, .inl ⟨ob, _, h1, hd⟩⟩
      · exact ⟨_, rfl, .inr ⟨ob, h1, h2, h3⟩⟩
theorem tBMZ_ok {r : V → List V → Hp → VK → Prop} {f : A → List A → Store → Res} {c : CE} {ca : CA} (hf : MtOk X.K cl r f) {σ : L2.St} {H : Hp} {Q : VK} (h : tM X.K cl W (cMt tyT f c ca) σ H Q) : tBMZ X.K r (tM X.K cl W c) (tML X.K cl W ca) σ H Q := by
  obtain ⟨B, m, S, ρ, o, e, fin⟩ := h
  refine ⟨B, m, S, ρ, o, e, Fin.bind fin fun x S1 v H1 m1 s1 o1 r1 f1 => ?_⟩
  split at f1
  · rename_i ht
    refine ⟨ty_tup r1 ht, B, m1, S1, ρ, o1, s1.env o e, FinL.bind f1 fun xs S2 vs H2 m2 s2 o2 r2 f2 => ?_⟩
    exact hf o2 (s2.rep o1 r1) r2 f2
  · exact f1.elim
noncomputable def fTIndex (x : A) (xs : List A) (S : Store) : Res := match x, xs with
  | .val (.tup ds), [y] => (match cur S y with
    | some d => if shp d && shp (.tup ds) then (match findD d ds with
      | some j => .ok (.val (.int (j : Nat))) S
      | none => .bad) else .bad
    | _ => .bad)
  | _, _ => .bad
theorem ok_tindex : MtOk X.K cl (rTIndex X.K) fTIndex := by
  intro B H m S σ W v x vs xs Q o rx rs h
  unfold fTIndex at h
  split at h
  · rename_i ds y
    obtain ⟨w, rfl, r1⟩ := one_arg rs
    split at h
    · rename_i d h2
      split at h
      · rename_i hz
        simp only [Bool.and_eq_true] at hz
        split at h
        · rename_i j hj
          have rv : Rep X.K cl N0 H v (.tup ds) := Rep.weak (fun _ z => z.elim) rx
          have hl := Dp.of rv (shp_ok hz.2)
          obtain ⟨a, rfl⟩ : ∃ a, v = .ref a := by cases rv with | tup _ _ => exact ⟨_, rfl⟩
          obtain ⟨z, e1, e2, e3⟩ := find_ok (K := X.K) (shp_ok hz.1) (ds := ds) (shp_ok hz.2) hj
          exact ⟨a, w, toP d, toPL ds, j, z, rfl, rfl, hl, Dp.of (cur_ok o r1 h2) (shp_ok hz.1), shp_shaped hz.2, shp_shaped hz.1, e1, e2, e3, h.here o (.int _)⟩
        · exact h.elim
      · exact h.elim
    · exact h.elim
  · exact h.elim
theorem pm_tindex {o e : Expr} {c ce : CE} {apos cpos : Pos} (hu : X.A.units + 65 < cLine) (ho : PE X o (tM X.K cl W c)) (ha : PE X e (tM X.K cl W ce)) (hs1 : starEach [e] X.env = (false, eval e X.env) :: starEach [] X.env := by rfl)
    (hbase : attributeBase o "index" X.env (eval o X.env) = eval o X.env := by rfl) (hfew : ((backTo cpos (starEach [e] X.env)).all (fun x => !x.1) && (backToKw cpos (keywordEach [] X.env)).all (fun x => x.1.isSome)
      && decide ([e].length + ([] : List Keyword).length + (if ([] : List Keyword).isEmpty then 0 else 1) < 30)) = true := by rfl) (hline : (apos.endLine == cpos.line) = true := by rfl) (hplain : (backTo cpos (starEach [] X.env)).any (·.1) = false := by rfl) :
    PE X (.Call (.Attribute o "index" apos) [e] [] cpos) (tM X.K cl W (cMt tyT fTIndex c (cCons ce cNil))) :=
  PE.imp (pe_bmZ PySem.F.slot_tuple_index PySem.F.type_tuple_index (mt_tindex hu) ho (pm_cons ha pm_nil hs1) hbase hfew hline hs1 hplain) fun _ _ _ h => tBMZ_ok ok_tindex h
end
end T3
namespace T3
open PySem PySem.Spec PyProof.Rows L2
section
variable {ρ : Slots} {S : Store} {c : CE} {t : CT} {b : CS}
@[simp ↓] theorem ap_sForV : sForV c t b ρ S = (match c ρ S with | .ok (.ref j) S1 => forR (lb t b) j (lenAt S1 j + 1) 0 ρ S1 | .ok (.val (.lst ds)) S1 => forL (lb t b) ds ρ S1 | .ok (.val (.ro ds)) S1 => forL (lb t b) ds ρ S1 | .ok (.val (.tup ds)) S1 => forL (lb t b) ds ρ S1 | .ok (.val (.str s)) S1 => forL (lb t b) (signsD s) ρ S1 | .exc e S1 => .exc e ρ S1 | _ => .bad) := by
  unfold sForV sFor ciV
  cases h : c ρ S with
  | bad => rfl
  | exc e S1 => rfl
  | ok x S1 =>
    cases x with
    | ref j => rfl
    | val d => cases d <;> rfl
@[simp ↓] theorem ap_LcV {fr : Bool} {vs : List Nat} {ct ce : CE} : cLcV fr vs c t ct ce ρ S = (match (match c ρ S with | .ok (.ref j) S1 => (match lcR (elm t ct ce (wipeR ρ vs)) j (lenAt S1 j + 1) 0 S1 with | some r => IRes.ok r.1 r.2 | none => .bad) | .ok (.val (.lst ds)) S1 => (match lcGo (elm t ct ce (wipeR ρ vs)) ds S1 with | some r => IRes.ok r.1 r.2 | none => .bad) | .ok (.val (.ro ds)) S1 => (match lcGo (elm t ct ce (wipeR ρ vs)) ds S1 with | some r => IRes.ok r.1 r.2 | none => .bad) | .ok (.val (.tup ds)) S1 => (match lcGo (elm t ct ce (wipeR ρ vs)) ds S1 with | some r => IRes.ok r.1 r.2 | none => .bad) | .ok (.val (.str s)) S1 => (match lcGo (elm t ct ce (wipeR ρ vs)) (signsD s) S1 with | some r => IRes.ok r.1 r.2 | none => .bad) | .exc e S1 => .exc e S1 | _ => .bad) with | .ok ds S2 => (if szOk ds.length then mkL fr ds S2 else .bad) | .exc e S1 => .exc e S1 | .bad => .bad) := by
  have go : ∀ (ds : List D) (S1 : Store), (match lcGo (elm t ct ce (wipeR ρ vs)) ds S1 with
      | some (ds, S2) => if szOk ds.length then mkL fr ds S2 else .bad
      | none => .bad) = (match (match lcGo (elm t ct ce (wipeR ρ vs)) ds S1 with | some r => IRes.ok r.1 r.2 | none => .bad) with | .ok ds S2 => (if szOk ds.length then mkL fr ds S2 else .bad) | .exc e S1 => .exc e S1 | .bad => .bad) := fun ds S1 => by
    cases lcGo (elm t ct ce (wipeR ρ vs)) ds S1 <;> rfl
  unfold cLcV cLc ciV
  cases h : c ρ S with
  | bad => rfl
  | exc e S1 => rfl
  | ok x S1 =>
    cases x with
    | ref j =>
      show (match lcR (elm t ct ce (wipeR ρ vs)) j (lenAt S1 j + 1) 0 S1 with
        | some (ds, S2) => if szOk ds.length then mkL fr ds S2 else .bad
        | none => .bad) = _
      simp only
      cases lcR (elm t ct ce (wipeR ρ vs)) j (lenAt S1 j + 1) 0 S1 <;> rfl
    | val d => cases d <;> first | rfl | exact go _ S1
@[simp ↓] theorem ap_ListR {fr : Bool} : cListR fr c ρ S = (match c ρ S with | .ok (.val (.int n)) S1 => (if decide (0 ≤ n) && decide (n ≤ 1000000) then mkL fr (rangeD 0 n.toNat) S1 else .bad) | .exc e S1 => .exc e S1 | _ => .bad) := rfl
end
@[simp] theorem tyT_tup {ds : List D} {S : Store} : tyT (.val (.tup ds)) S = true := rfl
section
variable {S : Store} {i : Nat}
@[simp] theorem len_ref : fLen [.ref i] S = (match S[i]? with | some (.lst ds) => .ok (.val (.int ds.length)) S | _ => .bad) := by
  show (match asL S (.ref i) with | some ds => Res.ok (.val (.int ds.length)) S | none => .bad) = _
  simp only [asL]
  cases S[i]? with
  | none => rfl
  | some o => cases o <;> rfl
@[simp] theorem tuple_ref : fTuple [.ref i] S = (match S[i]? with | some (.lst ds) => .ok (.val (.tup ds)) S | _ => .bad) := by
  show (match asL S (.ref i) with | some ds => Res.ok (.val (.tup ds)) S | none => .bad) = _
  simp only [asL]
  cases S[i]? with
  | none => rfl
  | some o => cases o <;> rfl
end
end T3
namespace T3
open PySem PySem.Spec PyProof.Rows L2
noncomputable def restG (b : Shared) : Nat → Prop := fun i => ∃ x, b.gens[i]? = some x ∧ isSus x = true
noncomputable def sealAll (b : Shared) : Shared := { b with gens := b.gens.map sealG }
theorem sealG_no {x : GenState} (h : isSus x = false) : sealG x = x := by cases x <;> first | rfl | cases h
theorem sealG_bare (x : GenState) : (sealG x).bare = x.bare := by cases x <;> rfl
theorem sealAll_seal (b : Shared) : Seal (restG b) (sealAll b) b := by
  refine ⟨rfl, by simp [sealAll], fun i h => ?_, fun i x h e => ?_, fun i h => ?_, fun i k l c p fs cl h e => ?_⟩
  · obtain ⟨x, e, _⟩ := h
    simp only [sealAll, Array.size_map]
    exact (Array.getElem?_eq_some_iff.mp e).1
  · obtain ⟨y, e2, hy⟩ := h
    rw [e] at e2
    cases e2
    exact ⟨by simp [sealAll, e], hy⟩
  · simp only [sealAll, Array.getElem?_map]
    cases e : b.gens[i]? with
    | none => rfl
    | some x =>
      have : isSus x = false := by
        cases hx : isSus x with
        | false => rfl
        | true => exact absurd ⟨x, e, hx⟩ h
      simp [sealG_no this]
  · exact absurd ⟨_, e, rfl⟩ h
theorem sealAll_bare {b : Shared} (h : AllBare b.gens) : AllBare (sealAll b).gens := fun x hx => by
  obtain ⟨y, hy, rfl⟩ := Array.mem_map.mp hx
  rw [sealG_bare]
  exact h y hy
theorem back_bare {G : Nat → Prop} {a b b' : Shared} (s : Seal G a b') (k : ∀ i, G i → b'.gens[i]? = b.gens[i]?) (ha : AllBare a.gens) (hb : AllBare b.gens) : AllBare b'.gens := fun x hx => by
  obtain ⟨i, hi, e⟩ := Array.mem_iff_getElem.mp hx
  have e' : b'.gens[i]? = some x := by rw [Array.getElem?_eq_getElem hi, e]
  by_cases g : G i
  · rw [k i g] at e'
    exact hb x (Array.mem_of_getElem? e')
  · rw [← s.off i g] at e'
    exact ha x (Array.mem_of_getElem? e')
/-- what rests is kept -/
noncomputable def KG (s s' : Shared) : Prop := ∀ (i : Nat) (x : GenState), s.gens[i]? = some x → isSus x = true → s'.gens[i]? = some x
theorem KG.trans {a b c : Shared} (h : KG a b) (k : KG b c) : KG a c := fun i x e hx => k i x (h i x e hx) hx
section
variable {X : Cx} {pins : List (Addr × Obj)} {σ : L2.St} {H : Hp} {s s' : Shared}
theorem inv_gens {g : Array GenState} (I : Inv X pins σ H s) (h : AllBare g) : Inv X pins σ H { s with gens := g } := ⟨I.ok, I.os, h, I.base, I.loc, I.cell, I.free, I.freeC, I.pin, I.hok, I.len⟩
theorem inv_sealed (I : Inv X pins σ H s) : Inv X pins σ H (sealAll s) := inv_gens I (sealAll_bare I.bare)
theorem inv_unsealed {G : Nat → Prop} {a b : Shared} (I : Inv X pins σ H a) (se : Seal G a s') (k : ∀ i, G i → s'.gens[i]? = b.gens[i]?) (hb : AllBare b.gens) : Inv X pins σ H s' := by
  have h := back_bare se k I.bare hb
  rw [se.rest]
  exact inv_gens I h
end
theorem wpAny_keepG {α : Type} {M : Model} {A : Around} {b : Shared} {t : Sem α} {Q : α → Shared → Prop} {E : Value → Shared → Prop} (h : wpAny M A t Q E (sealAll b)) :
    wpAny M A t (fun x b' => KG b b' ∧ ∃ a', Seal (restG b) a' b' ∧ (∀ i, restG b i → b'.gens[i]? = b.gens[i]?) ∧ Q x a') (fun x b' => KG b b' ∧ ∃ a', Seal (restG b) a' b' ∧ (∀ i, restG b i → b'.gens[i]? = b.gens[i]?) ∧ E x a') b := by
  have kg : ∀ {b'}, (∀ i, restG b i → b'.gens[i]? = b.gens[i]?) → KG b b' := fun k i x e hx => (k i ⟨x, e, hx⟩).trans e
  exact wpAny_mono (wpAny_seal (sealAll_seal b) h) (fun x b' ⟨a', s, k, q⟩ => ⟨kg k, a', s, k, q⟩) fun x b' ⟨a', s, k, q⟩ => ⟨kg k, a', s, k, q⟩
noncomputable def trunc (L : Addr) (h : Heap) : Heap := { h with objs := h.objs.take L }
theorem trunc_get {L : Addr} {h : Heap} {b : Addr} : (trunc L h).get? b = if b < L then h.get? b else none := by
  unfold trunc Heap.get?
  by_cases hb : b < L
  · have e : (h.objs.take L)[b]? = h.objs[b]? := by
      rw [Array.take_eq_extract, Array.getElem?_extract]
      split
      · simp
      · rename_i z
        refine (Array.getElem?_eq_none ?_).symm
        rw [Nat.sub_zero, Nat.lt_min] at z
        exact Nat.not_lt.mp fun q => z ⟨hb, q⟩
    rw [if_pos hb]
    simp only [e]
  · have e : (h.objs.take L)[b]? = none := by
      rw [Array.take_eq_extract, Array.getElem?_extract]
      split
      · rename_i z
        rw [Nat.sub_zero, Nat.lt_min] at z
        exact absurd z.1 hb
      · rfl
    rw [if_neg hb]
    simp only [e]
theorem trunc_some {L : Addr} {h : Heap} {b : Addr} {o : Obj} (e : (trunc L h).get? b = some o) : b < L ∧ h.get? b = some o := by
  rw [trunc_get] at e
  split at e
  · exact ⟨by assumption, e⟩
  · cases e
theorem trunc_size {L : Addr} {h : Heap} : (trunc L h).objs.size ≤ L := by simp [trunc]; omega
theorem trunc_of {L : Addr} {h : Heap} {b : Addr} {o : Obj} (e : h.get? b = some o) (hb : b < L) : (trunc L h).get? b = some o := by rw [trunc_get, if_pos hb]; exact e
end T3
namespace T3
open PySem PySem.Spec PyProof.Rows L2
/-- a generator's frame -/
structure GF where
  P : Program
  w : World
  K : PySem.W.Frag
  mg : Str → Option Value
  base : Heap
  cl : ClT
  B : Addr → Prop
  A : Around
  outer : List Env
  N : List Str
  qual : Str
  sc : Scope
  L : Addr
  f : Addr
  cd : Value
  g : Nat
  a : Addr
  k : Nat
noncomputable abbrev GF.env (C : GF) : Env := envOfC C.qual C.sc C.L C.f C.cd
noncomputable def GF.X (C : GF) (s : Shared) (H : Hp) : Cx where
  prog := C.P
  w := C.w
  K := C.K
  mg := C.mg
  base := C.base
  A := C.A.deeper C.env
  N := C.N
  s_0 := { s with heap := trunc C.L s.heap }
  H_0 := H
  env := C.env
  outer := C.outer
  stack := C.env :: C.outer
  ex := []
  fn := fun _ => true
  calm := true
  pn := []
  xe := fun _ _ => False
/-- what stands through its life -/
structure GF.Ok (C : GF) : Prop where
  kind : C.sc.kind = .function
  co : C.sc.isCoroutine = false
  nd : C.N.Nodup
  loc : ∀ x ∈ C.N, C.sc.names.lookup x = some .local
  noc : ∀ x, C.sc.names.lookup x ≠ some .cell ∧ C.sc.names.lookup x ≠ some .free
  cells : ∀ n, cellsFrom n C.sc.names [] = []
  hd : C.A.handled = none
  room : Room C.k (C.A.deeper C.env)
  guards : (C.A.deeper C.env).guards = some []
  bl : C.base.objs.size ≤ C.L
  fl : ∀ b ∈ frs C.outer, b < C.L
  al : C.L ≤ C.a
/-- the state when it is woken -/
structure GF.Aw (C : GF) (s : Shared) (H : Hp) : Prop where
  e0 : Env0 C.P C.w C.K C.mg C.base C.A C.outer s H
noncomputable abbrev Pins := List (Addr × Obj)
noncomputable def PinsAt (L : Addr) (pins : Pins) (s : Shared) (H : Hp) : Prop := ∀ p ∈ pins, L ≤ p.1 ∧ s.heap.get? p.1 = some p.2 ∧ H p.1 = none ∧ ∀ v, p.2.data ≠ .cell v
theorem trunc_frames {L : Addr} {h base : Heap} {l : List Env} (hl : h.FunFrames base l) (hL : ∀ b ∈ frs l, b < L) : (trunc L h).FunFrames base l := by
  induction l with
  | nil => trivial
  | cons env r ih =>
    obtain ⟨hk, ⟨b, o, hf, hn, ho, hd⟩, hr⟩ := hl
    refine ⟨hk, ⟨b, o, hf, hn, trunc_of ho (hL b ?_), hd⟩, ih hr fun b hb => hL b ?_⟩
    · unfold frs; rw [List.filterMap_cons, hf]; exact List.mem_cons_self
    · unfold frs; rw [List.filterMap_cons, hf]; exact List.mem_cons_of_mem _ hb
theorem GF.xok {C : GF} (h : C.Ok) {s : Shared} {H : Hp} (w : C.Aw s H) (hl : C.L ≤ s.heap.objs.size) : (C.X s H).Ok := by
  have kd : ∀ x, (C.env.kindOf x = some .cell ∨ C.env.kindOf x = some .free) → False := fun x hx => by
    rcases hx with hx | hx
    · exact (h.noc x).1 hx
    · exact (h.noc x).2 hx
  have nc : ∀ x c, C.env.cells.lookup x = some c → False := fun x c e => by
    have : C.env.cells = [] := h.cells _
    rw [this] at e
    cases e
  exact ⟨w.e0.mod, h.kind, rfl, rfl, trunc_size, fun x y c e => (nc x c e).elim, fun x hx => (kd x hx).elim, fun x c _ e => (nc x c e).elim, fun _ => h.hd, Around.frames_deeper w.e0.frames, .inr ⟨rfl, rfl⟩, fun b hb => absurd hb (by simp [GF.X]),
    fun b o e => ⟨trunc_of (w.e0.bs b o e).1 (Nat.lt_of_lt_of_le (Heap.lt_size e) h.bl), (w.e0.bs b o e).2⟩, by
      show C.base.objs.size ≤ (trunc C.L s.heap).objs.size
      have e1 : (trunc C.L s.heap).objs.size = min C.L s.heap.objs.size := by simp [trunc, Array.take_eq_extract]
      rw [e1]
      exact Nat.le_min.mpr ⟨h.bl, w.e0.bsz⟩, fun b o _ hb => absurd hb (by simp [GF.X]), fun b hb => absurd hb (by simp [GF.X]), trunc_frames w.e0.funs h.fl, w.e0.frf⟩
/-- woken: its frame stands as it was left -/
theorem GF.wake {C : GF} (h : C.Ok) {s : Shared} {H : Hp} (w : C.Aw s H) {pins : Pins} {σ : L2.St} {mL : Str → Option Value} (hn : s.heap.Ns C.L mL) (hs : ∀ (i : Nat) (x : Str) (v : V), C.N[i]? = some x → σ[i]? = some (some v) → ∃ u, RelV v u ∧ C.sc.names.lookup x = some .local ∧ mL x = some u)
    (hp : PinsAt C.L pins s H) (hpl : ∀ p ∈ pins, p.1 ≠ C.L) (hf : H C.L = none) (hl : σ.length = C.N.length) : Inv (C.X s H) pins σ H s := by
  have nc : ∀ x c, C.env.cells.lookup x = some c → False := fun x c e => by
    have : C.env.cells = [] := h.cells _
    rw [this] at e
    cases e
  refine ⟨C.xok h w (Nat.le_of_lt hn.lt), rfl, w.e0.bare, ⟨fun b o e _ _ _ => (trunc_some e).2, fun b o e _ _ _ => ⟨o.slots, (trunc_some e).2⟩, fun b o _ n _ => n, fun b o e _ => ⟨o, (trunc_some e).2⟩, fun _ _ e => e, fun _ _ _ e => e, fun b ps e => ⟨#[], by rw [show (C.X s H).H_0 = H from rfl] at e; rw [e]; simp⟩⟩,
    ⟨mL, hn, fun i x v h1 h2 _ => ?_⟩, fun x c e => (nc x c e).elim, hf, fun x c e => (nc x c e).elim, fun p q => ?_, w.e0.hok, hl⟩
  · obtain ⟨u, r, hk, e⟩ := hs i x v h1 h2
    exact ⟨u, r, .inl ⟨hk, e⟩⟩
  · have q : p ∈ pins := by simpa [GF.X] using q
    obtain ⟨h1, h2, h3, h4⟩ := hp p q
    exact ⟨h2, h3, hpl p q, fun z => absurd (h.fl p.1 z) (Nat.not_lt.mpr h1), h4⟩
/-- behind a piece of a generator's run, in the frame that asked: all that is older than the generator is as it was -/
theorem inv_after {X : Cx} {pins : Pins} {σ : L2.St} {H H' : Hp} {s s' : Shared} {L : Addr} (I : Inv X pins σ H s) (u : Un (frs X.stack) [] H H' (trunc L s.heap) s'.heap) (hok : HOk X.prog X.w H' s'.heap) (hb : AllBare s'.gens) (ho : s'.os = s.os)
    (h0 : X.s_0.heap.objs.size ≤ L) (hl : X.env.locals < L) (hc : ∀ x c, X.env.cells.lookup x = some c → c < L) (hp : ∀ p ∈ X.pn ++ pins, p.1 < L) (hex : ∀ b ∈ frs X.stack, b < L) : Inv X pins σ H' s' := by
  obtain ⟨m, ⟨o, es, ep, hlo, r⟩, _⟩ := id I.loc
  obtain ⟨sl, hL⟩ := u.any (trunc_of hlo hl) I.free (by simp)
  obtain ⟨h', g', d', t', o'⟩ := s'
  have e : o' = s.os := ho
  subst e
  have low : ∀ b o, b ∉ List.range' L (s.heap.objs.size - L) → s.heap.get? b = some o → (trunc L s.heap).get? b = some o := fun b o hb e => by
    refine trunc_of e (Nat.not_le.mp fun q => hb ?_)
    rw [List.mem_range'_1]
    have h1 := Heap.lt_size e
    refine ⟨q, ?_⟩
    rw [Nat.add_sub_cancel' (Nat.le_trans q (Nat.le_of_lt h1))]
    exact h1
  refine I.step (g' := g') (d' := d') (t' := t') (ch := List.range' L (s.heap.objs.size - L)) (fun b hb => ?_) (fun b o hL' hb hc' e n => u.keep b o (low b o hc' e) n (fun z => (List.mem_cons.mp (I.stkSub b z)).elim hL' hb) (by simp))
    (fun b o _ _ hc' e n => u.any (low b o hc' e) n (by simp)) (fun b o hc' e n => u.free b o (low b o hc' e) n (by simp)) (fun b o hc' e => u.there b o (low b o hc' e) (by simp)) u.tups u.frzs u.tbls (fun m' hm => ?_) hok hb
  · have q := (List.mem_range'_1.mp hb).1
    refine ⟨.inr (Nat.le_trans h0 q), Nat.ne_of_gt (Nat.lt_of_lt_of_le hl q), fun x c e => Nat.ne_of_lt (Nat.lt_of_lt_of_le (hc x c e) q), fun p hp' => Nat.ne_of_lt (Nat.lt_of_lt_of_le (hp p hp') q)⟩
  · obtain ⟨o', es', ep', ho', r'⟩ := hm
    rw [hlo] at ho'
    cases ho'
    exact ⟨_, es', ep', hL, r'⟩
end T3
namespace T3
open PySem PySem.Spec PyProof.Rows L2
noncomputable abbrev IG := List (Nat × GenState)
noncomputable def HeldG (I : IG) (s : Shared) : Prop := ∀ q ∈ I, s.gens[q.1]? = some q.2 ∧ isSus q.2 = true
noncomputable def GenObj (o : Obj) (g : Nat) : Prop := o.cls = .type "generator" ∧ o.slots = #[] ∧ ∃ nm qn, o.data = .fields #[.int g 0, nm, qn]
theorem GenObj.is {o : Obj} {g : Nat} (h : GenObj o g) {hp : Heap} {a : Addr} (e : hp.get? a = some o) : hp.IsGen a g := let ⟨h1, h2, nm, qn, h3⟩ := h; ⟨o, nm, qn, e, h1, h3, h2⟩
/-- a walk's state at its rest or end -/
structure EndF (C : GF) (s0 : Shared) (H0 : Hp) (m : List Addr) (S : Store) (Ow : Nat → Prop) (H' : Hp) (s1 : Shared) : Prop where
  st : Step H0 m H' m
  ok : Ok C.K C.cl C.B H' m S
  os : s1.os = s0.os
  bare : AllBare s1.gens
  un : Un (frs C.outer) [] H0 H' (trunc C.L s0.heap) s1.heap
  hok : HOk C.P C.w H' s1.heap
  kept : ∀ (i : Nat) (x : GenState), ¬ Ow i → s0.gens[i]? = some x → isSus x = true → s1.gens[i]? = some x
  run : s1.gens[C.g]? = some .running
noncomputable def endR (C : GF) (s0 : Shared) (H0 : Hp) (m : List Addr) (S : Store) (Ow : Nat → Prop) (e : End) (s1 : Shared) : Prop :=
  match e with
  | .ret r => (r = .ok (.ret .none) ∨ r = .ok .next) ∧ ∃ H', EndF C s0 H0 m S Ow H' s1
  | _ => False
noncomputable def endY (C : GF) (s0 : Shared) (H0 : Hp) (m : List Addr) (S : Store) (Ow : Nat → Prop) (W : GenState → Pins → IG → Hp → Prop) (d : D) (e : End) (s1 : Shared) : Prop :=
  match e with
  | .susp v gd l k c p fs => (End.susp v gd l k c p fs).quiet = true ∧ splitAtGen fs = none ∧ ∃ x H' O I, RelV x v ∧ Rep C.K C.cl (NN C.B m) H' x d ∧ EndF C s0 H0 m S Ow H' s1 ∧ PinsAt C.L O s1 H' ∧ (∃ go, (C.a, go) ∈ O ∧ GenObj go C.g) ∧
      HeldG I s1 ∧ (∀ q ∈ I, q.1 ≠ C.g ∧ (Ow q.1 ∨ ∀ x, s0.gens[q.1]? = some x → isSus x = false)) ∧ W (End.susp v gd l k c p fs).genState O I H'
  | _ => False
noncomputable def GoQ (C : GF) (gs : GenState) (Φ : End → Shared → Prop) (s : Shared) : Prop :=
  match gs with
  | .fresh c => SegQ (model C.P C.w) C.A Φ c ((model C.P C.w).den c) [] s
  | .suspended k _ c _ fs _ => SegQ (model C.P C.w) C.A Φ c (k (.send .none)) fs s
  | _ => False
noncomputable def own (C : GF) (I : IG) : Nat → Prop := fun i => i = C.g ∨ ∃ q ∈ I, q.1 = i
/-- a generator at rest: what it hands out yet -/
noncomputable def Wk (C : GF) : List D → GenState → Pins → IG → Hp → List Addr → Prop
  | [], gs, O, I, H1, m1 => ∀ s H m S, Step H1 m1 H m → Ok C.K C.cl C.B H m S → C.Aw s H → PinsAt C.L O s H → HeldG I s → s.gens[C.g]? = some .running → GoQ C gs (endR C s H m S (own C I)) s
  | d :: r, gs, O, I, H1, m1 => ∀ s H m S, Step H1 m1 H m → Ok C.K C.cl C.B H m S → C.Aw s H → PinsAt C.L O s H → HeldG I s → s.gens[C.g]? = some .running →
      GoQ C gs (endY C s H m S (own C I) (fun gs' O' I' H' => Wk C r gs' O' I' H' m) d) s
noncomputable def Phi (C : GF) (s0 : Shared) (H0 : Hp) (m : List Addr) (S : Store) (Ow : Nat → Prop) : List D → End → Shared → Prop
  | [] => endR C s0 H0 m S Ow
  | d :: r => endY C s0 H0 m S Ow (fun gs O I H' => Wk C r gs O I H' m) d
theorem wk_iff {C : GF} {rem : List D} {gs : GenState} {O : Pins} {I : IG} {H1 : Hp} {m1 : List Addr} : Wk C rem gs O I H1 m1 ↔ ∀ s H m S, Step H1 m1 H m → Ok C.K C.cl C.B H m S → C.Aw s H → PinsAt C.L O s H → HeldG I s → s.gens[C.g]? = some .running → GoQ C gs (Phi C s H m S (own C I) rem) s := by
  cases rem <;> exact Iff.rfl
/-- a fact that stays -/
noncomputable def Mon (C : GF) (F : List Addr → Hp → Prop) : Prop := ∀ H m H' m' S, Ok C.K C.cl C.B H m S → Step H m H' m' → F m H → F m' H'
/-- running since it was woken at s0 -/
structure Rn (C : GF) (s0 : Shared) (H0 : Hp) (m : List Addr) (S : Store) (Ow : Nat → Prop) (pins : Pins) (I : IG) (F : List Addr → Hp → Prop) (ρ : Slots) (s : Shared) : Prop where
  ex : ∃ σ H, Inv (C.X s0 H0) pins σ H s ∧ EnvOk C.K C.cl (NN C.B m) H m σ ρ ∧ Ok C.K C.cl C.B H m S ∧ Step H0 m H m ∧ F m H
  run : s.gens[C.g]? = some .running
  held : HeldG I s
  mine : ∀ q ∈ I, q.1 ≠ C.g ∧ (Ow q.1 ∨ ∀ x, s0.gens[q.1]? = some x → isSus x = false)
  oth : ∀ (i : Nat) (x : GenState), ¬ Ow i → s0.gens[i]? = some x → isSus x = true → s.gens[i]? = some x
  low : ∀ p ∈ pins, C.L ≤ p.1
  gen : ∃ go, (C.a, go) ∈ pins ∧ GenObj go C.g
  sz : C.L ≤ s0.heap.objs.size
/-- where its code stands -/
structure GP (C : GF) (c : Code) (fs : List Frame) (gd : Bool → Bool) : Prop where
  over : C.A.over c fs = C.A.deeper C.env
  split : splitAtGen fs = none
  guard : fs.any Frame.guarded = false
  gd : gd false = false
/-- a piece of its text: from ρ it hands out these, then stands at ρ' -/
noncomputable def GJ (C : GF) (t : Sem Flow) (ρ : Slots) (outs : List D) (ρ' : Slots) : Prop :=
  ∀ (c : Code) (fs : List Frame) (K : Flow → Sem PySem.Fin) (J : Value → Sem PySem.Fin) (gd : Bool → Bool) (lv : List Value → List Value), GP C c fs gd → ∀ (rem : List D) (pins : Pins) (I : IG) (F : List Addr → Hp → Prop), Mon C F →
    (∀ s0 H0 m S Ow s, Rn C s0 H0 m S Ow pins I F ρ' s → SegQ (model C.P C.w) C.A (Phi C s0 H0 m S Ow rem) c (K .next) fs s) →
    ∀ s0 H0 m S Ow s, Rn C s0 H0 m S Ow pins I F ρ s → SegQ (model C.P C.w) C.A (Phi C s0 H0 m S Ow (outs ++ rem)) c (t.wrap K J gd lv) fs s
section
variable {C : GF} {s0 : Shared} {H0 : Hp} {m : List Addr} {S : Store} {Ow : Nat → Prop} {pins : Pins} {I : IG} {F : List Addr → Hp → Prop} {ρ ρ' ρ1 : Slots} {s : Shared}
theorem Rn.endf (r : Rn C s0 H0 m S Ow pins I F ρ s) : ∃ H', EndF C s0 H0 m S Ow H' s := by
  obtain ⟨σ, H, I, e, o, st, f⟩ := r.ex
  exact ⟨H, st, o, I.os, I.bare, I.base, I.hok, r.oth, r.run⟩
/-- a plain piece of its code -/
theorem rn_run {α : Type} {t : Sem α} {A : Around} {σ : L2.St} {H : Hp} {G : α → L2.St → Hp → Prop} (I0 : Inv (C.X s0 H0) pins σ H s) (h : ∀ s', Inv (C.X s0 H0) pins σ H s' → wpAny (model C.P C.w) A t (fun u s1 => ∃ σ' H', Inv (C.X s0 H0) pins σ' H' s1 ∧ G u σ' H') (fun _ _ => False) s') :
    wpAny (model C.P C.w) A t (fun u s1 => KG s s1 ∧ ∃ σ' H', Inv (C.X s0 H0) pins σ' H' s1 ∧ G u σ' H') (fun _ _ => False) s := by
  refine wpAny_mono (wpAny_keepG (h _ (inv_sealed I0))) (fun u s1 ⟨k, a', se, kk, σ', H', I1, q⟩ => ⟨k, σ', H', inv_unsealed I1 se kk I0.bare, q⟩) fun _ _ ⟨_, _, _, _, q⟩ => q
theorem Rn.go (r : Rn C s0 H0 m S Ow pins I F ρ s) {s1 : Shared} (k : KG s s1) {F1 : List Addr → Hp → Prop} (ex : ∃ σ H, Inv (C.X s0 H0) pins σ H s1 ∧ EnvOk C.K C.cl (NN C.B m) H m σ ρ1 ∧ Ok C.K C.cl C.B H m S ∧ Step H0 m H m ∧ F1 m H) : Rn C s0 H0 m S Ow pins I F1 ρ1 s1 :=
  ⟨ex, k _ _ r.run rfl, fun q hq => let ⟨a, b⟩ := r.held q hq; ⟨k _ _ a b, b⟩, r.mine, fun i x h e hx => k _ _ (r.oth i x h e hx) hx, r.low, r.gen, r.sz⟩
theorem same_m {H H' : Hp} {m m' : List Addr} {S : Store} {K : PySem.W.Frag} {cl : ClT} {B : Addr → Prop} (o : Ok K cl B H m S) (st : Step H m H' m') (o' : Ok K cl B H' m' S) : m' = m := by
  obtain ⟨r, rfl, _⟩ := st.ext
  have h1 := o.len
  have h2 := o'.len
  rw [List.length_append] at h2
  have : r = [] := List.eq_nil_of_length_eq_zero (by omega)
  rw [this, List.append_nil]
theorem Mon.step (hF : Mon C F) {H H' : Hp} {m m' : List Addr} {S : Store} (o : Ok C.K C.cl C.B H m S) (st : Step H m H' m') (f : F m H) : F m' H' := hF _ _ _ _ _ o st f
theorem mon_rep {x : V} {d : D} : Mon C fun m H => Rep C.K C.cl (NN C.B m) H x d := fun _ _ _ _ _ o st h => h.mono (st.kp fun a h => (o.foreign a h).2)
theorem Mon.and {F G : List Addr → Hp → Prop} (h : Mon C F) (k : Mon C G) : Mon C fun m H => F m H ∧ G m H := fun _ _ _ _ _ o st q => ⟨h _ _ _ _ _ o st q.1, k _ _ _ _ _ o st q.2⟩
/-- an expression's value -/
theorem rn_eval {e : Expr} {ce : CE} {d : D} (hF : Mon C F) (he : ∀ s H, PE (C.X s H) e (tM C.K C.cl W0 ce)) (hd : ∀ S, ce ρ S = .ok (.val d) S) (r : Rn C s0 H0 m S Ow pins I F ρ s) :
    wpAny (model C.P C.w) (C.A.deeper C.env) (eval e C.env) (fun u s1 => ∃ x, RelV x u ∧ Rn C s0 H0 m S Ow pins I (fun m H => F m H ∧ Rep C.K C.cl (NN C.B m) H x d) ρ s1) (fun _ _ => False) s := by
  obtain ⟨σ, H, I0, en, o, st, f⟩ := r.ex
  refine wpAny_mono (rn_run (G := fun u σ' H' => σ' = σ ∧ ∃ x, RelV x u ∧ Step H m H' m ∧ Ok C.K C.cl C.B H' m S ∧ Rep C.K C.cl (NN C.B m) H' x d) I0 fun s' I' => ?_) (fun u s1 ⟨k, σ', H', I1, e1, x, rx, st1, o1, r1⟩ => ?_) fun _ _ q => q
  · refine wpAny_mono ((he s0 H0).run pins s' σ H (fun v H' => Step H m H' m ∧ Ok C.K C.cl C.B H' m S ∧ Rep C.K C.cl (NN C.B m) H' v d) I' ⟨C.B, m, S, ρ, o, en, ?_⟩) (fun u s1 ⟨v, H', I1, rv, q1, q2, q3⟩ => ⟨σ, H', I1, rfl, v, rv, q1, q2, q3⟩) fun _ _ q => q
    rw [hd]
    intro v H' m' st' o' r'
    have := same_m o st' o'
    subst this
    exact ⟨st', o', r'⟩
  · subst e1
    exact ⟨x, rx, r.go k ⟨_, H', I1, st1.env o en, o1, st.trans st1, hF.step o st1 f, r1⟩⟩
theorem rn_test {e : Expr} {ce : CE} {b : Bool} (hF : Mon C F) (he : ∀ s H, PT (C.X s H) e (tMT C.K C.cl W0 ce)) (hd : ∀ S, ce ρ S = .ok (.val (.bl b)) S) (r : Rn C s0 H0 m S Ow pins I F ρ s) :
    wpAny (model C.P C.w) (C.A.deeper C.env) (isTrue e C.env (eval e C.env)) (fun u s1 => u = b ∧ Rn C s0 H0 m S Ow pins I F ρ s1) (fun _ _ => False) s := by
  obtain ⟨σ, H, I0, en, o, st, f⟩ := r.ex
  refine wpAny_mono (rn_run (G := fun u σ' H' => σ' = σ ∧ u = b ∧ Step H m H' m ∧ Ok C.K C.cl C.B H' m S) I0 fun s' I' => ?_) (fun u s1 ⟨k, σ', H', I1, e1, eu, st1, o1⟩ => ?_) fun _ _ q => q
  · refine wpAny_mono ((he s0 H0).run pins s' σ H (fun v H' => v = b ∧ Step H m H' m ∧ Ok C.K C.cl C.B H' m S) I' ⟨C.B, m, S, ρ, o, en, ?_⟩) (fun u s1 ⟨H', I1, q0, q1, q2⟩ => ⟨σ, H', I1, rfl, q0, q1, q2⟩) fun _ _ q => q
    rw [hd]
    intro H' m' st' o'
    have := same_m o st' o'
    subst this
    exact ⟨rfl, st', o'⟩
  · subst e1
    exact ⟨eu, r.go k ⟨_, H', I1, st1.env o en, o1, st.trans st1, hF.step o st1 f⟩⟩
theorem gj_nil : GJ C (execs [] C.env) ρ [] ρ := fun c fs K J gd lv g rem pins I F hF hk s0 H0 m S Ow s r => sq_execs_nil (hk _ _ _ _ _ _ r)
theorem gj_cons {st : Stmt} {rest : List Stmt} {o1 o2 : List D} {ρ2 : Slots} (h1 : GJ C (exec st C.env) ρ o1 ρ1) (h2 : GJ C (execs rest C.env) ρ1 o2 ρ2) : GJ C (execs (st :: rest) C.env) ρ (o1 ++ o2) ρ2 := fun c fs K J gd lv g rem pins I F hF hk s0 H0 m S Ow s r => by
  refine sq_execs_cons ?_
  rw [List.append_assoc]
  exact h1 c fs _ J gd lv g (o2 ++ rem) pins I F hF (fun s0 H0 m S Ow s r => h2 c fs K J gd lv g rem pins I F hF hk s0 H0 m S Ow s r) s0 H0 m S Ow s r
theorem gj_one {st : Stmt} {o1 : List D} (h1 : GJ C (exec st C.env) ρ o1 ρ1) : GJ C (execs [st] C.env) ρ o1 ρ1 := by
  have := gj_cons h1 gj_nil
  rwa [List.append_nil] at this
theorem gj_if {e : Expr} {x y : List Stmt} {pos : Pos} {ce : CE} {b : Bool} {outs : List D} (he : ∀ s H, PT (C.X s H) e (tMT C.K C.cl W0 ce)) (hd : ∀ S, ce ρ S = .ok (.val (.bl b)) S) (h : GJ C (execs (if b = true then x else y) C.env) ρ outs ρ') : GJ C (exec (.If e x y pos) C.env) ρ outs ρ' := fun c fs K J gd lv g rem pins I F hF hk s0 H0 m S Ow s r => by
  refine sq_If ?_
  rw [g.over]
  refine wpAny_mono (rn_test hF he hd r) (fun u s1 ⟨eu, r1⟩ => ?_) fun _ _ q => q.elim
  subst eu
  exact h c fs K J gd lv g rem pins I F hF hk s0 H0 m S Ow s1 r1
end
end T3
namespace T3
open PySem PySem.Spec PyProof.Rows L2
section
variable {C : GF} {s0 : Shared} {H0 : Hp} {m : List Addr} {S : Store} {Ow : Nat → Prop} {pins : Pins} {I : IG} {F : List Addr → Hp → Prop} {ρ ρ' ρ1 : Slots} {s : Shared}
/-- what is pinned at a rest, and how it wakes -/
theorem Rn.rest (h : C.Ok) (hF : Mon C F) (r : Rn C s0 H0 m S Ow pins I F ρ s) {P : List Addr → Hp → Prop} (hP : ∀ H, F m H → P m H) : ∃ H' O, EndF C s0 H0 m S Ow H' s ∧ P m H' ∧ PinsAt C.L O s H' ∧ (∃ go, (C.a, go) ∈ O ∧ GenObj go C.g) ∧
    ∀ s2 H2 m2 S2, Step H' m H2 m2 → Ok C.K C.cl C.B H2 m2 S2 → C.Aw s2 H2 → PinsAt C.L O s2 H2 → HeldG I s2 → s2.gens[C.g]? = some .running → Rn C s2 H2 m2 S2 (own C I) pins I F ρ s2 := by
  obtain ⟨σ, H, I0, en, o, st, f⟩ := r.ex
  obtain ⟨mL, hn, hl⟩ := id I0.loc
  obtain ⟨oL, es, ep, ho, hd, hrest⟩ := hn
  have ic : ∀ p ∈ pins, p ∈ (C.X s0 H0).pn ++ pins := fun p hp => List.mem_append_right _ hp
  refine ⟨H, (C.L, oL) :: pins, ⟨st, o, I0.os, I0.bare, I0.base, I0.hok, r.oth, r.run⟩, hP H f, fun p hp => ?_, ?_, fun s2 H2 m2 S2 st2 o2 w2 pn2 hg2 run2 => ?_⟩
  · rcases List.mem_cons.mp hp with rfl | hp
    · exact ⟨Nat.le_refl _, ho, I0.free, fun v z => by rw [hd] at z; cases z⟩
    · obtain ⟨h1, h2, _, _, h5⟩ := I0.pin p (ic p hp)
      exact ⟨r.low p hp, h1, h2, h5⟩
  · obtain ⟨go, h1, h2⟩ := r.gen
    exact ⟨go, List.mem_cons_of_mem _ h1, h2⟩
  · obtain ⟨_, hL2, hL0, _⟩ := pn2 (C.L, oL) List.mem_cons_self
    have hn2 : s2.heap.Ns C.L mL := ⟨oL, es, ep, hL2, hd, hrest⟩
    refine ⟨⟨σ, H2, C.wake h w2 hn2 (fun i x v h1 h2 => ?_) (fun p hp => pn2 p (List.mem_cons_of_mem _ hp)) (fun p hp => (I0.pin p (ic p hp)).2.2.1) hL0 I0.len, st2.env o en, o2, Step.refl, hF.step o st2 f⟩, run2, hg2,
      fun q hq => ⟨(r.mine q hq).1, .inl (.inr ⟨q, hq, rfl⟩)⟩, fun i x _ e _ => e, r.low, r.gen, Nat.le_of_lt hn2.lt⟩
    have hx := h.loc x (List.mem_of_getElem? h1)
    obtain ⟨u, ru, lk⟩ := hl i x v h1 h2 (.inl hx)
    refine ⟨u, ru, hx, ?_⟩
    rcases lk with ⟨_, lk⟩ | ⟨lk, _⟩
    · exact lk
    · rcases lk with lk | lk
      · exact absurd (show C.sc.names.lookup x = some .cell from lk) (h.noc x).1
      · exact absurd (show C.sc.names.lookup x = some .free from lk) (h.noc x).2
theorem gj_yield (h : C.Ok) {e : Expr} {yp pos : Pos} {ce : CE} {d : D} (he : ∀ s H, PE (C.X s H) e (tM C.K C.cl W0 ce)) (hd : ∀ S, ce ρ S = .ok (.val d) S) (hi : interactive C.env = false := by rfl) : GJ C (exec (.Expr (.Yield (some e) yp) pos) C.env) ρ [d] ρ :=
    fun c fs K J gd lv g rem pins I F hF hk s0 H0 m S Ow s r => by
  refine sq_Yield g.split ?_ h.co hi
  rw [g.over]
  refine wpAny_mono (rn_eval hF he hd r) (fun u s1 ⟨x, rx, r1⟩ => ?_) fun _ _ q => q.elim
  intro gl l k p hgl _ hkk
  obtain ⟨H', O, ef, rp, pn, gn, wk⟩ := r1.rest h (hF.and mon_rep) (P := fun m H => Rep C.K C.cl (NN C.B m) H x d) fun H q => q.2
  refine ⟨?_, g.split, x, H', O, I, rx, rp, ef, pn, gn, r1.held, r1.mine, ?_⟩
  · simp [End.quiet, hgl, g.gd, g.guard]
  · show Wk C rem _ O I H' m
    rw [wk_iff]
    intro s2 H2 m2 S2 st2 o2 w2 pn2 hg2 run2
    have r2 := wk s2 H2 m2 S2 st2 o2 w2 pn2 hg2 run2
    obtain ⟨σ2, H3, I3, e3, o3, st3, f3⟩ := r2.ex
    exact hkk s2 (hk s2 H2 m2 S2 (own C I) s2 ⟨⟨σ2, H3, I3, e3, o3, st3, f3.1⟩, r2.run, r2.held, r2.mine, r2.oth, r2.low, r2.gen, r2.sz⟩)
end
end T3
namespace T3
open PySem PySem.Spec PyProof.Rows L2
section
variable {C : GF} {s0 : Shared} {H0 : Hp} {m : List Addr} {S : Store} {Ow : Nat → Prop} {pins : Pins} {I : IG} {F : List Addr → Hp → Prop} {ρ ρ' ρ1 : Slots} {s : Shared}
theorem sq_block_nil {A : Around} {Φ : End → Shared → Prop} {fs : List Frame} {env : Env} {prog : Program} {w : World} {k : Result → Sem PySem.Fin} {h : Option Value} {g : Bool} {l kp : List Value} {c₁ : Code} {p₁ : Pos} (hk : SegQ (model prog w) A Φ c₁ (k (.ok .next)) fs s) :
    SegQ (model prog w) A Φ (.block [] env) ((model prog w).den (.block [] env)) (.ret k h g l c₁ p₁ kp :: fs) s := by
  show SegQ _ _ _ _ (do return Fin.done (← (execs [] env).onRaise (fun x => do noteFrame x env; theTreesLotGoes x))) _ s
  exact sq_leaf (.ok .next) hk
theorem gp_loop {c c' : Code} {fs : List Frame} {gd : Bool → Bool} {k : Result → Sem PySem.Fin} {l kp : List Value} {p : Pos} (g : GP C c fs gd) (hw : c'.weight = 0) (hu : c'.cUnits = 0) : GP C c' (.ret k none (gd false) l c p kp :: fs) id where
  over := (GenW.over_loop hw hu).trans g.over
  split := by show (splitAtGen fs).map _ = none; rw [g.split]; rfl
  guard := by show (gd false || fs.any Frame.guarded) = false; rw [g.gd, g.guard]; rfl
  gd := rfl
/-- the turns of a loop -/
inductive Lp (C : GF) (t : CT) (body : List Stmt) : List D → Slots → List D → Slots → Prop
  | nil {ρ : Slots} : Lp C t body [] ρ [] ρ
  | cons {d : D} {r o1 o2 : List D} {ρ ρ1 ρ2 ρ3 : Slots} : (∀ S, t (.val d) ρ S = some (ρ1, S)) → GJ C (execs body C.env) ρ1 o1 ρ2 → Lp C t body r ρ2 o2 ρ3 → Lp C t body (d :: r) ρ (o1 ++ o2) ρ3
/-- a target is stored -/
theorem rn_assign (hF : Mon C F) {tg : Expr} {g : TG} {t : CT} {x : V} {u : Value} {d : D} (hg : ∀ s H, PG (C.X s H) tg g) (ht : TgOk C.K C.cl g t) (hd : ∀ S, t (.val d) ρ S = some (ρ1, S)) (rx : RelV x u) (r : Rn C s0 H0 m S Ow pins I (fun m H => F m H ∧ Rep C.K C.cl (NN C.B m) H x d) ρ s) :
    wpAny (model C.P C.w) (C.A.deeper C.env) (assign tg C.env u) (fun _ s1 => Rn C s0 H0 m S Ow pins I F ρ1 s1) (fun _ _ => False) s := by
  obtain ⟨σ, H, I0, en, o, st, f, rd⟩ := r.ex
  refine wpAny_mono (rn_run (G := fun _ σ' H' => Step H m H' m ∧ Ok C.K C.cl C.B H' m S ∧ EnvOk C.K C.cl (NN C.B m) H' m σ' ρ1) I0 fun s' I' => ?_) (fun u s1 ⟨k, σ', H', I1, st1, o1, e1⟩ => ?_) fun _ _ q => q
  · refine wpAny_mono ((hg s0 H0).run pins s' σ H x u (fun σ' H' => Step H m H' m ∧ Ok C.K C.cl C.B H' m S ∧ EnvOk C.K C.cl (NN C.B m) H' m σ' ρ1) I' rx ?_) (fun _ s1 q => q) fun _ _ q => q
    refine ht (x := .val d) o en rd (hd S) fun σ' H' m' st' o' e' => ?_
    have := same_m o st' o'
    subst this
    exact ⟨st', o', e'⟩
  · exact r.go k ⟨σ', H', I1, e1, o1, st.trans st1, hF.step o st1 f⟩
/-- the loop's turns -/
theorem sq_turns (h : C.Ok) {tg : Expr} {body : List Stmt} {g : TG} {t : CT} {live : (Addr → Prop) → Hp → Prop} {J : It} {xs : List D} {fp : List Addr} {it : Addr} {tn : Nat → Heap → Prop} (hF : Mon C F) (hlv : Mon C fun m H => live (NN C.B m) H) (src : Src C.K C.cl live J xs) (T : Turn C.P C.w C.K tg J fp it tn)
    (hg : ∀ s H, PG (C.X s H) tg g) (ht : TgOk C.K C.cl g t) {c0 : Code} {p0 : Pos} {fs : List Frame} {gd : Bool → Bool} {k : Result → Sem PySem.Fin} {l kp : List Value} (gp : GP C c0 fs gd) (low : ∀ b ∈ fp, C.L ≤ b) (apart : ∀ b ∈ fp, b ≠ C.L ∧ ∀ p ∈ pins, p.1 ≠ b) (gn : ∃ go, (C.a, go) ∈ pins ∧ GenObj go C.g)
    {rem : List D} {ρ' : Slots} (hk : ∀ s0 H0 m S Ow s, Rn C s0 H0 m S Ow pins I F ρ' s → SegQ (model C.P C.w) C.A (Phi C s0 H0 m S Ow rem) c0 (k (.ok .next)) fs s) :
    ∀ {ys : List D} {ρ : Slots} {outs : List D}, Lp C t body ys ρ outs ρ' → ∀ (i : Nat), ys = xs.drop i → i ≤ xs.length → ∀ s0 H0 m S Ow s hh, tn i hh → Rn C s0 H0 m S Ow (pins ++ pinsAt fp hh) I (fun m H => F m H ∧ live (NN C.B m) H) ρ s →
      SegQ (model C.P C.w) C.A (Phi C s0 H0 m S Ow (outs ++ rem)) (.forLoop tg (.ref it) body [] C.env) ((model C.P C.w).den (.forLoop tg (.ref it) body [] C.env)) (.ret k none (gd false) l c0 p0 kp :: fs) s := by
  have gl : GP C (.forLoop tg (.ref it) body [] C.env) (.ret k none (gd false) l c0 p0 kp :: fs) id := gp_loop gp rfl rfl
  have fpok : ∀ {s0 : Shared} {H0 H : Hp}, C.L ≤ s0.heap.objs.size → (∀ b ∈ fp, H b = none) → ∀ b ∈ fp, FpOk (C.X s0 H0) pins H b := fun {s0 H0 H} hs hn b hb => by
    refine ⟨hn b hb, (apart b hb).1, fun z => absurd (h.fl b z) (Nat.not_lt.mpr (low b hb)), .inr (Nat.le_trans trunc_size (low b hb)), fun x c e => ?_, fun p hp => (apart b hb).2 p (by simpa [GF.X] using hp)⟩
    have : C.env.cells = [] := h.cells _
    rw [show (C.X s0 H0).env.cells = C.env.cells from rfl, this] at e
    cases e
  intro ys ρ outs lp
  induction lp with
  | @nil ρ =>
    intro i hi hle s0 H0 m S Ow s hh htn r
    have hs := r.sz
    have hi' : i = xs.length := by
      have := congrArg List.length hi
      simp at this
      omega
    subst hi'
    obtain ⟨σ, H, I0, en, o, st, f, lv⟩ := r.ex
    have hp := fun b hb o e => (I0.pin (b, o) (List.mem_append_right _ (List.mem_append_right _ (mem_pinsAt hb e))))
    have tn1 : tn xs.length s.heap := T.keep _ _ _ htn fun b hb o e => (hp b hb o e).1
    have hn : ∀ b ∈ fp, H b = none := fun b hb => by
      obtain ⟨o, e, _⟩ := T.obj _ _ htn b hb
      exact (hp b hb o e).2.1
    refine sq_forLoop ?_
    rw [gl.over]
    have sl := sealAll_seal s
    refine wpAny_mono (wpAny_seal sl (T.done (C.X s0 H0) rfl rfl rfl rfl xs.length pins (sealAll s) σ H (fun _ _ => False) (inv_sealed I0.unpinned) (fpok hs hn) tn1 (src.stop lv))) (fun u s1 ⟨a', se, kk, hu, I1⟩ => ?_) fun _ _ ⟨_, _, _, q⟩ => q
    subst hu
    have r1 : Rn C s0 H0 m S Ow pins I F ρ s1 := ⟨⟨σ, H, inv_unsealed I1 se kk I0.bare, en, o, st, f⟩, by rw [kk _ ⟨_, r.run, rfl⟩]; exact r.run, fun q hq => let ⟨a, b⟩ := r.held q hq; ⟨by rw [kk _ ⟨_, a, b⟩]; exact a, b⟩, r.mine,
      fun i x z e hx => by have := r.oth i x z e hx; rw [kk _ ⟨_, this, hx⟩]; exact this, fun p hp => r.low p (List.mem_append_left _ hp), gn, r.sz⟩
    exact sq_block_nil (hk _ _ _ _ _ _ r1)
  | @cons d r o1 o2 ρ ρ1 ρ2 ρ3 hd hb lp ih =>
    intro i hi hle s0 H0 m S Ow s hh htn rn
    have hs := rn.sz
    have hlt : i < xs.length := by
      have := congrArg List.length hi
      simp at this
      omega
    obtain ⟨σ, H, I0, en, o, st, f, lv⟩ := rn.ex
    have hp := fun b hb o e => (I0.pin (b, o) (List.mem_append_right _ (List.mem_append_right _ (mem_pinsAt hb e))))
    have tn1 : tn i s.heap := T.keep _ _ _ htn fun b hb o e => (hp b hb o e).1
    have hn : ∀ b ∈ fp, H b = none := fun b hb => by
      obtain ⟨o, e, _⟩ := T.obj _ _ htn b hb
      exact (hp b hb o e).2.1
    refine sq_forLoop ?_
    rw [gl.over]
    have sl := sealAll_seal s
    refine wpAny_mono (wpAny_seal sl (T.item (C.X s0 H0) rfl rfl rfl rfl i pins (sealAll s) σ H (fun _ _ => False) (inv_sealed I0.unpinned) (fpok hs hn) tn1 (src.go i lv hlt))) (fun u s1 ⟨a1, se1, kk1, v, hu, h2⟩ => ?_) fun _ _ ⟨_, _, _, q⟩ => q
    subst hu
    refine wpAny_mono (wpAny_seal se1 h2) (fun _ s2 ⟨a2, se2, kk2, x, H2, I2, rx, hy, htn2, hn2⟩ => ?_) fun _ _ ⟨_, _, _, q⟩ => q
    have kk : ∀ i, restG s i → s2.gens[i]? = s.gens[i]? := fun i hi => (kk2 i hi).trans (kk1 i hi)
    have J2 := inv_unsealed I2 se2 kk I0.bare
    obtain ⟨d', hd', st2, ok2, rd⟩ := src.yld i o lv hy
    have hd'' := hd' hlt
    have hxd : xs[i]? = some d := by
      have := congrArg (fun l => l[0]?) hi
      simpa using this.symm
    rw [hxd] at hd''
    cases hd''
    have htn3 : tn (i + 1) s2.heap := by rw [se2.heap]; exact htn2
    have r2 : Rn C s0 H0 m S Ow (pins ++ pinsAt fp s2.heap) I (fun m H => (F m H ∧ live (NN C.B m) H) ∧ Rep C.K C.cl (NN C.B m) H x d) ρ s2 := ⟨⟨σ, H2, J2.pinned (fpok hs hn2) (T.obj _ _ htn3), st2.env o en, ok2, st.trans st2, ⟨hF.step o st2 f, hlv.step o st2 lv⟩, rd⟩,
      by rw [kk _ ⟨_, rn.run, rfl⟩]; exact rn.run, fun q hq => let ⟨a, b⟩ := rn.held q hq; ⟨by rw [kk _ ⟨_, a, b⟩]; exact a, b⟩, rn.mine,
      fun i x z e hx => by have := rn.oth i x z e hx; rw [kk _ ⟨_, this, hx⟩]; exact this, fun p hp => by
        rcases List.mem_append.mp hp with hp | hp
        · exact rn.low p (List.mem_append_left _ hp)
        · exact low _ (of_pinsAt hp).1, by
        obtain ⟨go, h1, h2⟩ := gn
        exact ⟨go, List.mem_append_left _ h1, h2⟩, rn.sz⟩
    refine wpAny_mono (rn_assign (hF.and hlv) hg ht hd rx r2) (fun _ s3 r3 => ?_) fun _ _ q => q
    rw [List.append_assoc]
    refine hb _ _ _ _ id id gl (o2 ++ rem) (pins ++ pinsAt fp s2.heap) I (fun m H => F m H ∧ live (NN C.B m) H) (hF.and hlv) (fun s0 H0 m S Ow s r4 => ?_) s0 H0 m S Ow s3 r3
    refine sq_again rfl ?_
    exact ih hk (i + 1) (by rw [← List.drop_drop, ← hi]; rfl) hlt s0 H0 m S Ow s s2.heap htn3 r4
/-- for x in a list, a range -/
theorem gj_for (h : C.Ok) {tg iter : Expr} {body : List Stmt} {pos : Pos} {ci : CI} {g : TG} {t : CT} {xs : List D} {outs : List D} (hi : ∀ s H, PI (C.X s H) tg iter (tMI C.K C.cl W0 ci)) (hx : ∀ S, ci ρ S = .ok xs S)
    (hg : ∀ s H, PG (C.X s H) tg g) (ht : TgOk C.K C.cl g t) (lp : Lp C t body xs ρ outs ρ') (hs : ∀ x, foldedSetIterable iter C.env x = pure x := by intro _; rfl) : GJ C (exec (.For tg iter body [] pos) C.env) ρ outs ρ' :=
    fun c fs K J gd lv gp rem pins I F hF hk s0 H0 m S Ow s r => by
  obtain ⟨σ, H, I0, en, o, st, f⟩ := r.ex
  refine sq_For hs ?_
  rw [gp.over]
  let R : It → Hp → Prop := fun Jt H' => ∃ live, Step H m H' m ∧ Ok C.K C.cl C.B H' m S ∧ live (NN C.B m) H' ∧ Src C.K C.cl live Jt xs
  refine wpAny_mono (wpAny_seal (sealAll_seal s) ((hi s0 H0).run pins (sealAll s) σ H R (inv_sealed I0) ⟨C.B, m, S, ρ, o, en, ?_⟩)) (fun v s1 ⟨a1, se1, kk1, h2⟩ => ?_) fun _ _ ⟨_, _, _, q⟩ => q.elim
  · rw [hx]
    intro Jt live H' m' st' o' lv' src
    have := same_m o st' o'
    subst this
    exact ⟨live, st', o', lv', src⟩
  refine wpAny_mono (wpAny_seal se1 h2) (fun itv s2 ⟨a2, se2, kk2, it, fp, tn, Jt, H2, e, I2, T, tn0, fpk, live, st2, ok2, lv2, src⟩ => ?_) fun _ _ ⟨_, _, _, q⟩ => q.elim
  subst e
  have kk : ∀ i, restG s i → s2.gens[i]? = s.gens[i]? := fun i hi => (kk2 i hi).trans (kk1 i hi)
  have J2 := inv_unsealed I2 se2 kk I0.bare
  have tn2 : tn 0 s2.heap := by rw [se2.heap]; exact tn0
  have hL : ∀ b ∈ fp, C.L ≤ b := fun b hb => by
    have q := (fpk b hb).2.2.2.1
    rcases q with q | q
    · exact absurd q (by simp [GF.X])
    · have e1 : (C.X s0 H0).s_0.heap.objs.size = C.L := by
        show (trunc C.L s0.heap).objs.size = C.L
        have := r.sz
        simp [trunc, Array.take_eq_extract]
        exact Nat.min_eq_left this
      rw [e1] at q
      exact q
  intro p
  refine sq_turns h hF (fun H m H' m' S o st l => src.step o l st) src T hg ht gp hL (fun b hb => ⟨(fpk b hb).2.1, fun p hp => (fpk b hb).2.2.2.2.2 p (List.mem_append_right _ hp)⟩) r.gen (fun s0 H0 m S Ow s r4 => ?_) lp 0 (by simp) (Nat.zero_le _) s0 H0 m S Ow s2 s2.heap tn2
    ⟨⟨σ, H2, J2.pinned fpk (T.obj _ _ tn2), st2.env o en, ok2, st.trans st2, hF.step o st2 f, lv2⟩, by rw [kk _ ⟨_, r.run, rfl⟩]; exact r.run, fun q hq => let ⟨a, b⟩ := r.held q hq; ⟨by rw [kk _ ⟨_, a, b⟩]; exact a, b⟩, r.mine,
      fun i x z e hx => by have := r.oth i x z e hx; rw [kk _ ⟨_, this, hx⟩]; exact this, fun p hp => by
        rcases List.mem_append.mp hp with hp | hp
        · exact r.low p hp
        · exact hL _ (of_pinsAt hp).1, let ⟨go, h1, h2⟩ := r.gen; ⟨go, List.mem_append_left _ h1, h2⟩, r.sz⟩
  exact hk s0 H0 m S Ow s r4
end
end T3
namespace T3
open PySem PySem.Spec PyProof.Rows L2
/-- what a call of a generator def gives -/
noncomputable def GMade (P : Program) (w : World) (K : PySem.W.Frag) (mg : Str → Option Value) (base : Heap) (cl : ClT) (B : Addr → Prop) (A : Around) (outer : List Env) (s : Shared) (H : Hp) (m : List Addr) (xs : List D) (u : Value) (s' : Shared) : Prop :=
  ∃ (C : GF) (c : Code) (O : Pins), (C.P = P ∧ C.w = w ∧ C.K = K ∧ C.mg = mg ∧ C.base = base ∧ C.cl = cl ∧ C.B = B ∧ C.A = A.in1 ∧ C.outer = outer) ∧ C.Ok ∧ u = .ref C.a ∧ C.L = s.heap.objs.size ∧ C.g = s.gens.size ∧ s'.gens[C.g]? = some (.fresh c) ∧
    (∀ (i : Nat) (x : GenState), s.gens[i]? = some x → s'.gens[i]? = some x) ∧ s'.os = s.os ∧ AllBare s'.gens ∧ (∀ b o, s.heap.get? b = some o → s'.heap.get? b = some o) ∧ PinsAt C.L O s' H ∧ (∃ go, (C.a, go) ∈ O ∧ GenObj go C.g) ∧ Wk C xs (.fresh c) O [] H m
structure GDef (P : Program) (w : World) (K : PySem.W.Frag) (mg : Str → Option Value) (base : Heap) (cl : ClT) (k : Nat) (nm : Str) (n : Nat) (gf : List D → Option (List D)) : Prop where
  ex : ∃ (fa : Addr) (fd : FuncData) (ps : List Str), mg nm = some (.ref fa) ∧ PySem.W.keepIn K (.ref fa) = true ∧ Binds K fd ps [] ∧ ps.length = n ∧
    ∀ {A : Around} {outer : List Env} {s : Shared} {H : Hp} {B : Addr → Prop} {m : List Addr} {S : Store} {us : List Value} {vs : List V} {ds xs : List D}, A.guards = some [] → Room k A → Env0 P w K mg base A outer s H → BindsTo s fd ⟨us, []⟩ (ps.zip us) → Vals vs us →
      RepL K cl (NN B m) H vs ds → Ok K cl B H m S → gf ds = some xs → ds.length = n → codeAny (model P w) A (.call (.ref fa) ⟨us, []⟩) (fun r s' => match r with | .ok (.ret u) => GMade P w K mg base cl B A outer s H m xs u s' | _ => False) s
theorem sq_func {prog : Program} {w : World} {A : Around} {Φ : End → Shared → Prop} {fs : List Frame} {s : Shared} {env : Env} {body : List Stmt}
    (h : SegQ (model prog w) A Φ (.func body env) ((execs body env).wrap (fun f => .pure (.done (.ret (match f with | .ret v => v | _ => .none)))) (fun e => (leaving env e).wrap (fun _ => .raise e) .raise id id) id id) fs s) :
    SegQ (model prog w) A Φ (.func body env) ((model prog w).den (.func body env)) fs s := by
  show SegQ _ A Φ _ (.point [] fun _ => ((execs body env).onRaise (leaving env)) >>= _) fs s
  refine sq_point ?_
  rw [Sem.onRaise_eq_wrap, Sem.bind_eq_wrap', Sem.wrap_wrap]
  rw [Sem.wrap_congr (execs body env) _ _ (K' := fun f => .pure (.done (.ret (match f with | .ret v => v | _ => .none))))
    (H' := fun e => (leaving env e).wrap (fun _ => .raise e) .raise id id) (fun f => by cases f <;> rfl)
    (fun e => by rw [Sem.bind_eq_wrap, Sem.wrap_wrap]; rfl)]
  exact h
theorem repL_as {K : PySem.W.Frag} {cl : ClT} {N : Addr → Prop} {H : Hp} {m : List Addr} : ∀ {vs : List V} {ds : List D}, RepL K cl N H vs ds → RepAs K cl N H m vs (ds.map A.val)
  | _, _, .nil => .nil
  | _, _, .cons (d := d) h r => .cons (x := .val d) h (repL_as r)
theorem gen_of {P : Program} {w : World} {K : PySem.W.Frag} {mg : Str → Option Value} {base : Heap} {cl : ClT} {x qual : Str} {st : Stmt} {fa : Addr} {fd : FuncData} {N ps : List Str} {k n : Nat} {gf : List D → Option (List D)} (hm : mg x = some (.ref fa)) (hb : Binds K fd ps []) (hn : ps.length = n) (F : Fun K x qual st fa fd)
    (kind : (defScope st).kind = .function) (co : (defScope st).isCoroutine = false) (gen : (defScope st).isGenerator = true) (nd : N.Nodup) (pre : N.take ps.length = ps) (loc : ∀ x ∈ N, (defScope st).names.lookup x = some .local) (noc : ∀ x, (defScope st).names.lookup x ≠ some .cell ∧ (defScope st).names.lookup x ≠ some .free)
    (cells : ∀ n, cellsFrom n (defScope st).names [] = [])
    (body : ∀ (C : GF), C.P = P → C.w = w → C.K = K → C.mg = mg → C.base = base → C.cl = cl → C.N = N → C.sc = defScope st → C.k = k → C.Ok → ∀ ds xs, ds.length = n → gf ds = some xs → ∃ ρ', GJ C (execs (defBody st) C.env) (ds.map (fun d => some (A.val d)) ++ List.replicate (N.length - n) none) xs ρ') :
    GDef P w K mg base cl (k + 2) x n gf := by
  refine ⟨fa, fd, ps, hm, F.kp, hb, hn, ?_⟩
  obtain ⟨oc, od, kV, doc, pm, an, cdv, ct, osl, rfl, lk, hcd⟩ := F.ex
  intro A outer s H B m S us vs ds xs g room e0 hbt rv rl ok hgf hdl
  have old : ∀ b o, base.get? b = some o → s.heap.get? b = some o := fun b o q => (e0.bs b o q).1
  have kin := e0.mod.kin.keeps old
  have npl : ps.length ≤ N.length := by have := congrArg List.length pre; rw [List.length_take] at this; omega
  have kindp : ∀ y ∈ ps.zip us, (defScope st).names.lookup y.1 = some .local := fun y hy => by
    have := (List.of_mem_zip (a := y.1) (b := y.2) hy).1
    rw [← pre] at this
    exact loc _ (List.mem_of_mem_take this)
  refine codeAny_call_generator room.depth (kin _ _ lk) rfl co gen rfl (PySem.W.codeRec_of kin hcd) (hbt _ _ _ _ ?_)
  refine wpAny_newFunctionEnv_cells kind (fun y hy => .inl (kindp y hy)) fun env he s1 z => ?_
  subst he
  have nl1 := (e0.mod.nolimit.keeps old).keeps z.toInCall.keep
  refine ⟨nl1, ?_⟩
  obtain ⟨h1, tk, es1, hk1⟩ := z.done
  have gen1 : s1.gens = s.gens := by rw [es1]
  have lt1 : s.heap.objs.size < s1.heap.objs.size := z.toInCall.ns.lt
  obtain ⟨oL, eL, pL, hoL, hdL, hrL⟩ := id z.toInCall.ns
  have lvs : vs.length = n := by rw [rl.length, hdl]
  have lus : us.length = ps.length := by rw [← rv.length, lvs, hn]
  let C : GF := ⟨P, w, K, mg, base, cl, B, A.in1, outer, N, qual, defScope st, s.heap.objs.size, fa, cdv, s.gens.size, s1.heap.objs.size, k⟩
  have cok : C.Ok := ⟨kind, co, nd, loc, noc, cells, room.hd, (room.in1).deeper _, guards_deeper g, e0.bsz, fun b hb => by
    obtain ⟨_, o, ho, _⟩ := e0.funs.mem hb
    exact Heap.lt_size ho, Nat.le_of_lt lt1⟩
  have fresh : ∀ b, s.heap.objs.size ≤ b → H b = none := fun b hb => e0.hok.fresh hb
  have main : ∀ (go : Obj) (nm qn : Value) (tk2 : Nat), go.cls = .type "generator" → go.data = .fields #[.int s1.gens.size 0, nm, qn] → go.slots = #[] → (∀ h : Heap, (h.push go).get? h.objs.size = some go) →
      GMade P w K mg base cl B A outer s H m xs (.ref s1.heap.objs.size) { s1 with gens := s1.gens.push (.fresh (.func (defBody st) C.env)), toks := tk2, heap := s1.heap.push go } := by
    intro go nm qn tk2 hgc hgd hgs hgp
    refine ⟨C, .func (defBody st) C.env, [(C.L, oL), (C.a, go)], ⟨rfl, rfl, rfl, rfl, rfl, rfl, rfl, rfl, rfl⟩, cok, rfl, rfl, rfl, ?_, fun i y e => ?_, ?_, ?_, fun b o e => ?_, fun p hp => ?_, ⟨go, by simp, hgc, hgs, nm, qn, by rw [hgd, gen1]⟩, ?_⟩
    · show (s1.gens.push _)[s.gens.size]? = _
      rw [gen1]
      exact Array.getElem?_push_size ..
    · show (s1.gens.push _)[i]? = _
      rw [gen1, Array.getElem?_push]
      have := (Array.getElem?_eq_some_iff.mp e).1
      rw [if_neg (by omega)]
      exact e
    · show s1.os = s.os
      rw [es1]
    · exact AllBare.push (by rw [gen1]; exact e0.bare) rfl
    · exact Heap.get?_push_of_some _ (z.toInCall.keep b o e)
    · rcases List.mem_cons.mp hp with rfl | hp
      · exact ⟨Nat.le_refl _, Heap.get?_push_of_some _ hoL, fresh _ (Nat.le_refl _), fun v q => by rw [hdL] at q; cases q⟩
      · rw [List.mem_singleton.mp hp]
        exact ⟨Nat.le_of_lt lt1, hgp _, fresh _ (Nat.le_of_lt lt1), fun v q => by rw [hgd] at q; cases q⟩
    · rw [wk_iff]
      intro s2 H2 m2 S2 st2 o2 w2 pn2 hg2 run2
      obtain ⟨ρ', hj⟩ := body C rfl rfl rfl rfl rfl rfl rfl rfl rfl cok ds xs hdl hgf
      refine sq_func ?_
      have gp : GP C (.func (defBody st) C.env) [] id := ⟨GenW.over_func, rfl, rfl, rfl⟩
      have hj2 := hj _ [] (fun f => .pure (.done (.ret (match f with | .ret v => v | _ => .none)))) (fun e => (leaving C.env e).wrap (fun _ => .raise e) .raise id id) id id gp [] [(C.a, go)] [] (fun _ _ => True) (fun _ _ _ _ _ _ _ _ => True.intro) (fun s0 H0 m S Ow s r => ?_) s2 H2 m2 S2 (own C []) s2 ⟨⟨start N vs, H2, ?_, ?_, o2, Step.refl, True.intro⟩, run2, hg2, fun q hq => by simp at hq, fun i x _ e _ => e, fun p hp => by
          rw [List.mem_singleton.mp hp]; exact cok.al, ⟨go, by simp, hgc, hgs, nm, qn, by rw [hgd, gen1]⟩, ?_⟩
      · rw [List.append_nil] at hj2
        exact hj2
      · exact sq_end (.ok (.ret .none)) ⟨.inl rfl, r.endf⟩
      · obtain ⟨_, hL2, hL0, _⟩ := pn2 (C.L, oL) (by simp)
        refine C.wake cok w2 ⟨oL, eL, pL, hL2, hdL, hrL⟩ (fun i y v h1 h2 => ?_) (fun p hp => pn2 p (by rw [List.mem_singleton.mp hp]; simp)) (fun p hp => by rw [List.mem_singleton.mp hp]; exact Nat.ne_of_gt lt1) hL0 ?_
        · have hi : i < vs.length := by
            unfold L2.start at h2
            by_cases hi : i < vs.length
            · exact hi
            · rw [List.getElem?_append_right (by simpa using hi)] at h2
              rw [List.getElem?_replicate] at h2
              split at h2 <;> cases h2
          have ha : vs[i]? = some v := by
            unfold L2.start at h2
            rw [List.getElem?_append_left (by simpa using hi), List.getElem?_map] at h2
            cases e : vs[i]? with
            | none => rw [e] at h2; cases h2
            | some a => rw [e] at h2; cases h2; rfl
          obtain ⟨u, hu, ru⟩ := rv.get ha
          have hp : ps[i]? = some y := by
            rw [← pre, List.getElem?_take_of_lt (by omega)]; exact h1
          have ndP : ps.Nodup := by rw [← pre]; exact nd.sublist (List.take_sublist _ _)
          have hy := loc y (List.mem_of_getElem? h1)
          exact ⟨u, ru, hy, bindL_get ndP hp hu hy⟩
        · unfold L2.start
          show _ = N.length
          rw [List.length_append, List.length_map, List.length_replicate]
          omega
      · have rl2 : RepL K cl (NN B m2) H2 vs ds := rl.mono (st2.kp fun a h => (ok.foreign a h).2)
        have e := env_start (N := N) (repL_as (m := m2) rl2) (by omega)
        rw [List.map_map, List.length_map, hdl] at e
        exact e
      · obtain ⟨_, hL2, _⟩ := pn2 (C.L, oL) (by simp)
        exact Nat.le_of_lt (Heap.lt_size hL2)
  exact main _ _ _ _ rfl rfl rfl fun h => Heap.get?_push_size _ rfl
end T3
namespace T3
open PySem PySem.Spec PyProof.Rows L2
/-- a generator is woken -/
noncomputable def GoS (P : Program) (w : World) (A : Around) (gs : GenState) (Φ : End → Shared → Prop) (s : Shared) : Prop :=
  match gs with
  | .fresh c => SegQ (model P w) A Φ c ((model P w).den c) [] s
  | .suspended k _ c _ fs _ => SegQ (model P w) A Φ c (k (.send .none)) fs s
  | _ => False
theorem resumeS {P : Program} {w : World} {A : Around} {Φ : End → Shared → Prop} {E : Value → Shared → Prop} {s : Shared} {g : Nat} {gs : GenState} {l : List Value} {α : Type} {k : GenResult → Sem α} {Q : α → Shared → Prop} (hg : s.gens[g]? = some gs)
    (hgo : GoS P w A gs Φ (s.setGen g .running)) (hq : ∀ e s₁, Φ e s₁ → e.quiet = true) (hR : ∀ e s₁, Φ e s₁ → wpAny (model P w) A (k e.result) Q E (s₁.setGen g e.genState)) : wpAny (model P w) A (.resume g (.send .none) l k) Q E s := by
  intro Γ p hΓ
  rw [Sem.wp_resume]
  have hB : ∀ c, (Γ.wake c p).Woken A := fun c => hΓ.wake c p
  cases gs with
  | fresh c =>
    obtain ⟨e₁, s₁, hr, he⟩ := hgo (Γ.wake c p) p rfl (hB c)
    exact ⟨_, _, by unfold Wakes; rw [hg]; exact ⟨e₁, s₁, hr, hq e₁ s₁ he, rfl, rfl⟩, hR e₁ s₁ he Γ p hΓ⟩
  | suspended k₀ l₀ c₀ p₀ fs₀ cl =>
    obtain ⟨e₁, s₁, hr, he⟩ := hgo (Γ.wake c₀ p) p₀ rfl (hB c₀)
    exact ⟨_, _, by unfold Wakes; rw [hg]; exact ⟨e₁, s₁, hr, hq e₁ s₁ he, rfl, rfl⟩, hR e₁ s₁ he Γ p hΓ⟩
  | running => exact hgo.elim
  | finished => exact hgo.elim
theorem nextS {P : Program} {w : World} {A : Around} {E : Value → Shared → Prop} {s : Shared} {a : Addr} {g : Nat} {gs : GenState} {Φ : End → Shared → Prop} {Q : Option Value → Shared → Prop} (hh : A.handled = none) (hl : s.heap.NoLimit) (hroom : A.depth < recursionLimit) (hg : s.heap.IsGen a g)
    (hgs : s.gens[g]? = some gs) (hgo : GoS P w A.in1 gs Φ (s.setGen g .running)) (hq : ∀ e s₁, Φ e s₁ → e.quiet = true) (hn : ∀ e s₁, Φ (.ret (.error e)) s₁ → False)
    (hY : ∀ v gd l k c p fs s₁, Φ (.susp v gd l k c p fs) s₁ → Q (some v) (s₁.setGen g (End.susp v gd l k c p fs).genState))
    (hP : ∀ f s₁, Φ (.ret (.ok f)) s₁ → (f = .ret .none ∨ f = .next) ∧ ∀ h', (∀ b o, s₁.heap.get? b = some o → h'.get? b = some o) → Q none { s₁.setGen g .finished with heap := h' }) :
    wpAny (model P w) A (pyNext (.ref a)) Q E s := by
  unfold pyNext
  refine wpAny_bind (wpAny_attempt (wpAny_callSpecial?_slot (name := Str.ofString "__next__") hg.typeIs slot_gen_next
    (wpAny_call_entry slot_gen_next hg.typeIs entry_gen_next ?_ (args_gen_next _))))
  show wpAny _ A.in1 (Builtin.Generator.genWake (.ref a) (.send .none)) _ _ s
  unfold Builtin.Generator.genWake
  refine wpAny_bind (wpAny_holding (wpAny_genNumber hg (wpAny_bind (wpAny_genState hgs ?_))))
  cases gs with
  | running => exact hgo.elim
  | finished => exact hgo.elim
  | _ =>
    refine wpAny_bind (wpAny_roomToWake hl hroom ?_)
    show wpAny _ A.in1 (.resume g (.send .none) [] _) _ _ s
    refine resumeS hgs hgo hq fun e s₁ he => ?_
    cases e with
    | ret r =>
      cases r with
      | error e => exact (hn e s₁ he).elim
      | ok f =>
        obtain ⟨hr, hp⟩ := hP f s₁ he
        have hres : (End.ret (.ok f)).result = .returned .none := by
          rcases hr with hr | hr <;> rw [hr] <;> rfl
        first | rw [hres] | simp only [hres]
        show wpAny _ A.in1 (newExc (.type "StopIteration") [] >>= _) _ _ _
        refine wpAny_bind ?_
        simp only [newExc, newTuple]
        refine wpAny_bind (wpAny_newObj_type ?_ (by size_fits))
        refine wpAny_bind (m := firstArgMember _ _) (wpAny_of_eq (a := Value.none) (by first | rfl | (simp only [firstArgMember]; rfl)) ?_)
        refine wpAny_newObj_type ?_ (by size_fits)
        simp only [raiseNew]
        refine wpAny_bind (wpAny_bind (wpAny_handled ?_))
        first | rw [show A.in1.handled = none from hh] | rw [hh]
        refine wpAny_throw ?_
        refine wpAny_bind (wpAny_isInstance (T := "StopIteration") (b := true) ⟨_, Heap.get?_push_size _ rfl, rfl⟩ isSubtype_stop ?_)
        exact wpAny_pure (hp _ fun b o hb => Heap.get?_push_of_some _ (Heap.get?_push_of_some _ hb))
    | susp v gd l k c p fs => exact wpAny_pure ⟨v, rfl, wpAny_pure (hY v gd l k c p fs s₁ he)⟩
end T3
namespace T3
open PySem PySem.Spec PyProof.Rows L2
/-- older than a place -/
structure Lo (X : Cx) (pins : Pins) (L : Addr) : Prop where
  s0 : X.s_0.heap.objs.size ≤ L
  loc : X.env.locals < L
  cell : ∀ x c, X.env.cells.lookup x = some c → c < L
  pin : ∀ p ∈ X.pn ++ pins, p.1 < L
  fr : ∀ b ∈ frs X.stack, b < L
theorem lo_of {X : Cx} {pins : Pins} {σ : L2.St} {H : Hp} {s : Shared} (I : Inv X pins σ H s) : Lo X pins s.heap.objs.size :=
  ⟨I.sz, I.lt, fun x c e => let ⟨v, q⟩ := I.cell x c e; q.lt, fun p hp => Heap.lt_size (I.pin p hp).1, fun b hb => by
    rcases List.mem_cons.mp (I.stkSub b hb) with z | z
    · rw [z]; exact I.lt
    · obtain ⟨_, o, ho, _⟩ := I.funs.mem z
      exact Heap.lt_size ho⟩
/-- a generator at rest, in the hands of a frame -/
structure HG (X : Cx) (cl : ClT) (B : Addr → Prop) (pins : Pins) (H : Hp) (m : List Addr) (C : GF) (gs : GenState) (O : Pins) (I : IG) (xs : List D) (s : Shared) : Prop where
  eqs : C.P = X.prog ∧ C.w = X.w ∧ C.K = X.K ∧ C.mg = X.mg ∧ C.base = X.base ∧ C.cl = cl ∧ C.B = B ∧ C.A = X.A.in1 ∧ C.outer = X.stack
  ok : C.Ok
  lo : Lo X pins C.L
  here : s.gens[C.g]? = some gs
  pn : PinsAt C.L O s H
  gen : ∃ go, (C.a, go) ∈ O ∧ GenObj go C.g
  held : HeldG I s
  ne : ∀ q ∈ I, q.1 ≠ C.g
  wk : Wk C xs gs O I H m
noncomputable def Kb (Ow : Nat → Prop) (s s' : Shared) : Prop := ∀ (i : Nat) (x : GenState), ¬ Ow i → s.gens[i]? = some x → isSus x = true → s'.gens[i]? = some x
section
variable {X : Cx} {cl : ClT} {B : Addr → Prop} {pins : Pins} {σ : L2.St} {H : Hp} {m : List Addr} {S : Store} {s : Shared} {C : GF} {gs : GenState} {O : Pins} {I : IG}
theorem phi_quiet {s0 : Shared} {Ow : Nat → Prop} : ∀ {xs : List D} {e : End} {s1 : Shared}, Phi C s0 H m S Ow xs e s1 → e.quiet = true
  | _, .ret _, _, _ => rfl
  | [], .susp .., _, h => h.elim
  | _ :: _, .susp .., _, h => h.1
theorem setGen_bare {s : Shared} {g : Nat} {x : GenState} (h : AllBare s.gens) (hx : x.bare = true) : AllBare (s.setGen g x).gens := allBare_setGen h hx
/-- the next item -/
theorem pull {j : Nat} (hr : Room j X.A) (I0 : Inv X pins σ H s) (o : Ok X.K cl B H m S) : ∀ {xs : List D}, HG X cl B pins H m C gs O I xs s →
    wpAny (model X.prog X.w) X.A (pyNext (.ref C.a)) (fun r s' => Kb (own C I) s s' ∧ (match xs with
      | [] => r = none ∧ ∃ H', Inv X pins σ H' s' ∧ Step H m H' m ∧ Ok X.K cl B H' m S
      | d :: rest => ∃ u x H' gs' O' I', r = some u ∧ RelV x u ∧ Rep X.K cl (NN B m) H' x d ∧ Inv X pins σ H' s' ∧ Step H m H' m ∧ Ok X.K cl B H' m S ∧ isSus gs' = true ∧ HG X cl B pins H' m C gs' O' I' rest s' ∧
          ∀ q ∈ I', own C I q.1 ∨ ∀ x, s.gens[q.1]? = some x → isSus x = false)) (fun _ _ => False) s := by
  intro xs hg
  obtain ⟨P, w, K, mg, base, cl', B', A', outer, N, qual, sc, L, f, cd, g, a, k⟩ := C
  obtain ⟨⟨rfl, rfl, rfl, rfl, rfl, rfl, rfl, rfl, rfl⟩, cok, lo, here, pn, gen, held, ne, wk⟩ := hg
  dsimp only at *
  obtain ⟨go, hgo, hgo2⟩ := gen
  have hlt : g < s.gens.size := (Array.getElem?_eq_some_iff.mp here).1
  have e0 := I0.env0.in1
  have wk1 := wk_iff.mp wk (s.setGen g .running) H m S Step.refl o ⟨⟨e0.frames, e0.mod, e0.bs, e0.bsz, e0.funs, e0.frf, e0.hok, setGen_bare I0.bare rfl⟩⟩ pn (fun q hq => ⟨(setGen_ne (Ne.symm (ne q hq))).trans (held q hq).1, (held q hq).2⟩) (setGen_at hlt)
  refine nextS (Φ := Phi _ (s.setGen g .running) H m S _ xs) hr.hd I0.nolimit (by have := hr.dp; omega) (hgo2.is (pn (a, go) hgo).2.1) here wk1 (fun e s1 h => phi_quiet h) (fun e s1 h => ?_) (fun v gd l kk c p fs s1 h => ?_) (fun fl s1 h => ?_)
  · cases xs with
    | nil => obtain ⟨h | h, _⟩ := h <;> cases h
    | cons d r => exact h
  · cases xs with
    | nil => exact h.elim
    | cons d rest =>
      obtain ⟨hq, hsp, x, H', O', I', rx, rd, ef, pn', gn', hl', mine', wk'⟩ := h
      have kb : Kb (own ⟨X.prog, X.w, X.K, X.mg, X.base, cl', B', X.A.in1, X.stack, N, qual, sc, L, f, cd, g, a, k⟩ I) s (s1.setGen g (End.susp v gd l kk c p fs).genState) := fun i y hi e hy => by
        have hne : g ≠ i := fun z => hi (.inl z.symm)
        rw [setGen_ne hne]
        exact ef.kept i y hi ((setGen_ne hne).trans e) hy
      have hlt1 : g < s1.gens.size := (Array.getElem?_eq_some_iff.mp ef.run).1
      have I1 : Inv X pins σ H' (s1.setGen g (End.susp v gd l kk c p fs).genState) := inv_after (s' := s1.setGen g (End.susp v gd l kk c p fs).genState) I0 ef.un ef.hok (setGen_bare ef.bare (End.bare_of_quiet hq)) ef.os lo.s0 lo.loc lo.cell lo.pin lo.fr
      refine ⟨kb, v, x, H', _, O', I', rfl, rx, rd, I1, ef.st, ef.ok, rfl, ⟨⟨rfl, rfl, rfl, rfl, rfl, rfl, rfl, rfl, rfl⟩, cok, lo, setGen_at hlt1, pn', gn', fun q hq' => ⟨(setGen_ne (Ne.symm (mine' q hq').1)).trans (hl' q hq').1, (hl' q hq').2⟩, fun q hq' => (mine' q hq').1, wk'⟩, fun q hq' => ?_⟩
      rcases (mine' q hq').2 with z | z
      · exact .inl z
      · exact .inr fun y e => z y ((setGen_ne (Ne.symm (mine' q hq').1)).trans e)
  · cases xs with
    | cons d r => exact h.elim
    | nil =>
      obtain ⟨hr', H', ef⟩ := h
      refine ⟨by rcases hr' with z | z <;> cases z <;> simp, fun h' hk => ⟨fun i y hi e hy => ?_, rfl, H', ?_, ef.st, ef.ok⟩⟩
      · have hne : g ≠ i := fun z => hi (.inl z.symm)
        show (s1.setGen g .finished).gens[i]? = _
        rw [setGen_ne hne]
        exact ef.kept i y hi ((setGen_ne hne).trans e) hy
      · have I1 : Inv X pins σ H' (s1.setGen g .finished) := inv_after (s' := s1.setGen g .finished) I0 ef.un ef.hok (setGen_bare ef.bare rfl) ef.os lo.s0 lo.loc lo.cell lo.pin lo.fr
        exact I1.kept (t' := s1.toks) hk
end
end T3
namespace T3
open PySem PySem.Spec PyProof.Rows L2
/-- what an exception that leaves says does not hang on the sealed generators -/
noncomputable def XBack (X : Cx) : Prop := ∀ (G : Nat → Prop) (a b b' : Shared) (e : Value), Seal G a b' → (∀ i, G i → b'.gens[i]? = b.gens[i]?) → AllBare b.gens → X.xe e a → X.xe e b'
section
variable {X : Cx} {cl : ClT} {W : WX} {B : Addr → Prop} {pins : Pins} {σ : L2.St} {ρ : Slots} {H : Hp} {m : List Addr} {S : Store} {s : Shared}
theorem repL_of {N : Addr → Prop} : ∀ {vs : List V} {ds : List D}, RepAs X.K cl N H m vs (ds.map A.val) → RepL X.K cl N H vs ds
  | _, [], .nil => .nil
  | _, _ :: _, .cons h r => .cons h (repL_of r)
theorem eval_gen {k j n : Nat} {nm : Str} {gf : List D → Option (List D)} {e : Expr} {es : List Expr} {c : CA} {p pos : Pos} {ds xs : List D} (G : GDef X.prog X.w X.K X.mg X.base cl k nm n gf) (hr : Room j X.A) (hk : k ≤ j) (g : X.A.guards = some []) (hg : Gl X nm)
    (ha : PA X (e :: es) (tML X.K cl W c)) (hdb : (nm == ("__debug__" : Str)) = false) (he : starEach (e :: es) X.env = (false, eval e X.env) :: starEach es X.env) (hpl : (backTo pos (starEach es X.env)).any (·.1) = false)
    {S1 : Store} (hd : c ρ S = .ok (ds.map A.val) S1) (hn : ds.length = n) (hgf : gf ds = some xs) (I : Inv X pins σ H s) (o : Ok X.K cl B H m S) (en : EnvOk X.K cl (NN B m) H m σ ρ) :
    wpAny (model X.prog X.w) X.A (eval (.Call (.Name nm p) (e :: es) [] pos) X.env) (fun u s' => ∃ s1 H1 m1, Inv X pins σ H1 s1 ∧ Step H m H1 m1 ∧ Ok X.K cl B H1 m1 S1 ∧ GMade X.prog X.w X.K X.mg X.base cl B X.A X.stack s1 H1 m1 xs u s') X.xe s := by
  obtain ⟨fa, fd, ps, hm, hkp, hb, hps, run⟩ := G.ex
  refine wpAny_Call_Name_kw (ld_glob I hg hm ?_ hdb)
  refine PySem.W.callWith_K (h₀ := X.base) I.ok.mod.kin hkp (thn (ha.run pos pins s σ H (fun vs H1 => ∃ m1, Step H m H1 m1 ∧ Ok X.K cl B H1 m1 S1 ∧ RepL X.K cl (NN B m1) H1 vs ds) I ⟨B, m, S, ρ, o, en, ?_⟩) fun us s1 ⟨vs, H1, I1, r, m1, st1, o1, rl⟩ => ⟨I1.kIn, ?_⟩) he hpl
  · rw [hd]
    intro vs H' m' st' o' r'
    exact ⟨m', st', o', repL_of r'⟩
  have hl : us.length = ps.length := by rw [← r.length, rl.length, hn, hps]
  have b := hb s1 us I1.kIn (by rw [List.append_nil]; exact hl)
  rw [List.append_nil] at b
  refine wpAny_call (codeAny_mono (run g (hr.mono hk) I1.env0 b r rl o1 hgf hn) fun res s' q => ?_)
  cases res with
  | error e => exact q.elim
  | ok fl =>
    cases fl with
    | ret u => exact ⟨s1, H1, m1, I1, st1, o1, q⟩
    | next | brk | cont => exact q.elim
theorem made_gen {k j n : Nat} {nm : Str} {gf : List D → Option (List D)} {e : Expr} {es : List Expr} {c : CA} {p pos : Pos} {ds xs : List D} (hX : XBack X) (G : GDef X.prog X.w X.K X.mg X.base cl k nm n gf) (hr : Room j X.A) (hk : k ≤ j) (g : X.A.guards = some []) (hg : Gl X nm)
    (ha : PA X (e :: es) (tML X.K cl W c)) (hdb : (nm == ("__debug__" : Str)) = false) (he : starEach (e :: es) X.env = (false, eval e X.env) :: starEach es X.env) (hpl : (backTo pos (starEach es X.env)).any (·.1) = false)
    {S1 : Store} (hd : c ρ S = .ok (ds.map A.val) S1) (hn : ds.length = n) (hgf : gf ds = some xs) (I : Inv X pins σ H s) (o : Ok X.K cl B H m S) (en : EnvOk X.K cl (NN B m) H m σ ρ) :
    wpAny (model X.prog X.w) X.A (eval (.Call (.Name nm p) (e :: es) [] pos) X.env) (fun u s' => KG s s' ∧ ∃ C cc O H1 m1, u = .ref C.a ∧ Inv X pins σ H1 s' ∧ Step H m H1 m1 ∧ Ok X.K cl B H1 m1 S1 ∧ HG X cl B pins H1 m1 C (.fresh cc) O [] xs s' ∧
      ∀ x, s.gens[C.g]? = some x → isSus x = false) X.xe s := by
  refine wpAny_mono (wpAny_seal (sealAll_seal s) (eval_gen G hr hk g hg ha hdb he hpl hd hn hgf (inv_sealed I) o en)) (fun u s' ⟨a', se, kk, s1, H1, m1, I1, st1, o1, C, cc, O, eqs, cok, eu, hL, hG, fr, kp, os, bare, hkp, pn, gn, wk⟩ => ?_) fun e s' ⟨a', se, kk, q⟩ => hX _ _ _ _ _ se kk I.bare q
  have Ia : Inv X pins σ H1 a' := I1.call' (ch := []) os (Un.kept hkp) (I1.hok.kept hkp) bare fun b z => by simp at z
  have Is := inv_unsealed Ia se kk I.bare
  have ng : ¬ restG s C.g := fun z => by
    have hlt := se.lt _ z
    have hsz : C.g < s'.gens.size := by rw [← se.size]; exact hlt
    obtain ⟨q1, q2⟩ := se.on C.g _ z (Array.getElem?_eq_getElem hsz)
    rw [fr] at q1
    cases hy : s'.gens[C.g] <;> rw [hy] at q1 q2 <;> simp [sealG, isSus] at q1 q2
  refine ⟨fun i x e hx => (kk i ⟨x, e, hx⟩).trans e, C, cc, O, H1, m1, eu, Is, st1, o1, ⟨eqs, cok, by rw [hL]; exact lo_of I1, by rw [← se.off _ ng]; exact fr, fun p hp => ?_, gn, fun q hq => by simp at hq, fun q hq => by simp at hq, wk⟩, fun x e => ?_⟩
  · obtain ⟨h1, h2, h3, h4⟩ := pn p hp
    exact ⟨h1, by rw [se.heap]; exact h2, h3, h4⟩
  · cases hx : isSus x with
    | false => rfl
    | true => exact absurd ⟨x, e, hx⟩ ng
theorem wk_mono {C : GF} {xs : List D} {gs : GenState} {O : Pins} {I : IG} {H1 H2 : Hp} {m1 m2 : List Addr} (w : Wk C xs gs O I H1 m1) (st : Step H1 m1 H2 m2) : Wk C xs gs O I H2 m2 :=
  wk_iff.mpr fun s H m S st2 => wk_iff.mp w s H m S (st.trans st2)
theorem HG.pinned {C : GF} {gs : GenState} {O : Pins} {I : IG} {xs : List D} (hg : HG X cl B pins H m C gs O I xs s) (I0 : Inv X pins σ H s) : Inv X (pins ++ O) σ H s := by
  refine I0.pins_of fun p hp => ?_
  rcases List.mem_append.mp hp with hp | hp
  · exact I0.pin p (List.mem_append_right _ hp)
  · obtain ⟨h1, h2, h3, h4⟩ := hg.pn p hp
    refine ⟨h2, h3, Nat.ne_of_gt (Nat.lt_of_lt_of_le hg.lo.loc h1), fun z => ?_, h4⟩
    have : p.1 ∈ frs X.stack := by
      rcases I0.ok.stk with e | ⟨e, hf⟩
      · rw [e]; exact z
      · rw [e]; unfold frs; rw [List.filterMap_cons, hf]; exact List.mem_cons_of_mem _ z
    exact absurd (hg.lo.fr p.1 this) (Nat.not_lt.mpr h1)
theorem HG.kept {C : GF} {gs : GenState} {O : Pins} {I : IG} {xs : List D} {H' : Hp} {m' : List Addr} {σ' : L2.St} {s' : Shared} (hg : HG X cl B pins H m C gs O I xs s) (hs : isSus gs = true) (k : KG s s') (I1 : Inv X (pins ++ O) σ' H' s') (st : Step H m H' m') : HG X cl B pins H' m' C gs O I xs s' :=
  ⟨hg.eqs, hg.ok, hg.lo, k _ _ hg.here hs, fun p hp => ⟨(hg.pn p hp).1, (I1.pin p (List.mem_append_right _ (List.mem_append_right _ hp))).1, (I1.pin p (List.mem_append_right _ (List.mem_append_right _ hp))).2.1, (hg.pn p hp).2.2.2⟩, hg.gen,
    fun q hq => ⟨k _ _ (hg.held q hq).1 (hg.held q hq).2, (hg.held q hq).2⟩, hg.ne, wk_mono hg.wk st⟩
noncomputable def sForG (n : Nat) (gf : List D → Option (List D)) (c : CA) (t : CT) (b : CS) : CS := fun ρ S => match c ρ S with
  | .ok xs S1 => (match valsOf xs with
    | some ds => if ds.length = n then (match gf ds with
      | some ys => forL (fun d ρ S => match t (.val d) ρ S with
        | some (ρ', S') => b ρ' S'
        | none => .bad) ys ρ S1
      | none => .bad) else .bad
    | none => .bad)
  | _ => .bad
theorem valsOf_vals : ∀ {xs : List A} {ds : List D}, valsOf xs = some ds → xs = ds.map A.val
  | [], _, h => by cases h; rfl
  | .val d :: r, ds, h => by
    simp only [valsOf, Option.map_eq_some_iff] at h
    obtain ⟨es, h, rfl⟩ := h
    rw [List.map_cons, ← valsOf_vals h]
  | .ref _ :: _, _, h => by cases h
theorem go_gen {M : Model} {A : Around} {E : Value → Shared → Prop} {tg : Expr} {a : Addr} {u : Value} {g : Nat} {Q : Unit → Shared → Prop} (h : s.heap.IsGen a g) (q : Q () s) : wpAny M A (letOwnedTupleGo tg (.ref a) u) Q E s := by
  obtain ⟨o, nm, qn, e, c, d, _⟩ := h
  exact go_of e c d (by decide) q
theorem pm_forG {k j n : Nat} {nm : Str} {gf : List D → Option (List D)} {tg e : Expr} {es : List Expr} {body : List Stmt} {c : CA} {g : TG} {t : CT} {b : CS} {p pos pos2 : Pos} (hp : PassesOwn (model X.prog X.w) X.A X.env X.xe) (hX : XBack X) (G : GDef X.prog X.w X.K X.mg X.base cl k nm n gf)
    (hr : Room j X.A) (gd : X.A.guards = some []) (hgl : Gl X nm) (ha : PA X (e :: es) (tML X.K cl W c)) (hg : PG X tg g) (ht : TgOk X.K cl g t) (hb : PSs X body (tMS X.K cl W b))
    (hk : k ≤ j := by decide) (hdb : (nm == ("__debug__" : Str)) = false := by decide) (he : starEach (e :: es) X.env = (false, eval e X.env) :: starEach es X.env := by rfl) (hpl : (backTo pos2 (starEach es X.env)).any (·.1) = false := by rfl)
    (hs : ∀ x, foldedSetIterable (.Call (.Name nm p) (e :: es) [] pos2) X.env x = pure x := by intro _; rfl) :
    PS X (.For tg (.Call (.Name nm p) (e :: es) [] pos2) body [] pos) (tMS X.K cl W (sForG n gf c t b)) := by
  refine ⟨fun pins s σ H EE I h => ?_⟩
  obtain ⟨B, m, S, ρ, o, en, fin⟩ := h
  unfold sForG at fin
  split at fin
  rotate_left
  · exact fin.elim
  rename_i as S1 hd
  split at fin
  rotate_left
  · exact fin.elim
  rename_i ds hv
  split at fin
  rotate_left
  · exact fin.elim
  rename_i hn
  split at fin
  rotate_left
  · exact fin.elim
  rename_i ys hgf
  let bd : D → CS := fun d ρ S => match t (.val d) ρ S with
    | some (ρ', S') => b ρ' S'
    | none => .bad
  rw [valsOf_vals hv] at hd
  refine wpAny_For (thn (made_gen hX G hr hk gd hgl ha hdb he hpl hd hn hgf I o en) fun u s1 ⟨_, C, cc, O, H1, m1, eu, I1, st1, o1, hg1, _⟩ => ?_) hs
  subst eu
  have ig : ∀ {gs : GenState} {O : Pins} {J : IG} {xs : List D} {H : Hp} {m : List Addr} {s : Shared}, HG X cl B pins H m C gs O J xs s → s.heap.IsGen C.a C.g := fun q => let ⟨go, h1, h2⟩ := q.gen; h2.is (q.pn (C.a, go) h1).2.1
  refine wpAny_pyIter_gen (ig hg1) ?_
  refine codeAny_forLoop_any (fun n' s' => ∃ gs O J xs σ' H' m' S' ρ', n' = xs.length ∧ Inv X pins σ' H' s' ∧ Ok X.K cl B H' m' S' ∧ EnvOk X.K cl (NN B m') H' m' σ' ρ' ∧ HG X cl B pins H' m' C gs O J xs s' ∧ FinS X.K cl B H' m' W (forL bd xs ρ' S') EE) ?_ ys.length
    ⟨_, O, [], ys, σ, H1, m1, S1, ρ, rfl, I1, o1, st1.env o en, hg1, FinS.step st1 fin⟩
  rintro n' s2 ⟨gs, O, J, xs, σ2, H2, m2, S2, ρ2, hn', I2, o2, en2, hg2, f2⟩
  refine wpAny_passesOwn hp (wpAny_noRaise (thn (pull hr I2 o2 hg2) fun r s3 ⟨kb, h3⟩ => ?_))
  cases xs with
  | nil =>
    obtain ⟨rfl, H3, I3, st3, o3⟩ := h3
    exact wpAny_execs_nil ⟨σ2, H3, I3, (FinS.step st3 f2).here o3 (st3.env o2 en2)⟩
  | cons d rest =>
    obtain ⟨u, x, H3, gs3, O3, J3, rfl, rx, rd, I3, st3, o3, su, hg3, _⟩ := h3
    have f3 := FinS.step st3 f2
    have f3 : FinS X.K cl B H3 m2 W (match bd d ρ2 S2 with
      | .nx ρ' S' => forL bd rest ρ' S'
      | .ct ρ' S' => forL bd rest ρ' S'
      | .bk ρ' S' => .nx ρ' S'
      | q => q) EE := f3
    refine wpAny_passesOwn hp (go_gen (ig hg3) ?_)
    cases htt : t (.val d) ρ2 S2 with
    | none =>
      have hb' : bd d ρ2 S2 = .bad := by show (match t (.val d) ρ2 S2 with | some (ρ', S') => b ρ' S' | none => .bad) = _; rw [htt]
      rw [hb'] at f3
      exact f3.elim
    | some z =>
      obtain ⟨ρ4, S4⟩ := z
      have hb' : bd d ρ2 S2 = b ρ4 S4 := by show (match t (.val d) ρ2 S2 with | some (ρ', S') => b ρ' S' | none => .bad) = _; rw [htt]
      rw [hb'] at f3
      have I3' := hg3.pinned I3
      refine wpAny_passesOwn hp (wpAny_mono (wpAny_keepG (hg.run (pins ++ O3) (sealAll s3) σ2 H3 x u (fun σ' H' => ∃ m', Step H3 m2 H' m' ∧ Ok X.K cl B H' m' S4 ∧ EnvOk X.K cl (NN B m') H' m' σ' ρ4) (inv_sealed I3') rx ?_)) (fun _ s4 ⟨kg4, a4, se4, kk4, σ4, H4, I4, m4, st4, o4, en4⟩ => ?_) fun e s4 ⟨_, a4, se4, kk4, q⟩ => hX _ _ _ _ _ se4 kk4 I3.bare q)
      · exact ht (x := .val d) o3 (st3.env o2 en2) rd htt fun σ' H' m' st' o' e' => ⟨m', st', o', e'⟩
      have I4' := inv_unsealed I4 se4 kk4 I3.bare
      have hg4 := hg3.kept su kg4 I4' st4
      have f4 := FinS.step st4 f3
      let NX : L2.St → Hp → Prop := fun σ' H' => ∃ m' S' ρ', Step H4 m4 H' m' ∧ Ok X.K cl B H' m' S' ∧ EnvOk X.K cl (NN B m') H' m' σ' ρ' ∧ FinS X.K cl B H' m' W (forL bd rest ρ' S') EE
      let D' : Ends := { nx := NX, rt := EE.rt, bk := EE.nx, ct := NX }
      refine wpAny_passesOwn hp (wpAny_mono (wpAny_keepG (hb.run (pins ++ O3) (sealAll s4) σ4 H4 D' (inv_sealed I4') ⟨B, m4, S4, ρ4, o4, en4, ?_⟩)) (fun fl s5 ⟨kg5, a5, se5, kk5, q5⟩ => ?_) fun e s5 ⟨_, a5, se5, kk5, q⟩ => hX _ _ _ _ _ se5 kk5 I4'.bare q)
      · cases hr' : b ρ4 S4 with
        | bad => rw [hr'] at f4; exact f4
        | exc e' ρ' S' => rw [hr'] at f4; exact f4
        | rt x S' => rw [hr'] at f4; exact f4
        | nx ρ' S' => rw [hr'] at f4; exact fun σ' H' m' s' o' e' => ⟨m', S', ρ', s', o', e', FinS.step s' f4⟩
        | ct ρ' S' => rw [hr'] at f4; exact fun σ' H' m' s' o' e' => ⟨m', S', ρ', s', o', e', FinS.step s' f4⟩
        | bk ρ' S' => rw [hr'] at f4; exact fun σ' H' m' s' o' e' => f4 σ' H' m' s' o' e'
      have again : ∀ {σ' : L2.St} {H' : Hp} {m' : List Addr} {S' : Store} {ρ' : Slots}, Inv X (pins ++ O3) σ' H' a5 → Step H4 m4 H' m' → Ok X.K cl B H' m' S' → EnvOk X.K cl (NN B m') H' m' σ' ρ' → FinS X.K cl B H' m' W (forL bd rest ρ' S') EE →
          ∃ k', k' < n' ∧ ∃ gs O J xs σ'' H'' m'' S'' ρ'', k' = xs.length ∧ Inv X pins σ'' H'' s5 ∧ Ok X.K cl B H'' m'' S'' ∧ EnvOk X.K cl (NN B m'') H'' m'' σ'' ρ'' ∧ HG X cl B pins H'' m'' C gs O J xs s5 ∧ FinS X.K cl B H'' m'' W (forL bd xs ρ'' S'') EE := fun {σ' H' m' S' ρ'} I5 st5 o5 e5 f5 => by
        have I5' := inv_unsealed I5 se5 kk5 I4'.bare
        exact ⟨rest.length, by rw [hn', List.length_cons]; omega, gs3, O3, J3, rest, σ', H', m', S', ρ', rfl, I5'.unpinned, o5, e5, hg4.kept su kg5 I5' st5, f5⟩
      cases fl with
      | next => obtain ⟨σ', H', I5, m', S', ρ', st5, o5, e5, f5⟩ := q5; exact again I5 st5 o5 e5 f5
      | cont => obtain ⟨σ', H', I5, m', S', ρ', st5, o5, e5, f5⟩ := q5; exact again I5 st5 o5 e5 f5
      | brk => obtain ⟨σ', H', I5, q⟩ := q5; exact ⟨σ', H', (inv_unsealed I5 se5 kk5 I4'.bare).unpinned, q⟩
      | ret v => obtain ⟨v', σ', H', I5, rv, q⟩ := q5; exact ⟨v', σ', H', (inv_unsealed I5 se5 kk5 I4'.bare).unpinned, rv, q⟩
end
end T3
namespace T3
open PySem PySem.Spec PyProof.Rows L2
section
variable {C : GF} {s0 : Shared} {H0 : Hp} {m : List Addr} {S : Store} {Ow : Nat → Prop} {pins : Pins} {I : IG} {F : List Addr → Hp → Prop} {ρ ρ' ρ1 : Slots} {s : Shared}
theorem xback_gf {s0 : Shared} {H0 : Hp} : XBack (C.X s0 H0) := fun _ _ _ _ _ _ _ _ h => h
/-- the numbers of an inner generator -/
structure Ix (C : GF) (Ow : Nat → Prop) (s0 : Shared) (I : IG) (i : Nat) : Prop where
  ne : i ≠ C.g
  ap : ∀ q ∈ I, q.1 ≠ i
  mine : Ow i ∨ ∀ x, s0.gens[i]? = some x → isSus x = false
theorem Rn.notown {Ci : GF} {J : IG} (r : Rn C s0 H0 m S Ow pins I F ρ s) (ix : ∀ i, T3.own Ci J i → Ix C Ow s0 I i) {i : Nat} {x : GenState} (h : ¬ Ow i) (e : s0.gens[i]? = some x) (hx : isSus x = true) : ¬ T3.own Ci J i := fun z => by
  rcases (ix i z).mine with q | q
  · exact h q
  · rw [q x e] at hx; cases hx
theorem sq_turnsG (h : C.Ok) {tg : Expr} {body : List Stmt} {g : TG} {t : CT} {Ci : GF} (hF : Mon C F) (hg : ∀ s H, PG (C.X s H) tg g) (ht : TgOk C.K C.cl g t) {c0 : Code} {p0 : Pos} {fs : List Frame} {gd : Bool → Bool} {k : Result → Sem PySem.Fin} {l kp : List Value} (gp : GP C c0 fs gd)
    (gn : ∃ go, (C.a, go) ∈ pins ∧ GenObj go C.g) (hL : C.L ≤ Ci.L) (hr : Room C.k (C.A.deeper C.env))
    {rem : List D} {ρ' : Slots} (hk : ∀ s0 H0 m S Ow s, Rn C s0 H0 m S Ow pins I F ρ' s → SegQ (model C.P C.w) C.A (Phi C s0 H0 m S Ow rem) c0 (k (.ok .next)) fs s) :
    ∀ {ys : List D} {ρ : Slots} {outs : List D}, Lp C t body ys ρ outs ρ' → ∀ gs O J s0 H0 m S Ow s, Rn C s0 H0 m S Ow pins I (fun m H => F m H ∧ HG (C.X s0 H0) C.cl C.B pins H m Ci gs O J ys s) ρ s → (∀ i, T3.own Ci J i → Ix C Ow s0 I i) →
      SegQ (model C.P C.w) C.A (Phi C s0 H0 m S Ow (outs ++ rem)) (.forLoop tg (.ref Ci.a) body [] C.env) ((model C.P C.w).den (.forLoop tg (.ref Ci.a) body [] C.env)) (.ret k none (gd false) l c0 p0 kp :: fs) s := by
  have gl : GP C (.forLoop tg (.ref Ci.a) body [] C.env) (.ret k none (gd false) l c0 p0 kp :: fs) id := gp_loop gp rfl rfl
  intro ys ρ outs lp
  induction lp with
  | @nil ρ =>
    intro gs O J s0 H0 m S Ow s r ix
    obtain ⟨σ, H, I0, en, o, st, f, hgi⟩ := r.ex
    refine sq_forLoop ?_
    rw [gl.over]
    refine wpAny_mono (pull (X := C.X s0 H0) hr I0 o hgi) (fun u s1 ⟨kb, hu, H1, I1, st1, o1⟩ => ?_) fun _ _ q => q
    subst hu
    have nc : ¬ T3.own Ci J C.g := fun z => (ix _ z).ne rfl
    refine sq_block_nil (hk _ _ _ _ _ _ ⟨⟨σ, H1, I1, st1.env o en, o1, st.trans st1, hF.step o st1 f⟩, kb _ _ nc r.run rfl, fun q hq => ⟨kb _ _ (fun z => (ix _ z).ap q hq rfl) (r.held q hq).1 (r.held q hq).2, (r.held q hq).2⟩, r.mine,
      fun i x e1 e2 e3 => kb _ _ (r.notown ix e1 e2 e3) (r.oth i x e1 e2 e3) e3, r.low, r.gen, r.sz⟩)
  | @cons d rest o1 o2 ρ ρ1 ρ2 ρ3 hd hb lp ih =>
    intro gs O J s0 H0 m S Ow s r ix
    obtain ⟨σ, H, I0, en, o, st, f, hgi⟩ := r.ex
    refine sq_forLoop ?_
    rw [gl.over]
    refine wpAny_mono (pull (X := C.X s0 H0) hr I0 o hgi) (fun u s1 ⟨kb, v, x, H1, gs1, O1, J1, hu, rx, rd, I1, st1, ok1, su, hg1, ix1⟩ => ?_) fun _ _ q => q
    subst hu
    have nc : ¬ T3.own Ci J C.g := fun z => (ix _ z).ne rfl
    have ig : s1.heap.IsGen Ci.a Ci.g := let ⟨go, h1, h2⟩ := hg1.gen; h2.is (hg1.pn (Ci.a, go) h1).2.1
    refine go_gen ig ?_
    have kheld : ∀ q ∈ I, s1.gens[q.1]? = some q.2 := fun q hq => kb _ _ (fun z => (ix _ z).ap q hq rfl) (r.held q hq).1 (r.held q hq).2
    have run1 := kb _ _ nc r.run rfl
    have idx : ∀ i, T3.own Ci J1 i → Ix C Ow s0 I i := fun i z => by
      rcases z with rfl | ⟨q, hq, rfl⟩
      · exact ix _ (.inl rfl)
      · rcases ix1 q hq with z | z
        · exact ix _ z
        · refine ⟨fun e => ?_, fun q2 hq2 e => ?_, ?_⟩
          · have := z _ (by rw [e]; exact r.run)
            cases this
          · have := z _ (by rw [← e]; exact (r.held q2 hq2).1)
            rw [(r.held q2 hq2).2] at this
            cases this
          · by_cases hO : Ow q.1
            · exact .inl hO
            · refine .inr fun y e => ?_
              cases hy : isSus y with
              | false => rfl
              | true =>
                have := z _ (r.oth _ y hO e hy)
                rw [hy] at this
                cases this
    have low1 : ∀ p ∈ O1, C.L ≤ p.1 := fun p hp => Nat.le_trans hL (hg1.pn p hp).1
    have r1 : Rn C s0 H0 m S Ow (pins ++ O1) ((Ci.g, gs1) :: (J1 ++ I)) (fun m H => (F m H ∧ Wk Ci rest gs1 O1 J1 H m) ∧ Rep C.K C.cl (NN C.B m) H x d) ρ s1 :=
      ⟨⟨σ, H1, hg1.pinned I1, st1.env o en, ok1, st.trans st1, ⟨hF.step o st1 f, hg1.wk⟩, rd⟩, run1, fun q hq => by
        rcases List.mem_cons.mp hq with rfl | hq
        · exact ⟨hg1.here, su⟩
        · rcases List.mem_append.mp hq with hq | hq
          · exact hg1.held q hq
          · exact ⟨kheld q hq, (r.held q hq).2⟩, fun q hq => by
        rcases List.mem_cons.mp hq with rfl | hq
        · exact ⟨(idx _ (.inl rfl)).ne, (idx _ (.inl rfl)).mine⟩
        · rcases List.mem_append.mp hq with hq | hq
          · exact ⟨(idx _ (.inr ⟨q, hq, rfl⟩)).ne, (idx _ (.inr ⟨q, hq, rfl⟩)).mine⟩
          · exact r.mine q hq,
        fun i x e1 e2 e3 => kb _ _ (r.notown ix e1 e2 e3) (r.oth i x e1 e2 e3) e3, fun p hp => by
        rcases List.mem_append.mp hp with hp | hp
        · exact r.low p hp
        · exact low1 p hp, let ⟨go, h1, h2⟩ := r.gen; ⟨go, List.mem_append_left _ h1, h2⟩, r.sz⟩
    have hF1 : Mon C fun m H => F m H ∧ Wk Ci rest gs1 O1 J1 H m := fun _ _ _ _ _ o st q => ⟨hF _ _ _ _ _ o st q.1, wk_mono q.2 st⟩
    refine wpAny_mono (rn_assign hF1 hg ht hd rx r1) (fun _ s3 r3 => ?_) fun _ _ q => q
    rw [List.append_assoc]
    refine hb _ _ _ _ id id gl (o2 ++ rem) (pins ++ O1) ((Ci.g, gs1) :: (J1 ++ I)) (fun m H => F m H ∧ Wk Ci rest gs1 O1 J1 H m) hF1 (fun s0' H0' m' S' Ow' s4 r4 => ?_) s0 H0 m S Ow s3 r3
    refine sq_again rfl ?_
    obtain ⟨σ4, H4, I4, en4, ok4, st4, f4, wk4⟩ := r4.ex
    have idx4 : ∀ i, T3.own Ci J1 i → Ix C Ow' s0' I i := fun i z => by
      have hm : ∃ q ∈ (Ci.g, gs1) :: (J1 ++ I), q.1 = i := by
        rcases z with rfl | ⟨q, hq, rfl⟩
        · exact ⟨_, List.mem_cons_self, rfl⟩
        · exact ⟨q, List.mem_cons_of_mem _ (List.mem_append_left _ hq), rfl⟩
      obtain ⟨q, hq, rfl⟩ := hm
      exact ⟨(r4.mine q hq).1, (idx _ z).ap, (r4.mine q hq).2⟩
    refine ih hk gs1 O1 J1 s0' H0' m' S' Ow' s4 ⟨⟨σ4, H4, I4.unpinned, en4, ok4, st4, f4, ⟨hg1.eqs, hg1.ok, ⟨Nat.le_trans trunc_size hL, hg1.lo.loc, hg1.lo.cell, hg1.lo.pin, hg1.lo.fr⟩, (r4.held _ List.mem_cons_self).1, fun p hp => ?_, hg1.gen,
      fun q hq => r4.held q (List.mem_cons_of_mem _ (List.mem_append_left _ hq)), hg1.ne, wk4⟩⟩, r4.run, fun q hq => r4.held q (List.mem_cons_of_mem _ (List.mem_append_right _ hq)), fun q hq => r4.mine q (List.mem_cons_of_mem _ (List.mem_append_right _ hq)), r4.oth,
      fun p hp => r4.low p (List.mem_append_left _ hp), gn, r4.sz⟩ idx4
    obtain ⟨q1, q2, _⟩ := I4.pin p (List.mem_append_right _ (List.mem_append_right _ hp))
    exact ⟨(hg1.pn p hp).1, q1, q2, (hg1.pn p hp).2.2.2⟩
theorem gj_forG (h : C.Ok) {k n : Nat} {nm : Str} {gf : List D → Option (List D)} {tg e : Expr} {es : List Expr} {body : List Stmt} {c : CA} {g : TG} {t : CT} {p pos pos2 : Pos} {ds ys outs : List D} (G : GDef C.P C.w C.K C.mg C.base C.cl k nm n gf) (hk : k ≤ C.k)
    (hgl : ∀ s H, Gl (C.X s H) nm) (ha : ∀ s H, PA (C.X s H) (e :: es) (tML C.K C.cl W0 c)) (hd : ∀ S, c ρ S = .ok (ds.map A.val) S) (hn : ds.length = n) (hgf : gf ds = some ys) (hg : ∀ s H, PG (C.X s H) tg g) (ht : TgOk C.K C.cl g t) (lp : Lp C t body ys ρ outs ρ')
    (hdb : (nm == ("__debug__" : Str)) = false := by decide) (he : starEach (e :: es) C.env = (false, eval e C.env) :: starEach es C.env := by rfl) (hpl : (backTo pos2 (starEach es C.env)).any (·.1) = false := by rfl)
    (hs : ∀ x, foldedSetIterable (.Call (.Name nm p) (e :: es) [] pos2) C.env x = pure x := by intro _; rfl) :
    GJ C (exec (.For tg (.Call (.Name nm p) (e :: es) [] pos2) body [] pos) C.env) ρ outs ρ' := fun c1 fs K J gd lv gp rem pins I F hF hkk s0 H0 m S Ow s r => by
  obtain ⟨σ, H, I0, en, o, st, f⟩ := r.ex
  refine sq_For hs ?_
  rw [gp.over]
  refine wpAny_mono (made_gen (X := C.X s0 H0) xback_gf G h.room hk h.guards (hgl s0 H0) (ha s0 H0) hdb he hpl (hd S) hn hgf I0 o en) (fun u s1 ⟨kg, Ci, cc, O, H1, m1, eu, I1, st1, o1, hg1, fr⟩ => ?_) fun _ _ q => q.elim
  have := same_m o st1 o1
  subst this
  subst eu
  have ig : s1.heap.IsGen Ci.a Ci.g := let ⟨go, h1, h2⟩ := hg1.gen; h2.is (hg1.pn (Ci.a, go) h1).2.1
  refine wpAny_pyIter_gen ig fun p1 => ?_
  refine sq_turnsG h hF hg ht gp r.gen (Nat.le_of_lt hg1.lo.loc) h.room (fun s0 H0 m S Ow s r4 => hkk s0 H0 m S Ow s r4) lp (.fresh cc) O [] s0 H0 _ S Ow s1
    ⟨⟨σ, H1, I1, st1.env o en, o1, st.trans st1, hF.step o st1 f, hg1⟩, kg _ _ r.run rfl, fun q hq => ⟨kg _ _ (r.held q hq).1 (r.held q hq).2, (r.held q hq).2⟩, r.mine, fun i x e1 e2 e3 => kg _ _ (r.oth i x e1 e2 e3) e3, r.low, r.gen, r.sz⟩ fun i z => ?_
  rcases z with rfl | ⟨q, hq, _⟩
  · refine ⟨fun e => ?_, fun q hq e => ?_, ?_⟩
    · have := fr _ (by rw [e]; exact r.run)
      cases this
    · have := fr _ (by rw [← e]; exact (r.held q hq).1)
      rw [(r.held q hq).2] at this
      cases this
    · by_cases hO : Ow Ci.g
      · exact .inl hO
      · refine .inr fun y e => ?_
        cases hy : isSus y with
        | false => rfl
        | true =>
          have := fr _ (r.oth _ y hO e hy)
          rw [hy] at this
          cases this
  · simp at hq
end
end T3
namespace T3
open PySem PySem.Spec PyProof.Rows L2
theorem hu1 {k : Nat} {A : Around} (r : Room k A) : A.units + 1 < cLine := by have := r.un; omega
noncomputable def cRev (fr : Bool) (c : CE) : CE := fun ρ S => (c ρ S).bind fun x S1 => match asL S1 x with
  | some ds => mkL fr ds.reverse S1
  | none => .bad
section
variable {X : Cx} {cl : ClT} {W : WX}
theorem pm_rev (fr : Bool) {e : Expr} {c : CE} {k : Nat} {p1 p2 p3 pos : Pos} (he : PE X e (tM X.K cl W c)) : PE X (.Subscript e (.Slice none none (some (.UnaryOp .USub (.Constant (.int 1) k p1) p2)) p3) pos) (tM X.K cl W (cRev fr c)) :=
  PE.imp (pe_revL he) fun σ H Q h => by
  obtain ⟨B, m, S, ρ, o, en, fin⟩ := h
  refine ⟨B, m, S, ρ, o, en, Fin.bind fin fun x S1 v H1 m1 s1 o1 r1 f1 => ?_⟩
  split at f1
  · rename_i ds hd
    obtain ⟨a, vs, rfl, q, rl⟩ := asL_ok o1 r1 hd
    exact ⟨a, vs, rfl, q, fun p hp => mkL_ok o1 rl.reverse hp f1⟩
  · exact f1.elim
noncomputable def strsV : List Value → Option (List Str)
  | [] => some []
  | .str s _ :: r => (strsV r).map (s :: ·)
  | _ :: _ => none
noncomputable def CnT (K : PySem.W.Frag) (mg : Str → Option Value) (nm : Str) (xs : List Str) : Prop := ∃ (a : Addr) (its : Array Value) (n : Nat) (sl : Array (Option Value)), mg nm = some (.ref a) ∧ K.lookup a = some ⟨.type "tuple", none, .seq its n, sl⟩ ∧ szOk its.size = true ∧ strsV its.toList = some xs
theorem cnT_mk {K : PySem.W.Frag} {mg : Str → Option Value} {h : Heap} {nm : Str} {xs : List Str} {a : Addr} {its : Array Value} {n : Nat} {sl : Array (Option Value)} (X : K.In h) (G : h.Ns mainGlobals mg) (q : PySem.W.nsIn K mainGlobals nm = some (some (.ref a)))
    (l : K.lookup a = some ⟨.type "tuple", none, .seq its n, sl⟩) (hz : szOk its.size = true) (hs : strsV its.toList = some xs) : CnT K mg nm xs := ⟨a, its, n, sl, PySem.W.mg_of X G q, l, hz, hs⟩
theorem strsV_vals : ∀ {us : List Value} {xs : List Str}, strsV us = some xs → Vals (xs.map V.str) us
  | [], xs, h => by cases h; exact .nil
  | u :: r, xs, h => by
    cases u with
    | str s t =>
      simp only [strsV, Option.map_eq_some_iff] at h
      obtain ⟨ys, h, rfl⟩ := h
      exact .cons ⟨t, rfl⟩ (strsV_vals h)
    | _ => cases h
theorem repL_strs {K : PySem.W.Frag} {N : Addr → Prop} {H : Hp} : ∀ xs : List Str, RepL K cl N H (xs.map V.str) (xs.map D.str)
  | [] => .nil
  | x :: r => .cons (.str x) (repL_strs r)
theorem pm_gT {x : Str} {xs : List Str} {d : D} {pos : Pos} (h : CnT X.K X.mg x xs) (e : d = .tup (xs.map D.str)) (hg : Gl X x := by rfl) (hd : (x == ("__debug__" : Str)) = false := by decide) : PE X (.Name x pos) (tM X.K cl W (cK d)) := by
  subst e
  obtain ⟨a, its, n, sl, h1, h2, h3, h4⟩ := h
  exact pm_c (pe_glob (v := .ref a) hg h1 rfl hd) fun N H => .tup (.inr ⟨_, its, n, h2, rfl, rfl, rfl, szOk_line h3, strsV_vals h4⟩) (repL_strs xs)
noncomputable def lookS : List (Str × Int) → Str → Option Int
  | [], _ => none
  | (k, v) :: r, x => if k = x then some v else lookS r x
noncomputable def cDGetC (kvs : List (Str × Int)) (ck cd : CE) : CE := fun ρ S => (ck ρ S).bind fun x S1 => (cd ρ S1).bind fun y S2 => match x, y with
  | .val (.str k), .val (.int d) => .ok (.val (.int ((lookS kvs k).getD d))) S2
  | _, _ => .bad
noncomputable def trC (kvs : List (Str × Int)) : List (TE × TE) := kvs.map fun kv => (tC (.str kv.1), tC (.int kv.2))
theorem tPairs_c {σ : L2.St} {Q : List (V × V) → Hp → Prop} : ∀ {kvs : List (Str × Int)} {H : Hp}, Q (kvs.map fun kv => (V.str kv.1, V.int kv.2)) H → tPairs (trC kvs) σ H Q
  | [], H, q => q
  | kv :: r, H, q => tPairs_c (kvs := r) (Q := fun ps H3 => Q ((V.str kv.1, V.int kv.2) :: ps) H3) q
theorem look_find : ∀ (kvs : List (Str × Int)) (k : Str), (kvs.map Prod.fst).Nodup → valV ((kvs.map fun kv => ((Sum.inr kv.1 : Key), V.int kv.2))) (Sum.inr k : Key) = (lookS kvs k).map V.int
  | [], k, _ => rfl
  | (a, b) :: r, k, h => by
    have ih := look_find r k (List.nodup_cons.mp h).2
    unfold valV at ih ⊢
    rw [List.map_cons, List.find?_cons]
    by_cases e : a = k
    · subst e
      simp [lookS]
    · have e2 : decide ((Sum.inr a : Key) = Sum.inr k) = false := decide_eq_false fun z => e (Sum.inr.inj z)
      simp only [e2, lookS, if_neg e]
      exact ih
theorem merge_new : ∀ (l acc : List (Key × V)), (l.map Prod.fst).Nodup → (∀ a ∈ acc.map Prod.fst, a ∉ l.map Prod.fst) → mergeK acc l = acc ++ l
  | [], acc, _, _ => by simp [mergeK]
  | (k, v) :: r, acc, h, hd => by
    have h1 := List.nodup_cons.mp h
    have hp : putK acc k v = acc ++ [(k, v)] := by
      unfold putK
      rw [if_neg]
      intro z
      rw [List.any_eq_true] at z
      obtain ⟨p, hp, e⟩ := z
      have e := of_decide_eq_true e
      exact hd p.1 (List.mem_map.mpr ⟨p, hp, rfl⟩) (by rw [e]; simp)
    show mergeK (putK acc k v) r = _
    rw [hp, merge_new r (acc ++ [(k, v)]) h1.2 (fun a ha hr => ?_)]
    · simp
    · rw [List.map_append, List.mem_append] at ha
      rcases ha with ha | ha
      · exact hd a ha (List.mem_cons_of_mem _ hr)
      · simp at ha
        rw [ha] at hr
        exact h1.1 hr
theorem pm_dgetC (kvs : List (Str × Int)) {keys : List (Option Expr)} {vals : List Expr} {ek ed : Expr} {ck cd : CE} {dpos apos pos : Pos} (hu : X.A.units + 1 < cLine) (hp : PPs X dpos keys vals (trC kvs)) (hk : PE X ek (tM X.K cl W ck)) (hd : PE X ed (tM X.K cl W cd))
    (mm : M2 X (.Dict keys vals dpos) "get" apos ek ed pos) (hall : keys.all (·.isSome) = true := by rfl) (hl : keys.length = vals.length := by rfl) (h0 : keys ≠ [] := by exact fun z => by cases z) (h15 : keys.length ≤ 15 := by decide) (nd : (kvs.map Prod.fst).Nodup := by decide +kernel) (hkl : kvs.length ≤ 15 := by decide) :
    PE X (.Call (.Attribute (.Dict keys vals dpos) "get" apos) [ek, ed] [] pos) (tM X.K cl W (cDGetC kvs ck cd)) :=
  PE.imp (pe_dget2 hu (pe_disp hp hall hl h0 h15) hk hd mm) fun σ H Q h => by
  obtain ⟨B, m, S, ρ, o, en, fin⟩ := h
  refine fun p hp => tPairs_c ⟨upd_same, kvs.map fun kv => ((Sum.inr kv.1 : Key), V.int kv.2), by simp [kV], by simpa using hkl, ?_⟩
  have nd2 : ((kvs.map fun kv => ((Sum.inr kv.1 : Key), V.int kv.2)).map Prod.fst).Nodup := by
    rw [List.map_map]
    have : (Prod.fst ∘ fun kv : Str × Int => ((Sum.inr kv.1 : Key), V.int kv.2)) = (Sum.inr : Str → Key) ∘ Prod.fst := rfl
    rw [this, ← List.map_map]
    exact List.Pairwise.map _ (fun a b h e => h (Sum.inr.inj e)) nd
  rw [merge_new _ [] nd2 (fun a ha => by simp at ha), List.nil_append]
  obtain ⟨u, hu2⟩ : ∃ u : HO, u = .dK (kvs.map fun kv => ((Sum.inr kv.1 : Key), V.int kv.2)) := ⟨_, rfl⟩
  have eqh : upd (upd H p (.dK [])) p (.dK (kvs.map fun kv => ((Sum.inr kv.1 : Key), V.int kv.2))) = upd H p u := by
    rw [hu2]
    funext b
    by_cases e : b = p
    · subst e; rw [upd_same, upd_same]
    · rw [upd_ne e, upd_ne e, upd_ne e]
  rw [eqh]
  have st1 : Step H m (upd H p u) m := Step.new hp
  refine ⟨p, rfl, .inl ⟨_, .inl (by rw [upd_same, hu2])⟩, B, m, S, ρ, o.new hp, st1.env o en, ?_⟩
  have fin := Fin.step st1 fin
  refine Fin.bind fin fun x S1 v H1 m1 s1 o1 r1 f1 => ⟨B, m1, S1, ρ, o1, s1.env (o.new hp) (st1.env o en), Fin.bind f1 fun y S2 w H2 m2 s2 o2 r2 f2 => ?_⟩
  split at f2
  · rename_i k d
    have r1' := s2.rep o1 r1
    cases r1'
    cases r2
    have hpm : p ∉ m := fun z => by
      have := o.may (.inr z)
      exact this hp
    have hpm1 : p ∉ m1 := fun z => by
      obtain ⟨r, e, hr⟩ := s1.ext
      rw [e] at z
      rcases List.mem_append.mp z with z | z
      · exact hpm z
      · have := hr p z
        rw [upd_same] at this
        cases this
    have h2 : H2 p = some (.dK (kvs.map fun kv => ((Sum.inr kv.1 : Key), V.int kv.2))) := by
      have nu : NT u := by rw [hu2]; intro _ z; cases z
      rw [(s2.keep p u (s1.keep p u upd_same hpm nu) hpm1 nu), hu2]
    refine ⟨_, DGet.k (k := Sum.inr k) h2, ?_⟩
    rw [look_find kvs k nd]
    cases e : lookS kvs k with
    | none => rw [e] at f2; exact f2.here o2 (.int _)
    | some z => rw [e] at f2; exact f2.here o2 (.int _)
  · exact f2.elim
end
end T3
namespace T3
open PySem PySem.Spec PyProof.Rows L2
/-- what leaves a def's frame does not hang on the sealed generators -/
theorem xback_cx {P : Program} {w : World} {K : PySem.W.Frag} {mg : Str → Option Value} {base : Heap} {N : List Str} {qual : Str} {scope : Scope} {f : Addr} {cd : Value} {A : Around} {outer : List Env} {s : Shared} {H : Hp} {E : XK} : XBack (cxOf (L2.CX P w) P w K mg base N qual scope f cd A outer s H E) := by
  intro G a b b' e se k hb h
  have tr : ∀ {a' b1 : Shared} {u : Value}, Seal G a' b1 → (∀ i, G i → b1.gens[i]? = b'.gens[i]?) → L2.CX P w outer H s E u a' → L2.CX P w outer H s E u b1 := by
    rintro a' b1 u se1 k1 ⟨x, Bh, H', cls, d, rfl, fl, hok, ub, na, os, ag, hE⟩
    refine ⟨x, Bh, H', cls, d, rfl, by rw [se1.heap]; exact fl, hok, by rw [se1.heap]; exact ub, na, by rw [se1.os]; exact os, ?_, hE⟩
    exact back_bare se1 (fun i hi => (k1 i hi).trans (k i hi)) ag hb
  have h : wpAny (model P w) (A.deeper (envOfC qual scope s.heap.objs.size f cd)) (leaving (envOfC qual scope s.heap.objs.size f cd) e) (fun _ s'' => L2.CX P w outer H s E e s'') (fun e' s'' => L2.CX P w outer H s E e' s'') a := h
  exact wpAny_mono (wpAny_seal se h) (fun _ b1 ⟨a', se1, k1, q⟩ => tr se1 k1 q) fun _ b1 ⟨a', se1, k1, q⟩ => tr se1 k1 q
theorem tg_nm {K : PySem.W.Frag} {cl : ClT} (i : Nat) : TgOk K cl (gName i) (tgName i) := by
  intro B H m S S' v x σ ρ ρ' Q o e r h k
  cases h
  exact k _ H m Step.refl o (e.set i r)
theorem noc_of {l : List (Str × NameKind)} (h : l.all (fun y => y.2 != .cell && y.2 != .free) = true) (x : Str) : l.lookup x ≠ some .cell ∧ l.lookup x ≠ some .free := by
  have key : ∀ k, l.lookup x = some k → (k != .cell && k != .free) = true := fun k e => List.all_eq_true.mp h (x, k) (PySem.mem_of_lookup e)
  constructor
  · intro e
    have := key _ e
    simp at this
  · intro e
    have := key _ e
    simp at this
noncomputable def rowsL : List D → Nat → List (List D)
  | _, 0 => [[]]
  | xs, n + 1 => xs.flatMap fun x => (rowsL xs n).map (x :: ·)
noncomputable def gfRows (b : Nat) : List D → Option (List D)
  | [.lst xs, .int n] => if 0 ≤ n ∧ n ≤ b ∧ n ≤ 1000 then some ((rowsL xs n.toNat).map D.tup) else none
  | _ => none
section
variable {C : GF}
/-- the turns of a loop whose body keeps the two first slots -/
theorem lp_of {p q : Option A} {j : Nat} {body : List Stmt} {outs : D → List D} (hj : j = 2 ∨ j = 3) : ∀ {ys : List D}, (∀ d ∈ ys, ∀ x y, ∃ x' y', GJ C (execs body C.env) ([p, q, x, y].set j (some (.val d))) (outs d) [p, q, x', y']) → ∀ x y, ∃ x' y', Lp C (tgName j) body ys [p, q, x, y] (ys.flatMap outs) [p, q, x', y'] := by
  intro ys
  induction ys with
  | nil => exact fun _ x y => ⟨x, y, .nil⟩
  | cons d r ih =>
    intro h x y
    obtain ⟨x1, y1, g1⟩ := h d List.mem_cons_self x y
    obtain ⟨x2, y2, l2⟩ := ih (fun d hd => h d (List.mem_cons_of_mem _ hd)) x1 y1
    exact ⟨x2, y2, .cons (fun S => rfl) g1 l2⟩
theorem rowsL_len {xs : List D} : ∀ {n : Nat}, ∀ r ∈ rowsL xs n, r.length = n
  | 0, r, h => by
    have : r = [] := by simpa [rowsL] using h
    rw [this]; rfl
  | n + 1, r, h => by
    simp only [rowsL, List.mem_flatMap, List.mem_map] at h
    obtain ⟨x, _, q, hq, rfl⟩ := h
    rw [List.length_cons, rowsL_len q hq]
theorem tup_star {x : D} {r : List D} {p q : Option A} (h : r.length ≤ 1000) (S : Store) : cTup (cCons (cV 2) (cStar (cV 3) cNil)) [p, q, some (.val x), some (.val (.tup r))] S = .ok (.val (.tup (x :: r))) S := by
  have hv : valsOf (.val x :: (r.map A.val ++ [])) = some (x :: r) := by
    rw [List.append_nil]
    have : ∀ l : List D, valsOf (l.map A.val) = some l := fun l => by
      induction l with
      | nil => rfl
      | cons d l ih => rw [List.map_cons]; simp only [valsOf, ih, Option.map_some]
    exact this (x :: r)
  have hz : szOk (x :: r).length = true := decide_eq_true (by rw [List.length_cons]; omega)
  rw [ap_Tup, ap_Cons, ap_V]
  simp only [List.getElem?_cons_succ, List.getElem?_cons_zero, ap_Star, ap_V, ap_Nil, hv, hz, if_true]
/-- the text of all_rows -/
structure RowsText (C : GF) (nm : Str) (st : Stmt) : Prop where
  ex : ∃ e1 e2 e3 tg1 it1 tg2 a1 a2 p p1 p2 p3 p4 p5 p6 p7 p8,
    defBody st = [.If e1 [.Expr (.Yield (some e2) p1) p2] [.For tg1 it1 [.For tg2 (.Call (.Name nm p) [a1, a2] [] p3) [.Expr (.Yield (some e3) p4) p5] [] p6] [] p7] p8] ∧ interactive C.env = false ∧
    (∀ s H, PT (C.X s H) e1 (tMT C.K C.cl W0 (cBin fEq (cV 1) (cI 0)))) ∧ (∀ s H, PE (C.X s H) e2 (tM C.K C.cl W0 (cTup cNil))) ∧ (∀ s H, PI (C.X s H) tg1 it1 (tMI C.K C.cl W0 (ciV (cV 0)))) ∧ (∀ s H, PG (C.X s H) tg1 (gName 2)) ∧
    (∀ x, foldedSetIterable it1 C.env x = pure x) ∧ (∀ s H, Gl (C.X s H) nm) ∧ (∀ s H, PA (C.X s H) [a1, a2] (tML C.K C.cl W0 (cCons (cV 0) (cCons (cBin fSub (cV 1) (cI 1)) cNil)))) ∧ (∀ s H, PG (C.X s H) tg2 (gName 3)) ∧
    (nm == ("__debug__" : Str)) = false ∧ (starEach [a1, a2] C.env = (false, eval a1 C.env) :: starEach [a2] C.env) ∧ ((backTo p3 (starEach [a2] C.env)).any (·.1) = false) ∧ (∀ x, foldedSetIterable (.Call (.Name nm p) [a1, a2] [] p3) C.env x = pure x) ∧
    (∀ s H, PE (C.X s H) e3 (tM C.K C.cl W0 (cTup (cCons (cV 2) (cStar (cV 3) cNil)))))
theorem gj_rows (h : C.Ok) {nm : Str} {st : Stmt} (T : RowsText C nm st) {xs : List D} {n : Nat} (hn : n ≤ 1000) (inner : ∀ k, n = k + 1 → ∃ j, j ≤ C.k ∧ GDef C.P C.w C.K C.mg C.base C.cl j nm 2 (gfRows k)) :
    ∃ ρ', GJ C (execs (defBody st) C.env) [some (.val (.lst xs)), some (.val (.int n)), none, none] ((rowsL xs n).map D.tup) ρ' := by
  obtain ⟨e1, e2, e3, tg1, it1, tg2, a1, a2, p, p1, p2, p3, p4, p5, p6, p7, p8, eb, hint, h1, h2, hi, hg1, hf1, hgl, ha, hg2, hdb, he, hpl, hf2, h3⟩ := T.ex
  rw [eb]
  cases n with
  | zero => exact ⟨_, gj_one (gj_if (b := true) h1 (fun S => rfl) (gj_one (gj_yield h h2 (fun S => rfl) hint)))⟩
  | succ k =>
    obtain ⟨j, hj, G⟩ := inner k rfl
    have hk : k ≤ 1000 := by omega
    have e : ((k + 1 : Nat) : Int) - 1 = (k : Nat) := by omega
    have hin : ∀ d ∈ xs, ∀ x y, ∃ x' y', GJ C (execs [.For tg2 (.Call (.Name nm p) [a1, a2] [] p3) [.Expr (.Yield (some e3) p4) p5] [] p6] C.env) ([some (.val (.lst xs)), some (.val (.int (k + 1 : Nat))), x, y].set 2 (some (.val d)))
        ((rowsL xs k).map fun r => D.tup (d :: r)) [some (.val (.lst xs)), some (.val (.int (k + 1 : Nat))), x', y'] := by
      intro d hd x y
      have lp : ∀ (l : List (List D)), (∀ r ∈ l, r.length ≤ 1000) → ∀ y, ∃ y', Lp C (tgName 3) [.Expr (.Yield (some e3) p4) p5] (l.map D.tup) [some (.val (.lst xs)), some (.val (.int (k + 1 : Nat))), some (.val d), y] (l.map fun r => D.tup (d :: r)) [some (.val (.lst xs)), some (.val (.int (k + 1 : Nat))), some (.val d), y'] := by
        intro l
        induction l with
        | nil => exact fun _ y => ⟨y, .nil⟩
        | cons r l ih =>
          intro hl y
          obtain ⟨y', q⟩ := ih (fun r hr => hl r (List.mem_cons_of_mem _ hr)) (some (.val (.tup r)))
          exact ⟨y', .cons (o1 := [.tup (d :: r)]) (fun S => rfl) (gj_one (gj_yield h h3 (fun S => tup_star (hl r List.mem_cons_self) S) hint)) q⟩
      obtain ⟨y', q⟩ := lp (rowsL xs k) (fun r hr => by rw [rowsL_len r hr]; omega) y
      refine ⟨_, y', gj_one (gj_forG h (ds := [.lst xs, .int (k : Nat)]) (ys := (rowsL xs k).map D.tup) G hj hgl ha (fun S => ?_) rfl ?_ hg2 (tg_nm 3) q hdb he hpl hf2)⟩
      · show LRes.ok [.val (.lst xs), .val (.int (((k + 1 : Nat) : Int) - 1))] S = _
        rw [e]
        rfl
      · simp only [gfRows]
        rw [if_pos ⟨by omega, by omega, by omega⟩]
        simp
    obtain ⟨x', y', q⟩ := lp_of (C := C) (body := [.For tg2 (.Call (.Name nm p) [a1, a2] [] p3) [.Expr (.Yield (some e3) p4) p5] [] p6]) (j := 2) (.inl rfl) hin none none
    have e2 : (rowsL xs (k + 1)).map D.tup = xs.flatMap fun d => (rowsL xs k).map fun r => D.tup (d :: r) := by
      simp only [rowsL, List.map_flatMap, List.map_map]
      rfl
    rw [e2]
    refine ⟨_, gj_one (gj_if (b := false) h1 (fun S => ?_) (gj_one (gj_for h hi (fun S => rfl) hg1 (tg_nm 2) q hf1)))⟩
    show Res.ok (.val (.bl (((k + 1 : Nat) : Int) == 0))) S = _
    have : (((k + 1 : Nat) : Int) == 0) = false := by
      rw [beq_eq_false_iff_ne]; omega
    rw [this]
end
theorem gd_rows {P : Program} {w : World} {K : PySem.W.Frag} {mg : Str → Option Value} {base : Heap} {cl : ClT} {nm : Str} {st : Stmt} {fa : Addr} {fd : FuncData} {N ps : List Str} (hm : mg nm = some (.ref fa)) (hb : Binds K fd ps []) (hn : ps.length = 2) (hN : N.length = 4) (F : Fun K nm nm st fa fd)
    (kind : (defScope st).kind = .function) (co : (defScope st).isCoroutine = false) (gen : (defScope st).isGenerator = true) (nd : N.Nodup) (pre : N.take ps.length = ps) (loc : ∀ x ∈ N, (defScope st).names.lookup x = some .local) (noc : ∀ x, (defScope st).names.lookup x ≠ some .cell ∧ (defScope st).names.lookup x ≠ some .free)
    (cells : ∀ n, cellsFrom n (defScope st).names [] = []) (T : ∀ (C : GF), C.P = P → C.w = w → C.K = K → C.mg = mg → C.base = base → C.cl = cl → C.N = N → C.sc = defScope st → C.Ok → RowsText C nm st) : ∀ b : Nat, GDef P w K mg base cl (2 * b + 2) nm 2 (gfRows b) := by
  intro b
  induction b with
  | zero =>
    refine gen_of hm hb hn F kind co gen nd pre loc noc cells fun C h1 h2 h3 h4 h5 h6 h7 h8 h9 ok ds xs hl hg => ?_
    unfold gfRows at hg
    split at hg
    · split at hg
      · rename_i ys n hc
        cases hg
        have hz : n = ((0 : Nat) : Int) := by omega
        subst hz
        rw [hN]
        exact gj_rows ok (T C h1 h2 h3 h4 h5 h6 h7 h8 ok) (n := 0) (by omega) fun k hk => by omega
      · cases hg
    · cases hg
  | succ b ih =>
    have e : 2 * (b + 1) + 2 = (2 * b + 2) + 2 := by omega
    rw [e]
    refine gen_of hm hb hn F kind co gen nd pre loc noc cells fun C h1 h2 h3 h4 h5 h6 h7 h8 h9 ok ds xs hl hg => ?_
    unfold gfRows at hg
    split at hg
    · split at hg
      · rename_i ys n hc
        cases hg
        obtain ⟨n, rfl⟩ : ∃ k : Nat, n = (k : Int) := ⟨n.toNat, by omega⟩
        rw [hN, Int.toNat_natCast]
        refine gj_rows ok (T C h1 h2 h3 h4 h5 h6 h7 h8 ok) (n := n) (by omega) fun k hk => ⟨2 * b + 2, Nat.le_of_eq h9.symm, ?_⟩
        subst h1 h2 h3 h4 h5 h6
        refine ⟨let ⟨fa, fd, ps, q1, q2, q3, q4, q5⟩ := ih.ex; ⟨fa, fd, ps, q1, q2, q3, q4, fun {A outer s H B m S us vs ds xs} a1 a2 a3 a4 a5 a6 a7 a8 a9 => q5 a1 a2 a3 a4 a5 a6 a7 ?_ a9⟩⟩
        unfold gfRows at a8 ⊢
        split at a8
        · split at a8
          · rename_i z
            rw [if_pos ⟨by omega, by omega, by omega⟩]
            exact a8
          · cases a8
        · cases a8
      · cases hg
    · cases hg
end T3
namespace T3
open PySem PySem.Spec PyProof.Rows L2
section
end
end T3
namespace T3
open PySem PySem.Spec PyProof.Rows L2
/-- what enumerate asks of the iterator below it -/
structure Inn (P : Program) (w : World) (K : PySem.W.Frag) (it : Addr) (tn : Nat → Heap → Prop) (go stop : Nat → Hp → Prop) (yl : Nat → Hp → V → Prop) : Prop where
  obj : ∀ i h, tn i h → ∃ o, h.get? it = some o ∧ ∀ v, o.data ≠ .cell v
  keep : ∀ i h h', tn i h → (∀ o, h.get? it = some o → h'.get? it = some o) → tn i h'
  draw : ∀ (X : Cx), X.prog = P → X.w = w → X.K = K → X.calm = true → ∀ (i : Nat) (pins : List (Addr × Obj)) (s : Shared) (σ : L2.St) (H : Hp), Inv X pins σ H s → tn i s.heap → (go i H ∨ stop i H) →
    ∃ (fp : List Addr) (n : Nat) (PP : Nat → Value → Prop) (St : Nat → Heap → Prop), Draws P w X.A.in1 it fp n PP St ∧ St i s.heap ∧ (go i H → i < n) ∧ (stop i H → n ≤ i ∧ St n s.heap) ∧ (∀ e old, IsEnum s.heap e it (i : Int) old → e ∉ fp) ∧
      ∀ u h', go i H → PP i u → St (i + 1) h' → tn (i + 1) h' ∧ ∃ x, RelV x u ∧ yl i H x
noncomputable def ItG (go stop : Nat → Hp → Prop) (yl : Nat → Hp → V → Prop) : It :=
  ⟨go, fun i H v H' => ∃ T x, v = .ref T ∧ H T = none ∧ H' = upd H T (.tup [.int (i : Nat), x]) ∧ yl i H x, stop⟩
theorem turn_enumG {P : Program} {w : World} {K : PySem.W.Frag} {elts : List Expr} {kk : Nat} {tpos : Pos} {e it : Addr} {tn : Nat → Heap → Prop} {go stop : Nat → Hp → Prop} {yl : Nat → Hp → V → Prop} (D : Inn P w K it tn go stop yl) :
    Turn P w K (.Tuple elts kk tpos) (ItG go stop yl) [e, it] e (fun i h => (∃ old, IsEnum h e it ((i : Nat) : Int) old) ∧ tn i h ∧ e ≠ it) where
  mem := List.mem_cons_self
  obj := fun i h st b hb => by
    obtain ⟨⟨old, he⟩, ht, _⟩ := st
    rcases List.mem_cons.mp hb with rfl | hb
    · exact ⟨_, he, fun v q => nomatch q⟩
    · rw [List.mem_singleton.mp hb]; exact D.obj i h ht
  keep := fun i h h' st k => by
    obtain ⟨⟨old, he⟩, ht, hne⟩ := st
    exact ⟨⟨old, k e List.mem_cons_self _ he⟩, D.keep i h h' ht fun o q => k it (by simp) o q, hne⟩
  item := by
    intro X hP hw hK hc i pins s σ H E I hf st hg
    obtain ⟨⟨old, he⟩, ht, hne⟩ := st
    obtain ⟨fp, n, PP, St, Dr, hst, hlt, _, hnin, out⟩ := D.draw X hP hw hK hc i pins s σ H I ht (.inl hg)
    subst hP hw hK
    obtain ⟨oi, hoi, _⟩ := D.obj i s.heap ht
    have hel : e < s.heap.objs.size := Heap.lt_size he
    have hil : it < s.heap.objs.size := Heap.lt_size hoi
    refine wpAny_pyNext_enum_itemD Dr he hst (hlt hg) hne (hnin e old he) fun u h1 tk hP1 ho hst1 hT hsz hk => ⟨_, rfl, wpAny_letOwnedTupleGo_enum (s := { s with heap := h1, toks := tk + 1 }) ho fun h2 he2 sb => ?_⟩
    obtain ⟨ht1, x, rx, hy⟩ := out u h1 hg hP1 hst1
    have hT2 : h2.get? s.heap.objs.size = some { cls := .type "tuple", data := .seq #[.int i tk, u] } := by
      rw [← hT]
      exact sb.2 _ (Nat.ne_of_gt hel)
    have nw : ObjOk X.prog X.w (upd H s.heap.objs.size (.tup [.int (i : Nat), x])) h2 s.heap.objs.size (.tup [.int (i : Nat), x]) :=
      ⟨by show 2 ≤ sizeLine; decide, [.int i tk, u], .cons ⟨tk, rfl⟩ (.cons rx .nil), ⟨_, hT2, rfl, _, rfl⟩⟩
    have kept : ∀ b o, b ∉ [e, it] → s.heap.get? b = some o → h2.get? b = some o := fun b o hb q => by
      have n1 : b ≠ e := fun z => hb (z ▸ List.mem_cons_self)
      have n2 : b ≠ it := fun z => hb (by rw [z]; exact List.mem_cons_of_mem _ List.mem_cons_self)
      exact (sb.2 b n1).trans (hk b o n1 n2 q)
    have I2 : Inv X pins σ (upd H s.heap.objs.size (.tup [.int (i : Nat), x])) { s with heap := h2, toks := tk + 1 } := I.turnedNew (ch := [e, it]) kept hf (Nat.le_refl _) nw
    refine ⟨.ref s.heap.objs.size, _, I2, rfl, ⟨_, x, rfl, I.hok.fresh (Nat.le_refl _), rfl, hy⟩, ⟨⟨u, by have q := he2; rw [show ((i + 1 : Nat) : Int) = (i : Int) + 1 by omega]; exact q⟩, D.keep _ _ _ ht1 fun o q => (sb.2 it hne.symm).trans q, hne⟩, fun b hb => ?_⟩
    have hbl : b < s.heap.objs.size := by
      rcases List.mem_cons.mp hb with rfl | hb
      · exact hel
      · rw [List.mem_singleton.mp hb]; exact hil
    rw [upd_ne (Nat.ne_of_lt hbl)]
    exact (hf b hb).1
  done := by
    intro X hP hw hK hc i pins s σ H E I hf st hg
    obtain ⟨⟨old, he⟩, ht, hne⟩ := st
    obtain ⟨fp, n, PP, St, Dr, hst, _, hstop, _, _⟩ := D.draw X hP hw hK hc i pins s σ H I ht (.inr hg)
    subst hP hw hK
    obtain ⟨f0, f1, f2, f3, f4, f5⟩ := hf it (by simp)
    exact wpAny_pyNext_enum_endD Dr he (hstop hg).2 fun h' eb => ⟨rfl, I.turned (t' := s.toks) (fun b o hb q => eb b o hb q) f0 f1 f3 f4 f5⟩
  self := fun A i s Q E st h => by
    obtain ⟨⟨_, he⟩, _⟩ := st
    exact wpAny_pyIter_enum he h
theorem inn_str {P : Program} {w : World} {K : PySem.W.Frag} {it : Addr} {x : Str} {t : Tok} : Inn P w K it (fun i h => h.IsStrIter it (strIterType x) x t i) (fun i _ => i < x.cps.size) (fun i _ => x.cps.size ≤ i ∧ i ≤ x.cps.size) (fun i _ v => ∃ c, x.cps[i]? = some c ∧ v = .str ⟨#[c]⟩) where
  obj := fun i h ⟨o, e, c, d⟩ => ⟨o, e, fun v z => by rw [d] at z; cases z⟩
  keep := fun i h h' ⟨o, e, r⟩ k => ⟨o, k o e, r⟩
  draw := by
    intro X hP hw hK hc i pins s σ H I ht hgs
    subst hP hw hK
    have hh : X.A.in1.handled = none := I.ok.hd hc
    refine ⟨_, _, _, _, Draws.text hh it x t, ht, id, fun hs => ⟨hs.1, by have e : i = x.cps.size := Nat.le_antisymm hs.2 hs.1; rw [← e]; exact ht⟩, fun e old he hm => ?_, fun u h' hg hp hst => ⟨hst, ?_⟩⟩
    · obtain ⟨o, e1, c1, d1⟩ := ht
      rw [List.mem_singleton.mp hm] at he
      have he : s.heap.get? it = some _ := he
      rw [e1] at he
      injection he with he
      rw [he] at c1
      have c2 : Value.type "enumerate" = Value.type (strIterType x) := c1
      injection c2 with c2
      unfold strIterType at c2
      split at c2 <;> exact absurd c2 (by decide)
    · obtain ⟨c, u', hx, rfl⟩ := hp
      exact ⟨.str ⟨#[c]⟩, ⟨u', rfl⟩, c, hx, rfl⟩
theorem inn_tup {P : Program} {w : World} {K : PySem.W.Frag} {a it : Addr} : Inn P w K it (fun i h => h.IsTupleIter it a i) (fun i H => ∃ xs x, SqT K H a xs ∧ xs[i]? = some x) (fun i H => ∃ xs, SqT K H a xs ∧ xs.length = i) (fun i H v => ∀ xs, SqT K H a xs → xs[i]? = some v) where
  obj := fun i h ⟨o, e, c, d⟩ => ⟨o, e, fun v z => by rw [d] at z; cases z⟩
  keep := fun i h h' st k => st.at fun o e => k o e
  draw := by
    intro X hP hw hK hc i pins s σ H I ht hgs
    subst hP hw hK
    have hh : X.A.in1.handled = none := I.ok.hd hc
    obtain ⟨xs, hq⟩ : ∃ xs, SqT X.K H a xs := by
      rcases hgs with ⟨xs, _, q, _⟩ | ⟨xs, q, _⟩ <;> exact ⟨xs, q⟩
    obtain ⟨its, rv, p, hz⟩ := I.tuple hq
    have p : s.heap.IsTuple a its.toArray := p
    have hl := rv.length
    have hai : a ≠ it := fun z => by
      obtain ⟨o1, e1, c1, d1⟩ := ht
      obtain ⟨o2, e2, c2, d2⟩ := p
      rw [z, e1] at e2
      injection e2 with e2
      rw [e2, c2] at c1
      exact absurd c1 (by decide)
    refine ⟨_, _, _, _, Draws.tuple hh it a hai its.toArray, ⟨ht, p⟩, fun ⟨ys, y, q, hy⟩ => ?_, fun ⟨ys, q, hy⟩ => ?_, fun e old he hm => ?_, fun u h' hg hp hst => ⟨hst.1, ?_⟩⟩
    · rw [I.tuple_inj q hq] at hy
      have := (List.getElem?_eq_some_iff.mp hy).1
      show i < its.toArray.size
      simp; omega
    · rw [I.tuple_inj q hq] at hy
      have e : its.toArray.size = i := by simp; omega
      exact ⟨Nat.le_of_eq e, by rw [e]; exact ht, p⟩
    · have he : s.heap.get? e = some _ := he
      rcases List.mem_cons.mp hm with z | z
      · obtain ⟨o1, e1, c1, d1⟩ := ht
        rw [z, e1] at he
        injection he with he
        rw [he] at c1
        have c2 : Value.type "enumerate" = Value.type "tuple_iterator" := c1
        injection c2 with c2
        exact absurd c2 (by decide)
      · obtain ⟨o1, e1, c1, d1⟩ := p
        rw [List.mem_singleton.mp z, e1] at he
        injection he with he
        rw [he] at c1
        have c2 : Value.type "enumerate" = Value.type "tuple" := c1
        injection c2 with c2
        exact absurd c2 (by decide)
    · obtain ⟨ys, y, q, hy⟩ := hg
      rw [I.tuple_inj q hq] at hy
      obtain ⟨u', hu, ru⟩ := rv.get hy
      have e : u' = u := by
        have hp : its.toArray[i]? = some u := hp
        rw [List.getElem?_toArray, hu] at hp
        injection hp
      subst e
      exact ⟨y, ru, fun zs hzs => by rw [I.tuple_inj hzs hq]; exact hy⟩
set_option maxHeartbeats 1000000 in
theorem enum_new1 {v : Value} {ob : Obj} {HP : Heap → Prop} (B : Begins v ob HP) :
    Meets (Builtin.«enumerate.__new__» ⟨[.type "enumerate", v], []⟩) (fun _ R s => HP s.heap ∧ R (.ok (.ret (.ref (s.heap.push ob).objs.size)))
      { s with heap := (s.heap.push ob).push { cls := .type "enumerate", data := .fields #[.none, .bool false, .ref s.heap.objs.size, rawInt 0, .none, .none] } }) :=
  .of_wp fun prog w A R s hh => by
    obtain ⟨hp0, g0, d0, tk0, os0⟩ := s
    obtain ⟨hP, hR⟩ := hh
    have hsub := sub_enumerate
    have it : ∀ {A' : Around} {E : Value → Shared → Prop} {Q : Value → Shared → Prop}, Q (.ref hp0.objs.size) ⟨hp0.push ob, g0, d0, tk0, os0⟩ → wpAny (model prog w) A' (pyIter v) Q E ⟨hp0, g0, d0, tk0, os0⟩ :=
      fun q => B.iter prog w _ _ ⟨hp0, g0, d0, tk0, os0⟩ _ hP q
    wp_walk using it
    refine wpAny_stack_any fun stk => wpAny_pure ?_
    split
    · rename_i cv _ _ _ _ _
      cases (cv == Value.type "enumerate") <;> (wp_walk using it; exact ⟨_, rfl, hR⟩)
    · wp_walk using it
      exact ⟨_, rfl, hR⟩
section
variable {prog : Program} {w : World} {A : Around} {E : Value → Shared → Prop} {s : Shared}
theorem enum_call1 {v : Value} {ob : Obj} {HP : Heap → Prop} {Q : Value → Shared → Prop} (B : Begins v ob HP) (hP : HP s.heap)
    (hq : ∀ h', IsEnum h' (s.heap.objs.size + 1) s.heap.objs.size 0 .none → h'.get? s.heap.objs.size = some ob → h'.objs.size = s.heap.objs.size + 2 → (∀ b u, s.heap.get? b = some u → h'.get? b = some u) → Q (.ref (s.heap.objs.size + 1)) { s with heap := h' }) :
    wpAny (model prog w) A (call (.type "enumerate") [v]) Q E s := by
  refine callType_new F.called_enumerate (by decide) (F.typeCall_enumerate_1 _) (F.newCall_enumerate_1 _) (fun x => F.args_object_init_2 x _) F.entry_enumerate_new (enum_new1 B) ⟨hP, ?_⟩
  have z1 : (s.heap.push ob).objs.size = s.heap.objs.size + 1 := by simp
  show _ ∧ _
  rw [z1]
  have e1 : IsEnum ((s.heap.push ob).push { cls := .type "enumerate", data := .fields #[.none, .bool false, .ref s.heap.objs.size, rawInt 0, .none, .none] }) (s.heap.objs.size + 1) s.heap.objs.size 0 .none := by
    show Heap.get? _ _ = _
    rw [← z1]
    exact Heap.get?_push_size _ rfl
  refine ⟨⟨_, e1, rfl⟩, hq _ e1 ?_ (by rw [Heap.size_push, z1]) fun b u x => ?_⟩
  · exact Heap.get?_push_of_some _ (Heap.get?_push_size _ B.free)
  · exact Heap.get?_push_of_some _ (Heap.get?_push_of_some _ x)
end
section
variable {X : Cx} {e : Expr} {ta : TA} {p pos tpos : Pos} {elts : List Expr} {kk : Nat}
theorem enum_pie {pins : List (Addr × Obj)} {s : Shared} {σ : L2.St} {H : Hp} {R : It → Hp → Prop} {h' : Heap} {tn : Nat → Heap → Prop} {go stop : Nat → Hp → Prop} {yl : Nat → Hp → V → Prop} (I : Inv X pins σ H s) (he : IsEnum h' (s.heap.objs.size + 1) s.heap.objs.size 0 .none) (ht : tn 0 h')
    (hk : ∀ b u, s.heap.get? b = some u → h'.get? b = some u) (D : Inn X.prog X.w X.K s.heap.objs.size tn go stop yl) (q : R (ItG go stop yl) H) : PIE X pins σ (.Tuple elts kk tpos) R (.ref (s.heap.objs.size + 1)) { s with heap := h' } :=
  ⟨s.heap.objs.size + 1, [s.heap.objs.size + 1, s.heap.objs.size], _, _, H, rfl, I.kept (t' := s.toks) hk, turn_enumG D, ⟨⟨.none, he⟩, ht, Nat.succ_ne_self _⟩, fun b hb => (by
    have hle : s.heap.objs.size ≤ b := by
      rcases List.mem_cons.mp hb with rfl | hb
      · exact Nat.le_succ _
      · exact Nat.le_of_eq (List.mem_singleton.mp hb).symm
    exact I.fpOk hle (I.hok.fresh hle)), q⟩
noncomputable def iEnumG (K : PySem.W.Frag) (ta : TA) : TI := fun σ H R => ta σ H fun vs H1 => (∃ x : Str, vs = [.str x] ∧ R (ItG (fun i _ => i < x.cps.size) (fun i _ => x.cps.size ≤ i ∧ i ≤ x.cps.size) (fun i _ v => ∃ c, x.cps[i]? = some c ∧ v = .str ⟨#[c]⟩)) H1) ∨
  ∃ a xs, vs = [.ref a] ∧ SqT K H1 a xs ∧ R (ItG (fun i H => ∃ xs x, SqT K H a xs ∧ xs[i]? = some x) (fun i H => ∃ xs, SqT K H a xs ∧ xs.length = i) (fun i H v => ∀ xs, SqT K H a xs → xs[i]? = some v)) H1
theorem pi_enumG (hg : Gl X "enumerate") (hm : X.mg "enumerate" = none) (ha : PA X [e] ta) (hs : starEach [e] X.env = [(false, eval e X.env)] := by rfl) : PI X (.Tuple elts kk tpos) (.Call (.Name "enumerate" p) [e] [] pos) (iEnumG X.K ta) := by
  refine ⟨fun pins s σ H R I h => Call_ (ld_blt I hg hm boot_enumerate (PyProof.Rows.callWith_type1 (thn (ha.run pos pins s σ H _ I h) fun us s1 hh => ?_) hs rfl))⟩
  obtain ⟨vs, H1, I1, r1, ⟨x, rfl, q⟩ | ⟨a, xs, rfl, hq, q⟩⟩ := hh
  · match r1 with
    | .cons r .nil =>
    obtain ⟨t, rfl⟩ := r
    exact enum_call1 (begins_text x t) trivial fun h' he ho hz hk => wpAny_pyIter_enum he (enum_pie I1 he ⟨_, ho, rfl, rfl⟩ hk inn_str q)
  · match r1 with
    | .cons r .nil =>
    cases r
    obtain ⟨its, rv, p', hz⟩ := I1.tuple hq
    exact enum_call1 (begins_tuple a its.toArray) (show s1.heap.IsTuple a its.toArray from p') fun h' he ho hz hk => wpAny_pyIter_enum he (enum_pie I1 he ⟨_, ho, rfl, rfl⟩ hk inn_tup q)
end
/-- enumerate over a list, a tuple, a text that nobody changes -/
noncomputable def ciEn (c : CE) : CI := fun ρ S => match c ρ S with
  | .ok (.val (.lst ds)) S1 => .ok (enumD 0 ds) S1
  | .ok (.val (.ro ds)) S1 => .ok (enumD 0 ds) S1
  | .ok (.val (.tup ds)) S1 => .ok (enumD 0 ds) S1
  | .ok (.val (.str s)) S1 => .ok (enumD 0 (signsD s)) S1
  | .exc e S1 => .exc e S1
  | _ => .bad
section
variable {X : Cx} {cl : ClT} {W : WX}
theorem src_enumG {K : PySem.W.Frag} {go stop : Nat → Hp → Prop} {yl : Nat → Hp → V → Prop} {P : (Addr → Prop) → Hp → Prop} {ds : List D} (hk : ∀ {N N' : Addr → Prop} {H H' : Hp}, P N H → Kp N N' H H' → P N' H')
    (hg : ∀ {N H} (i : Nat), P N H → i < ds.length → go i H) (hst : ∀ {N H}, P N H → stop ds.length H) (hy : ∀ {N H} (i : Nat) v, P N H → yl i H v → ∃ d, ds[i]? = some d ∧ Rep K cl N H v d) : Src K cl P (ItG go stop yl) (enumD 0 ds) := by
  refine ⟨fun h k => hk h k, fun i h hi => hg i h (by rw [enumD_len] at hi; exact hi), fun {B H m S} i {y H'} o h hy' => ?_, fun h => by rw [enumD_len]; exact hst h⟩
  obtain ⟨T, x, rfl, nT, rfl, hx⟩ := hy'
  obtain ⟨d, h1, h2⟩ := hy i x h hx
  refine ⟨.wt [.int (i : Nat), d], fun _ => ?_, Step.new nT, o.new nT, .wt (.inl upd_same) (o.fresh nT) (.cons (.int _) (.cons (h2.mono (Kp.new nT)) .nil))⟩
  have := enumD_get 0 ds i d h1
  rwa [Nat.zero_add] at this
theorem pi_en {e : Expr} {c : CE} {p pos tpos : Pos} {elts : List Expr} {kk : Nat} (hm : X.mg "enumerate" = none) (he : PE X e (tM X.K cl W c)) (hg : Gl X "enumerate" := by rfl) (hs : starEach [e] X.env = (false, eval e X.env) :: starEach [] X.env := by rfl) :
    PI X (.Tuple elts kk tpos) (.Call (.Name "enumerate" p) [e] [] pos) (tMI X.K cl W (ciEn c)) :=
  PI.imp (PI.or (pi_e hm he hg hs) (pi_enumG hg hm (pa_cons he pa_nil hs) hs)) fun σ H R h => by
  obtain ⟨B, m, S, ρ, o, e, fin⟩ := h
  unfold ciEn at fin
  cases hc : c ρ S with
  | bad => rw [hc] at fin; exact fin.elim
  | exc e' S1 =>
    rw [hc] at fin
    exact .inl ⟨B, m, S, ρ, o, e, by unfold ciE; rw [hc]; exact fin⟩
  | ok x S1 =>
    rw [hc] at fin
    cases x with
    | ref i => exact fin.elim
    | val d =>
      cases d with
      | lst ds => exact .inl ⟨B, m, S, ρ, o, e, by unfold ciE; rw [hc]; exact fin⟩
      | ro ds => exact .inl ⟨B, m, S, ρ, o, e, by unfold ciE; rw [hc]; exact fin⟩
      | tup ds =>
        refine .inr ⟨B, m, S, ρ, o, e, ?_⟩
        rw [hc]
        intro v H1 m1 s1 o1 r1
        obtain ⟨a, vs, rfl, q, rl⟩ := asT_ok (x := .val (.tup ds)) r1 rfl
        refine .inr ⟨a, vs, rfl, q, fin _ _ H1 m1 s1 o1 r1 (src_enumG (P := fun N H => Rep X.K cl N H (.ref a) (.tup ds)) (fun h k => h.mono k) (fun i h hi => ?_) (fun h => ?_) fun i v h hy => ?_)⟩
        · cases h with
          | tup e r =>
            obtain ⟨v, e', _⟩ := r.got (List.getElem?_eq_getElem hi)
            exact ⟨_, v, e.seq, e'⟩
        · cases h with
          | tup e r => exact ⟨_, e.seq, r.length⟩
        · cases h with
          | tup e r => exact r.get (hy _ e.seq)
      | str x =>
        refine .inr ⟨B, m, S, ρ, o, e, ?_⟩
        rw [hc]
        intro v H1 m1 s1 o1 r1
        cases r1
        refine .inl ⟨x, rfl, fin _ _ H1 m1 s1 o1 trivial (src_enumG (P := fun _ _ => True) (fun h k => h) (fun i h hi => ?_) (fun h => ?_) fun i v h hy => ?_)⟩
        · simpa [signsD] using hi
        · simp [signsD]
        · obtain ⟨c, hc', rfl⟩ := hy
          refine ⟨.str ⟨#[c]⟩, ?_, .str _⟩
          rw [← Array.getElem?_toList] at hc'
          simp only [signsD, List.getElem?_map, hc']
          rfl
      | _ => exact fin.elim
end
section
variable {ρ : Slots} {S : Store}
@[simp ↓] theorem ap_En {c : CE} : ciEn c ρ S = (match c ρ S with | .ok (.val (.lst ds)) S1 => .ok (enumD 0 ds) S1 | .ok (.val (.ro ds)) S1 => .ok (enumD 0 ds) S1 | .ok (.val (.tup ds)) S1 => .ok (enumD 0 ds) S1 | .ok (.val (.str s)) S1 => .ok (enumD 0 (signsD s)) S1 | .exc e S1 => .exc e S1 | _ => .bad) := rfl
end
end T3
namespace T3
open PySem PySem.Spec PyProof.Rows L2
section
variable {X : Cx} {cl : ClT} {W : WX}
noncomputable def rListT : List V → Hp → VK → Prop := fun xs H Q => ∃ z : Str, xs = [.str z] ∧ z.cps.size ≤ sizeLine ∧ ∀ l, H l = none → Q (.ref l) (upd H l (.lst (z.cps.toList.map fun c => .str ⟨#[c]⟩)))
theorem call_list_txt (hc : X.calm = true) : CallR X (.type "list") rListT := by
  rintro pins s σ H xs us Q I r ⟨z, rfl, hz, q⟩
  match r with
  | .cons ru .nil =>
  obtain ⟨t, rfl⟩ := ru
  refine call_list_str (I.ok.hd hc) z t (fun h' tk acc' c' hk hS hacc => ?_) hz
  refine ⟨.ref s.heap.objs.size, _, I.laid hk (Nat.le_refl _) (show ObjOk X.prog X.w (upd H s.heap.objs.size (.lst (z.cps.toList.map fun c => .str ⟨#[c]⟩))) h' s.heap.objs.size (.lst (z.cps.toList.map fun c => .str ⟨#[c]⟩)) from ⟨?_, acc'.toList, c', ?_, ?_⟩), rfl, q _ (I.hok.fresh (Nat.le_refl _))⟩
  · simpa using hz
  · refine vals_of_at (by simp [hacc.1]) fun j x w h1 h2 => ?_
    obtain ⟨c, u, hcu, rfl⟩ := hacc.2 j w (by rw [← Array.getElem?_toList]; exact h2)
    rw [List.getElem?_map, Array.getElem?_toList, hcu] at h1
    cases h1
    exact ⟨u, rfl⟩
  · rw [Array.toArray_toList]; exact hS
theorem CallR.or {f : Value} {r r' : List V → Hp → VK → Prop} (h : CallR X f r) (h' : CallR X f r') : CallR X f (fun xs H Q => r xs H Q ∨ r' xs H Q) := fun pins s σ H xs us Q I q hr => hr.elim (h pins s σ H xs us Q I q) (h' pins s σ H xs us Q I q)
noncomputable def keyD : Key → D
  | .inl i => .int i
  | .inr x => .str x
/-- list(..) of a list, a tuple, a text, a dict -/
noncomputable def fList2 (fr : Bool) : List A → Store → Res
  | [.val (.str s)], S => if szOk s.length then mkL fr (signsD s) S else .bad
  | [.val (.dic ks ds)], S => mkL fr (ks.map keyD) S
  | [.ref i], S => (match S[i]? with
    | some (.dic ks ds) => mkL fr (ks.map keyD) S
    | some (.lst ds) => mkL fr ds S
    | _ => .bad)
  | xs, S => fList fr xs S
theorem rep_keys {K : PySem.W.Frag} {N : Addr → Prop} {H : Hp} : ∀ {ks : List Key} {xs : List V}, ks.length = xs.length → RepL K cl N H ((ks.zip xs).map fun kv => kV kv.1) (ks.map keyD)
  | [], [], _ => .nil
  | k :: ks, x :: xs, h => .cons (by cases k <;> first | exact .int _ | exact .str _) (rep_keys (by simpa using h))
theorem rep_signs {K : PySem.W.Frag} {N : Addr → Prop} {H : Hp} (s : Str) : RepL K cl N H (s.cps.toList.map fun c => V.str ⟨#[c]⟩) (signsD s) := by
  unfold signsD
  generalize s.cps.toList = l
  induction l with
  | nil => exact .nil
  | cons x r ih => exact .cons (.str _) ih
theorem ok_list2 (fr : Bool) : CaOk X.K cl (fun xs H Q => (∃ p ys, xs = [.ref p] ∧ (SqL X.K H p ys ∨ SqT X.K H p ys) ∧ ∀ l, H l = none → Q (.ref l) (upd H l (.lst ys))) ∨ rListT xs H Q ∨ rListD xs H Q) (fList2 fr) := by
  intro B H m S σ W vs xs Q o r h
  unfold fList2 at h
  split at h
  · rename_i s
    obtain ⟨v, rfl, r1⟩ := one_arg r
    cases r1
    split at h
    · rename_i hz
      exact .inr (.inl ⟨s, rfl, szOk_line hz, fun l hl => mkL_ok o (rep_signs s) hl h⟩)
    · exact h.elim
  · rename_i ks ds
    obtain ⟨v, rfl, r1⟩ := one_arg r
    cases r1 with
    | dic e n l rl => exact .inr (.inr ⟨_, _, rfl, e, fun q hq => mkL_ok o (rep_keys l) hq h⟩)
  · rename_i i
    obtain ⟨v, rfl, r1⟩ := one_arg r
    split at h
    · rename_i ks ds hi
      obtain ⟨a, ha, rfl⟩ := r1
      obtain ⟨xs, e, l, rl⟩ := o.obj i a _ ha hi
      exact .inr (.inr ⟨_, _, rfl, e, fun q hq => mkL_ok o (rep_keys l) hq h⟩)
    · rename_i ds hi
      refine .inl (ok_list (X := X) (cl := cl) (σ := σ) (W := W) fr o r ?_)
      unfold fList
      simp only [asL, hi]
      exact h
    · exact h.elim
  · exact .inl (ok_list (X := X) (cl := cl) (σ := σ) (W := W) fr o r h)
end
section
variable {S : Store} {fr : Bool} {i : Nat} {ds : List D} {ks : List Key} {s : Str}
@[simp] theorem list2_str : fList2 fr [.val (.str s)] S = if szOk s.length then mkL fr (signsD s) S else .bad := rfl
@[simp] theorem list2_dic : fList2 fr [.val (.dic ks ds)] S = mkL fr (ks.map keyD) S := rfl
@[simp] theorem list2_lst : fList2 fr [.val (.lst ds)] S = mkL fr ds S := rfl
@[simp] theorem list2_ro : fList2 fr [.val (.ro ds)] S = mkL fr ds S := rfl
@[simp] theorem list2_tup : fList2 fr [.val (.tup ds)] S = mkL fr ds S := rfl
@[simp] theorem list2_ref : fList2 fr [.ref i] S = (match S[i]? with | some (.dic ks ds) => mkL fr (ks.map keyD) S | some (.lst ds) => mkL fr ds S | _ => .bad) := rfl
end
end T3
namespace T3
open PySem PySem.Spec PyProof.Rows L2
section
variable {prog : Program} {w : World} {A : Around} {E : Value → Shared → Prop} {s : Shared}
theorem adjust_rev (n : Nat) : Builtin.Slice.sliceAdjust none none (-1) (n : Int) = ((n : Int) - 1, -1) := by
  unfold Builtin.Slice.sliceAdjust
  rfl
theorem places_rev (n : Nat) : Builtin.Slice.slicePlaces ((n : Int) - 1) (-1) (-1) = n := by
  unfold Builtin.Slice.slicePlaces
  rw [if_neg (by decide)]
  by_cases h : (n : Int) - 1 > -1
  · rw [if_pos h, show (- -1 : Int) = 1 by decide, Int.ediv_one]; omega
  · rw [if_neg h]; omega
theorem applied_rev {sl : Addr} {vs : Value} {n : Nat} {Q : Int × Int × Nat → Shared → Prop} (hs : s.heap.IsSliceOf sl .none .none vs) (ps : IsPart vs (some (-1))) (h : Q ((n : Int) - 1, -1, n) s) :
    wpAny (model prog w) A (Builtin.Slice.sliceApplied (.ref sl) (pure (n : Int))) Q E s := by
  obtain ⟨ob, e1, e2, e3⟩ := id hs
  unfold Builtin.Slice.sliceApplied Builtin.Slice.sliceFields
  refine wpAny_bind (wpAny_bind (wpAny_field e1 e3 (x := .none) rfl ?_))
  refine wpAny_bind (wpAny_field e1 e3 (x := .none) rfl (wpAny_bind (wpAny_field e1 e3 (x := vs) rfl (wpAny_pure ?_))))
  refine wpAny_bind (HT.slicePart_ ps ?_)
  show wpAny _ _ (if ((-1 : Int) == 0) = true then _ else _) _ _ s
  rw [if_neg (by decide)]
  refine wpAny_bind (slicePart_none (wpAny_bind (slicePart_none (wpAny_bind (wpAny_pure ?_)))))
  show wpAny _ _ (match Builtin.Slice.sliceAdjust none none (-1) (n : Int) with | (lo, hi) => pure (lo, (-1 : Int), Builtin.Slice.slicePlaces lo hi (-1))) _ _ s
  rw [adjust_rev]
  show wpAny _ _ (pure ((n : Int) - 1, (-1 : Int), Builtin.Slice.slicePlaces ((n : Int) - 1) (-1) (-1))) _ _ s
  rw [places_rev]
  exact wpAny_pure h
theorem fm_congr {α β : Type} {f g : α → Option β} : ∀ {l : List α}, (∀ x ∈ l, f x = g x) → l.filterMap f = l.filterMap g
  | [], _ => rfl
  | x :: r, h => by
    rw [List.filterMap_cons, List.filterMap_cons, h x List.mem_cons_self, fm_congr fun y hy => h y (List.mem_cons_of_mem _ hy)]
theorem pick_rev (xs : Array Value) : ((List.range xs.size).filterMap fun (m : Nat) => xs[(((xs.size : Int) - 1) + (m : Int) * (-1)).toNat]?).toArray = xs.toList.reverse.toArray := by
  congr 1
  have e : ∀ m ∈ List.range xs.size, xs[(((xs.size : Int) - 1) + (m : Int) * (-1)).toNat]? = xs.toList.reverse[m]? := fun m hm => by
    have hm := List.mem_range.mp hm
    have e1 : (((xs.size : Int) - 1) + (m : Int) * (-1)).toNat = xs.size - 1 - m := by omega
    rw [e1, List.getElem?_reverse (by simpa using hm), Array.length_toList, Array.getElem?_toList]
  have e2 : (List.range xs.size).filterMap (fun (m : Nat) => xs[(((xs.size : Int) - 1) + (m : Int) * (-1)).toNat]?) = (List.range xs.size).filterMap (fun m => xs.toList.reverse[m]?) := fm_congr e
  rw [e2]
  have key : ∀ l : List Value, (List.range l.length).filterMap (fun m => l[m]?) = l := by
    intro l
    have h1 : (List.range l.length).filterMap (fun m => l[m]?) = ((List.range l.length).map fun m => l[m]?).filterMap id := by
      rw [List.filterMap_map]; rfl
    have h2 : (List.range l.length).map (fun m => l[m]?) = l.map some := by
      refine List.ext_getElem (by simp) fun i h1 h2 => ?_
      have : i < l.length := by simpa using h2
      simp [List.getElem?_eq_getElem this]
    rw [h1, h2, List.filterMap_map]
    simp
  have := key xs.toList.reverse
  rwa [List.length_reverse, Array.length_toList] at this
theorem getItem_tup_rev {t sl : Addr} {items : Array Value} {vs : Value} {Q : Value → Shared → Prop} (ht : IsTup s.heap t items) (hs : s.heap.IsSliceOf sl .none .none vs) (ps : IsPart vs (some (-1)))
    (h : Q (.ref s.heap.objs.size) { s with heap := s.heap.push { cls := .type "tuple", data := .seq items.toList.reverse.toArray } }) (hsz : items.size ≤ sizeLine) : wpAny (model prog w) A (getItem (.ref t) (.ref sl)) Q E s := by
  have hok : sizeOk (.seq items.toList.reverse.toArray) := by
    show items.toList.reverse.toArray.size ≤ sizeLine
    simpa using hsz
  obtain ⟨ob, e1, e2, e3⟩ := id hs
  have hT : s.TypeIs (.ref sl) "slice" := ⟨ob, e1, e2⟩
  unfold getItem
  try with_reducible refine wpAny_holding ?_
  first
    | refine wpAny_bind (wpAny_pure ?_)
    | skip
  refine wpAny_bind (wpAny_sequenceKey ht.typeIs (by decide) ?_)
  refine wpAny_bind (wpAny_callSpecial?_slot (name := Str.ofString "__getitem__") ht.typeIs PyProof.Rows.slot_tuple_getitem ?_)
  refine wpAny_call_entry PyProof.Rows.slot_tuple_getitem ht.typeIs entry_tuple_getitem ?_ (args_tuple_getitem _ _)
  show wpAny _ _ (Builtin.Tuple.tupleItemsOf (.ref t) >>= _) _ _ s
  refine wpAny_bind (tupleItemsOf_ ht (wpAny_bind (wpAny_typeOf hT ?_)))
  rw [if_pos (by decide)]
  refine wpAny_bind (applied_rev hs ps ?_)
  have hno : ¬ ((((items.size : Int) - 1) == 0 && (-1 : Int) == 1 && items.size == items.size) = true) := by simp
  show wpAny _ _ (if (((items.size : Int) - 1) == 0 && (-1 : Int) == 1 && items.size == items.size) = true then _ else _) _ _ s
  rw [if_neg hno, pick_rev]
  have fin : ∀ {M : Model} {A' : Around} {E' : Value → Shared → Prop} {Q' : Value → Shared → Prop}, Q' (.ref s.heap.objs.size) { s with heap := s.heap.push { cls := .type "tuple", data := .seq items.toList.reverse.toArray } } → wpAny M A' (Builtin.Tuple.tupleExact items.toList.reverse.toArray) Q' E' s := fun q => wpAny_newObj_type q hok
  first
    | exact wpAny_bind (fin (wpAny_pure ⟨_, rfl, wpAny_pure h⟩))
    | exact wpAny_bind (fin (wpAny_bind (wpAny_pure (wpAny_pure ⟨_, rfl, wpAny_pure h⟩))))
    | exact wpAny_bind (wpAny_bind (fin (wpAny_pure (wpAny_pure ⟨_, rfl, wpAny_pure h⟩))))
    | exact wpAny_bind (wpAny_bind (fin (wpAny_pure ⟨_, rfl, wpAny_pure h⟩)))
end
section
variable {X : Cx}
noncomputable def tRevT (K : PySem.W.Frag) (te : TE) : TE := fun σ H Q => te σ H fun x H1 => ∃ a xs, x = .ref a ∧ SqT K H1 a xs ∧ NewT xs.reverse H1 Q
theorem pe_revT {e : Expr} {te : TE} {k : Nat} {p1 p2 p3 pos : Pos} (he : PE X e te) : PE X (.Subscript e (.Slice none none (some (.UnaryOp .USub (.Constant (.int 1) k p1) p2)) p3) pos) (tRevT X.K te) := by
  refine ⟨fun pins s σ H Q I h => Subscript_ (thn (he.run pins s σ H _ I h) fun v s1 hh => ?_)⟩
  obtain ⟨x, H1, I1, r1, a, xs, rfl, hx, q⟩ := hh
  cases r1
  have neg : PO X (some (.UnaryOp .USub (.Constant (.int 1) k p1) p2)) (tPart (tUn (rU fun i => .int (-i)) (tC (.int 1)))) := po_some (pe_un un_neg pe_int)
  refine wpAny_Slice (thn (po_none.run pins s1 σ H1 (fun o H2 => o = none ∧ H2 = H1) I1 ⟨rfl, rfl⟩) fun vl s2 h2 => ?_)
  obtain ⟨l, H2, I2, pl, rfl, rfl⟩ := h2
  refine thn (po_none.run pins s2 σ H2 (fun o H3 => o = none ∧ H3 = H2) I2 ⟨rfl, rfl⟩) fun vu s3 h3 => ?_
  obtain ⟨u, H3, I3, pu, rfl, rfl⟩ := h3
  refine thn (neg.run pins s3 σ H3 (fun o H4 => o = some (-1) ∧ H4 = H3) I3 ⟨1, rfl, -1, rfl, rfl, rfl⟩) fun vs s4 h4 => ?_
  obtain ⟨o, H4, I4, ps, rfl, rfl⟩ := h4
  have I5 : Inv X pins σ H4 { s4 with heap := s4.heap.push { cls := .type "slice", data := .fields #[vl, vu, vs] } } := I4.kept (t' := s4.toks) fun b ob z => Heap.get?_push_of_some _ z
  obtain ⟨its, r, ht, hz⟩ := I5.tuple hx
  have hlen := r.length
  cases pl
  cases pu
  refine tail_any (ops := [.ref a, .ref s4.heap.objs.size]) ht.typeIs PyProof.Rows.slot_tuple_getitem.lookup ?_ (by with_unfolding_all rfl)
  refine getItem_tup_rev ht (Heap.IsSliceOf.new _ .none .none vs) ps ?_ (by rw [List.size_toArray]; omega)
  rw [List.toList_toArray]
  obtain ⟨v', H', I', rv, q'⟩ := laidZ (n := 0) (t' := s4.toks) I5 r.reverse (by rw [List.length_reverse]; exact hz) q
  exact ⟨v', H', I', rv, q'⟩
/-- xs[::-1] of a list or a tuple -/
noncomputable def cRev2 (fr : Bool) (c : CE) : CE := fun ρ S => (c ρ S).bind fun x S1 => match x with
  | .val (.tup ds) => .ok (.val (.tup ds.reverse)) S1
  | x => match asL S1 x with
    | some ds => mkL fr ds.reverse S1
    | none => .bad
theorem PE.or {e : Expr} {t u : TE} (h : PE X e t) (k : PE X e u) : PE X e (fun σ H Q => t σ H Q ∨ u σ H Q) := ⟨fun pins s σ H Q I q => q.elim (h.run pins s σ H Q I) (k.run pins s σ H Q I)⟩
theorem pm_rev2 {cl : ClT} {W : WX} (fr : Bool) {e : Expr} {c : CE} {k : Nat} {p1 p2 p3 pos : Pos} (he : PE X e (tM X.K cl W c)) : PE X (.Subscript e (.Slice none none (some (.UnaryOp .USub (.Constant (.int 1) k p1) p2)) p3) pos) (tM X.K cl W (cRev2 fr c)) :=
  PE.imp (PE.or (pm_rev fr he) (pe_revT he)) fun σ H Q h => by
  obtain ⟨B, m, S, ρ, o, en, fin⟩ := h
  unfold cRev2 at fin
  cases hc : c ρ S with
  | bad => rw [hc] at fin; exact fin.elim
  | exc e' S1 => rw [hc] at fin; exact .inl ⟨B, m, S, ρ, o, en, by unfold cRev; rw [hc]; exact fin⟩
  | ok x S1 =>
    rw [hc] at fin
    cases x with
    | ref i => exact .inl ⟨B, m, S, ρ, o, en, by unfold cRev; rw [hc]; exact fin⟩
    | val d =>
      cases d with
      | tup ds =>
        refine .inr ⟨B, m, S, ρ, o, en, ?_⟩
        rw [hc]
        intro v H1 m1 s1 o1 r1
        obtain ⟨a, vs, rfl, q, rl⟩ := asT_ok (x := .val (.tup ds)) r1 rfl
        exact ⟨a, vs, rfl, q, mkT_ok o1 rl.reverse (Fin.step s1 fin)⟩
      | _ => exact .inl ⟨B, m, S, ρ, o, en, by unfold cRev; rw [hc]; exact fin⟩
end
section
variable {ρ : Slots} {S : Store}
@[simp ↓] theorem ap_Rev2 {fr : Bool} {c : CE} : cRev2 fr c ρ S = (match c ρ S with | .ok x S1 => (match x with | .val (.tup ds) => .ok (.val (.tup ds.reverse)) S1 | x => (match asL S1 x with | some ds => mkL fr ds.reverse S1 | none => .bad)) | .exc e S9 => .exc e S9 | .bad => .bad) := rfl
end
section
end
end T3
namespace T3
open PySem PySem.Spec PyProof.Rows L2
noncomputable def g_DIGITS : D := .str "012"
noncomputable def g_MOST_PLACES : D := .int 3
noncomputable def b__law_at : CS := sSeq (sAsg (tgName 2) (cI 0)) (sSeq (sForV (cV 1) (tgName 3) (sAsg (tgName 2) (cBin (fAdd true) (cBin (fMul true) (cI 3) (cV 2)) (cV 3)))) (sRet (cB1 (fInt) (cCons (cBin fIx (cV 0) (cV 2)) (cNil)))))
noncomputable def m__law_at : Fn := runF 4 b__law_at
noncomputable def b__law_places : CS := sRet (cBin (fAdd false) (cMt tyL fIndex (cLst true (cCons (cI 3) (cCons (cI 9) (cCons (cI 27) (cNil))))) (cCons (cB1 (fLen) (cCons (cV 0) (cNil))) cNil)) (cI 1))
noncomputable def m__law_places : Fn := runF 1 b__law_places
noncomputable def b__law_tuples : CS := sSeq (sAsg (tgName 1) (cLst true (cCons (cTup (cNil)) (cNil)))) (sSeq (sFor (ciR1 (cV 0)) (tgName 2) (sSeq (sAsg (tgName 3) (cLst true (cNil))) (sSeq (sForV (cV 1) (tgName 4) (sAsg (tgName 3) (cBin (fAdd true) (cV 3) (cLst true (cCons (cBin (fAdd true) (cV 4) (cTup (cCons (cI 0) (cNil)))) (cCons (cBin (fAdd true) (cV 4) (cTup (cCons (cI 1) (cNil)))) (cCons (cBin (fAdd true) (cV 4) (cTup (cCons (cI 2) (cNil)))) (cNil)))))))) (sAsg (tgName 1) (cV 3))))) (sRet (cV 1)))
noncomputable def m__law_tuples : Fn := runF 5 b__law_tuples
noncomputable def b__law_draw : CS := sSeq (sAsg (tgSub (cV 0) (cI 2)) (cBin (fAdd true) (cBin fIx (cV 0) (cI 2)) (cI 1))) (sSeq (sAsg (tgSub (cV 0) (cI 1)) (cBin fMod (cB1 (fInt) (cCons (cBin (fAdd true) (cBin (fAdd true) (cBin (fMul true) (cBin fIx (cV 0) (cI 1)) (cI 69621)) (cBin (fMul true) (cI 40503) (cBin fIx (cV 0) (cI 2)))) (cI 1)) (cNil))) (cI 2147483647))) (sSeq (sIf (cBin fGt (cBin fIx (cV 0) (cI 0)) (cI 0)) (sSeq (sAsg (tgAny 2 (tgCons (tgSub (cV 0) (cI 0)) (tgCons (tgName 4) (tgNil)))) (cB1 (fDivmod) (cCons (cBin fIx (cV 0) (cI 0)) (cCons (cV 1) (cNil))))) (sRet (cV 4))) (sNil)) (sSeq (sAsg (tgName 2) (cBin (fAdd true) (cBin fIx (cV 0) (cI 1)) (cI 12345))) (sSeq (sAsg (tgName 3) (cBin fMod (cB1 (fInt) (cCons (cBin (fAdd true) (cBin (fMul true) (cV 2) (cBin fIx (cV 0) (cI 1))) (cBin fIx (cV 0) (cI 2))) (cNil))) (cI 2147483629))) (sRet (cBin fMod (cB1 (fInt) (cCons (cBin fFdv (cV 3) (cI 256)) (cNil))) (cV 1)))))))
noncomputable def m__law_draw : Fn := runF 5 b__law_draw
noncomputable def b__law_of : CS := sRet (cBin fIx (cV 1) (cCall 2 false m__law_draw (cCons (cV 0) (cCons (cB1 (fLen) (cCons (cV 1) (cNil))) (cNil)))))
noncomputable def m__law_of : Fn := runF 2 b__law_of
noncomputable def b_size_of : CS := sSeq (sAsg (tgName 1) (cI 1)) (sSeq (sFor (ciR1 (cV 0)) (tgName 2) (sAsg (tgName 1) (cBin (fMul true) (cV 1) (cI 3)))) (sRet (cV 1)))
noncomputable def m_size_of : Fn := runF 3 b_size_of
noncomputable def b_is_table : CS := sSeq (sIf (cOr (cNot (cTru (cIsi "str" (cV 0)))) (cBin fNotIn (cB1 (fLen) (cCons (cV 0) (cNil))) (cLc true [2] (ciR1 (cK g_MOST_PLACES)) (tgName 2) (cYes) (cCall 1 false m_size_of (cCons (cBin (fAdd true) (cV 2) (cI 1)) (cNil)))))) (sRet (cB false)) (sNil)) (sRet (cB1 (fAll) (cCons (cLcV true [1] (cV 0) (tgName 1) (cYes) (cBin fIn (cV 1) (cK g_DIGITS))) (cNil))))
noncomputable def m_is_table : Fn := runF 3 b_is_table
noncomputable def b_all_arguments : CS := sSeq (sAsg (tgName 1) (cLst true (cCons (cTup (cNil)) (cNil)))) (sSeq (sFor (ciR1 (cV 0)) (tgName 2) (sAsg (tgName 1) (cLc2 true [3, 4] [4] (ciV (cV 1)) (tgName 3) (cYes) (ciR1 (cI 3)) (tgName 4) (cYes) (cTup (cStar (cV 3) (cCons (cV 4) (cNil))))))) (sRet (cV 1)))
noncomputable def m_all_arguments : Fn := runF 5 b_all_arguments
noncomputable def b_places_of : CS := sRet (cBin fIx (cLc true [1] (ciR1 (cK g_MOST_PLACES)) (tgName 1) (cBin fEq (cCall 1 false m_size_of (cCons (cBin (fAdd true) (cV 1) (cI 1)) (cNil))) (cB1 (fLen) (cCons (cV 0) (cNil)))) (cBin (fAdd true) (cV 1) (cI 1))) (cI 0))
noncomputable def m_places_of : Fn := runF 2 b_places_of
noncomputable def b_index_of : CS := sSeq (sAsg (tgName 1) (cI 0)) (sSeq (sForV (cV 0) (tgName 2) (sAsg (tgName 1) (cBin (fAdd true) (cBin (fMul true) (cI 3) (cV 1)) (cV 2)))) (sRet (cV 1)))
noncomputable def m_index_of : Fn := runF 3 b_index_of
noncomputable def b_value_at : CS := sRet (cB1 (fInt) (cCons (cBin fIx (cV 0) (cCall 1 false m_index_of (cCons (cV 1) (cNil)))) (cNil)))
noncomputable def m_value_at : Fn := runF 2 b_value_at
noncomputable def b_counts_at : CS := sSeq (sFor (ciV (cCall 1 false m_all_arguments (cCons (cCall 1 false m_places_of (cCons (cV 0) (cNil))) (cNil)))) (tgName 2) (sSeq (sAsg (tgName 3) (cLc true [4] (ciR1 (cI 3)) (tgName 4) (cYes) (cTup (cStar (cSl true (cV 2) none (some (cV 1))) (cCons (cV 4) (cStar (cSl true (cV 2) (some (cBin (fAdd true) (cV 1) (cI 1))) none) (cNil))))))) (sIf (cBin fGt (cLenSet (cLcV true [5] (cV 3) (tgName 5) (cYes) (cCall 2 false m_value_at (cCons (cV 0) (cCons (cV 5) (cNil)))))) (cI 1)) (sRet (cB true)) (sNil)))) (sRet (cB false))
noncomputable def m_counts_at : Fn := runF 6 b_counts_at
noncomputable def b_counting_of : CS := sRet (cB1 (fTuple) (cCons (cLc true [1] (ciR1 (cCall 1 false m_places_of (cCons (cV 0) (cNil)))) (tgName 1) (cTru (cCall 2 false m_counts_at (cCons (cV 0) (cCons (cV 1) (cNil))))) (cV 1)) (cNil)))
noncomputable def m_counting_of : Fn := runF 2 b_counting_of
noncomputable def b_is_full : CS := sRet (cB1 (fAll) (cCons (cLc true [1] (ciV (cK g_DIGITS)) (tgName 1) (cYes) (cBin fIn (cV 1) (cV 0))) (cNil)))
noncomputable def m_is_full : Fn := runF 2 b_is_full
noncomputable def b_is_integer : CS := sRet (cAnd (cIsi "int" (cV 0)) (cNot (cIsi "bool" (cV 0))))
noncomputable def m_is_integer : Fn := runF 1 b_is_integer
noncomputable def b_is_between : CS := sRet (cAnd (cCall 1 false m_is_integer (cCons (cV 0) (cNil))) (cChain fLe fLe (cV 1) (cV 0) (cV 2)))
noncomputable def m_is_between : Fn := runF 3 b_is_between
noncomputable def b__law_spring : CS := sSeq (sAsg (tgName 2) (cIf (cBin fLt (cV 1) (cB1 (fLen) (cCons (cV 0) (cNil)))) (cBin fIx (cV 0) (cV 1)) (cBin (fAdd true) (cBin (fMul true) (cI 7) (cV 1)) (cI 2)))) (sSeq (sAsg (tgName 3) (cBin (fAdd true) (cI 90001) (cBin (fMul true) (cI 7919) (cV 1)))) (sSeq (sFor (ciV (cBin (fAdd true) (cSl true (cV 0) none (some (cI 8))) (cLst true (cCons (cV 2) (cNil))))) (tgName 4) (sAsg (tgName 3) (cBin fMod (cB1 (fInt) (cCons (cBin (fAdd true) (cBin (fAdd true) (cBin (fMul true) (cV 3) (cI 48271)) (cB1 (fInt) (cCons (cV 4) (cNil)))) (cBin (fMul true) (cI 11) (cV 1))) (cNil))) (cI 2147483647)))) (sRet (cLst false (cCons (cIf (cOr (cBin fLt (cV 2) (cI 0)) (cBin fGe (cV 2) (cBin fPow (cI 10) (cI 18)))) (cB1 (fAbs) (cCons (cV 2) (cNil))) (cI 0)) (cCons (cV 3) (cCons (cI 0) (cNil))))))))
noncomputable def m__law_spring : Fn := runF 5 b__law_spring
noncomputable def b_table_from : CS := sRet (cMt tyS fJoin (cS "") (cCons (cLcV true [1] (cV 0) (tgName 1) (cYes) (cB1 (fStr) (cCons (cV 1) (cNil)))) cNil))
noncomputable def m_table_from : Fn := runF 2 b_table_from
noncomputable def b_all_tables : CS := sRet (cB1 (fTuple) (cCons (cLc true [0] (ciV (cCall 1 false m_all_arguments (cCons (cI 3) (cNil)))) (tgName 0) (cYes) (cCall 1 false m_table_from (cCons (cV 0) (cNil)))) (cNil)))
noncomputable def m_all_tables : Fn := runF 1 b_all_tables
end T3
namespace T3
open PySem PySem.Spec PyProof.Rows L2
noncomputable def g_WORDS : D := .tup [.str "set 0", .str "set 1", .str "set 2", .str "set 01", .str "set 02", .str "set 12", .str "part 0", .str "part 1", .str "part 2", .str "turn", .str "sums", .str "chain 0", .str "chain 1", .str "chain 2", .str "centre 0", .str "centre 1", .str "centre 2", .str "mixed"]
noncomputable def b__law_rows_of : CS := sSeq (sAsg (tgName 2) (cLst true (cCons (cLst true (cNil)) (cNil)))) (sSeq (sFor (ciR1 (cV 1)) (tgName 3) (sSeq (sAsg (tgName 4) (cLst true (cNil))) (sSeq (sForV (cV 2) (tgName 5) (sAsg (tgName 4) (cBin (fAdd true) (cV 4) (cLcV true [6] (cV 0) (tgName 6) (cYes) (cBin (fAdd true) (cV 5) (cLst true (cCons (cV 6) (cNil)))))))) (sAsg (tgName 2) (cV 4))))) (sRet (cV 2)))
noncomputable def m__law_rows_of : Fn := runF 7 b__law_rows_of
noncomputable def b_is_word : CS := sRet (cAnd (cIsi "str" (cV 0)) (cBin fIn (cV 0) (cK g_WORDS)))
noncomputable def m_is_word : Fn := runF 1 b_is_word
noncomputable def b_chain_of : CS := sSeq (sAsg (tgName 1) (cLc true [2] (ciR1 (cI 3)) (tgName 2) (cBin fNe (cV 2) (cV 0)) (cV 2))) (sRet (cTup (cCons (cBin fIx (cV 1) (cI 0)) (cCons (cV 0) (cCons (cBin fIx (cV 1) (cI 1)) (cNil))))))
noncomputable def m_chain_of : Fn := runF 3 b_chain_of
noncomputable def b_is_in_pairs : CS := sSeq (sAsg (tgAny 2 (tgCons (tgName 3) (tgCons (tgName 4) (tgNil)))) (cV 1)) (sSeq (sIf (cBin fEq (cV 0) (cS "turn")) (sRet (cBin fEq (cV 4) (cBin fMod (cBin (fAdd true) (cV 3) (cI 1)) (cI 3)))) (sNil)) (sSeq (sAsg (tgAny 2 (tgCons (tgName 5) (tgCons (tgName 6) (tgNil)))) (cMt tyS (fSplit true) (cV 0) (cCons (cS " ") cNil))) (sSeq (sIf (cBin fEq (cV 3) (cV 4)) (sRet (cB true)) (sNil)) (sSeq (sIf (cBin fEq (cV 5) (cS "part")) (sRet (cBin fNotIn (cB1 (fInt) (cCons (cV 6) (cNil))) (cV 1))) (sNil)) (sSeq (sIf (cBin fEq (cV 5) (cS "centre")) (sRet (cBin fIn (cB1 (fInt) (cCons (cV 6) (cNil))) (cV 1))) (sNil)) (sSeq (sAsg (tgName 2) (cCall 1 false m_chain_of (cCons (cB1 (fInt) (cCons (cV 6) (cNil))) (cNil)))) (sRet (cBin fLt (cMt tyT fTIndex (cV 2) (cCons (cV 3) cNil)) (cMt tyT fTIndex (cV 2) (cCons (cV 4) cNil))))))))))
noncomputable def m_is_in_pairs : Fn := runF 7 b_is_in_pairs
noncomputable def b_is_in : CS := sSeq (sIf (cBin fEq (cSl true (cV 0) none (some (cI 4))) (cS "set ")) (sRet (cBin fIn (cB1 (fStr) (cCons (cBin fIx (cV 1) (cI 0)) (cNil))) (cSl true (cV 0) (some (cI 4)) none))) (sNil)) (sSeq (sIf (cBin fEq (cV 0) (cS "sums")) (sRet (cBin fEq (cBin fMod (cBin fSub (cBin fSub (cBin (fAdd true) (cBin fIx (cV 1) (cI 0)) (cBin fIx (cV 1) (cI 1))) (cBin fIx (cV 1) (cI 2))) (cBin fIx (cV 1) (cI 3))) (cI 3)) (cI 0))) (sNil)) (sSeq (sIf (cBin fEq (cV 0) (cS "mixed")) (sRet (cBin fLt (cLenSet (cV 1)) (cI 3))) (sNil)) (sRet (cCall 2 true m_is_in_pairs (cCons (cV 0) (cCons (cV 1) (cNil)))))))
noncomputable def m_is_in : Fn := runF 2 b_is_in
noncomputable def b_made_by : CS := sRet (cB1 (fTuple) (cCons (cLc true [2] (ciR1 (cB1 (fLen) (cCons (cBin fIx (cV 1) (cI 0)) (cNil)))) (tgName 2) (cYes) (cCall 2 false m_value_at (cCons (cV 0) (cCons (cLcV true [3] (cV 1) (tgName 3) (cYes) (cBin fIx (cV 3) (cV 2))) (cNil))))) (cNil)))
noncomputable def m_made_by : Fn := runF 4 b_made_by
noncomputable def b_length_of : CS := sSeq (sIf (cBin fEq (cSl true (cV 0) none (some (cI 4))) (cS "set ")) (sRet (cI 1)) (sNil)) (sRet (cDGetC [("sums", 4), ("mixed", 3)] (cV 0) (cI 2)))
noncomputable def m_length_of : Fn := runF 1 b_length_of
noncomputable def b_relation_of : CS := sRet (cLc false [1] (ciV (cCall 1 false m_all_arguments (cCons (cCall 1 false m_length_of (cCons (cV 0) (cNil))) (cNil)))) (tgName 1) (cTru (cCall 2 false m_is_in (cCons (cV 0) (cCons (cV 1) (cNil))))) (cV 1))
noncomputable def m_relation_of : Fn := runF 2 b_relation_of
noncomputable def b_out_of : CS := sSeq (sAsg (tgName 2) (cCall 1 false m_relation_of (cCons (cV 1) (cNil)))) (sSeq (sForG 2 (gfRows 3) (cCons (cV 2) (cCons (cCall 1 false m_places_of (cCons (cV 0) (cNil))) (cNil))) (tgName 3) (sIf (cNot (cTru (cCall 2 false m_is_in (cCons (cV 1) (cCons (cCall 2 false m_made_by (cCons (cV 0) (cCons (cV 3) (cNil)))) (cNil)))))) (sRet (cV 3)) (sNil))) (sRet (cN)))
noncomputable def m_out_of : Fn := runF 4 b_out_of
noncomputable def b_is_kept : CS := sRet (cBin fIsN (cCall 2 false m_out_of (cCons (cV 0) (cCons (cV 1) (cNil)))) (cN))
noncomputable def m_is_kept : Fn := runF 2 b_is_kept
noncomputable def b_put_in : CS := sSeq (sAsg (tgName 2) (cCall 1 false m_places_of (cCons (cBin fIx (cV 1) (cI 0)) (cNil)))) (sSeq (sAsg (tgName 3) (cLst false (cNil))) (sSeq (sFor (ciV (cCall 1 false m_all_arguments (cCons (cV 2) (cNil)))) (tgName 4) (sExp (cMt tyL fAppend (cV 3) (cCons (cCall 2 false m_value_at (cCons (cV 0) (cCons (cLcV true [5] (cV 1) (tgName 5) (cYes) (cCall 2 false m_value_at (cCons (cV 5) (cCons (cV 4) (cNil))))) (cNil)))) cNil)))) (sRet (cCall 1 true m_table_from (cCons (cV 3) (cNil))))))
noncomputable def m_put_in : Fn := runF 6 b_put_in
end T3
namespace T3
open PySem PySem.Spec PyProof.Rows L2
noncomputable abbrev spr (p q r : Int) : O := .lst [.int p, .int q, .int r]
theorem mulOk_r {a b : Int} (h1 : -18446744073709551616 < b) (h2 : b < 18446744073709551616) : mulOk a b = true := by simp [mulOk, h1, h2]
theorem mulOk_l {a b : Int} (h1 : -18446744073709551616 < a) (h2 : a < 18446744073709551616) : mulOk a b = true := by simp [mulOk, h1, h2]
@[simp] theorem mulOk_m {a x : Int} : mulOk a (x % 2147483647) = true := mulOk_r (by have := Int.emod_nonneg x (show (2147483647 : Int) ≠ 0 by omega); omega) (by have := Int.emod_lt_of_pos x (show (0 : Int) < 2147483647 by omega); omega)
theorem c_draw (p q r n : Int) (h0 : 0 < n) (h1 : n < 1073741824) : ∃ d p' q' r' : Int, 0 ≤ d ∧ d < n ∧ m__law_draw [.ref 0, .val (.int n)] [spr p q r] = .ok (.val (.int d)) [spr p' q' r'] := by
  by_cases hp : 0 < p
  · refine ⟨p % n, p / n, (q * 69621 + 40503 * (r + 1) + 1) % 2147483647, r + 1, Int.emod_nonneg _ (by omega), Int.emod_lt_of_pos _ h0, ?_⟩
    unfold m__law_draw b__law_draw runF
    simp [mulOk_l, mulOk_r, h0, h1, ixN, hp]
  · refine ⟨?d, p, (q * 69621 + 40503 * (r + 1) + 1) % 2147483647, r + 1, ?_, ?_, ?e⟩
    case e =>
      unfold m__law_draw b__law_draw runF
      simp [mulOk_l, mulOk_r, h0, h1, ixN, hp]
      rfl
    · exact Int.emod_nonneg _ (by omega)
    · exact Int.emod_lt_of_pos _ h0
/-- what a def gives, as frozen data -/
noncomputable def gives (r : Res) : Option D := match r with
  | .ok (.val d) _ => some d
  | .ok (.ref j) S => S[j]?.bind (frzR S 0)
  | _ => none
theorem vals_refs : ∀ {ds : List D}, refsOf (ds.map A.val) = []
  | [] => rfl
  | d :: r => vals_refs (ds := r)
theorem vals_renum : ∀ {ds : List D} {k : Nat}, renum k (ds.map A.val) = ds.map A.val
  | [], _ => rfl
  | d :: r, k => congrArg (A.val d :: ·) (vals_renum (ds := r))
/-- a call of values -/
theorem call_val {f : Fn} {xs : List A} {ds : List D} {d : D} {S : Store} (hx : xs = ds.map A.val) (h : gives (f xs []) = some d) : callIn false f xs S = .ok (.val d) S := by
  subst hx
  unfold callIn
  rw [vals_refs, if_pos List.nodup_nil]
  simp only [getAll, List.all_nil, if_true]
  rw [vals_renum]
  unfold gives at h
  cases hr : f (ds.map A.val) [] with
  | bad => rw [hr] at h; cases h
  | exc e S1 => rw [hr] at h; cases h
  | ok x S1 =>
    rw [hr] at h
    cases x with
    | val d' => cases h; simp [back, putAll]
    | ref j =>
      simp only [Option.bind_eq_some_iff] at h
      obtain ⟨o, h1, h2⟩ := h
      simp [back, putAll, h1, h2]
/-- .. whose new list is adopted -/
theorem call_new {f : Fn} {xs : List A} {ds : List D} {es : List D} {S S1 : Store} {j : Nat} (hx : xs = ds.map A.val) (h : f xs [] = .ok (.ref j) S1) (h1 : S1[j]? = some (.lst es)) : callIn true f xs S = .ok (.ref S.length) (S ++ [.lst es]) := by
  subst hx
  unfold callIn
  rw [vals_refs, if_pos List.nodup_nil]
  simp only [getAll, List.all_nil, if_true]
  rw [vals_renum, h]
  simp [back, putAll, h1, flatO]
/-- a call with one thing of the store ahead of values -/
theorem call_one {f : Fn} {ds : List D} {d : D} {S S1 : Store} {i : Nat} {o o' : O} (hi : S[i]? = some o) (ho : flatO o = true) (h : f (.ref 0 :: ds.map A.val) [o] = .ok (.val d) (o' :: S1)) (ho' : flatO o' = true) : callIn false f (.ref i :: ds.map A.val) S = .ok (.val d) (S.set i o') := by
  unfold callIn
  have e : refsOf (.ref i :: ds.map A.val) = [i] := by simp [vals_refs]
  rw [e, if_pos (by simp)]
  simp only [getAll, hi, List.all_cons, ho, List.all_nil, Bool.and_true, if_true]
  have e2 : renum 0 (.ref i :: ds.map A.val) = .ref 0 :: ds.map A.val := by simp [vals_renum]
  rw [e2, h]
  simp [back, ho', putAll]
theorem call_one1 {f : Fn} {d : D} {S S1 : Store} {i : Nat} {o o' : O} (hi : S[i]? = some o) (ho : flatO o = true) (h : f [.ref 0] [o] = .ok (.val d) (o' :: S1)) (ho' : flatO o' = true) : callIn false f [.ref i] S = .ok (.val d) (S.set i o') := call_one (ds := []) hi ho h ho'
theorem forL_inv {body : D → CS} {ds : List D} {ρ : Slots} {S : Store} (P : Nat → Slots → Store → Prop) (h0 : P 0 ρ S) (hs : ∀ i d ρ S, ds[i]? = some d → P i ρ S → ∃ ρ' S', body d ρ S = .nx ρ' S' ∧ P (i + 1) ρ' S') : ∃ ρ' S', forL body ds ρ S = .nx ρ' S' ∧ P ds.length ρ' S' := by
  induction ds generalizing ρ S P with
  | nil => exact ⟨ρ, S, rfl, h0⟩
  | cons d r ih =>
    obtain ⟨ρ1, S1, e1, p1⟩ := hs 0 d ρ S rfl h0
    obtain ⟨ρ2, S2, e2, p2⟩ := ih (P := fun i => P (i + 1)) p1 (fun i d ρ S hi hp => hs (i + 1) d ρ S hi hp)
    exact ⟨ρ2, S2, by simp only [forL, e1]; exact e2, p2⟩
theorem forL_q {body : D → CS} {ds : List D} {ρ : Slots} {S : Store} {q : SRes} (hq : forL body ds ρ S = q) (P : Nat → Slots → Store → Prop) (h0 : P 0 ρ S) (hs : ∀ i d ρ S, ds[i]? = some d → P i ρ S → ∃ ρ' S', body d ρ S = .nx ρ' S' ∧ P (i + 1) ρ' S') : ∃ ρ' S', q = .nx ρ' S' ∧ P ds.length ρ' S' := by
  obtain ⟨ρ', S', e, p⟩ := forL_inv P h0 hs
  exact ⟨ρ', S', hq.symm.trans e, p⟩
/-- one that changes the store -/
theorem lcGo_inv {f : Elm} {S : Store} (P : Nat → List D → Store → Prop) : ∀ {ds : List D}, P 0 [] S → (∀ i d acc S, ds[i]? = some d → P i acc S → ∃ y S', f d S = some (some y, S') ∧ P (i + 1) (acc ++ [y]) S') → ∃ ys S', lcGo f ds S = some (ys, S') ∧ P ds.length ys S' := by
  have go : ∀ (ds : List D) (k : Nat) (acc : List D) (S : Store), P k acc S → (∀ i d acc S, ds[i]? = some d → P (k + i) acc S → ∃ y S', f d S = some (some y, S') ∧ P (k + i + 1) (acc ++ [y]) S') → ∃ ys S', lcGo f ds S = some (ys, S') ∧ P (k + ds.length) (acc ++ ys) S' := by
    intro ds
    induction ds with
    | nil => exact fun k acc S h _ => ⟨[], S, rfl, by simpa using h⟩
    | cons d r ih =>
      intro k acc S h hs
      obtain ⟨y, S1, e1, p1⟩ := hs 0 d acc S rfl h
      obtain ⟨ys, S2, e2, p2⟩ := ih (k + 1) (acc ++ [y]) S1 p1 fun i d acc S hi hp => by
        have := hs (i + 1) d acc S hi (by rw [show k + (i + 1) = k + 1 + i by omega]; exact hp)
        rw [show k + (i + 1) + 1 = k + 1 + i + 1 by omega] at this
        exact this
      refine ⟨y :: ys, S2, by simp only [lcGo, e1, e2], ?_⟩
      rw [List.length_cons, show k + (r.length + 1) = k + 1 + r.length by omega]
      simpa using p2
  intro ds h hs
  obtain ⟨ys, S', e, p⟩ := go ds 0 [] S h fun i d acc S hi hp => by
    have := hs i d acc S hi (by simpa using hp)
    simpa using this
  exact ⟨ys, S', e, by simpa using p⟩
end T3
namespace T3
open PySem PySem.Spec PyProof.Rows L2
noncomputable def Dg (t : List Nat) : Prop := ∀ x ∈ t, x < 3
noncomputable def nD (n : Nat) : D := .int n
theorem szOk_le {n : Nat} (h : n ≤ 1000) : szOk n = true := decide_eq_true (Nat.le_trans h (by decide))
noncomputable def ix (a : List Nat) : Nat := a.foldl (fun n x => 3 * n + x) 0
noncomputable def gd (t : List Nat) (k : Nat) : Nat := t[k]?.getD 0
theorem dg_get {t : List Nat} (ht : Dg t) (k : Nat) : gd t k < 3 := by
  unfold gd
  cases e : t[k]? with
  | none => decide
  | some x => exact ht x (List.mem_of_getElem? e)
structure Tb (t : List Nat) (n : Nat) : Prop where
  dg : Dg t
  len : t.length = 3 ^ n
  n1 : 1 ≤ n
  n3 : n ≤ 3
theorem Tb.cases {t : List Nat} {n : Nat} (h : Tb t n) : n = 1 ∨ n = 2 ∨ n = 3 := by have := h.n1; have := h.n3; omega
theorem Tb.le {t : List Nat} {n : Nat} (h : Tb t n) : t.length ≤ 27 := by
  rw [h.len]
  rcases h.cases with e | e | e <;> subst e <;> decide
noncomputable def allA : Nat → List (List Nat)
  | 0 => [[]]
  | n + 1 => (allA n).flatMap fun a => [a ++ [0], a ++ [1], a ++ [2]]
end T3
namespace T3
open PySem PySem.Spec PyProof.Rows L2
@[simp] theorem boolsOf_map {α : Type} (p : α → Bool) : ∀ l : List α, boolsOf (l.map fun x => D.bl (p x)) = some (l.map p)
  | [] => rfl
  | x :: r => by
    rw [List.map_cons, List.map_cons]
    simp only [boolsOf, boolsOf_map p r, Option.map_some]
@[simp] theorem intsOf_map {α : Type} (p : α → Int) : ∀ l : List α, intsOf (l.map fun x => D.int (p x)) = some (l.map p)
  | [] => rfl
  | x :: r => by
    rw [List.map_cons, List.map_cons]
    simp only [intsOf, intsOf_map p r, Option.map_some]
@[simp] theorem strsOf_map {α : Type} (p : α → Str) : ∀ l : List α, strsOf (l.map fun x => D.str (p x)) = some (l.map p)
  | [] => rfl
  | x :: r => by
    rw [List.map_cons, List.map_cons]
    simp only [strsOf, strsOf_map p r, Option.map_some]
theorem range_nD (n : Nat) : rangeD 0 n = (List.range n).map nD := by
  unfold rangeD nD
  simp
@[simp] theorem szOk_s {n : Nat} (h : n ≤ 16000000) : szOk n = true := decide_eq_true h
variable {t : List Nat} {n : Nat}
noncomputable def chg (a : List Nat) (k i : Nat) : List Nat := a.take k ++ [i] ++ a.drop (k + 1)
noncomputable def vl (t a : List Nat) (k i : Nat) : Nat := gd t (ix (chg a k i))
end T3
namespace T3
open PySem PySem.Spec PyProof.Rows L2
variable {t : List Nat} {n : Nat}
@[simp] theorem valsOf_app (r : List A) : ∀ ds : List D, valsOf (ds.map A.val ++ r) = (valsOf r).map (ds ++ ·)
  | [] => by cases h : valsOf r <;> simp [h]
  | d :: ds => by
    rw [List.map_cons, List.cons_append]
    simp only [valsOf, valsOf_app r ds]
    cases valsOf r <;> simp
@[simp] theorem valsOf_map (ds : List D) : valsOf (ds.map A.val) = some ds := by
  have := valsOf_app [] ds
  simpa using this
end T3
namespace T3
open PySem PySem.Spec PyProof.Rows L2
variable {t : List Nat} {n : Nat}
noncomputable def fx (t : List Nat) (n : Nat) : List Nat := (List.range 3).filter fun i => gd t (ix (List.replicate n i)) == i
end T3
namespace T3
open PySem PySem.Spec PyProof.Rows L2
variable {t : List Nat} {n : Nat}
theorem call_keep1 {f : Fn} {d e1 : D} {S S1 : Store} {i : Nat} {o o' : O} (hi : S[i]? = some o) (ho : flatO o = true) (h : f [.ref 0, .val e1] [o] = .ok (.val d) (o' :: S1)) (ho' : flatO o' = true) (b : Bool) : callIn b f [.ref i, .val e1] S = .ok (.val d) (S.set i o') := by
  unfold callIn
  simp [hi, ho, h, back, ho', putAll]
theorem k_draw (S : Store) (i : Nat) (p q r n : Int) (hi : S[i]? = some (spr p q r)) (h0 : 0 < n) (h1 : n < 1073741824) : ∃ d p' q' r' : Int, 0 ≤ d ∧ d < n ∧ ∀ b, callIn b m__law_draw [.ref i, .val (.int n)] S = .ok (.val (.int d)) (S.set i (spr p' q' r')) := by
  obtain ⟨d, p', q', r', a, b, e⟩ := c_draw p q r n h0 h1
  exact ⟨d, p', q', r', a, b, call_keep1 hi rfl e rfl⟩
theorem c_of (p q r : Int) (ds : List D) (h0 : 0 < ds.length) (h1 : ds.length ≤ 1000) : ∃ d ∈ ds, ∃ p' q' r', m__law_of [.ref 0, .val (.lst ds)] [spr p q r] = .ok (.val d) [spr p' q' r'] := by
  obtain ⟨k, p', q', r', a, b, e⟩ := k_draw [spr p q r] 0 p q r ds.length rfl (by omega) (by omega)
  have hk : k.toNat < ds.length := by omega
  refine ⟨ds[k.toNat], List.getElem_mem _, p', q', r', ?_⟩
  have e2 : ixN ds.length k = some k.toNat := ixN_int a b
  unfold m__law_of b__law_of runF
  simp [e, e2, List.getElem?_eq_getElem hk]
theorem k_of (S : Store) (i : Nat) (p q r : Int) (ds : List D) (hi : S[i]? = some (spr p q r)) (h0 : 0 < ds.length) (h1 : ds.length ≤ 1000) : ∃ d ∈ ds, ∃ p' q' r', ∀ b, callIn b m__law_of [.ref i, .val (.lst ds)] S = .ok (.val d) (S.set i (spr p' q' r')) := by
  obtain ⟨d, hd, p', q', r', e⟩ := c_of p q r ds h0 h1
  exact ⟨d, hd, p', q', r', call_keep1 hi rfl e rfl⟩
end T3
namespace T3
open PySem PySem.Spec PyProof.Rows L2
variable {t : List Nat} {n : Nat}
theorem lt_int {a b : Int} {S : Store} : fLt (.val (.int a)) (.val (.int b)) S = .ok (.val (.bl (decide (a < b)))) S := rfl
theorem ge_int {a b : Int} {S : Store} : fGe (.val (.int a)) (.val (.int b)) S = .ok (.val (.bl (decide (b ≤ a)))) S := rfl
theorem c_spring (ns : List Int) (hl : ns.length ≤ 63) (k : Nat) (hk : k ≤ 1000) : ∃ p q : Int, m__law_spring [.val (.ro (ns.map D.int)), .val (nD k)] [] = .ok (.ref 0) [spr p q 0] := by
  unfold m__law_spring b__law_spring runF
  have hm : mulOk 7 (k : Int) = true := mulOk_l (by omega) (by omega)
  have hm2 : mulOk 7919 (k : Int) = true := mulOk_l (by omega) (by omega)
  have hm3 : mulOk 11 (k : Int) = true := mulOk_l (by omega) (by omega)
  have cell : ∀ ρ, ρ = [some (A.val (.ro (ns.map D.int))), some (.val (.int (k : Nat))), none, none, none] → ∃ c : Int, cIf (cBin fLt (cV 1) (cB1 fLen (cCons (cV 0) cNil))) (cBin fIx (cV 0) (cV 1)) (cBin (fAdd true) (cBin (fMul true) (cI 7) (cV 1)) (cI 2)) ρ [] = .ok (.val (.int c)) [] := by
    rintro ρ rfl
    by_cases h : k < ns.length
    · refine ⟨ns[k], ?_⟩
      have e : ixN (ns.map D.int).length (k : Int) = some k := ixN_nat (by simpa using h)
      rw [List.length_map] at e
      simp [lt_int, h, e, List.getElem?_eq_getElem h]
    · refine ⟨7 * k + 2, ?_⟩
      simp [lt_int, h, hm]
  obtain ⟨c, hc⟩ := cell _ rfl
  have hcut : ∃ cs : List Int, cs.length ≤ 63 ∧ cutD (ns.map D.int) none (some 8) = cs.map D.int := by
    refine ⟨(ns.drop (HT.sIx ns.length 0 none)).take (HT.sIx ns.length ns.length (some 8) - HT.sIx ns.length 0 none), ?_, ?_⟩
    · rw [List.length_take, List.length_drop]
      omega
    · unfold cutD
      rw [List.length_map, List.map_take, List.map_drop]
  obtain ⟨cs, hcl, hcs⟩ := hcut
  have hz : cs.length + 1 ≤ 16000000 := by omega
  have hc' := hc
  simp only [List.map_cons, List.map_nil, List.cons_append, List.nil_append, nD, List.length_cons, List.length_nil, List.replicate]
  rw [ap_sSeq, ap_sAsg, hc]
  simp [hm2, hcs, hz]
  have ecs : cs.map D.int ++ [D.int c] = (cs ++ [c]).map D.int := by simp
  rw [ecs]
  generalize hq : forL _ _ _ _ = q
  obtain ⟨ρ', S', rfl, m, z, rfl, rfl⟩ := forL_q hq (fun i ρ S => ∃ (m : Int) (z : Option A), ρ = [some (A.val (D.ro (ns.map D.int))), some (.val (.int (k : Nat))), some (.val (.int c)), some (.val (.int m)), z] ∧ S = []) ⟨_, _, rfl, rfl⟩ (by
    rintro i d ρ S hd ⟨m, z, rfl, rfl⟩
    rw [List.getElem?_map, Option.map_eq_some_iff] at hd
    obtain ⟨x, hx, rfl⟩ := hd
    simp [mulOk_r, hm3])
  by_cases h0 : c < 0
  · simp [lt_int, h0, spr]
  · by_cases h1 : 1000000000000000000 ≤ c
    · simp [lt_int, ge_int, h0, h1, spr]
    · simp [lt_int, ge_int, h0, h1, spr]
theorem k_spring (ns : List Int) (hl : ns.length ≤ 63) (k : Nat) (hk : k ≤ 1000) (S : Store) : ∃ p q : Int, callIn true m__law_spring [.val (.ro (ns.map D.int)), .val (nD k)] S = .ok (.ref S.length) (S ++ [spr p q 0]) := by
  obtain ⟨p, q, e⟩ := c_spring ns hl k hk
  exact ⟨p, q, call_new (ds := [.ro (ns.map D.int), nD k]) rfl e rfl⟩
end T3
namespace T3.XI
open PySem PySem.W PySem.Calls PyProof.Rows
noncomputable def ag (f : Str) (p1 p2 : Pos) : Arguments := { posonlyargs := [], args := [{ arg := "self", annotation := none, pos := p1 }, { arg := f, annotation := none, pos := p2 }], vararg := none, kwonlyargs := [], kw_defaults := [], kwarg := none, defaults := [] }
noncomputable def bd (f : Str) (p0 p1 p2 p3 p4 q1 q2 q3 q4 : Pos) : List Stmt := [.Expr (.Call (.Attribute (.Call (.Name "super" p0) [] [] p1) "__init__" p2) [] [] p3) p4, .Assign [.Attribute (.Name "self" q1) f q2] (.Name f q3) q4]
noncomputable def sc (f : Str) : Scope := { kind := .function, names := [(PySem.Str.ofString "self", .local), (f, .local), (PySem.Str.ofString "__class__", .free), (PySem.Str.ofString "super", .globalImplicit)], isGenerator := false, isCoroutine := false, more := [] }
/-- the built-in base -/
structure BaseX (B newId initId : String) (bmB : List Value) : Prop where
  fb : ExcBaseFacts B newId initId bmB
  kf : KxsFacts B initId
  sf : StoreFacts B bmB "object.__setattr__" "object"
/-- what the written part says of the class at C and of its __init__ at fI -/
structure XTxt (prog : Program) (K : Frag) (mg : Str → Option Value) (nm f : Str) (C fI : Addr) (B newId initId : String) (bmB : List Value) : Prop where
  gC : mg nm = some (.ref C)
  base : BaseX B newId initId bmB
  q : excInitIn K C bmB newId = true
  ov : excOver K C bmB = true
  sa : findIn K (.ref C) "__setattr__" = some (some (.builtin "object.__setattr__"))
  noF : findIn K (.ref C) f = some none
  hd : hasDictIn K C = true
  iC : findIn K (.ref C) "__init__" = some (some (.ref fI))
  tI : isFn K (.ref fI) = true
  kC : keepIn K (.ref C) = true
  exC : subIn K (.ref C) (.type "BaseException") = some true
  tyC : typeIn K (.ref C) = some (.type "type")
  sB : subIn K (.ref C) (.type B) = some true
  mC : mroIn K C (.ref C) = some true
  sup : ks_superIn K C C "__init__" = some (some (.builtin initId))
  noS : nsIn K mainGlobals "super" = some none
  any : nsIn K cStatics "thirdparty.any" = some none
  top : (prog.main.scope.names.lookup ("super" : Str)).isSome = false
  fn : ∃ (oc : Value) (od : Option Addr) (dV kV doc pm : Value) (an : Option Addr) (cda : Addr) (ct : Value) (cc : Addr) (osl : Array (Option Value)) (qual : Str) (p1 p2 p0 a1 a2 a3 a4 q1 q2 q3 q4 : Pos),
    K.lookup fI = some ⟨oc, od, .func (ksFn "__init__" qual (ag f p1 p2) (bd f p0 a1 a2 a3 a4 q1 q2 q3 q4) (sc f) dV kV doc pm an (.ref cda) ct cc), osl⟩ ∧ dV = .none ∧ (a2.endLine == a3.line) = true ∧ codeIn K (.ref cda) qual = true ∧
    (∃ ccl cdd vs ccs file tf, K.lookup cda = some ⟨ccl, cdd, .fields vs, ccs⟩ ∧ vs[2]? = some (.str file tf) ∧ ((prog.main.file : Str) == file) = true) ∧
    ∃ cl cld csl, K.lookup cc = some ⟨cl, cld, .cell (some (.ref C)), csl⟩
section
variable {prog : Program} {w : World} {A : Around} {E : Value → Shared → Prop} {R : Result → Shared → Prop} {s : Shared} {K : Frag} {mg : Str → Option Value} {nm f : Str} {C fI : Addr} {B newId initId : String} {bmB : List Value}
/-- what __init__ leaves of a fresh exception at x -/
structure End (h h' : Heap) (x C dx t1 : Addr) (f : Str) (v : Value) : Prop where
  keep : ∀ b o, b ≠ x → h.get? b = some o → h'.get? b = some o
  obj : h'.get? x = some (excObj C t1 (some dx) .none)
  dbig : h.objs.size ≤ dx
  dne : dx ≠ x
  ns : h'.Ns1 dx (fun y => if y = f then some v else none)
theorem cls_isSome {C : Addr} (q : excOver K C bmB = true) : ∃ cd, clsIn K C = some cd := by
  unfold excOver at q
  cases h : clsIn K C with
  | none => rw [h] at q; cases q
  | some cd => exact ⟨cd, rfl⟩
theorem sup_node {g : Heap} {L x cc cda so : Addr} {m : Str → Option Value} {news : List (Addr × Obj)} {ox : Obj} {fd : FuncData} {oc ccl cl : Value} {od cdd cld : Option Addr} {osl ccs csl : Array (Option Value)} {vs : Array Value} {file : Str} {tf : Tok} {body : List Stmt} {qual : Str} {p0 p1 : Pos} {cd : ClassData} {whole : Sem Value} {Q : Value → Shared → Prop}
    (Fg : Fr g L s.heap m) (Kg : K.In g) (Ng : News g L s.heap news) (G : s.heap.Ns mainGlobals mg) (Bl : ∃ mb, s.heap.Ns builtinsNs mb ∧ ∀ x : Str, x ≠ "__name__" → mb x = bootBuiltins x) (noS : mg "super" = none)
    (hf : K.lookup fI = some ⟨oc, od, .func fd, osl⟩) (hp : ∃ p1, (fd.params.posonlyargs ++ fd.params.args).head? = some { arg := "self", annotation := none, pos := p1 }) (hv : m "self" = some (.ref x)) (I : InstAt s.heap x ox C none)
    (hcode : K.lookup cda = some ⟨ccl, cdd, .fields vs, ccs⟩) (hvs : vs[2]? = some (.str file tf)) (hfile : ((prog.main.file : Str) == file) = true) (hcell : K.lookup cc = some ⟨cl, cld, .cell (some (.ref C)), csl⟩)
    (hcd : clsIn K C = some cd) (hm : mroIn K C (.ref C) = some true) (htop : (prog.main.scope.names.lookup ("super" : Str)).isSome = false)
    (hks : (sc f).names.lookup ("super" : Str) = some .globalImplicit) (hkc : (sc f).names.lookup ("__class__" : Str) = some .free)
    (h : ∀ so h', Fr g L h' m → News g L h' ((so, ks_superObj C x C) :: news) → (∀ p ∈ news, p.1 < so) → Q (.ref so) { s with heap := h' }) :
    _root_.PySem.wpAt (model prog w) A (.func body (ksEnv qual (sc f) L fI (.ref cda) cc)) (attributeBase (.Call (.Name "super" p0) [] [] p1) "__init__" (ksEnv qual (sc f) L fI (.ref cda) cc) whole) Q E s := by
  have X : K.In s.heap := Kg.keeps Fg.keep
  obtain ⟨mb, b1, b2⟩ := Bl
  obtain ⟨p1', hp⟩ := hp
  obtain ⟨hh, gg, d, t, os⟩ := s
  have hD : ∃ oD, hh.get? C = some oD ∧ oD.data = .cls cd := by
    have e := hcd
    unfold clsIn at e
    split at e
    · rename_i c d cd' sl ho
      injection e with e
      exact ⟨_, X _ _ ho, by rw [e]⟩
    · cases e
  obtain ⟨oD, d1, d2⟩ := hD
  refine ks_wpAt_super_base (env := ksEnv qual (sc f) L fI (.ref cda) cc) hks hkc (by decide) rfl (X _ _ hf) rfl hp rfl (X _ _ hcode) rfl hvs hfile htop (ks_loadName_global rfl hks (loadGlobal_builtin (env := ksEnv qual (sc f) L fI (.ref cda) cc) G noS b1 ((b2 _ (by decide +kernel)).trans (by first | rfl | kernel_rfl)) ⟨rfl, ?_⟩))
  refine wpAny_loadName_free rfl hkc rfl ⟨_, X _ _ hcell, rfl⟩ (wpAny_loadName_local rfl rfl Fg.ns hv (ks_wpAny_isType_cls d1 d2 ⟨rfl, ks_wpAny_call_super d1 d2 I.at_ I.cls (fun c e => ?_) (looks_mroIn X hm) fun h' e k => ?_⟩))
  · have n := I.no
    rw [show notCls ox = false from by unfold notCls; rw [e]] at n
    cases n
  · obtain ⟨F', N', l'⟩ := ks_newsPush (s := ⟨hh, gg, d, t, os⟩) Fg Ng rfl e k
    exact h _ _ F' N' l'
end
end T3.XI
namespace T3.XI
open PySem PySem.W PySem.Calls PyProof.Rows
section
variable {prog : Program} {w : World} {A : Around} {E : Value → Shared → Prop} {R : Result → Shared → Prop} {s : Shared} {K : Frag} {mg : Str → Option Value} {nm f : Str} {C fI : Addr} {B newId initId : String} {bmB : List Value}
theorem ev_sup {env : Env} {a0 a1 a2 a3 : Pos} (hl : (a2.endLine == a3.line) = true) : eval (.Call (.Attribute (.Call (.Name "super" a0) [] [] a1) "__init__" a2) [] [] a3) env = (do
      let ov ← attributeBase (.Call (.Name "super" a0) [] [] a1) "__init__" env (eval (.Call (.Name "super" a0) [] [] a1) env)
      standAt a2.atName
      let (f, first) ← holding [ov] (getMethod ov "__init__" (L2.plainOf (.Call (.Name "super" a0) [] [] a1) env))
      callWith a3 f first (backTo a3 (starEach [] env)) []) := by
  have e : ∀ ov, methodCall (.Call (.Name "super" a0) [] [] a1) "__init__" a2 a3 env ov 0 (backTo a3 (starEach [] env)) [] = _ := fun ov => L2.mcall_line (m := "__init__") (n := 0) (args := backTo a3 (starEach [] env)) (kws := []) rfl hl
  show (attributeBase (.Call (.Name "super" a0) [] [] a1) "__init__" env (eval (.Call (.Name "super" a0) [] [] a1) env) >>= fun ov => standAt a2.atName >>= fun _ => methodCall (.Call (.Name "super" a0) [] [] a1) "__init__" a2 a3 env ov 0 (backTo a3 (starEach [] env)) []) = _
  simp only [e]
theorem x_init (hf : f = "given" ∨ f = "index") (T : XTxt prog K mg nm f C fI B newId initId bmB) {x t0 : Addr} {v : Value} (X : K.In s.heap) (hlim : s.heap.NoLimit) (G : s.heap.Ns mainGlobals mg) (Bl : ∃ mb, s.heap.Ns builtinsNs mb ∧ ∀ x : Str, x ≠ "__name__" → mb x = bootBuiltins x)
    (noS : mg "super" = none) (hx : s.heap.get? x = some (excObj C t0 none .none)) (hnx : K.lookup x = none) (hroom : A.depth < recursionLimit)
    (hq : ∀ h' tk dx t1, End s.heap h' x C dx t1 f v → R (.ok (.ret .none)) { s with heap := h', toks := tk }) :
    codeAny (model prog w) A (.call (.ref fI) ⟨[.ref x, v], []⟩) R s := by
  obtain ⟨oc, od, dV, kV, doc, pm, an, cda, ct, cc, osl, qual, p1, p2, p0, a1, a2, a3, a4, q1, q2, q3, q4, ho, hdv, hln, hcd, ⟨ccl, cdd, vs, ccs, file, tf, k1, k2, k3⟩, cl, cld, csl, k4⟩ := T.fn
  subst hdv
  obtain ⟨cd, hcls⟩ := cls_isSome T.ov
  have hxne : ∀ o, K.lookup x = some o → False := fun o e => by rw [hnx] at e; cases e
  refine ks_codeAny_call_defAt (fd := ksFn "__init__" qual (ag f p1 p2) (bd f p0 a1 a2 a3 a4 q1 q2 q3 q4) (sc f) .none kV doc pm an (.ref cda) ct cc) (body := bd f p0 a1 a2 a3 a4 q1 q2 q3 q4) (binds := [("self", .ref x), (f, v)]) hroom (X _ _ ho) rfl hlim (codeRec_of X hcd) rfl ?_ ?_ ?_ (fun h₁ hns k => ?_) rfl rfl rfl
  · rcases hf with rfl | rfl <;> exact BindsTo.of_eq (by first | rfl | with_unfolding_all rfl)
  · show ∀ x ∈ (sc f).names, x.2 ≠ .cell
    rcases hf with rfl | rfl <;> decide
  · intro y hy
    show (sc f).names.lookup y.1 = some .local
    rcases List.mem_cons.mp hy with rfl | hy
    · rfl
    · rw [List.mem_singleton.mp hy]
      rcases hf with rfl | rfl <;> rfl
  have X1 : K.In h₁ := X.keeps k
  have Fg : Fr (hideAll s.heap [x]) s.heap.objs.size h₁ _ := ⟨hns, fun b o e => k b o (of_hideAll _ e), Nat.le_of_eq (hideAll_size _ _)⟩
  have Kg : K.In (hideAll s.heap [x]) := fun a o e => hideAll_get _ (X a o e) (fun z => hxne o (by rw [← List.mem_singleton.mp z]; exact e))
  have hxL : x ≠ s.heap.objs.size := Nat.ne_of_lt (Heap.lt_size hx)
  have Ng : News (hideAll s.heap [x]) s.heap.objs.size h₁ [(x, excObj C t0 none .none)] := fun p hp => by
    rw [List.mem_singleton.mp hp]
    exact ⟨k _ _ hx, hxL, hideAll_none _ List.mem_cons_self⟩
  have mS : List.lookup ("self" : Str) ([("self", Value.ref x), (f, v)] : List (Str × Value)).reverse = some (Value.ref x) := by rcases hf with rfl | rfl <;> rfl
  have mF : List.lookup f ([("self", Value.ref x), (f, v)] : List (Str × Value)).reverse = some v := by rcases hf with rfl | rfl <;> rfl
  have s1 : (sc f).names.lookup ("super" : Str) = some .globalImplicit := by rcases hf with rfl | rfl <;> rfl
  have s2 : (sc f).names.lookup ("__class__" : Str) = some .free := by rcases hf with rfl | rfl <;> rfl
  have s3 : (sc f).names.lookup f = some .local := by rcases hf with rfl | rfl <;> rfl
  have dbg : (f == ("__debug__" : Str)) = false := by rcases hf with rfl | rfl <;> decide
  show _root_.PySem.wpAt _ _ _ (execs (bd f p0 a1 a2 a3 a4 q1 q2 q3 q4) (ksEnv qual (sc f) s.heap.objs.size fI (.ref cda) cc)) _ _ _
  refine ks_wpAt_execs_cons (ks_wpAt_Expr_any (ks_wpAt_MethodCall ?_ (ev_sup hln)))
  refine sup_node (so := 0) (C := C) (fI := fI) (f := f) (s := { s with heap := h₁, toks := _ }) Fg Kg Ng (G.keeps k) (let ⟨mb, b1, b2⟩ := Bl; ⟨mb, b1.keeps k, b2⟩) noS ho ⟨p1, rfl⟩ mS ⟨k _ _ hx, rfl, rfl, trivial⟩ k1 k2 k3 k4 hcls T.mC T.top s1 s2 (fun so h2 F2 N2 l2 => ?_)
  have I2 : InstAt h2 x (excObj C t0 none .none) C none := ⟨(N2 (x, excObj C t0 none .none) (by simp)).1, rfl, rfl, trivial⟩
  have soX : so ≠ x := fun z => Nat.lt_irrefl _ (z ▸ l2 _ (List.mem_singleton.mpr rfl))
  refine kxs_method (s := { s with heap := h2, toks := _ }) T.base.kf F2 Kg N2 List.mem_cons_self I2 T.any T.sup T.sB (by decide) (fun u h3 F3 N3 l3 => ?_)
  have uX : u ≠ x := fun z => by
    have := l3 (x, excObj C t0 none .none) (by simp)
    rw [z] at this
    exact Nat.lt_irrefl _ this
  refine kxs_callWith0 (s := { s with heap := h3, toks := _ }) N3 List.mem_cons_self ?_
  refine kxs_call (s := { s with heap := h3, toks := _ }) (rest := []) F3 Kg N3 T.base.fb T.q List.mem_cons_self (.tail uX (.tail soX (.head (fun p hp => by cases hp)))) (Nat.zero_le _) (fun t' h4 F4 N4 l4 => ?_)
  have X4 : K.In h4 := Kg.keeps F4.keep
  have hx4 := (N4 (x, excObj C t' none .none) (by simp)).1
  have I4 : InstAt h4 x (excObj C t' none .none) C none := ⟨hx4, rfl, rfl, trivial⟩
  have ht : takerIn K C f = some none := by
    unfold takerIn
    rw [T.noF]
    rfl
  have hdc : cd.hasDict = true := by
    have e := T.hd
    unfold hasDictIn at e
    rw [hcls] at e
    exact e
  show _root_.PySem.wpAt _ _ _ (execs [.Assign [.Attribute (.Name "self" q1) f q2] (.Name f q3) q4] (ksEnv qual (sc f) s.heap.objs.size fI (.ref cda) cc)) _ _ _
  refine ks_wpAt_execs_cons (ks_wpAt_Assign_Attr (wpAt_of_wpAny (wpAny_Name (wpAny_loadName_local rfl s3 F4.ns mF ?_) dbg)))
  refine wpAny_Name (wpAny_loadName_local rfl rfl F4.ns mS ?_) (by decide)
  refine set_plain (od := none) X4 ⟨hx4, rfl, rfl, trivial⟩ T.sa (osa_openX T.base.sf X4 I4 T.ov ht fun b => ?_)
  have hcd4 : Looks (model prog w) h4 (classData C) cd := looks_clsIn X4 hcls
  have hxs : x ≠ h4.objs.size := Nat.ne_of_lt (Heap.lt_size hx4)
  obtain ⟨c1, c2, c3, c4, c5, c6, c7, c8, c9, c10, c11⟩ := cd
  dsimp only at hdc
  subst hdc
  unfold Builtin.ObjectAttr.storeInOwnDict Builtin.ObjectAttr.ownDictForStores
  repeat first
    | (with_reducible refine HandSPX.store_in_new ?_ ?_)
    | (with_reducible refine wpAny_loadPart_at hx4 ?_)
    | (with_reducible refine hcd4.at ?_)
    | wp_step
  · exact ⟨_, #[], _, (Heap.get?_update_ne _ _ _ _ hxs.symm).trans (Heap.get?_push_at rfl rfl), rfl, fun e he => absurd he (by simp), fun _ => rfl⟩
  · intro h5 tk5 hn5 hs5
    refine wpAt_of_wpAny (wpAny_execs_nil ?_)
    have step : ∀ b o, b ≠ x → h4.get? b = some o → h5.get? b = some o := fun b o hb e =>
      (hs5.2 b (Nat.ne_of_lt (Heap.lt_size e))).trans ((Heap.get?_update_ne _ _ _ _ (Ne.symm hb.symm)).trans (Heap.get?_push_of_some _ e))
    refine hq h5 tk5 h4.objs.size t' ⟨fun b o hb e => step b o hb (F4.keep b o (hideAll_get _ e fun z => hb (List.mem_singleton.mp z))), ?_, Nat.le_of_lt F4.ns.lt, hxs.symm, hn5⟩
    exact (hs5.2 x hxs).trans (Heap.get?_update_self _ (Heap.get?_push_of_some _ hx4) rfl)
end
end T3.XI
namespace T3.XI
open PySem PySem.W PySem.Calls PyProof.Rows
section
variable {prog : Program} {w : World} {A : Around} {E : Value → Shared → Prop} {R : Result → Shared → Prop} {s : Shared} {K : Frag} {mg : Str → Option Value} {nm f : Str} {C fI : Addr} {B newId initId : String} {bmB : List Value}
/-- a made error -/
structure Made (h h' : Heap) (e C d : Addr) (f : Str) (v : Value) : Prop where
  keep : ∀ b o, h.get? b = some o → h'.get? b = some o
  new : h.objs.size ≤ e
  obj : ∃ oe vs, h'.get? e = some oe ∧ oe.cls = .ref C ∧ oe.dict = some d ∧ oe.data = .fields vs ∧ vs[1]? = some .none
  dbig : h.objs.size ≤ d
  dne : d ≠ e
  ns : h'.Ns1 d (fun y => if y = f then some v else none)
theorem size1 (v : Value) : [v].length ≤ sizeLine := by
  rw [sizeLine_eq]
  exact (by decide : 1 ≤ 16777216)
theorem x_made (hf : f = "given" ∨ f = "index") (T : XTxt prog K mg nm f C fI B newId initId bmB) {v : Value} (X : K.In s.heap) (hlim : s.heap.NoLimit) (G : s.heap.Ns mainGlobals mg) (Bl : ∃ mb, s.heap.Ns builtinsNs mb ∧ ∀ x : Str, x ≠ "__name__" → mb x = bootBuiltins x)
    (noS : mg "super" = none) (hroom : A.depth + 1 < recursionLimit)
    (hq : ∀ h' tk e d, Made s.heap h' e C d f v → R (.ok (.ret (.ref e))) { s with heap := h', toks := tk }) : codeAny (model prog w) A (.call (.ref C) ⟨[v], []⟩) R s := by
  obtain ⟨n1, n2, n3, n4, bm, n6, n7, n8, n9, n10, n11, m0, m1, m2, m3, m5, hC, hT⟩ := excInit_of X T.q
  obtain ⟨oI, hoI, hcI⟩ : ∃ oI, s.heap.get? fI = some oI ∧ oI.cls = .type "function" := by
    obtain ⟨o, ho, hc⟩ := Option.map_eq_some_iff.mp (show (K.lookup fI).map (·.cls) = some (.type "function") from beq_iff_eq.mp T.tI)
    exact ⟨o, X _ _ ho, hc⟩
  obtain ⟨hp, g, dr, tk, os⟩ := s
  have k : ∀ b o, hp.get? b = some o → ((hp.push (kdv_tup [v])).push (HandSPX.excO C hp.objs.size)).get? b = some o := fun b o e => Heap.get?_push_of_some _ (Heap.get?_push_of_some _ e)
  have hnew : ((hp.push (kdv_tup [v])).push (HandSPX.excO C hp.objs.size)).get? (hp.objs.size + 1) = some (HandSPX.excO C hp.objs.size) := by heap_get
  have hnx : K.lookup (hp.objs.size + 1) = none := by
    cases e : K.lookup (hp.objs.size + 1) with
    | none => rfl
    | some o =>
      have z : hp.objs.size + 1 < hp.objs.size := Heap.lt_size (show hp.get? (hp.objs.size + 1) = some o from X _ _ e)
      omega
  refine HandSPX.call_own T.base.fb hT hC (looks_findIn X T.iC) (fun self => exc_bind hoI hcI self) (size1 v) ?_
  obtain ⟨mb, b1, b2⟩ := Bl
  refine x_init (s := ⟨(hp.push (kdv_tup [v])).push (HandSPX.excO C hp.objs.size), g, dr, tk, os⟩) hf T (X.keeps k) (hlim.keeps k) (G.keeps k) ⟨mb, b1.keeps k, b2⟩ noS hnew hnx hroom fun h' tk' dx t1 M => ⟨rfl, hq h' tk' (hp.objs.size + 1) dx ?_⟩
  have big := M.dbig
  rw [Heap.size_push, Heap.size_push] at big
  exact ⟨fun b o e => M.keep b o (Nat.ne_of_lt (Nat.lt_succ_of_lt (Heap.lt_size e))) (k b o e), Nat.le_succ _, ⟨_, _, M.obj, rfl, rfl, rfl, rfl⟩, (by omega : hp.objs.size ≤ dx), M.dne, M.ns⟩
end
end T3.XI
namespace T3
open PySem PySem.Spec PyProof.Rows L2
theorem relO_one {f : Str} {v : V} {u : Value} (r : RelV v u) (g : Str) : RelO (List.lookup g [(f, v)]) (if g = f then some u else none) := by
  by_cases h : g = f
  · rw [if_pos h, List.lookup, show (g == f) = true from by rw [h]; exact beq_self_eq_true f]
    exact r
  · rw [if_neg h, List.lookup, show (g == f) = false from beq_eq_false_iff_ne.mpr h]
    trivial
section
variable {X : Cx} {nm f : Str} {C fI : Addr} {B newId initId : String} {bmB : List Value}
/-- C(e) -/
noncomputable def tMkX (C : Addr) (f : Str) (ta : TA) : L2.St → Hp → XK → Prop := fun σ H Q => ta σ H fun vs H1 => ∃ v, vs = [v] ∧ ∀ d, H1 d = none → Q (.ref C) (some d) (upd H1 d (.xd [(f, v)]))
theorem pmk_x {a : Expr} {ta : TA} {p pos : Pos} {k : Nat} (hf : f = "given" ∨ f = "index") (T : XI.XTxt X.prog X.K X.mg nm f C fI B newId initId bmB) (hr : Room k X.A) (ha : PA X [a] ta) (hg : Gl X nm) (noS : X.mg "super" = none)
    (he : starEach (a :: []) X.env = (false, eval a X.env) :: starEach [] X.env := by rfl) (hpl : (backTo pos (starEach [] X.env)).any (·.1) = false := by rfl) (hdb : (nm == ("__debug__" : Str)) = false := by decide) :
    PMk X (.Call (.Name nm p) [a] [] pos) (tMkX C f ta) := by
  intro pins s σ H Q I h
  refine wpAny_Call_Name_kw (ld_glob I hg T.gC ?_ hdb)
  refine PySem.W.callWith_K (h₀ := X.base) I.ok.mod.kin T.kC (thn (ha.run pos pins s σ H _ I h) fun us s1 hh => ?_) he hpl
  obtain ⟨vs, H1, I1, r1, v, rfl, q1⟩ := hh
  refine ⟨I1.kIn, ?_⟩
  cases r1 with
  | cons rv rn =>
  rename_i u us'
  cases rn
  have hlim := I1.nolimit
  have room : X.A.depth + 1 < recursionLimit := by have := hr.dp; omega
  have blt : ∃ mb, s1.heap.Ns builtinsNs mb ∧ ∀ x : Str, x ≠ "__name__" → mb x = bootBuiltins x := let ⟨mb, b1, b2⟩ := I1.ok.mod.blt; ⟨mb, b1.keeps I1.bk, b2⟩
  refine wpAny_call (XI.x_made hf T I1.kIn hlim (I1.ok.mod.glob.keeps I1.bk) blt noS room fun h' tk e d M => ?_)
  show MkP X pins σ Q (.ref e) { s1 with heap := h', toks := tk }
  obtain ⟨oe, fv, hoe, hc, hd, hdat, h1⟩ := M.obj
  obtain ⟨G, g1, g2⟩ := restrict h' fun b => decide (b ≠ e)
  have gk : ∀ b, b ≠ e → G.get? b = h'.get? b := fun b hb => g1 b (decide_eq_true hb)
  have ge : G.get? e = none := g2 e (by simp)
  have old : ∀ b o, s1.heap.get? b = some o → G.get? b = some o := fun b o q => (gk b (Nat.ne_of_lt (Nat.lt_of_lt_of_le (Heap.lt_size q) M.new))).trans (M.keep b o q)
  have ob : ObjOk X.prog X.w (upd H1 d (.xd [(f, v)])) G d (.xd [(f, v)]) := ⟨_, M.ns.at (fun o q => (gk d M.dne).trans q), fun g => relO_one rv g⟩
  have J : Inv X pins σ (upd H1 d (.xd [(f, v)])) { s1 with heap := G, toks := tk } := I1.laid (t' := tk) old M.dbig ob
  refine ⟨e, oe, fv, { s1 with heap := G, toks := tk }, _, .ref C, some d, rfl, J, fun b o q => ?_, ge, hoe, ⟨hc, hd⟩, hdat, h1, ?_, rfl, I1.bare, raises_own T.exC T.tyC, q1 d (I1.hok.fresh M.dbig)⟩
  · by_cases hb : b = e
    · have q' : G.get? b = some o := q
      rw [hb, ge] at q'
      cases q'
    · exact (gk b hb).symm.trans q
  · rw [upd_ne (Ne.symm M.dne)]
    exact I1.hok.fresh M.new
end
end T3
namespace T3
open PySem PySem.Spec PyProof.Rows L2
noncomputable def sRaiseX (c : Nat) (f : Str) (e : CE) : CS := fun ρ S => match e ρ S with
  | .ok (.val d) S1 => .exc ⟨c, [f], [d]⟩ ρ S1
  | .ok (.ref _) _ => .bad
  | .exc x S1 => .exc x ρ S1
  | .bad => .bad
section
variable {X : Cx} {cl : ClT} {W : WX} {nm f : Str} {fI : Addr} {B newId initId : String} {bmB : List Value}
theorem pm_raiseX (c : Nat) {a : Expr} {e : CE} {p pos pos2 : Pos} {k : Nat} (hc : X.calm = true) (tk : Takes X W) (hf : f = "given" ∨ f = "index") (T : XI.XTxt X.prog X.K X.mg nm f (cl c) fI B newId initId bmB) (hr : Room k X.A) (noS : X.mg "super" = none) (ha : PE X a (tM X.K cl W e)) (hg : Gl X nm := by rfl)
    (he : starEach (a :: []) X.env = (false, eval a X.env) :: starEach [] X.env := by rfl) (hpl : (backTo pos (starEach [] X.env)).any (·.1) = false := by rfl) (hdb : (nm == ("__debug__" : Str)) = false := by decide) :
    PS X (.Raise (some (.Call (.Name nm p) [a] [] pos)) none pos2) (tMS X.K cl W (sRaiseX c f e)) := PS.imp (ps_raise hc tk (pmk_x hf T hr (pm_cons ha pm_nil (hs := he)) hg noS he hpl hdb)) fun E σ H h => by
  obtain ⟨B0, m, S, ρ, o, en, fin⟩ := h
  refine ⟨B0, m, S, ρ, o, en, ?_⟩
  unfold sRaiseX at fin
  unfold cCons
  cases hr : e ρ S with
  | bad => rw [hr] at fin; exact fin.elim
  | exc x S1 =>
    rw [hr] at fin
    exact fun c' d' H' m' s' o' x' => fin c' d' σ H' m' s' o' (s'.env o en) x'
  | ok x S1 =>
    rw [hr] at fin
    cases x with
    | ref i => exact fin.elim
    | val d =>
      intro vs H1 m1 s1 o1 r1
      cases r1 with
      | cons q q2 =>
      cases q2
      refine ⟨_, rfl, fun dx hd => ?_⟩
      exact fin _ _ σ _ m1 (s1.trans (Step.new hd)) (o1.new hd) ((s1.trans (Step.new hd)).env o en) ⟨rfl, .inr ⟨dx, _, rfl, upd_same, o1.fresh hd, rfl, .cons (Rep.mono (Kp.new hd) q) .nil⟩⟩
end
end T3
namespace T3
open PySem PySem.Spec PyProof.Rows L2 HotX L2H
section
end
end T3
namespace T3
open PySem PySem.Spec PyProof.Rows L2
/-- what a class says so that its errors are asked and read -/
structure ClsE (K : PySem.W.Frag) (D : Addr) : Prop where
  xf : XfC K D
  cls : (PySem.W.clsIn K D).isSome = true
  ha : PySem.W.findIn K (.ref D) "__class__" = some (some (.builtin "object.__class__"))
  hn : PySem.W.specialIn K (.builtin "object.__class__") "__get__" = some (some (.builtin "getset_descriptor.__get__"))
  ht : PySem.W.takesIn K (.builtin "object.__class__") = some true
  hm : PySem.W.mroIn K D (.type "object") = some true
section
end
end T3
namespace T3
open PySem PySem.Spec PyProof.Rows L2 LamX
section
end
section
end
section
end
end T3
namespace T3
open PySem PySem.Spec PyProof.Rows L2
section
end
end T3
namespace T3
open PySem PySem.Spec PyProof.Rows L2
section
variable {X : Cx} {cl : ClT} {W : WX}
/-- the bools in a list -/
noncomputable def fLCnt (x : A) (xs : List A) (S : Store) : Res := match asL S x, xs with
  | some ds, [.val (.bl b)] => (match boolsOf ds with
    | some bs => .ok (.val (.int (bs.countP (· == b) : Nat))) S
    | none => .bad)
  | _, _ => .bad
end
section
variable {S : Store} {ds : List D} {b : Bool}
@[simp] theorem lcnt_lst : fLCnt (.val (.lst ds)) [.val (.bl b)] S = (match boolsOf ds with | some bs => .ok (.val (.int (bs.countP (· == b) : Nat))) S | none => .bad) := rfl
end
end T3
namespace T3
open PySem PySem.Spec PyProof.Rows L2
section
variable {X : Cx} {cl : ClT} {W : WX}
noncomputable abbrev siP (kvs : List (Str × Int)) : PyData := .dict (kvs.map fun kv => (.str kv.1, .int kv.2))
noncomputable def strsK : List Key → Option (List Str)
  | [] => some []
  | .inr s :: r => (strsK r).map (s :: ·)
  | _ => none
/-- repr, of a dict of texts to ints too -/
noncomputable def fReprD : List A → Store → Res
  | [.val (.dic ks ds)], S => (match strsK ks, intsOf ds with
    | some ss, some is => if ss.length == is.length && (siP (ss.zip is)).showable && decide ((siP (ss.zip is)).depth ≤ 60) && szOk (siP (ss.zip is)).shown.length then .ok (.val (.str (siP (ss.zip is)).shown)) S else .bad
    | _, _ => .bad)
  | xs, S => fRepr xs S
end
end T3
namespace T3
open PySem PySem.Spec PyProof.Rows L2 LamX L2H
section
end
mutual
noncomputable def nIns : D → Bool
  | .tup xs => nInsL xs
  | .lst xs => nInsL xs
  | .ro xs => nInsL xs
  | .wt xs => nInsL xs
  | .dic _ xs => nInsL xs
  | .ins _ _ _ => false
  | _ => true
noncomputable def nInsL : List D → Bool
  | [] => true
  | x :: r => nIns x && nInsL r
end
end T3
namespace T3
open PySem PySem.Spec PyProof.Rows L2 LamX L2H
section
end
end T3
namespace T3
open PySem PySem.Spec PyProof.Rows L2 LamX L2H
section
end
section
end
end T3
namespace T3
open PySem PySem.Spec PyProof.Rows L2 LamX L2H
def xNames : List Str := ["InvalidText", "InvalidNumber", "InvalidTable", "InvalidWord", "InvalidArguments", "InvalidTables", "InvalidOrder", "InvalidLot", "InvalidSheet", "InvalidName", "InvalidWish", "NotABox", "InvalidRows", "InvalidSteps", "InvalidTold", "InvalidExchanges", "InvalidWishes", "UnknownName", "InUse", "TooMany", "Broken", "NothingToUndo", "WrongValue", "WrongName", "NoAnswer"]
def xNm (j : Nat) : Str := xNames.getD j ""
noncomputable def xA (K : PySem.W.Frag) (j : Nat) : Addr := match PySem.W.nsIn K mainGlobals (xNm j) with
  | some (some (.ref a)) => a
  | _ => 0
noncomputable def errB4 (K : PySem.W.Frag) (C : Addr) : Bool := xfB K C && ((PySem.W.clsIn K C).isSome && (decide (PySem.W.findIn K (.ref C) "__class__" = some (some (.builtin "object.__class__"))) &&
  (decide (PySem.W.specialIn K (.builtin "object.__class__") "__get__" = some (some (.builtin "getset_descriptor.__get__"))) && (decide (PySem.W.takesIn K (.builtin "object.__class__") = some true) && decide (PySem.W.mroIn K C (.type "object") = some true)))))
theorem base_V : XI.BaseX "ValueError" "ValueError.__new__" "ValueError.__init__" [.type "ValueError", .type "Exception", .type "BaseException", .type "object"] := ⟨PySem.F.excBase_ValueError, PySem.W.kxs_ValueError, PySem.F.store_ValueError⟩
/-- raised with one field -/
noncomputable def RaisX (prog : Program) (K : PySem.W.Frag) (mg : Str → Option Value) (nm f : Str) : Prop := ∃ (C fI : Addr) (B newId initId : String) (bmB : List Value), XI.XTxt prog K mg nm f C fI B newId initId bmB
noncomputable def xB (K : PySem.W.Frag) (C fI : Addr) (f : Str) (B newId initId : String) (bmB : List Value) : Bool :=
  PySem.W.excInitIn K C bmB newId && (PySem.W.excOver K C bmB && (decide (PySem.W.findIn K (.ref C) "__setattr__" = some (some (.builtin "object.__setattr__"))) && (decide (PySem.W.findIn K (.ref C) f = some none) && (PySem.W.hasDictIn K C &&
  (decide (PySem.W.findIn K (.ref C) "__init__" = some (some (.ref fI))) && (PySem.W.isFn K (.ref fI) && (PySem.W.keepIn K (.ref C) && (decide (PySem.W.subIn K (.ref C) (.type "BaseException") = some true) && (decide (PySem.W.typeIn K (.ref C) = some (.type "type")) &&
  (decide (PySem.W.subIn K (.ref C) (.type B) = some true) && (decide (PySem.W.mroIn K C (.ref C) = some true) && (decide (PySem.W.ks_superIn K C C "__init__" = some (some (.builtin initId))) && (decide (PySem.W.nsIn K mainGlobals "super" = some none) && decide (PySem.W.nsIn K cStatics "thirdparty.any" = some none))))))))))))))
theorem raisX_mk {prog : Program} {K : PySem.W.Frag} {h : Heap} {mg : Str → Option Value} {nm f : Str} {C fI : Addr} {B newId initId : String} {bmB : List Value} {oc dV kV doc pm ct : Value} {od an : Option Addr} {cda cc : Addr} {osl : Array (Option Value)} {qual : Str} {p1 p2 p0 a1 a2 a3 a4 q1 q2 q3 q4 : Pos}
    {ccl : Value} {cdd : Option Addr} {vs : Array Value} {ccs : Array (Option Value)} {file : Str} {tf : Tok} {cl : Value} {cld : Option Addr} {csl : Array (Option Value)}
    (X : K.In h) (G : h.Ns mainGlobals mg) (gC : PySem.W.nsIn K mainGlobals nm = some (some (.ref C))) (iC : PySem.W.findIn K (.ref C) "__init__" = some (some (.ref fI)))
    (l : K.lookup fI = some ⟨oc, od, .func (PySem.W.ksFn "__init__" qual (XI.ag f p1 p2) (XI.bd f p0 a1 a2 a3 a4 q1 q2 q3 q4) (XI.sc f) dV kV doc pm an (.ref cda) ct cc), osl⟩) (lc : K.lookup cda = some ⟨ccl, cdd, .fields vs, ccs⟩) (ll : K.lookup cc = some ⟨cl, cld, .cell (some (.ref C)), csl⟩)
    (cd : PySem.W.codeIn K (.ref cda) qual = true) (d0 : dV = .none) (ln : (a2.endLine == a3.line) = true) (vf : vs[2]? = some (.str file tf)) (hf : ((prog.main.file : Str) == file) = true) (top : (prog.main.scope.names.lookup ("super" : Str)).isSome = false) (base : XI.BaseX B newId initId bmB) (b : xB K C fI f B newId initId bmB = true) : RaisX prog K mg nm f := by
  unfold xB at b
  simp only [Bool.and_eq_true, decide_eq_true_eq] at b
  obtain ⟨b1, b2, b3, b4, b5, b6, b7, b8, b9, b10, b11, b12, b13, b14, b15⟩ := b
  exact ⟨C, fI, B, newId, initId, bmB, PySem.W.mg_of X G gC, base, b1, b2, b3, b4, b5, b6, b7, b8, b9, b10, b11, b12, b13, b14, b15, top, oc, od, dV, kV, doc, pm, an, cda, ct, cc, osl, qual, p1, p2, p0, a1, a2, a3, a4, q1, q2, q3, q4, l, d0, ln, cd, ⟨ccl, cdd, vs, ccs, file, tf, lc, vf, hf⟩, cl, cld, csl, ll⟩
section
end
end T3
namespace T3
open PySem PySem.Spec PyProof.Rows L2 LamX L2H
section
end
end T3
namespace T3
open PySem PySem.Spec PyProof.Rows L2 LamX L2H
section
end
section
end
end T3
namespace T3
open PySem PySem.Spec PyProof.Rows L2 LamX L2H
section
variable {X : Cx} {cl : ClT} {W : WX}
noncomputable def cDic0 : CE := fun _ S => .ok (.val (.dic [] [])) S
theorem pm_dic0 {pos : Pos} : PE X (.Dict [] [] pos) (tM X.K cl W cDic0) := PE.imp pe_dnewK fun σ H Q h => by
  obtain ⟨B, m, S, ρ, o, e, fin⟩ := h
  exact fun p hp => fin (.ref p) _ m (Step.new hp) (o.new hp) (.dic (ks := []) (xs := []) upd_same (o.fresh hp) rfl .nil)
theorem CalG.up {P : Program} {w : World} {K : PySem.W.Frag} {mg : Str → Option Value} {base : Heap} {j k n : Nat} {nm : Str} {f : Fn} (C : CalG P w K mg base cl j nm n f) (h : j ≤ k) : CalG P w K mg base cl k nm n f := by
  obtain ⟨fa, fd, ps, h1, h2, h3, h4, F⟩ := C.ex
  exact ⟨fa, fd, ps, h1, h2, h3, h4, F.up h⟩
end
noncomputable def fA (K : PySem.W.Frag) (x : Str) : Addr := match PySem.W.nsIn K mainGlobals x with
  | some (some (.ref a)) => a
  | _ => 0
noncomputable def cfn (K : PySem.W.Frag) (fns : List Str) : Nat → Addr := fun n => if n < 2000 then xA K n else fA K (fns.getD (n - 2000) "")
end T3
namespace T3
open PySem PySem.Spec PyProof.Rows L2
noncomputable def putA (f : Str) (y : A) : List Str → List A → List Str × List A
  | g :: ns, z :: zs => if g = f then (g :: ns, y :: zs) else (g :: (putA f y ns zs).1, z :: (putA f y ns zs).2)
  | _, _ => ([f], [y])
noncomputable def lookA (f : Str) : List Str → List A → Option A
  | g :: ns, z :: zs => if f = g then some z else lookA f ns zs
  | _, _ => none
noncomputable def lookD (f : Str) : List Str → List D → Option D
  | g :: ns, z :: zs => if f = g then some z else lookD f ns zs
  | _, _ => none
section
variable {K : PySem.W.Frag} {cl : ClT} {N N' : Addr → Prop} {B : Addr → Prop} {H H' : Hp} {m : List Addr} {S : Store}
theorem lookD_ok {f : Str} : ∀ {ns : List Str} {vs : List V} {ds : List D} {d : D}, RepL K cl N H vs ds → lookD f ns ds = some d → ∃ v, (ns.zip vs).lookup f = some v ∧ Rep K cl N H v d
  | [], _, _, _, _, h => by simp [lookD] at h
  | _ :: _, _, _, _, .nil, h => by simp [lookD] at h
  | g :: ns, v :: vs, z :: ds, d, .cons h1 r, h => by
    unfold lookD at h
    by_cases e : f = g
    · rw [if_pos e] at h
      cases h
      exact ⟨v, by rw [List.zip_cons_cons, List.lookup_cons, e]; simp, h1⟩
    · rw [if_neg e] at h
      obtain ⟨w, h2, h3⟩ := lookD_ok r h
      refine ⟨w, ?_, h3⟩
      rw [List.zip_cons_cons, List.lookup_cons, show (f == g) = false from beq_eq_false_iff_ne.mpr e]
      exact h2
theorem lookA_ok {f : Str} : ∀ {ns : List Str} {vs : List V} {xs : List A} {x : A}, RepAs K cl N H m vs xs → lookA f ns xs = some x → ∃ v, (ns.zip vs).lookup f = some v ∧ RepA K cl N H m v x
  | [], _, _, _, _, h => by simp [lookA] at h
  | _ :: _, _, _, _, .nil, h => by simp [lookA] at h
  | g :: ns, v :: vs, z :: xs, x, .cons h1 r, h => by
    unfold lookA at h
    by_cases e : f = g
    · rw [if_pos e] at h
      cases h
      exact ⟨v, by rw [List.zip_cons_cons, List.lookup_cons, e]; simp, h1⟩
    · rw [if_neg e] at h
      obtain ⟨w, h2, h3⟩ := lookA_ok r h
      refine ⟨w, ?_, h3⟩
      rw [List.zip_cons_cons, List.lookup_cons, show (f == g) = false from beq_eq_false_iff_ne.mpr e]
      exact h2
theorem putA_ok {f : Str} {y : A} {v : V} (hy : RepA K cl N H m v y) : ∀ {ns : List Str} {vs : List V} {xs : List A}, ns.length = vs.length → RepAs K cl N H m vs xs →
    ∃ ws, putF f v (ns.zip vs) = (putA f y ns xs).1.zip ws ∧ (putA f y ns xs).1.length = ws.length ∧ RepAs K cl N H m ws (putA f y ns xs).2
  | [], [], _, _, .nil => ⟨[v], rfl, rfl, .cons hy .nil⟩
  | [], _ :: _, _, h, _ => by cases h
  | _ :: _, [], _, h, _ => by cases h
  | g :: ns, w :: vs, z :: xs, h, .cons h1 r => by
    unfold putA
    rw [List.zip_cons_cons]
    by_cases e : g = f
    · rw [if_pos e]
      refine ⟨v :: vs, ?_, by simpa using h, .cons hy r⟩
      show putF f v ((g, w) :: ns.zip vs) = _
      unfold putF
      rw [if_pos e, List.zip_cons_cons, e]
    · rw [if_neg e]
      obtain ⟨ws, h2, h3, h4⟩ := putA_ok hy (by simpa using h) r
      refine ⟨w :: ws, ?_, by simpa using h3, .cons h1 h4⟩
      show putF f v ((g, w) :: ns.zip vs) = _
      unfold putF
      rw [if_neg e, List.zip_cons_cons, h2]
/-- the class of an instance, the names of its attributes -/
noncomputable def insOf (S : Store) : A → Option (Nat × List Str)
  | .val (.ins c ns _) => some (c, ns)
  | .ref i => match S[i]? with
    | some (.ins c ns _) => some (c, ns)
    | _ => none
  | _ => none
theorem insOf_ok (o : Ok K cl B H m S) {v : V} {x : A} {c : Nat} {ns : List Str} (r : RepA K cl (NN B m) H m v x) (h : insOf S x = some (c, ns)) (hc : c < 999) : ∃ a dx xs, v = .ref a ∧ H a = some (.ins (cl c) dx (ns.zip xs)) := by
  cases x with
  | ref i =>
    obtain ⟨a, ha, rfl⟩ := r
    simp only [insOf] at h
    split at h <;> cases h
    rename_i hs
    obtain ⟨dx, xs, e, _⟩ := o.obj i a _ ha hs
    exact ⟨a, dx, xs, rfl, e⟩
  | val d =>
    cases d <;> simp only [insOf] at h <;> cases h
    cases r with
    | ins t q =>
      rcases t with ⟨_, dx, e, _, _⟩ | ⟨_, z, _⟩ | ⟨_, z, _⟩ | ⟨z, _⟩
      · exact ⟨_, dx, _, rfl, e⟩
      · omega
      · omega
      · omega
end
noncomputable def getF (f : Str) (S : Store) : A → Option A
  | .val (.ins _ ns vs) => (lookD f ns vs).map .val
  | .ref i => match S[i]? with
    | some (.ins _ ns zs) => lookA f ns zs
    | _ => none
  | _ => none
noncomputable def cFld (tbl : List Nat) (f : Str) (ce : CE) : CE := fun ρ S => (ce ρ S).bind fun x S1 => match insOf S1 x with
  | some (c, _) => if tbl.contains c then (match getF f S1 x with
    | some y => .ok y S1
    | none => .bad) else .bad
  | none => .bad
/-- class c has instances with an attribute f -/
noncomputable def HasF (K : PySem.W.Frag) (cl : ClT) (f : Str) (tbl : List Nat) : Prop := ∀ c ∈ tbl, c < 999 ∧ Cls K (cl c) ∧ NoAttr K (cl c) f
section
variable {X : Cx} {cl : ClT} {W : WX}
theorem getF_ok {B : Addr → Prop} {H : Hp} {m : List Addr} {S : Store} (o : Ok X.K cl B H m S) {v : V} {x y : A} {c : Nat} {ns : List Str} {f : Str} (r : RepA X.K cl (NN B m) H m v x) (h : insOf S x = some (c, ns)) (hc : c < 999) (hy : getF f S x = some y) :
    ∃ a dx fs w, v = .ref a ∧ H a = some (.ins (cl c) dx fs) ∧ fs.lookup f = some w ∧ RepA X.K cl (NN B m) H m w y := by
  cases x with
  | ref i =>
    obtain ⟨a, ha, rfl⟩ := r
    simp only [insOf] at h
    simp only [getF] at hy
    split at h <;> cases h
    rename_i hs
    rw [hs] at hy
    obtain ⟨dx, xs, e, l, rz⟩ := o.obj i a _ ha hs
    obtain ⟨w, h1, h2⟩ := lookA_ok rz hy
    exact ⟨a, dx, _, w, rfl, e, h1, h2⟩
  | val d =>
    cases d <;> simp only [insOf] at h <;> cases h
    simp only [getF, Option.map_eq_some_iff] at hy
    obtain ⟨d, hd, rfl⟩ := hy
    cases r with
    | ins t q =>
      rcases t with ⟨_, dx, e, _, _⟩ | ⟨_, z, _⟩ | ⟨_, z, _⟩ | ⟨z, _⟩
      · obtain ⟨w, h1, h2⟩ := lookD_ok q hd
        exact ⟨_, dx, _, w, rfl, e, h1, h2⟩
      · omega
      · omega
      · omega
theorem pm_fld {tbl : List Nat} {f : Str} {e : Expr} {ce : CE} {pos : Pos} (F : HasF X.K cl f tbl) (he : PE X e (tM X.K cl W ce)) (hb : attributeBase e f X.env (eval e X.env) = eval e X.env := by rfl) : PE X (.Attribute e f pos) (tM X.K cl W (cFld tbl f ce)) :=
  PE.imp (pe_fld he hb) fun σ H Q h => by
  obtain ⟨B, m, S, ρ, o, en, fin⟩ := h
  refine ⟨B, m, S, ρ, o, en, Fin.bind fin fun x S1 v H1 m1 s1 o1 r1 f1 => ?_⟩
  split at f1
  · rename_i c ns hi
    split at f1
    · rename_i ht
      obtain ⟨hc, C, n⟩ := F c (List.contains_iff_mem.mp ht)
      split at f1
      · rename_i y hy
        obtain ⟨a, dx, fs, w, rfl, ea, l, rw_⟩ := getF_ok o1 r1 hi hc hy
        exact ⟨a, _, dx, fs, w, rfl, ea, C, n, l, f1.here o1 rw_⟩
      · exact f1.elim
    · exact f1.elim
  · exact f1.elim
noncomputable def sSetF (tbl : List Nat) (f : Str) (co ce : CE) : CS := fun ρ S => match ce ρ S with
  | .ok y S1 => (match co ρ S1 with
    | .ok (.ref i) S2 => (match S2[i]? with
      | some (.ins c ns zs) => if tbl.contains c && decide (ns.length < 900) && decide (zs.length < 900) then .nx ρ (S2.set i (.ins c (putA f y ns zs).1 (putA f y ns zs).2)) else .bad
      | _ => .bad)
    | .exc e S2 => .exc e ρ S2
    | _ => .bad)
  | .exc e S1 => .exc e ρ S1
  | .bad => .bad
theorem pm_setF {tbl : List Nat} {f : Str} {o e : Expr} {co ce : CE} {p pos : Pos} (F : HasF X.K cl f tbl) (ho : PE X o (tM X.K cl W co)) (he : PE X e (tM X.K cl W ce)) (hs : swapsWith e (some (.Attribute o f p)) pos.line X.env = pure false := by rfl) :
    PS X (.Assign [.Attribute o f p] e pos) (tMS X.K cl W (sSetF tbl f co ce)) := PS.imp (ps_fld ho he hs) fun E σ H h => by
  obtain ⟨B, m, S, ρ, o, en, fin⟩ := h
  refine ⟨B, m, S, ρ, o, en, ?_⟩
  unfold sSetF at fin
  cases h1 : ce ρ S with
  | bad => rw [h1] at fin; exact fin
  | exc x S1 => rw [h1] at fin; exact fun c d H' m' s' o' r' => fin c d σ H' m' s' o' (s'.env o en) r'
  | ok y S1 =>
    rw [h1] at fin
    intro v H1 m1 s1 o1 r1
    refine ⟨B, m1, S1, ρ, o1, s1.env o en, ?_⟩
    dsimp only at fin
    cases h2 : co ρ S1 with
    | bad => rw [h2] at fin; exact fin.elim
    | exc x S2 => rw [h2] at fin; exact fun c d H' m' s' o' r' => fin c d σ H' m' (s1.trans s') o' ((s1.trans s').env o en) r'
    | ok x S2 =>
      rw [h2] at fin
      cases x with
      | val _ => exact fin.elim
      | ref i =>
        intro u H2 m2 s2 o2 r2
        obtain ⟨a, ha, rfl⟩ := r2
        dsimp only at fin
        split at fin
        · rename_i c ns zs hi
          split at fin
          · rename_i ht
            simp only [Bool.and_eq_true, decide_eq_true_eq] at ht
            obtain ⟨hc, C, n⟩ := F c (List.contains_iff_mem.mp ht.1.1)
            obtain ⟨dx, xs, ea, l, rz⟩ := o2.obj i a _ ha hi
            have rv := s2.rep o1 r1
            refine ⟨a, _, dx, _, rfl, ea, C, n, by rw [List.length_zip]; omega, ?_⟩
            obtain ⟨ws, w1, w2, w3⟩ := putA_ok (f := f) rv l rz
            rw [w1]
            obtain ⟨st, ok⟩ := Ok.write X.K o2 (u := .ins c (putA f y ns zs).1 (putA f y ns zs).2) (w := .ins (cl c) dx ((putA f y ns zs).1.zip ws)) ha fun H' hb hw => ⟨dx, ws, hw, w2, w3.mono (kp_at (.inr (List.mem_of_getElem? ha)) hb) ⟨[], by simp⟩⟩
            exact fin σ _ m2 ((s1.trans s2).trans st) ok (st.env o2 ((s1.trans s2).env o en))
          · exact fin.elim
        · exact fin.elim
/-- a method that may be called: its level, how many arguments behind the instance -/
structure MetG (P : Program) (w : World) (K : PySem.W.Frag) (mg : Str → Option Value) (base : Heap) (cl : ClT) (j c : Nat) (nm : Str) (n : Nat) (f : Fn) : Prop where
  lt : c < 999
  C : Cls K (cl c)
  ex : ∃ (fa : Addr) (fd : FuncData) (ps : List Str), Meth K (cl c) nm fa ∧ Binds K fd ps [] ∧ ps.length = n + 1 ∧ FnG P w K mg base j fa fd ps (spF K cl (n + 1) f)
theorem MetG.up {P : Program} {w : World} {K : PySem.W.Frag} {mg : Str → Option Value} {base : Heap} {j k c n : Nat} {nm : Str} {f : Fn} (M : MetG P w K mg base cl j c nm n f) (h : j ≤ k) : MetG P w K mg base cl k c nm n f := by
  obtain ⟨fa, fd, ps, h1, h2, h3, F⟩ := M.ex
  exact ⟨M.lt, M.C, fa, fd, ps, h1, h2, h3, F.up h⟩
noncomputable def cMeth (tbl : Nat → Option Fn) (m : Str) (n : Nat) (adopt : Bool) (ce : CE) (c : CA) : CE := fun ρ S => (ce ρ S).bind fun x S1 => match insOf S1 x with
  | some (k, ns) => if ns.contains m then .bad else (match tbl k with
    | some f => (c ρ S1).bind fun xs S2 => if xs.length = n then callIn adopt f (x :: xs) S2 else .bad
    | none => .bad)
  | none => .bad
structure PropG (P : Program) (w : World) (K : PySem.W.Frag) (mg : Str → Option Value) (base : Heap) (cl : ClT) (j c : Nat) (nm : Str) (f : Fn) : Prop where
  lt : c < 999
  C : Cls K (cl c)
  ex : ∃ (pa fa : Addr) (fd : FuncData) (ps : List Str), PropOf K (cl c) nm pa fa ∧ Binds K fd ps [] ∧ ps.length = 1 ∧ FnG P w K mg base j fa fd ps (spF K cl 1 f)
/-- a call with a wish of its own for errors: none may come -/
noncomputable def cProp (tbl : Nat → Option Fn) (ce : CE) : CE := fun ρ S => (ce ρ S).bind fun x S1 => match insOf S1 x with
  | some (k, _) => (match tbl k with
    | some f => (match callIn false f [x] S1 with
      | .ok y S2 => .ok y S2
      | _ => .bad)
    | none => .bad)
  | none => .bad
theorem takes_nox {X : Cx} : Takes X.nox W0 := takes0
theorem pm_prop {tbl : Nat → Option Fn} {f : Str} {j k : Nat} {e : Expr} {ce : CE} {pos : Pos} (ht : ∀ i g, tbl i = some g → PropG X.prog X.w X.K X.mg X.base cl j i f g) (hr : Room (k + 1) X.A) (g : X.A.guards = some []) (he : PE X e (tM X.K cl W ce)) (hk : j ≤ k := by decide)
    (hab : attributeBase e f X.env (eval e X.env) = eval e X.env := by rfl) : PE X (.Attribute e f pos) (tM X.K cl W (cProp tbl ce)) := by
  refine ⟨fun pins s σ H Q I h => ?_⟩
  obtain ⟨B, m0, S, ρ, ok, en, fin⟩ := h
  refine attr_of hab (thn (he.run pins s σ H (fun v H1 => ∃ a dx fs i f, v = .ref a ∧ H1 a = some (.ins (cl i) dx fs) ∧ tbl i = some f ∧ spF X.K cl 1 f [.ref a] H1 Q (WE W0 σ)) I
    ⟨B, m0, S, ρ, ok, en, Fin.bind fin fun x S1 v H1 m1 s1 o1 r1 f1 => ?_⟩) fun u s1 ⟨v, H1, I1, rv, a, dx, fs, i, f', ev, ea, hf, q⟩ => ?_)
  · split at f1
    · rename_i i ns hi
      split at f1
      · rename_i f hf
        obtain ⟨a, dx, xs, rfl, ea⟩ := insOf_ok o1 r1 hi (ht i f hf).lt
        refine ⟨a, dx, _, i, f, rfl, ea, hf, callIn_ok (adopt := false) (W := W0) o1 (.cons r1 .nil) rfl ?_⟩
        cases hc : callIn false f [x] S1 with
        | ok y S2 => rw [hc] at f1; exact f1
        | exc e S2 => rw [hc] at f1; exact f1.elim
        | bad => rw [hc] at f1; exact f1.elim
      · exact f1.elim
    · exact f1.elim
  · subst ev
    obtain rfl : u = Value.ref a := rv
    obtain ⟨pa, fa, fd, ps, hp, hb, hps, F⟩ := (ht i f' hf).ex
    have c := (ht i f' hf).C
    obtain ⟨mA, O, _, _, _, _⟩ := ins_get I1.hok ea
    obtain ⟨od, J, _⟩ := O.look
    obtain ⟨rest, hrec⟩ := hp.rec_
    have I2 := I1.tok (s1.toks + 1)
    have hc : (PySem.W.clsIn X.K (cl i)).isSome = true := by
      obtain ⟨cd, hc, _⟩ := PySem.W.any_some c.hd
      rw [hc]
      rfl
    refine PySem.W.get_bind I1.kIn J (PySem.W.plainGet_of (c.get f)).1 (PySem.W.findObj_data hc hp.at_ hp.get hp.tak) (PySem.W.plainGet_of (c.get f)).2 (wpAny_call (PySem.W.prop_get (s := { s1 with toks := s1.toks + 1 }) I1.kIn hrec ?_))
    have b := hb { s1 with toks := s1.toks + 1 } [.ref a] I2.kIn (by rw [List.append_nil, hps]; rfl)
    rw [List.append_nil] at b
    have g1 : X.A.in1.guards = some [] := g
    refine codeAny_mono ((F.up hk).run (us := [.ref a]) (vs := [.ref a]) g1 hr.in1 I2.env0.in1 b (.cons rfl .nil) q) fun r s' hq => ?_
    cases r with
    | error er => exact (passAt (X := X.nox) takes_nox σ pins H1 _ er s' (I2.wish _) hq).elim
    | ok fl =>
      cases fl with
      | ret u =>
        obtain ⟨v, H', I3, rv, q3⟩ := I2.after hq
        show wpAny _ _ (handedOut u) _ _ _
        rw [PySem.W.handedOut_of (handed_of rv)]
        exact wpAny_pure ⟨v, H', I3, rv, q3⟩
      | next => exact False.elim hq
      | brk => exact False.elim hq
      | cont => exact False.elim hq
end
end T3
namespace T3
open PySem PySem.Spec PyProof.Rows L2
/-- a promise by position alone -/
noncomputable def FnV (P : Program) (w : World) (K : PySem.W.Frag) (mg : Str → Option Value) (base : Heap) (k : Nat) (f : Addr) (sp : Sp) : Prop :=
  ∀ {A : Around} {outer : List Env} {s : Shared} {H : Hp} {us : List Value} {vs : List V} {Q : VK} {E : XK}, A.guards = some [] → Room k A → Env0 P w K mg base A outer s H → Vals vs us → sp vs H Q E → codeAny (model P w) A (.call (.ref f) ⟨us, []⟩) (CR (L2.CX P w) outer P w H s Q E) s
/-- the data function's promise, whatever the number of arguments -/
noncomputable def spU (K : PySem.W.Frag) (cl : ClT) (f : Fn) : Sp := fun vs H Q E => ∃ B m S xs, Ok K cl B H m S ∧ RepAs K cl (NN B m) H m vs xs ∧ FinF K cl B H m (f xs S) Q E
/-- n parameters, the rest as a tuple -/
noncomputable def starF (n : Nat) (f : Fn) : Fn := fun xs S => if n ≤ xs.length then (match valsOf (xs.drop n) with
  | some ds => if szOk ds.length then f (xs.take n ++ [.val (.tup ds)]) S else .bad
  | none => .bad) else .bad
section
variable {P : Program} {w : World} {K : PySem.W.Frag} {mg : Str → Option Value} {base : Heap} {cl : ClT}
theorem FnV.up {j k : Nat} {f : Addr} {sp : Sp} (F : FnV P w K mg base j f sp) (h : j ≤ k) : FnV P w K mg base k f sp := fun g r => F g (r.mono h)
theorem RepAs.split {N : Addr → Prop} {H : Hp} {m : List Addr} : ∀ (n : Nat) {vs : List V} {xs : List A}, RepAs K cl N H m vs xs → RepAs K cl N H m (vs.take n) (xs.take n) ∧ RepAs K cl N H m (vs.drop n) (xs.drop n)
  | 0, _, _, r => ⟨.nil, r⟩
  | _ + 1, _, _, .nil => ⟨.nil, .nil⟩
  | n + 1, _, _, .cons h r => ⟨.cons h (RepAs.split n r).1, (RepAs.split n r).2⟩
/-- def f(a, .., *v) -/
theorem fnStar {x qual : Str} {st : Stmt} {f : Addr} {fd : FuncData} {N ps : List Str} {pv : Str} {k : Nat} {b : CS} (F : Fun K x qual st f fd) (S : FnScope N (ps ++ [pv]) (defScope st))
    (hb : ∀ (kV doc pm : Value) (an : Option Addr) (cdv ct : Value) (us rest : List Value), us.length = ps.length → bindArgs (PySem.W.fnOf x qual (defArgs st) (defBody st) (defScope st) .none kV doc pm an cdv ct) ⟨us ++ rest, []⟩ = (newTuple rest >>= fun t => pure (ps.zip us ++ [(pv, t)])))
    (body : ∀ (cdv : Value) (A : Around) (outer : List Env) (s : Shared) (H : Hp) (E : XK),
      (A.deeper (envOfC qual (defScope st) s.heap.objs.size f cdv)).guards = some [] → Room k (A.deeper (envOfC qual (defScope st) s.heap.objs.size f cdv)) →
      Takes (cxOf (L2.CX P w) P w K mg base N qual (defScope st) f cdv A outer s H E) (fun c d _ H => E c d H) →
      PSs (cxOf (L2.CX P w) P w K mg base N qual (defScope st) f cdv A outer s H E) (defBody st) (tMS K cl (fun c d _ H => E c d H) b)) :
    FnV P w K mg base (k + 1) f (spU K cl (starF ps.length (runF N.length b))) := by
  obtain ⟨oc, od, kV, doc, pm, an, cdv, ct, osl, rfl, lk, hcd⟩ := F.ex
  intro A outer s H us vs Q E g hr e0 r hsp
  obtain ⟨B, m, S1, xs, o, rx, fin⟩ := hsp
  unfold starF at fin
  split at fin
  rotate_left
  · exact fin.elim
  rename_i hn
  split at fin
  rotate_left
  · exact fin.elim
  rename_i ds hds
  split at fin
  rotate_left
  · exact fin.elim
  rename_i hz
  have KX : K.In s.heap := e0.mod.kin.keeps fun b o e => (e0.bs b o e).1
  obtain ⟨r1, r2⟩ := RepAs.split ps.length rx
  have rl := valsOf_ok r2 hds
  have hvl : vs.length = xs.length := rx.length
  have ht : vs = vs.take ps.length ++ vs.drop ps.length := (List.take_append_drop _ _).symm
  have hlt : (vs.take ps.length).length = ps.length := by rw [List.length_take]; omega
  rw [ht] at r
  obtain ⟨u1, u2, rfl, q1, q2⟩ := StX.vals_split r
  have hn0 : H s.heap.objs.size = Option.none := e0.hok.fresh (Nat.le_refl _)
  have hl1 : u1.length = ps.length := by rw [← q1.length]; exact hlt
  have hl2 : u2.length ≤ sizeLine := by rw [← q2.length, rl.length]; exact szOk_line hz
  refine codeAny_call_function hr.depth (KX _ _ lk) rfl S.co S.gen rfl (PySem.W.codeRec_of KX hcd) ?_
  rw [hb kV doc pm an cdv ct u1 u2 hl1]
  refine wpAny_bind (wpAny_newTuple (wpAny_pure ?_) hl2)
  have new : ObjOk P w (upd H s.heap.objs.size (.frz ({ cls := .type "tuple", data := .seq u2.toArray } : Obj) (.tup (vs.drop ps.length)))) (s.heap.push ({ cls := .type "tuple", data := .seq u2.toArray } : Obj)) s.heap.objs.size (.frz ({ cls := .type "tuple", data := .seq u2.toArray } : Obj) (.tup (vs.drop ps.length))) :=
    ⟨Heap.get?_push_size _ rfl, by rw [q2.length]; exact hl2, u2, q2, ⟨_, Heap.get?_push_size _ rfl, rfl, _, rfl⟩⟩
  have e2 := StX.env0_laid (s := s) e0 new
  have un := StX.un_laid (fs := frs outer) (s := s) (o := ({ cls := .type "tuple", data := .seq u2.toArray } : Obj)) (u := .frz ({ cls := .type "tuple", data := .seq u2.toArray } : Obj) (.tup (vs.drop ps.length))) hn0
  generalize hs2 : ({ s with heap := s.heap.push ({ cls := .type "tuple", data := .seq u2.toArray } : Obj) } : Shared) = s2 at e2
  have ho : s2.os = s.os := by rw [← hs2]
  have hh2 : s2.heap = s.heap.push ({ cls := .type "tuple", data := .seq u2.toArray } : Obj) := by rw [← hs2]
  rw [← hh2] at un
  generalize hH2 : upd H s.heap.objs.size (.frz ({ cls := .type "tuple", data := .seq u2.toArray } : Obj) (.tup (vs.drop ps.length))) = H2 at e2 un
  have lim : s2.heap.NoLimit := e0.mod.nolimit.keeps fun b o e => (e2.bs b o e).1
  have rr : Vals (vs.take ps.length ++ [V.ref s.heap.objs.size]) (u1 ++ [Value.ref s.heap.objs.size]) := q1.append (.cons rfl .nil)
  have hzip : ps.zip u1 ++ [(pv, Value.ref s.heap.objs.size)] = (ps ++ [pv]).zip (u1 ++ [Value.ref s.heap.objs.size]) := by rw [List.zip_append hl1.symm]; rfl
  rw [hzip]
  have lv : (vs.take ps.length ++ [V.ref s.heap.objs.size]).length = (ps ++ [pv]).length := by rw [List.length_append, List.length_append, hlt]; rfl
  refine wpAny_newFunctionEnv_cells (s := s2) S.kind (binds_kind S _ _) fun env he s1 z => ?_
  cases he
  refine ⟨lim.keeps z.toInCall.keep, codeAny_func ?_⟩
  have hpl : (ps ++ [pv]).length ≤ N.length := by have := congrArg List.length S.pre; rw [List.length_take] at this; omega
  have st1 : Step H m H2 m := by rw [← hH2]; exact Step.new hn0
  have o2 : Ok K cl B H2 m S1 := by rw [← hH2]; exact o.new hn0
  have rt : RepAs K cl (NN B m) H2 m (vs.take ps.length ++ [V.ref s.heap.objs.size]) (xs.take ps.length ++ [T3.A.val (.tup ds)]) := by
    refine RepAs.append (st1.reps o r1) (.cons ?_ .nil)
    rw [← hH2]
    exact .tup (.inl ⟨_, upd_same, rfl, o.fresh hn0⟩) (rl.mono (Kp.new hn0))
  have fin2 : FinF K cl B H2 m (runF N.length b (xs.take ps.length ++ [T3.A.val (.tup ds)]) S1) Q E := by
    cases hq : runF N.length b (xs.take ps.length ++ [T3.A.val (.tup ds)]) S1 with
    | bad => rw [hq] at fin; exact fin
    | ok x S' => rw [hq] at fin; exact fun v H' m' s' o' r' => fin v H' m' (st1.trans s') o' r'
    | exc e S' => rw [hq] at fin; exact fun c d H' m' s' o' r' => fin c d H' m' (st1.trans s') o' r'
  have hpre : ∃ t, PSs (cxOf (L2.CX P w) P w K mg base N qual (defScope st) f cdv A outer s2 H2 E) (defBody st) t ∧ t { nx := fun _ H' => Q .non H', rt := Q } (start N (vs.take ps.length ++ [V.ref s.heap.objs.size])) H2 := by
    refine ⟨_, body cdv A outer s2 H2 E (guards_deeper g) (hr.deeper _) (takes_of rfl rfl rfl rfl), ⟨B, m, S1, _, o2, env_start rt (by rw [lv]; exact hpl), ?_⟩⟩
    unfold runF at fin2
    have hx := rt.length
    cases hb2 : b ((xs.take ps.length ++ [T3.A.val (.tup ds)]).map some ++ List.replicate (N.length - (xs.take ps.length ++ [T3.A.val (.tup ds)]).length) none) S1 with
    | bad => rw [hb2] at fin2; exact fin2
    | bk _ _ => rw [hb2] at fin2; exact fin2.elim
    | ct _ _ => rw [hb2] at fin2; exact fin2.elim
    | nx ρ S' => rw [hb2] at fin2; exact fun σ H' m' s' o' e' => fin2 V.non H' m' s' o' .non
    | rt x S' => rw [hb2] at fin2; exact fun v H' m' s' o' r' => fin2 v H' m' s' o' r'
    | exc e ρ S' => rw [hb2] at fin2; exact fun c d σ H' m' s' o' e' x' => fin2 c d H' m' s' o' x'
  obtain ⟨t, htb, hq⟩ := hpre
  have I : Inv (cxOf (L2.CX P w) P w K mg base N qual (defScope st) f cdv A outer s2 H2 E) [] (start N (vs.take ps.length ++ [V.ref s.heap.objs.size])) H2 s1 := inv_start S hr.hd e2 lv rr z
  refine wpAny_mono (htb.run [] s1 _ _ _ I hq) (fun fl s' hs => ?_) fun e s' hs => ?_
  · have fin : ∀ {σ' : L2.St} {H' : Hp} {v' : V} {u' : Value}, Inv (cxOf (L2.CX P w) P w K mg base N qual (defScope st) f cdv A outer s2 H2 E) [] σ' H' s' → RelV v' u' → Q v' H' → L2.CE outer P w H s Q u' s' :=
      fun {σ' H' v' u'} J rv' q => ⟨v', H', J.os.trans ho, J.bare, un.trans J.base, J.hok, rv', q⟩
    cases fl with
    | ret u' =>
      obtain ⟨v', σ', H', J, rv', q⟩ := hs
      exact fin J rv' q
    | next =>
      obtain ⟨σ', H', J, q⟩ := hs
      exact fin (v' := V.non) (u' := Value.none) J rfl q
    | brk =>
      obtain ⟨_, _, _, q⟩ := hs
      exact False.elim q
    | cont =>
      obtain ⟨_, _, _, q⟩ := hs
      exact False.elim q
  · have hx : ∀ e s', L2.CX P w outer H2 s2 E e s' → L2.CX P w outer H s E e s' := fun e s' q => StX.cxUp outer s H s2 H2 E e s' un (fun b o e => by rw [hh2]; exact Heap.get?_push_of_some _ e) ho q
    exact wpAny_mono hs (fun _ s'' z => hx e s'' z) fun e' s'' z => hx e' s'' z
end
end T3
namespace T3
open PySem PySem.Spec PyProof.Rows L2
/-- a new instance of class c, its __init__ run; adopt: it stays in the store -/
noncomputable def makeIn (adopt : Bool) (c : Nat) (f : Fn) (xs : List A) (S : Store) : Res := match callIn true f (.ref S.length :: xs) (S ++ [.ins c [] []]) with
  | .ok (.val .non) S2 => if S2.length = S.length + 1 then (if adopt then .ok (.ref S.length) S2 else (if (S2.take S.length).all flatO then (match S2[S.length]? with
    | some o => (match frzO o with
      | some d => .ok (.val d) (S2.take S.length)
      | none => .bad)
    | none => .bad) else .bad)) else .bad
  | .exc e S2 => if S2.length = S.length + 1 ∧ (S2.take S.length).all flatO = true then .exc e (S2.take S.length) else .bad
  | _ => .bad
noncomputable def nnOk (nn : Option Nat) (k : Nat) : Bool := match nn with
  | some n => decide (k = n)
  | none => true
structure MkG (P : Program) (w : World) (K : PySem.W.Frag) (mg : Str → Option Value) (base : Heap) (cl : ClT) (j c : Nat) (nm : Str) (nn : Option Nat) (f : Fn) : Prop where
  gC : mg nm = some (.ref (cl c))
  ex : ∃ (fI : Addr) (sp : Sp), Mk K (cl c) fI ∧ FnV P w K mg base j fI sp ∧ ∀ vs H Q E, nnOk nn (vs.length - 1) = true → 1 ≤ vs.length → spU K cl f vs H Q E → sp vs H Q E
section
variable {X : Cx} {cl : ClT} {W : WX}
theorem run_makeV {pins : List (Addr × Obj)} {σ : L2.St} {H : Hp} {s : Shared} {Q : VK} {k : Nat} {C f : Addr} {sp : Sp} {us : List Value} {vs : List V} (M : Mk X.K C f) (F : FnV X.prog X.w X.K X.mg X.base k f sp) (hr : Room (k + 1) X.A) (g : X.A.guards = some []) (tk : Takes X W) (I : Inv X pins σ H s) (r : Vals vs us)
    (h : ∀ x dx, H x = Option.none → H dx = Option.none → dx ≠ x → sp (V.ref x :: vs) (upd (upd H dx (.own x)) x (.ins C dx [])) (fun v H2 => v = .non ∧ Q (.ref x) H2) (WE W σ)) :
    wpAny (model X.prog X.w) X.A (call (.ref C) us) (EP X pins σ Q) X.xe s := by
  have hq := h (s.heap.objs.size + 1) s.heap.objs.size (I.hok.fresh (Nat.le_succ _)) (I.hok.fresh (Nat.le_refl _)) (Nat.ne_of_lt (Nat.lt_succ_self _))
  have I2 := Inv.made (C := C) I
  have r2 : Vals (V.ref (s.heap.objs.size + 1) :: vs) (Value.ref (s.heap.objs.size + 1) :: us) := .cons rfl r
  have g2 : (X.A.under (.builtin "type.__call__" ⟨.ref C :: us, []⟩)).guards = some [] := g
  refine wpAny_call (make_map (f := f) I.kIn M.makes M.init (beq_iff_eq.mp M.fn) (codeAny_mono (F (us := Value.ref (s.heap.objs.size + 1) :: us) g2 (hr.make C us []) (I2.env0.make C us []) r2 hq) fun r s' hq' => ?_))
  cases r with
  | error e => exact passAt tk σ pins _ _ e s' I2 hq'
  | ok fl =>
    cases fl with
    | ret u =>
      obtain ⟨v, H', I3, rv, ev, q3⟩ := I2.after hq'
      subst ev
      exact ⟨rv, ⟨V.ref (s.heap.objs.size + 1), H', I3, rfl, q3⟩⟩
    | next => exact False.elim hq'
    | brk => exact False.elim hq'
    | cont => exact False.elim hq'
theorem spU_of {K : PySem.W.Frag} {n : Nat} {f : Fn} {vs : List V} {H : Hp} {Q : VK} {E : XK} (h : spF K cl n f vs H Q E) : spU K cl f vs H Q E := h.2
/-- from the data's making to the promise of __init__ -/
theorem make_ok {B : Addr → Prop} {H : Hp} {m : List Addr} {S : Store} {σ : L2.St} {adopt : Bool} {c : Nat} {f : Fn} {vs : List V} {xs : List A} {Q : VK} (o : Ok X.K cl B H m S) (r : RepAs X.K cl (NN B m) H m vs xs) (fin : Fin X.K cl B σ H m W (makeIn adopt c f xs S) Q)
    (x dx : Addr) (hx : H x = none) (hdx : H dx = none) (ne : dx ≠ x) : spU X.K cl f (V.ref x :: vs) (upd (upd H dx (.own x)) x (.ins (cl c) dx [])) (fun v H2 => v = .non ∧ Q (.ref x) H2) (WE W σ) := by
  have s1 : Step H m (upd H dx (.own x)) m := Step.new hdx
  have o1 : Ok X.K cl B (upd H dx (.own x)) m S := o.new hdx
  have hx1 : (upd H dx (.own x)) x = none := by rw [upd_ne (Ne.symm ne)]; exact hx
  have s2 : Step (upd H dx (.own x)) m (upd (upd H dx (.own x)) x (.ins (cl c) dx [])) (m ++ [x]) := Step.adopt hx1
  have o2 : Ok X.K cl B (upd (upd H dx (.own x)) x (.ins (cl c) dx [])) (m ++ [x]) (S ++ [.ins c [] []]) := o1.adopt hx1 ⟨dx, [], upd_same, rfl, .nil⟩
  have s12 := s1.trans s2
  have r2 : RepAs X.K cl (NN B (m ++ [x])) (upd (upd H dx (.own x)) x (.ins (cl c) dx [])) (m ++ [x]) (V.ref x :: vs) (.ref S.length :: xs) :=
    .cons ⟨x, by rw [← o.len, List.getElem?_append_right (Nat.le_refl _)]; simp, rfl⟩ (s12.reps o r)
  refine spU_of (callIn_ok (adopt := true) (n := (V.ref x :: vs).length) (W := W) o2 r2 rfl ?_)
  unfold makeIn at fin
  have hxm : x ∉ m := fun z => o.may (.inr z) hx
  have one : ∀ {H' : Hp} {m' : List Addr} {S2 : Store}, Step (upd (upd H dx (.own x)) x (.ins (cl c) dx [])) (m ++ [x]) H' m' → Ok X.K cl B H' m' S2 → S2.length = S.length + 1 → m' = m ++ [x] := fun {H' m' S2} s' o' hl => by
    obtain ⟨q, rfl, _⟩ := s'.ext
    have := o'.len
    rw [hl, List.length_append, List.length_append, o.len, List.length_singleton] at this
    have : q = [] := List.length_eq_zero_iff.mp (by omega)
    rw [this, List.append_nil]
  have sub : ∀ a, NN B m a → NN B (m ++ [x]) a := fun a z => z.imp id fun z => List.mem_append_left _ z
  have shrink : ∀ {H' : Hp} {S2 : Store}, Ok X.K cl B H' (m ++ [x]) S2 → S2.length = S.length + 1 → (S2.take S.length).all flatO = true → Ok X.K cl B H' m (S2.take S.length) := fun {H' S2} o' hl hf => by
    refine ⟨fun a z => ⟨(o'.foreign a z).1, fun y => (o'.foreign a z).2 (List.mem_append_left _ y)⟩, by rw [List.length_take, o.len]; omega, (List.nodup_append.mp o'.nd).1, fun i a u hi hu => ?_, o'.tabs⟩
    have hil : i < m.length := (List.getElem?_eq_some_iff.mp hi).1
    have hu2 : S2[i]? = some u := by
      rw [List.getElem?_take] at hu
      split at hu
      · exact hu
      · cases hu
    have ro := o'.obj i a u (by rw [List.getElem?_append_left hil]; exact hi) hu2
    exact ro.seen sub (List.all_eq_true.mp hf u (List.mem_of_getElem? hu))
  cases hc : callIn true f (.ref S.length :: xs) (S ++ [.ins c [] []]) with
  | bad => rw [hc] at fin; exact fin
  | exc e S2 =>
    rw [hc] at fin
    intro cc d H' m' s' o' e'
    dsimp only at fin
    split at fin
    · rename_i hl
      have hm := one s' o' hl.1
      subst hm
      have st := s12.trans s'
      exact fin cc d H' m ⟨⟨[], by simp, by simp⟩, st.keep, st.stay⟩ (shrink o' hl.1 hl.2) (e'.weak sub)
    · exact fin.elim
  | ok y S2 =>
    rw [hc] at fin
    intro v H' m' s' o' r'
    cases y with
    | ref _ => exact fin.elim
    | val d =>
      cases d with
      | non =>
        dsimp only at fin
        split at fin
        · rename_i hl
          have hm := one s' o' hl
          subst hm
          have st := s12.trans s'
          cases r'
          refine ⟨rfl, ?_⟩
          split at fin
          · exact fin (.ref x) H' (m ++ [x]) st o' ⟨x, by rw [← o.len, List.getElem?_append_right (Nat.le_refl _)]; simp, rfl⟩
          · split at fin
            · rename_i hf
              split at fin
              · rename_i u hu
                split at fin
                · rename_i d hd
                  have ro := o'.obj S.length x u (by rw [← o.len, List.getElem?_append_right (Nat.le_refl _)]; simp) hu
                  exact fin (.ref x) H' m ⟨⟨[], by simp, by simp⟩, st.keep, st.stay⟩ (shrink o' hl hf) (frz_ok sub ro (o.fresh hx) hd)
                · exact fin.elim
              · exact fin.elim
            · exact fin.elim
        · exact fin.elim
      | _ => exact fin.elim
noncomputable def cMake (adopt : Bool) (c : Nat) (nn : Option Nat) (f : Fn) (ca : CA) : CE := fun ρ S => (ca ρ S).bind fun xs S1 => if nnOk nn xs.length then makeIn adopt c f xs S1 else .bad
section
variable {nm : Str} {j k c : Nat} {nn : Option Nat} {f : Fn} {e : Expr} {es : List Expr} {ca : CA} {p pos : Pos}
theorem make_args {σ : L2.St} {H : Hp} {Q : VK} {adopt : Bool} {sp : Sp} (hsp : ∀ vs H Q E, nnOk nn (vs.length - 1) = true → 1 ≤ vs.length → spU X.K cl f vs H Q E → sp vs H Q E) (h : tM X.K cl W (cMake adopt c nn f ca) σ H Q) :
    tML X.K cl W ca σ H fun vs H1 => ∀ x dx, H1 x = Option.none → H1 dx = Option.none → dx ≠ x → sp (V.ref x :: vs) (upd (upd H1 dx (.own x)) x (.ins (cl c) dx [])) (fun v H2 => v = .non ∧ Q (.ref x) H2) (WE W σ) := by
  obtain ⟨B, m, S, ρ, o, en, fin⟩ := h
  refine ⟨B, m, S, ρ, o, en, FinL.bind fin fun xs S1 vs H1 m1 s1 o1 r1 f1 => ?_⟩
  split at f1
  · rename_i hn
    intro x dx hx hdx ne
    refine hsp _ _ _ _ ?_ (by simp) (make_ok o1 r1 f1 x dx hx hdx ne)
    rw [List.length_cons, Nat.add_sub_cancel, r1.length]
    exact hn
  · exact f1.elim
/-- C(*e) -/
noncomputable def cSeq (ce : CE) : CA := fun ρ S => match ce ρ S with
  | .ok x S1 => (match x with
    | .val (.tup ds) => .ok (ds.map A.val) S1
    | x => (match asL S1 x with
      | some ds => .ok (ds.map A.val) S1
      | none => .bad))
  | .exc e S1 => .exc e S1
  | .bad => .bad
theorem repAs_vals {K : PySem.W.Frag} {N : Addr → Prop} {H : Hp} {m : List Addr} : ∀ {vs : List V} {ds : List D}, RepL K cl N H vs ds → RepAs K cl N H m vs (ds.map A.val)
  | _, _, .nil => .nil
  | _, _, .cons h r => .cons h (repAs_vals r)
theorem pm_makeS (adopt : Bool) {ce : CE} {sp_ : Pos} (M : MkG X.prog X.w X.K X.mg X.base cl j c nm nn f) (hr : Room k X.A) (g : X.A.guards = some []) (tk : Takes X W) (hg : Gl X nm) (he : PE X e (tM X.K cl W ce)) (hk : j + 1 ≤ k := by decide) (hdb : (nm == ("__debug__" : Str)) = false := by decide)
    (hst : starEach [.Starred e sp_] X.env = [(true, eval e X.env)] := by rfl) : PE X (.Call (.Name nm p) [.Starred e sp_] [] pos) (tM X.K cl W (cMake adopt c nn f (cSeq ce))) := by
  obtain ⟨fI, sp, Mk, F, hsp⟩ := M.ex
  refine ⟨fun pins s σ H Q I h => ?_⟩
  refine wpAny_Call_Name_kw (ld_glob I hg M.gC ?_ hdb)
  have h2 := make_args hsp h
  have h3 : tM X.K cl W ce σ H fun y H1 => ∃ a xs, y = V.ref a ∧ (SqT X.K H1 a xs ∨ SqL X.K H1 a xs) ∧ ∀ x dx, H1 x = Option.none → H1 dx = Option.none → dx ≠ x → sp (V.ref x :: xs) (upd (upd H1 dx (.own x)) x (.ins (cl c) dx [])) (fun v H2 => v = .non ∧ Q (.ref x) H2) (WE W σ) := by
    obtain ⟨B, m, S, ρ, o, en, fin⟩ := h2
    refine ⟨B, m, S, ρ, o, en, ?_⟩
    unfold cSeq at fin
    cases hc : ce ρ S with
    | bad => rw [hc] at fin; exact fin
    | exc x S1 => rw [hc] at fin; exact fin
    | ok x S1 =>
      rw [hc] at fin
      intro v H1 m1 s1 o1 r1
      dsimp only at fin
      split at fin
      · rename_i ds
        obtain ⟨a, vs, rfl, q, rl⟩ := asT_ok (x := .val (.tup ds)) r1 rfl
        exact ⟨a, vs, rfl, .inl q, fin vs H1 m1 s1 o1 (repAs_vals rl)⟩
      · split at fin
        · rename_i ds hd
          obtain ⟨a, vs, rfl, q, rl⟩ := asL_ok o1 r1 hd
          exact ⟨a, vs, rfl, .inr q, fin vs H1 m1 s1 o1 (repAs_vals rl)⟩
        · exact fin.elim
  refine PySem.W.callWith_S (h₀ := X.base) I.ok.mod.kin Mk.kp (thn (he.run pins s σ H _ I h3) fun v s1 ⟨y, H1, I1, ry, a, xs, ey, hxs, q⟩ => ?_) hst
  subst ey
  obtain rfl : v = Value.ref a := ry
  exact StX.star_any I1 hxs fun us s2 I2 rv => ⟨I2.kIn, run_makeV Mk F (hr.mono hk) g tk I2 rv q⟩
end
end
end T3
namespace PySem.W
open PySem PySem.Calls PyProof.Rows
section
end
end PySem.W
namespace T3
open PySem PySem.Spec PyProof.Rows L2
noncomputable def spcF (tbl : Nat → Option Fn) (chk : D → Bool) : List A → Store → Res
  | [x], S => (match insOf S x with
    | some (k, _) => (match tbl k with
      | some f => (match callIn false f [x] S with
        | .ok (.val d) S2 => if chk d then .ok (.val d) S2 else .bad
        | _ => .bad)
      | none => .bad)
    | none => .bad)
  | _, _ => .bad
/-- of an instance g, else f -/
noncomputable def orI (g f : List A → Store → Res) : List A → Store → Res := fun xs S => match xs with
  | [x] => if (insOf S x).isSome then g xs S else f xs S
  | _ => f xs S
section
variable {X : Cx} {cl : ClT} {W : WX} {tbl : Nat → Option Fn} {chk : D → Bool}
/-- the other side's type: a built-in one, or the same class -/
noncomputable def sideOk (S : Store) (k : Nat) (y : A) : Bool := (tyD S y).isSome || (match insOf S y with
  | some (k', _) => k' == k
  | none => false)
noncomputable def eqI (tbl : Nat → Option Fn) (neg : Bool) (f : A → A → Store → Res) : A → A → Store → Res := fun x y S => match insOf S x with
  | some (k, _) => (match tbl k with
    | some q => if sideOk S k y then (match callIn false q [x, y] S with
      | .ok (.val (.bl b)) S2 => .ok (.val (.bl (if neg then !b else b))) S2
      | _ => .bad) else .bad
    | none => .bad)
  | none => f x y S
/-- the class's own ==, found as itself -/
structure EqG (P : Program) (w : World) (K : PySem.W.Frag) (mg : Str → Option Value) (base : Heap) (cl : ClT) (j c : Nat) (f : Fn) : Prop where
  M : MetG P w K mg base cl j c "__eq__" 1 f
  ne : PySem.W.findIn K (.ref (cl c)) "__ne__" = some (some (.builtin "object.__ne__"))
  top : PySem.W.mroIn K (cl c) (.type "object") = some true
end
end T3
namespace PySem.W
open PySem PySem.Calls PyProof.Rows
section
end
end PySem.W
namespace T3
open PySem PySem.Spec PyProof.Rows L2
section
variable {X : Cx}
noncomputable def rIxDG : R2 := fun x y H Q => ∃ a v, x = .ref a ∧ DGet H a y (some v) ∧ Q v H
theorem ix_dict (hu : X.A.units + 1 < cLine) : IxR X rIxDG := by
  intro value slice pins s σ H x y v u Q I rx ry h hs
  obtain ⟨a, w, rfl, g, q⟩ := h
  obtain rfl : v = Value.ref a := rx
  exact tail_any (dict_typeIs I g) PySem.F.slot_dict_getitem.lookup (d_getItem hu I g ry fun w' s' I' rw' => ⟨w, H, I', rw', q⟩) hs
noncomputable def rInDG (neg : Bool) : R2 := fun y x H Q => ∃ a o, x = .ref a ∧ DGet H a y o ∧ Q (.bl (if neg then !o.isSome else o.isSome)) H
theorem op_inDG (hu : X.A.units + 1 < cLine) : OpR X (compareOp .In) (rInDG false) := by
  intro pins s σ H y x v u Q I ry rx h
  obtain ⟨a, o, rfl, g, q⟩ := h
  obtain rfl : u = Value.ref a := rx
  exact d_in hu I g ry fun s' I' => ⟨.bl o.isSome, H, I', rfl, q⟩
theorem op_notInDG (hu : X.A.units + 1 < cLine) : OpR X (compareOp .NotIn) (rInDG true) := by
  intro pins s σ H y x v u Q I ry rx h
  obtain ⟨a, o, rfl, g, q⟩ := h
  obtain rfl : u = Value.ref a := rx
  exact d_notIn hu I g ry fun s' I' => ⟨.bl (!o.isSome), H, I', rfl, q⟩
end
noncomputable def keyA : A → Option Key
  | .val (.int i) => some (.inl i)
  | .val (.str s) => some (.inr s)
  | _ => none
noncomputable def dicOf (S : Store) : A → Option (List Key × List D)
  | .val (.ins c ns vs) => if c = 999 then some (ns.map Sum.inr, vs) else none
  | .val (.dic ks vs) => some (ks, vs)
  | .ref i => match S[i]? with
    | some (.dic ks vs) => some (ks, vs)
    | _ => none
  | _ => none
noncomputable def lookK (k : Key) : List Key → List D → Option D
  | g :: ks, z :: zs => if g = k then some z else lookK k ks zs
  | _, _ => none
noncomputable def replK {α : Type} (k : Key) (d : α) : List Key → List α → List α
  | g :: ks, z :: zs => (if g = k then d else z) :: replK k d ks zs
  | _, _ => []
noncomputable def putKD (k : Key) (d : D) (ks : List Key) (ds : List D) : List Key × List D := if ks.any (fun g => decide (g = k)) then (ks, replK k d ks ds) else (ks ++ [k], ds ++ [d])
section
variable {K : PySem.W.Frag} {cl : ClT} {N : Addr → Prop} {B : Addr → Prop} {H : Hp} {m : List Addr} {S : Store}
theorem keyA_ok {v : V} {x : A} {k : Key} (r : RepA K cl N H m v x) (h : keyA x = some k) : v = kV k := by
  cases x with
  | ref _ => cases h
  | val d => cases d <;> cases h <;> cases r <;> rfl
theorem dicOf_ok (o : Ok K cl B H m S) {v : V} {x : A} {ks : List Key} {vs : List D} (r : RepA K cl (NN B m) H m v x) (h : dicOf S x = some (ks, vs)) : ∃ a xs, v = .ref a ∧ Rd H a (.dK (ks.zip xs)) ∧ ks.length = xs.length ∧ RepL K cl (NN B m) H xs vs := by
  cases x with
  | ref i =>
    obtain ⟨a, ha, rfl⟩ := r
    simp only [dicOf] at h
    split at h <;> cases h
    rename_i hs
    obtain ⟨xs, e, l, rl⟩ := o.obj i a _ ha hs
    exact ⟨a, xs, rfl, .inl e, l, rl⟩
  | val d =>
    cases d <;> simp only [dicOf] at h <;> try cases h
    · cases r with
      | dic e n l rl => exact ⟨_, _, rfl, .inl e, l, rl⟩
    · split at h
      · rename_i hc
        cases h
        subst hc
        cases r with
        | ins t q =>
          rcases t with ⟨z, _⟩ | ⟨_, z, _⟩ | ⟨_, z, _⟩ | ⟨_, o, e, n, l⟩
          · omega
          · omega
          · omega
          · exact ⟨_, _, rfl, .inr ⟨o, e⟩, by rw [List.length_map]; exact l, q⟩
      · cases h
theorem valV_cons {α : Type} [DecidableEq α] {g k : α} {w : V} {r : List (α × V)} : valV ((g, w) :: r) k = if g = k then some w else valV r k := by
  unfold valV
  rw [List.find?_cons]
  by_cases e : g = k
  · rw [if_pos e]
    have : decide (g = k) = true := decide_eq_true e
    first
      | (rw [this]; rfl)
      | simp [e]
  · rw [if_neg e]
    have : decide (g = k) = false := decide_eq_false e
    first
      | (rw [this])
      | simp [e]
theorem lookK_ok {k : Key} : ∀ {ks : List Key} {vs : List V} {ds : List D}, ks.length = vs.length → RepL K cl N H vs ds → match lookK k ks ds with
    | some d => ∃ v, valV (ks.zip vs) k = some v ∧ Rep K cl N H v d
    | none => valV (ks.zip vs) k = none
  | [], [], _, _, .nil => rfl
  | [], _ :: _, _, h, _ => by cases h
  | _ :: _, [], _, h, _ => by cases h
  | g :: ks, v :: vs, z :: ds, h, .cons h1 r => by
    unfold lookK
    rw [List.zip_cons_cons, valV_cons]
    by_cases e : g = k
    · rw [if_pos e, if_pos e]; exact ⟨v, rfl, h1⟩
    · rw [if_neg e, if_neg e]
      exact lookK_ok (by simpa using h) r
theorem any_zip {k : Key} : ∀ {ks : List Key} {vs : List V}, ks.length = vs.length → ((ks.zip vs).any fun kv => decide (kv.1 = k)) = ks.any fun g => decide (g = k)
  | [], [], _ => rfl
  | g :: ks, v :: vs, h => by
    rw [List.zip_cons_cons, List.any_cons, List.any_cons, any_zip (by simpa using h)]
  | [], _ :: _, h => by cases h
  | _ :: _, [], h => by cases h
theorem map_zip {k : Key} {v : V} : ∀ {ks : List Key} {vs : List V}, ((ks.zip vs).map fun kv => if kv.1 = k then (kv.1, v) else kv) = ks.zip (replK k v ks vs)
  | [], _ => rfl
  | _ :: _, [] => rfl
  | g :: ks, w :: vs => by
    rw [List.zip_cons_cons, List.map_cons, map_zip]
    show (if g = k then (g, v) else (g, w)) :: ks.zip (replK k v ks vs) = (g :: ks).zip ((if g = k then v else w) :: replK k v ks vs)
    rw [List.zip_cons_cons]
    by_cases e : g = k
    · rw [if_pos e, if_pos e]
    · rw [if_neg e, if_neg e]
theorem replK_len {α : Type} {k : Key} {d : α} : ∀ {ks : List Key} {vs : List α}, ks.length = vs.length → (replK k d ks vs).length = ks.length
  | [], [], _ => rfl
  | _ :: _, _ :: _, h => by
    show (replK k d _ _).length + 1 = _
    rw [replK_len (by simpa using h), List.length_cons]
  | [], _ :: _, h => by cases h
  | _ :: _, [], h => by cases h
theorem replK_ok {k : Key} {d : D} {v : V} (hd : Rep K cl N H v d) : ∀ {ks : List Key} {vs : List V} {ds : List D}, ks.length = vs.length → RepL K cl N H vs ds → RepL K cl N H (replK k v ks vs) (replK k d ks ds)
  | [], [], _, _, .nil => .nil
  | [], _ :: _, _, h, _ => by cases h
  | _ :: _, [], _, h, _ => by cases h
  | g :: ks, w :: vs, z :: ds, h, .cons h1 r => by
    show RepL K cl N H ((if g = k then v else w) :: replK k v ks vs) ((if g = k then d else z) :: replK k d ks ds)
    by_cases e : g = k
    · rw [if_pos e, if_pos e]; exact .cons hd (replK_ok hd (by simpa using h) r)
    · rw [if_neg e, if_neg e]; exact .cons h1 (replK_ok hd (by simpa using h) r)
theorem putKD_ok {k : Key} {d : D} {v : V} (hd : Rep K cl N H v d) {ks : List Key} {vs : List V} {ds : List D} (h : ks.length = vs.length) (r : RepL K cl N H vs ds) :
    ∃ ws, putK (ks.zip vs) k v = (putKD k d ks ds).1.zip ws ∧ (putKD k d ks ds).1.length = ws.length ∧ RepL K cl N H ws (putKD k d ks ds).2 := by
  have e0 : putK (ks.zip vs) k v = if ((ks.zip vs).any fun kv => decide (kv.1 = k)) = true then (ks.zip vs).map (fun kv => if kv.1 = k then (kv.1, v) else kv) else ks.zip vs ++ [(k, v)] := by
    unfold putK
    rfl
  rw [e0, any_zip h]
  unfold putKD
  by_cases c : (ks.any fun g => decide (g = k)) = true
  · rw [if_pos c, if_pos c]
    exact ⟨_, map_zip, (replK_len h).symm, replK_ok hd h r⟩
  · rw [if_neg c, if_neg c]
    refine ⟨vs ++ [v], ?_, by simp [h], r.append (.cons hd .nil)⟩
    rw [List.zip_append h]
    rfl
end
/-- k in d -/
noncomputable def fInD (neg : Bool) (f : A → A → Store → Res) : A → A → Store → Res := fun x y S => match dicOf S y with
  | some (ks, vs) => (match keyA x with
    | some k => .ok (.val (.bl (if neg then !(lookK k ks vs).isSome else (lookK k ks vs).isSome))) S
    | none => .bad)
  | none => f x y S
/-- d[k] -/
noncomputable def fIxD (f : A → A → Store → Res) : A → A → Store → Res := fun x y S => match dicOf S x with
  | some (ks, vs) => (match keyA y with
    | some k => (match lookK k ks vs with
      | some d => .ok (.val d) S
      | none => .bad)
    | none => .bad)
  | none => f x y S
/-- tuple(d), list(d), len(d): of a dict -/
noncomputable def fTupD (f : List A → Store → Res) : List A → Store → Res := fun xs S => match xs with
  | [x] => (match dicOf S x with
    | some (ks, _) => .ok (.val (.tup (ks.map keyD))) S
    | none => f [x] S)
  | _ => f xs S
section
variable {X : Cx} {cl : ClT} {W : WX}
theorem ok_fInD {neg : Bool} {r : R2} {f : A → A → Store → Res} (hf : OpOk X.K cl r f) : OpOk X.K cl (fun x y H Q => rInDG neg x y H Q ∨ r x y H Q) (fInD neg f) := by
  intro B H m S σ W v w x y Q o rx ry h
  unfold fInD at h
  split at h
  · rename_i ks vs hd
    obtain ⟨a, xs, rfl, e, l, rl⟩ := dicOf_ok o ry hd
    split at h
    · rename_i k hk
      obtain rfl := keyA_ok rx hk
      refine .inl ⟨a, _, rfl, .inl ⟨_, k, e, rfl, rfl⟩, ?_⟩
      have q := lookK_ok (k := k) l rl
      have e2 : (valV (ks.zip xs) k).isSome = (lookK k ks vs).isSome := by
        split at q
        · rename_i d hd'; obtain ⟨v, e, _⟩ := q; rw [e, hd']; rfl
        · rename_i hd'; rw [q, hd']; rfl
      rw [e2]
      exact h.here o (.bl _)
    · exact h.elim
  · exact .inr (hf o rx ry h)
theorem ok_fIxD {r : R2} {f : A → A → Store → Res} (hf : OpOk X.K cl r f) : OpOk X.K cl (fun x y H Q => rIxDG x y H Q ∨ r x y H Q) (fIxD f) := by
  intro B H m S σ W v w x y Q o rx ry h
  unfold fIxD at h
  split at h
  · rename_i ks vs hd
    obtain ⟨a, xs, rfl, e, l, rl⟩ := dicOf_ok o rx hd
    split at h
    · rename_i k hk
      obtain rfl := keyA_ok ry hk
      have q := lookK_ok (k := k) l rl
      split at h
      · rename_i d hd'
        rw [hd'] at q
        obtain ⟨v, e2, rv⟩ := q
        exact .inl ⟨a, v, rfl, .inl ⟨_, k, e, rfl, e2.symm⟩, h.here o rv⟩
      · exact h.elim
    · exact h.elim
  · exact .inr (hf o rx ry h)
noncomputable def cDicR : CE := fun _ S => .ok (.ref S.length) (S ++ [.dic [] []])
theorem pm_dicR {pos : Pos} : PE X (.Dict [] [] pos) (tM X.K cl W cDicR) := PE.imp pe_dnewK fun σ H Q h => by
  obtain ⟨B, m, S, ρ, o, e, fin⟩ := h
  exact fun p hp => fin (.ref p) _ (m ++ [p]) (Step.adopt hp) (o.adopt hp ⟨[], upd_same, rfl, .nil⟩) ⟨p, by rw [← o.len, List.getElem?_append_right (Nat.le_refl _)]; simp, rfl⟩
noncomputable def tgSubD (co ci : CE) : CT := fun x ρ S => match co ρ S, x with
  | .ok (.ref j) S1, .val d => (match ci ρ S1 with
    | .ok y S2 => (match keyA y, S2[j]? with
      | some k, some (.dic ks vs) => if decide (ks.length < 1000000) then some (ρ, S2.set j (.dic (putKD k d ks vs).1 (putKD k d ks vs).2)) else none
      | _, _ => none)
    | _ => none)
  | _, _ => none
theorem tg_subD {to ti : TE} {co ci : CE} (ho : to = tM X.K cl W co) (hi : ti = tM X.K cl W ci) : TgOk X.K cl (gSub to ti rSetD) (tgSubD co ci) := by
  subst ho hi
  intro B H m S S' v x σ ρ ρ' Q o e r h k
  unfold tgSubD at h
  split at h
  · rename_i j S1 d h1
    split at h
    · rename_i y S2 h2
      split at h
      · rename_i kk ks vs hk h3
        split at h
        · rename_i hz
          cases h
          refine ⟨B, m, S, ρ, o, e, ?_⟩
          rw [h1]
          intro w H1 m1 s1 o1 r1
          refine ⟨B, m1, S1, ρ, o1, s1.env o e, ?_⟩
          rw [h2]
          intro z H2 m2 s2 o2 r2
          obtain ⟨a, ha, rfl⟩ := s2.rep o1 r1
          obtain rfl := keyA_ok r2 hk
          obtain ⟨xs, e1, l, r3⟩ := o2.obj j a _ ha h3
          have rd := (s1.trans s2).rep o r
          obtain ⟨ws, w1, w2, w3⟩ := putKD_ok (k := kk) (d := d) rd l r3
          refine ⟨a, _, rfl, .inl ⟨_, kk, e1, rfl, by rw [List.length_zip]; have := of_decide_eq_true hz; rw [sizeLine_eq]; omega, rfl⟩, ?_⟩
          rw [w1]
          obtain ⟨st, ok⟩ := Ok.write X.K o2 (u := .dic (putKD kk d ks vs).1 (putKD kk d ks vs).2) (w := .dK ((putKD kk d ks vs).1.zip ws)) ha fun H' hb hw => ⟨ws, hw, w2, w3.mono (kp_at (.inr (List.mem_of_getElem? ha)) hb)⟩
          exact k σ _ m2 ((s1.trans s2).trans st) ok (st.env o2 ((s1.trans s2).env o e))
        · cases h
      · cases h
    · cases h
  · cases h
noncomputable def ciK (c : CE) : CI := fun ρ S => match c ρ S with
  | .ok (.val (.ins k ns vs)) S1 => if k = 999 then .ok (ns.map D.str) S1 else .bad
  | .exc e S1 => .exc e S1
  | _ => .bad
theorem src_keys {K : PySem.W.Frag} {a : Addr} {o : Obj} {ns : List Str} {xs : List V} (hl : ns.length = xs.length) : Src K cl (fun N H => H a = some (.frz o (.dK ((ns.map Sum.inr).zip xs))) ∧ ¬ N a) (Itk a o ((ns.map Sum.inr).zip xs)) (ns.map D.str) := by
  have len : ((ns.map (Sum.inr : Str → Key)).zip xs).length = ns.length := by rw [List.length_zip, List.length_map]; omega
  refine ⟨fun h k => ⟨k.kept _ _ h.1 h.2, k.no h.1 h.2⟩, fun i h hi => ⟨h.1, by rw [len]; simpa using hi⟩, fun {B H m S} i {y H'} ok h hy => ?_, fun h => ⟨h.1, by rw [len]; simp⟩⟩
  obtain ⟨rfl, k, v, e, rfl⟩ := hy
  rw [List.getElem?_zip_eq_some, List.getElem?_map] at e
  obtain ⟨e1, _⟩ := e
  cases en : ns[i]? with
  | none => rw [en] at e1; cases e1
  | some x =>
    rw [en] at e1
    cases e1
    exact ⟨.str x, fun hi => by rw [List.getElem?_map, en]; rfl, Step.refl, ok, .str x⟩
theorem pi_k {tg e : Expr} {c : CE} (he : PE X e (tM X.K cl W c)) : PI X tg e (tMI X.K cl W (ciK c)) :=
  PI.imp (pi_keys he) fun σ H R h => by
  obtain ⟨B, m, S, ρ, o, e, fin⟩ := h
  refine ⟨B, m, S, ρ, o, e, ?_⟩
  unfold ciK at fin
  cases hc : c ρ S with
  | bad => rw [hc] at fin; exact fin.elim
  | exc e' S1 => rw [hc] at fin; exact fin
  | ok x S1 =>
    rw [hc] at fin
    cases x with
    | ref i => exact fin.elim
    | val d =>
      cases d with
      | ins k ns vs =>
        dsimp only at fin
        intro v H1 m1 s1 o1 r1
        split at fin
        · rename_i hk
          subst hk
          cases r1 with
          | ins t q =>
            rcases t with ⟨z, _⟩ | ⟨_, z, _⟩ | ⟨_, z, _⟩ | ⟨_, o, e, n, l⟩
            · omega
            · omega
            · omega
            · exact ⟨_, o, rfl, .inl ⟨_, e, fin _ _ H1 m1 s1 o1 ⟨e, n⟩ (src_keys l)⟩⟩
        · exact fin.elim
      | _ => exact fin.elim
end
end T3
namespace T3
open PySem PySem.Spec PyProof.Rows L2
noncomputable abbrev ElmK := D → Store → Option (Option (Key × D) × Store)
noncomputable def dcGo (f : ElmK) : List D → List Key → List D → Store → Option (List Key × List D × Store)
  | [], ks, ds, S => some (ks, ds, S)
  | d :: r, ks, ds, S => match f d S with
    | some (some (k, y), S') => dcGo f r (putKD k y ks ds).1 (putKD k y ks ds).2 S'
    | some (none, S') => dcGo f r ks ds S'
    | none => none
noncomputable def elmK (t : CT) (ct ck cv : CE) (ρ : Slots) : ElmK := fun d S => match t (.val d) ρ S with
  | some (ρ', S') => (match ct ρ' S' with
    | .ok (.val (.bl true)) S2 => (match ck ρ' S2 with
      | .ok y S3 => (match keyA y with
        | some k => (match cv ρ' S3 with
          | .ok (.val z) S4 => some (some (k, z), S4)
          | _ => none)
        | none => none)
      | _ => none)
    | .ok (.val (.bl false)) S2 => some (none, S2)
    | _ => none)
  | none => none
noncomputable def strK : List Key → Option (List Str)
  | [] => some []
  | .inr x :: r => (strK r).map (x :: ·)
  | .inl _ :: _ => none
theorem strK_ok : ∀ {ks : List Key} {ns : List Str}, strK ks = some ns → ks = ns.map Sum.inr
  | [], ns, h => by cases h; rfl
  | .inr x :: r, ns, h => by
    simp only [strK, Option.map_eq_some_iff] at h
    obtain ⟨t, h, rfl⟩ := h
    rw [strK_ok h]
    rfl
  | .inl _ :: _, ns, h => by cases h
noncomputable def cDc (vs : List Nat) (ci : CI) (t : CT) (ct ck cv : CE) : CE := fun ρ S => match ci ρ S with
  | .ok xs S1 => if decide (xs.length < 1000000) then (match dcGo (elmK t ct ck cv (wipeR ρ vs)) xs [] [] S1 with
    | some (ks, ds, S2) => (match strK ks with
      | some ns => .ok (.val (.ins 999 ns ds)) S2
      | none => .bad)
    | none => .bad) else .bad
  | .exc e S1 => .exc e S1
  | .bad => .bad
theorem putKD_len {k : Key} {d : D} {ks : List Key} {ds : List D} : (putKD k d ks ds).1.length ≤ ks.length + 1 := by
  unfold putKD
  split
  · exact Nat.le_succ _
  · simp
theorem Ok.grow2 {K : PySem.W.Frag} {cl : ClT} {B : Addr → Prop} {H : Hp} {m : List Addr} {S : Store} {p : Addr} {u v : HO} (o : Ok K cl (BD B p) H m S) (hL : H p = some v) (hv : NT v ∧ ∀ φ, v ≠ .ext φ) : Ok K cl (BD B p) (upd H p u) m S := by
  have hpm : p ∉ m := (o.foreign p (.inr rfl)).2
  refine ⟨fun a z => ⟨?_, (o.foreign a z).2⟩, o.len, o.nd, fun i a x hi hx => ?_, tabs_upd (.inr ⟨_, hL, hv⟩) o.tabs⟩
  · by_cases e : a = p
    · rw [e, upd_same]; exact fun q => by cases q
    · rw [upd_ne e]; exact (o.foreign a z).1
  · have r := o.obj i a x hi hx
    have ha : a ≠ p := fun z => hpm (z ▸ List.mem_of_getElem? hi)
    exact r.mono (kp_at (.inl (.inr rfl)) fun b hb => upd_ne hb) ⟨[], by simp⟩ (upd_ne ha)
/-- what is wanted of a new dict, locked for ever -/
noncomputable def LockQ (Q : VK) : VK := fun v H' => ∃ d kvs, v = .ref d ∧ H' d = some (.dK kvs) ∧ ∀ od, Q (.ref d) (upd H' d (.frz od (.dK kvs)))
section
variable {X : Cx} {cl : ClT} {W : WX}
theorem pe_lockNew {e : Expr} {t : TE} (h : PE X e t) : PE X e (fun σ H Q => t σ H (LockQ Q)) := ⟨fun pins s σ H Q I q => by
  refine thn (h.run pins s σ H _ I q) fun u s' ⟨v, H', I', rv, d, kvs, ev, hd, k⟩ => ?_
  subst ev
  obtain ⟨od, I2⟩ := I'.lock hd trivial
  exact ⟨.ref d, _, I2, rv, k od⟩⟩
theorem dcGo_cons {f : ElmK} {d : D} {r : List D} {ks : List Key} {ds : List D} {S : Store} {z : List Key × List D × Store} (h : dcGo f (d :: r) ks ds S = some z) :
    (∃ k y S', f d S = some (some (k, y), S') ∧ dcGo f r (putKD k y ks ds).1 (putKD k y ks ds).2 S' = some z) ∨ ∃ S', f d S = some (none, S') ∧ dcGo f r ks ds S' = some z := by
  unfold dcGo at h
  split at h
  · rename_i k y S' h1
    exact .inl ⟨k, y, S', h1, h⟩
  · rename_i S' h1
    exact .inr ⟨S', h1, h⟩
  · cases h
theorem tDc_ok {vs : List Nat} {ci : CI} {g : TG} {t : CT} {ct ck cv : CE} (hg : TgC X.K cl vs g t) {tt : TT} (htt : ∀ σ H Q, tMT X.K cl W0 ct σ H Q → tt σ H Q) {σ : L2.St} {H : Hp} {Q : VK} (h : tM X.K cl W (cDc vs ci t ct ck cv) σ H Q) :
    tDc (tMI X.K cl W ci) g tt (tM X.K cl W0 ck) (tM X.K cl W0 cv) vs σ H (LockQ Q) := by
  obtain ⟨B, m, S, ρ, o, e, fin⟩ := h
  refine ⟨B, m, S, ρ, o, e, ?_⟩
  unfold cDc at fin
  cases hi : ci ρ S with
  | bad => rw [hi] at fin; exact fin
  | exc e' S' => rw [hi] at fin; exact fin
  | ok xs S1 =>
    rw [hi] at fin
    dsimp only at fin
    split at fin
    rotate_left
    · exact fin.elim
    rename_i hz
    have hz := of_decide_eq_true hz
    split at fin
    rotate_left
    · exact fin.elim
    rename_i ks ds S2 hgo
    split at fin
    rotate_left
    · exact fin.elim
    rename_i ns hns
    intro J live H1 m1 s1 o1 l1 src D hD
    have fin1 := Fin.step s1 fin
    have hB : ¬ B D := fun z => (o1.foreign D z).1 hD
    have e1 := s1.env o e
    have e1' : EnvOk X.K cl (NN (BD B D) m1) (upd H1 D (.dK [])) m1 σ ρ := e1.mono (Kp.born hD) ⟨[], by simp⟩
    refine ⟨fun i n H => n = xs.length - i ∧ i ≤ xs.length ∧ ∃ m S ak ad av, Step H1 m1 H m ∧ Ok X.K cl (BD B D) H m S ∧ EnvOk X.K cl (NN (BD B D) m) H m σ ρ ∧ live (NN (BD B D) m) H ∧ H D = some (.dK (ak.zip av)) ∧ ak.length = av.length ∧ ak.length ≤ i ∧ RepL X.K cl (NN (BD B D) m) H av ad ∧
        dcGo (elmK t ct ck cv (wipeR ρ vs)) (xs.drop i) ak ad S = some (ks, ds, S2),
      ⟨xs.length, by simp, Nat.zero_le _, m1, S1, [], [], [], Step.new hD, o1.born hD, e1', src.keep l1 (Kp.born hD), upd_same, rfl, Nat.le_refl _, .nil, hgo⟩, ?_⟩
    rintro i n H2 ⟨rfl, hle, m2, S3, ak, ad, av, st2, o2, e2, l2, hd2, hl2, hi2, ra2, go2⟩
    by_cases hlt : i < xs.length
    · refine .inr ⟨src.go i l2 hlt, fun H => i + 1 ≤ xs.length ∧ ∃ m S ak ad av, Step H1 m1 H m ∧ Ok X.K cl (BD B D) H m S ∧ EnvOk X.K cl (NN (BD B D) m) H m σ ρ ∧ live (NN (BD B D) m) H ∧ H D = some (.dK (ak.zip av)) ∧ ak.length = av.length ∧ ak.length ≤ i + 1 ∧ RepL X.K cl (NN (BD B D) m) H av ad ∧
          dcGo (elmK t ct ck cv (wipeR ρ vs)) (xs.drop (i + 1)) ak ad S = some (ks, ds, S2), fun H' hn => ⟨xs.length - (i + 1), by omega, rfl, hn⟩, fun y H3 hy => ?_⟩
      obtain ⟨d, hd, s3, o3, r3⟩ := src.yld i o2 l2 hy
      have hd := hd hlt
      rw [List.drop_eq_getElem_cons hlt] at go2
      rw [List.getElem?_eq_getElem hlt] at hd
      cases hd
      have l3 := src.step o2 l2 s3
      have e3 := s3.env o2 e2
      have kp3 : Kp (NN (BD B D) m2) (NN (BD B D) m2) H2 H3 := s3.kp fun a h => (o2.foreign a h).2
      have ra3 := ra2.mono kp3
      have hDm : D ∉ m2 := (o2.foreign D (.inr rfl)).2
      have hd3 : H3 D = some (.dK (ak.zip av)) := s3.kept D _ hd2 hDm
      have st3 := st2.trans s3
      have he : ∃ ρ4, t (.val xs[i]) (wipeR ρ vs) S3 = some (ρ4, S3) ∧ ((∃ k y yv S5 S6 S7, ct ρ4 S3 = .ok (.val (.bl true)) S5 ∧ ck ρ4 S5 = .ok yv S6 ∧ keyA yv = some k ∧ cv ρ4 S6 = .ok (.val y) S7 ∧ dcGo (elmK t ct ck cv (wipeR ρ vs)) (xs.drop (i + 1)) (putKD k y ak ad).1 (putKD k y ak ad).2 S7 = some (ks, ds, S2)) ∨
          ∃ S5, ct ρ4 S3 = .ok (.val (.bl false)) S5 ∧ dcGo (elmK t ct ck cv (wipeR ρ vs)) (xs.drop (i + 1)) ak ad S5 = some (ks, ds, S2)) ∨ ∃ ρ4 S4, t (.val xs[i]) (wipeR ρ vs) S3 = some (ρ4, S4) ∧ S4 ≠ S3 := by
        rcases dcGo_cons go2 with ⟨k, y, S', h1, h2⟩ | ⟨S', h1, h2⟩
        all_goals
          unfold elmK at h1
          cases ht : t (.val xs[i]) (wipeR ρ vs) S3 with
          | none => rw [ht] at h1; cases h1
          | some q =>
            obtain ⟨ρ4, S4⟩ := q
            rw [ht] at h1
            dsimp only at h1
            by_cases hS : S4 = S3
            · subst hS
              refine ⟨ρ4, .inl ⟨rfl, ?_⟩⟩
              cases hc : ct ρ4 S4 with
              | bad => rw [hc] at h1; cases h1
              | exc _ _ => rw [hc] at h1; cases h1
              | ok x S5 =>
                rw [hc] at h1
                cases x with
                | ref _ => cases h1
                | val z =>
                  cases z with
                  | bl b =>
                    cases b with
                    | true =>
                      dsimp only at h1
                      cases hv : ck ρ4 S5 with
                      | bad => rw [hv] at h1; cases h1
                      | exc _ _ => rw [hv] at h1; cases h1
                      | ok w S6 =>
                        rw [hv] at h1
                        dsimp only at h1
                        cases hk : keyA w with
                        | none => rw [hk] at h1; cases h1
                        | some k' =>
                          rw [hk] at h1
                          dsimp only at h1
                          cases hw : cv ρ4 S6 with
                          | bad => rw [hw] at h1; cases h1
                          | exc _ _ => rw [hw] at h1; cases h1
                          | ok w2 S7 =>
                            rw [hw] at h1
                            cases w2 with
                            | ref _ => cases h1
                            | val w2 => first | (cases h1; exact .inl ⟨_, _, _, S5, S6, _, rfl, hv, hk, hw, h2⟩) | cases h1
                    | false => first | (cases h1; exact .inr ⟨_, rfl, h2⟩) | cases h1
                  | _ => cases h1
            · exact ⟨ρ4, .inr ⟨ρ4, S4, rfl, hS⟩⟩
      obtain ⟨ρ4, he⟩ := he
      rcases he with ⟨ht, he⟩ | ⟨ρ5, S4, ht, hne⟩
      rotate_left
      · exact hg (x := .val xs[i]) o3 (e3.wipe vs) r3 ht fun σ' _ q _ => absurd q hne
      refine hg (x := .val xs[i]) o3 (e3.wipe vs) r3 ht fun σ4 w4 _ e4 => ⟨w4.trans (wipe_wipe fun i h => h), ?_⟩
      rcases he with ⟨k, y, yv, S5, S6, S7, hc, hv, hk, hw, hgo'⟩ | ⟨S5, hc, hgo'⟩
      · refine htt _ _ _ ⟨BD B D, m2, S3, ρ4, o3, e4, ?_⟩
        rw [hc]
        intro H5 m5 s5 o5
        refine iteT ⟨BD B D, m5, S5, ρ4, o5, s5.env o3 e4, ?_⟩
        rw [hv]
        intro u H6 m6 s6 o6 r6
        obtain rfl := keyA_ok r6 hk
        refine ⟨BD B D, m6, S6, ρ4, o6, (s5.trans s6).env o3 e4, ?_⟩
        rw [hw]
        intro uv H7 m7 s7 o7 r7
        have s57 := (s5.trans s6).trans s7
        have hd7 : H7 D = some (.dK (ak.zip av)) := s57.kept D _ hd3 hDm
        have kp7 : Kp (NN (BD B D) m2) (NN (BD B D) m7) H3 H7 := s57.kp fun a h => (o3.foreign a h).2
        have ex7 : ∃ r, m7 = m2 ++ r := let ⟨r, h, _⟩ := s57.ext; ⟨r, h⟩
        have ra7 := ra3.mono kp7
        obtain ⟨ws, w1, w2, w3⟩ := putKD_ok (k := k) (d := y) r7 hl2 ra7
        have kg : Kp (NN (BD B D) m7) (NN (BD B D) m7) H7 (upd H7 D (.dK (putK (ak.zip av) k uv))) := kp_at (.inl (.inr rfl)) fun b hb => upd_ne hb
        have st7 := st3.trans s57
        refine ⟨_, k, rfl, hd7, by rw [List.length_zip, sizeLine_eq]; omega, hlt, m7, S7, (putKD k y ak ad).1, (putKD k y ak ad).2, ws, ?_, o7.grow2 hd7 (nt_of (.inr (.inl ⟨_, rfl⟩))), (e3.mono kp7 ex7).mono kg ⟨[], by simp⟩, src.keep (src.keep l3 kp7) kg, by rw [upd_same, w1], w2, Nat.le_trans putKD_len (Nat.succ_le_succ hi2), w3.mono kg, hgo'⟩
        refine ⟨st7.ext, fun a z hz hn nt => ?_, fun a hn => ?_⟩
        · rw [upd_ne fun q => by rw [q, hD] at hz; cases hz]; exact st7.keep a z hz hn nt
        · by_cases q : a = D
          · rw [q, upd_same]; exact fun z => by cases z
          · rw [upd_ne q]; exact st7.stay a hn
      · refine htt _ _ _ ⟨BD B D, m2, S3, ρ4, o3, e4, ?_⟩
        rw [hc]
        intro H5 m5 s5 o5
        have kp5 : Kp (NN (BD B D) m2) (NN (BD B D) m5) H3 H5 := s5.kp fun a h => (o3.foreign a h).2
        have ex5 : ∃ r, m5 = m2 ++ r := let ⟨r, h, _⟩ := s5.ext; ⟨r, h⟩
        exact iteF ⟨hlt, m5, S5, ak, ad, av, st3.trans s5, o5, e3.mono kp5 ex5, src.keep l3 kp5, s5.kept D _ hd3 hDm, hl2, Nat.le_succ_of_le hi2, ra3.mono kp5, hgo'⟩
    · have hi : i = xs.length := by omega
      subst hi
      rw [List.drop_length] at go2
      cases go2
      refine .inl ⟨src.stop l2, D, _, rfl, hd2, fun od => ?_⟩
      have hDm : D ∉ m2 := (o2.foreign D (.inr rfl)).2
      have hw : ∀ a, NN B m2 a → NN (BD B D) m2 a := fun a z => z.imp .inl id
      have o3 := o2.grow2 (u := .frz od (.dK (ks.zip av))) hd2 (nt_of (.inr (.inl ⟨_, rfl⟩)))
      have kg : Kp (NN (BD B D) m2) (NN (BD B D) m2) H2 (upd H2 D (.frz od (.dK (ks.zip av)))) := kp_at (.inl (.inr rfl)) fun b hb => upd_ne hb
      have rk := strK_ok hns
      refine fin1 _ _ m2 ⟨st2.ext, fun a z hz hn nt => ?_, fun a hn => ?_⟩ (o3.less fun a z => .inl z) (.ins (.inr (.inr (.inr ⟨rfl, od, by rw [upd_same, rk], fun z => z.elim hB hDm, by rw [rk, List.length_map] at hl2; exact hl2⟩))) ((ra2.mono kg).weak hw))
      · rw [upd_ne fun q => by rw [q, hD] at hz; cases hz]; exact st2.keep a z hz hn nt
      · by_cases q : a = D
        · rw [q, upd_same]; exact fun z => by cases z
        · rw [upd_ne q]; exact st2.stay a hn
theorem pm_dc {kx vx tg iter : Expr} {ifs : List Expr} {scope : Scope} {own : List (Str × Nat)} {pos : Pos} {vs : List Nat} {ci : CI} {g : TG} {t : CT} {tt : TT} {ct ck cv : CE} (hvs : own.map (·.2) = vs) (hN : X.N.Nodup) (hi : PI X tg iter (tMI X.K cl W ci)) (ok : BlkOk X.N X.env.scope scope own)
    (hg : ∀ (s : Shared) (H : Hp) (C : Addr) (cl : List (Str × Addr)) (fp : List Addr), PG (X.blk s H scope (compEnvC scope cl C X.env) fp) tg g) (hgt : TgC X.K cl vs g t) (ht : ∀ (s : Shared) (H : Hp) (C : Addr) (cl : List (Str × Addr)) (fp : List Addr), PTs (X.blk s H scope (compEnvC scope cl C X.env) fp) ifs tt)
    (htt : ∀ σ H Q, tMT X.K cl W0 ct σ H Q → tt σ H Q)
    (hk : ∀ (s : Shared) (H : Hp) (C : Addr) (cl' : List (Str × Addr)) (fp : List Addr), PE (X.blk s H scope (compEnvC scope cl' C X.env) fp) kx (tM X.K cl W0 ck))
    (he : ∀ (s : Shared) (H : Hp) (C : Addr) (cl' : List (Str × Addr)) (fp : List Addr), PE (X.blk s H scope (compEnvC scope cl' C X.env) fp) vx (tM X.K cl W0 cv)) (hc : X.calm = true := by rfl) (hs : ∀ x, foldedSetIterable iter X.env x = pure x := by intro _; rfl) :
    PE X (.DictComp kx vx [⟨tg, iter, ifs, 0⟩] scope pos) (tM X.K cl W (cDc vs ci t ct ck cv)) := by
  subst hvs
  exact PE.imp (pe_lockNew (pe_dc hc hN hi ok hg ht hk he hs)) fun σ H Q h => tDc_ok hgt htt h
end
end T3
namespace T3
open PySem PySem.Spec PyProof.Rows L2
section
variable {X : Cx} {cl : ClT} {W : WX}
structure CmG (P : Program) (w : World) (K : PySem.W.Frag) (mg : Str → Option Value) (base : Heap) (cl : ClT) (j : Nat) (nm m : Str) (c2 n : Nat) (f : Fn) : Prop where
  lt : 2000 ≤ c2
  gC : mg nm = some (.ref (cl c2))
  rd : ClX.CRead K (cl c2) (.type "type")
  ex : ∃ (p fa : Addr) (fd : FuncData) (ps : List Str), ClX.CMet K (cl c2) (.type "type") m p fa ∧ Binds K fd ps [] ∧ ps.length = n + 1 ∧ FnG P w K mg base j fa fd ps (spF K cl (n + 1) f)
noncomputable def cCm (c2 n : Nat) (adopt : Bool) (f : Fn) (c : CA) : CE := fun ρ S => (c ρ S).bind fun xs S1 => if xs.length = n then callIn adopt f (.val (.ins c2 [] []) :: xs) S1 else .bad
theorem rep_cls {K : PySem.W.Frag} {N : Addr → Prop} {H : Hp} {m : List Addr} {c2 : Nat} (h : 2000 ≤ c2) : RepA K cl N H m (.ref (cl c2)) (.val (.ins c2 [] [])) := Rep.ins (.inr (.inr (.inl ⟨rfl, h, rfl, rfl⟩))) .nil
theorem pm_cm (adopt : Bool) {nm m : Str} {c2 n j k : Nat} {f : Fn} {e : Expr} {es : List Expr} {c : CA} {pos apos np : Pos} {pl : Sem Bool} (M : CmG X.prog X.w X.K X.mg X.base cl j nm m c2 n f) (hr : Room k X.A) (g : X.A.guards = some []) (tk : Takes X W) (hg : Gl X nm)
    (ha : PA X (e :: es) (tML X.K cl W c)) (hk : j ≤ k := by decide) (hdb : (nm == ("__debug__" : Str)) = false := by decide) (hst : starEach (e :: es) X.env = (false, eval e X.env) :: starEach es X.env := by rfl) (hpl : (backTo pos (starEach es X.env)).any (·.1) = false := by rfl)
    (htr : eval (.Call (.Attribute (.Name nm np) m apos) (e :: es) [] pos) X.env = (do
      let ov ← eval (.Name nm np) X.env
      standAt apos.atName
      let (f, first) ← holding [ov] (getMethod ov m pl)
      callWith pos f first (backTo pos (starEach (e :: es) X.env)) (backToKw pos (keywordEach [] X.env))) := by rfl) :
    PE X (.Call (.Attribute (.Name nm np) m apos) (e :: es) [] pos) (tM X.K cl W (cCm c2 n adopt f c)) := by
  obtain ⟨p, fa, fd, ps, cm, hb, hps, F⟩ := M.ex
  refine ⟨fun pins s σ H Q I h => ?_⟩
  refine PySem.W.methodCall_KW (pl := pl) (ld_glob I hg M.gC ?_ hdb) htr
  refine ClX.getmethcm_ok I M.rd cm fun s2 I2 => ?_
  have h2 : tML X.K cl W c σ H fun vs H2 => spF X.K cl (n + 1) f (.ref (cl c2) :: vs) H2 Q (WE W σ) := by
    obtain ⟨B, m0, S, ρ, ok, en, fin⟩ := h
    refine ⟨B, m0, S, ρ, ok, en, FinL.bind fin fun xs S1 vs H1 m1 s1 o1 r1 f1 => ?_⟩
    split at f1
    · rename_i hl
      exact callIn_ok o1 (.cons (rep_cls M.lt) r1) (by rw [List.length_cons, r1.length, hl]) f1
    · exact f1.elim
  refine ClX.callwith_cm I2 (ClX.base_none I (Nat.le_refl _)) cm.fi (thn (ha.run pos _ s2 σ H _ I2 h2) fun us s3 ⟨vs, H2, I3, rv, q2⟩ => ⟨⟨ClX.pin_at I3, I3.kIn⟩, ?_⟩) hst hpl
  have hl : (Value.ref (cl c2) :: us).length = ps.length := by rw [List.length_cons, ← rv.length, hps]; have := q2.1; simpa using this
  have b := hb s3 (.ref (cl c2) :: us) I3.kIn (by rw [List.append_nil]; exact hl)
  rw [List.append_nil] at b
  have z : wpAny (model X.prog X.w) X.A (call (.ref s.heap.objs.size) us) (EP X ((s.heap.objs.size, PySem.W.methodObj (.ref fa) (.ref (cl c2))) :: pins) σ Q) X.xe s3 := by
    refine wpAny_call (PySem.W.method_call (ClX.pin_at I3) (codeAny_mono ((F.up hk).run (args := ⟨.ref (cl c2) :: us, []⟩) (us := .ref (cl c2) :: us) (vs := .ref (cl c2) :: vs) g hr I3.env0 b (.cons rfl rv) q2) fun res s' q => ?_))
    cases res with
    | error e => exact passAt tk σ _ H2 s3 e s' I3 q
    | ok fl =>
      cases fl with
      | ret u => exact I3.after q
      | next | brk | cont => exact q.elim
  exact thn z fun _ _ y => ClX.unpinE y
/-- how the parameters are bound: the first by position, the others by names -/
noncomputable def KM (K : PySem.W.Frag) (fd : FuncData) (ps ks : List Str) (perm : List Nat) : Prop :=
  ∀ (s : Shared) (u : Value) (ws : List Value), K.In s.heap → ws.length = ks.length → ∃ us, perm.map (fun i => (u :: ws)[i]?) = us.map some ∧ BindsTo s fd ⟨[u], ks.zip ws⟩ (ps.zip us)
structure MetK (P : Program) (w : World) (K : PySem.W.Frag) (mg : Str → Option Value) (base : Heap) (cl : ClT) (j c : Nat) (nm : Str) (n : Nat) (f : Fn) (ks : List Str) (perm : List Nat) : Prop where
  lt : c < 999
  C : Cls K (cl c)
  ex : ∃ (fa : Addr) (fd : FuncData) (ps : List Str), Meth K (cl c) nm fa ∧ KM K fd ps ks perm ∧ FnG P w K mg base j fa fd ps (spF K cl n f)
noncomputable def cMethK (tbl : Nat → Option Fn) (m : Str) (n q : Nat) (perm : List Nat) (adopt : Bool) (ce : CE) (c : CA) : CE := fun ρ S => (ce ρ S).bind fun x S1 => match insOf S1 x with
  | some (k, ns) => if ns.contains m then .bad else (match tbl k with
    | some f => (c ρ S1).bind fun xs S2 => if xs.length = q then (match pick (x :: xs) perm with
      | some ys => if ys.length = n then callIn adopt f ys S2 else .bad
      | none => .bad) else .bad
    | none => .bad)
  | none => .bad
noncomputable def cCmK (c2 n q : Nat) (perm : List Nat) (adopt : Bool) (f : Fn) (c : CA) : CE := fun ρ S => (c ρ S).bind fun xs S1 => if xs.length = q then (match pick (.val (.ins c2 [] []) :: xs) perm with
  | some ys => if ys.length = n then callIn adopt f ys S1 else .bad
  | none => .bad) else .bad
noncomputable def cIsC (known : List Nat) (c0 : Nat) (c : CE) : CE := fun ρ S => (c ρ S).bind fun x S1 => match tyD S1 x with
  | some _ => .ok (.val (.bl false)) S1
  | none => (match insOf S1 x with
    | some (k, _) => if known.contains k then .ok (.val (.bl (k == c0))) S1 else .bad
    | none => .bad)
end
end T3
namespace T3
open PySem PySem.Spec PyProof.Rows L2
section
variable {X : Cx} {cl : ClT}
noncomputable def fMulS (fr : Bool) (x y : A) (S : Store) : Res := match x, y with
  | .val (.str a), .val (.int k) => if decide (2 ≤ k) && decide (k ≤ 1000) && decide (a.length ≤ 1000) then .ok (.val (.str (Txt.mul a k))) S else .bad
  | x, y => fMul fr x y S
end
@[simp] theorem mulS_str {fr : Bool} {a : Str} {k : Int} {S : Store} : fMulS fr (.val (.str a)) (.val (.int k)) S = if decide (2 ≤ k) && decide (k ≤ 1000) && decide (a.length ≤ 1000) then .ok (.val (.str (Txt.mul a k))) S else .bad := rfl
end T3
namespace T3
open PySem PySem.Spec PyProof.Rows L2
section
variable {ρ : Slots} {S S1 S2 : Store} {i j : Nat} {x y : A} {d : D} {ds : List D} {s : Str} {k : Int} {b : Bool}
@[simp] theorem insOf_ins {c : Nat} {ns : List Str} : insOf S (.val (.ins c ns ds)) = some (c, ns) := rfl
@[simp] theorem insOf_ref : insOf S (.ref i) = (match S[i]? with | some (.ins c ns _) => some (c, ns) | _ => none) := rfl
@[simp] theorem insOf_str : insOf S (.val (.str s)) = none := rfl
@[simp] theorem insOf_int : insOf S (.val (.int k)) = none := rfl
@[simp] theorem insOf_bl : insOf S (.val (.bl b)) = none := rfl
@[simp] theorem insOf_non : insOf S (.val .non) = none := rfl
@[simp] theorem insOf_tup : insOf S (.val (.tup ds)) = none := rfl
@[simp] theorem insOf_lst : insOf S (.val (.lst ds)) = none := rfl
@[simp] theorem insOf_ro : insOf S (.val (.ro ds)) = none := rfl
@[simp] theorem tyD_ins {c : Nat} {ns : List Str} : tyD S (.val (.ins c ns ds)) = none := rfl
@[simp] theorem tyD_ref : tyD S (.ref i) = (match S[i]? with | some (.lst _) => some "list" | some (.dic _ _) => some "dict" | _ => none) := by first | rfl | (unfold tyD; rfl) | (simp only [tyD]; split <;> rfl)
@[simp ↓] theorem ap_Fld {tbl : List Nat} {f : Str} {ce : CE} : cFld tbl f ce ρ S = (match ce ρ S with
  | .ok x S1 => (match insOf S1 x with
  | some (c, _) => if tbl.contains c then (match getF f S1 x with
    | some y => .ok y S1
    | none => .bad) else .bad
  | none => .bad)
  | .exc e S9 => .exc e S9
  | .bad => .bad) := rfl
@[simp] theorem getF_ins {f : Str} {c : Nat} {ns : List Str} : getF f S (.val (.ins c ns ds)) = (lookD f ns ds).map .val := rfl
@[simp] theorem getF_ref {f : Str} : getF f S (.ref i) = (match S[i]? with | some (.ins _ ns zs) => lookA f ns zs | _ => none) := rfl
@[simp ↓] theorem ap_setF {tbl : List Nat} {f : Str} {co ce : CE} : sSetF tbl f co ce ρ S = (match ce ρ S with
  | .ok y S1 => (match co ρ S1 with
    | .ok (.ref i) S2 => (match S2[i]? with
      | some (.ins c ns zs) => if tbl.contains c && decide (ns.length < 900) && decide (zs.length < 900) then .nx ρ (S2.set i (.ins c (putA f y ns zs).1 (putA f y ns zs).2)) else .bad
      | _ => .bad)
    | .exc e S2 => .exc e ρ S2
    | _ => .bad)
  | .exc e S1 => .exc e ρ S1
  | .bad => .bad) := rfl
@[simp ↓] theorem ap_Meth {tbl : Nat → Option Fn} {m : Str} {n : Nat} {ad : Bool} {ce : CE} {c : CA} : cMeth tbl m n ad ce c ρ S = (match ce ρ S with
  | .ok x S1 => (match insOf S1 x with
  | some (k, ns) => if ns.contains m then .bad else (match tbl k with
    | some f => (match c ρ S1 with | .ok xs S2 => (if xs.length = n then callIn ad f (x :: xs) S2 else .bad) | .exc e S9 => .exc e S9 | .bad => .bad)
    | none => .bad)
  | none => .bad)
  | .exc e S9 => .exc e S9
  | .bad => .bad) := rfl
@[simp ↓] theorem ap_MethK {tbl : Nat → Option Fn} {m : Str} {n q : Nat} {perm : List Nat} {ad : Bool} {ce : CE} {c : CA} : cMethK tbl m n q perm ad ce c ρ S = (match ce ρ S with
  | .ok x S1 => (match insOf S1 x with
  | some (k, ns) => if ns.contains m then .bad else (match tbl k with
    | some f => (match c ρ S1 with
      | .ok xs S2 => (if xs.length = q then (match pick (x :: xs) perm with
      | some ys => if ys.length = n then callIn ad f ys S2 else .bad
      | none => .bad) else .bad)
      | .exc e S9 => .exc e S9
      | .bad => .bad)
    | none => .bad)
  | none => .bad)
  | .exc e S9 => .exc e S9
  | .bad => .bad) := rfl
@[simp ↓] theorem ap_Prop {tbl : Nat → Option Fn} {ce : CE} : cProp tbl ce ρ S = (match ce ρ S with
  | .ok x S1 => (match insOf S1 x with
  | some (k, _) => (match tbl k with
    | some f => (match callIn false f [x] S1 with
      | .ok y S2 => .ok y S2
      | _ => .bad)
    | none => .bad)
  | none => .bad)
  | .exc e S9 => .exc e S9
  | .bad => .bad) := rfl
@[simp ↓] theorem ap_IsC {known : List Nat} {c0 : Nat} {c : CE} : cIsC known c0 c ρ S = (match c ρ S with
  | .ok x S1 => (match tyD S1 x with
  | some _ => .ok (.val (.bl false)) S1
  | none => (match insOf S1 x with
    | some (k, _) => if known.contains k then .ok (.val (.bl (k == c0))) S1 else .bad
    | none => .bad))
  | .exc e S9 => .exc e S9
  | .bad => .bad) := rfl
@[simp ↓] theorem ap_Make {ad : Bool} {c : Nat} {nn : Option Nat} {f : Fn} {ca : CA} : cMake ad c nn f ca ρ S = (match ca ρ S with | .ok xs S1 => (if nnOk nn xs.length then makeIn ad c f xs S1 else .bad) | .exc e S9 => .exc e S9 | .bad => .bad) := rfl
@[simp] theorem nnOk_none {n : Nat} : nnOk none n = true := rfl
@[simp] theorem nnOk_some {n m : Nat} : nnOk (some m) n = decide (n = m) := rfl
@[simp ↓] theorem ap_Seq {ce : CE} : cSeq ce ρ S = (match ce ρ S with
  | .ok x S1 => (match x with
    | .val (.tup ds) => .ok (ds.map A.val) S1
    | x => (match asL S1 x with
      | some ds => .ok (ds.map A.val) S1
      | none => .bad))
  | .exc e S1 => .exc e S1
  | .bad => .bad) := rfl
@[simp ↓] theorem ap_Cm {c2 n : Nat} {ad : Bool} {f : Fn} {c : CA} : cCm c2 n ad f c ρ S = (match c ρ S with | .ok xs S1 => (if xs.length = n then callIn ad f (.val (.ins c2 [] []) :: xs) S1 else .bad) | .exc e S9 => .exc e S9 | .bad => .bad) := rfl
@[simp ↓] theorem ap_CmK {c2 n q : Nat} {perm : List Nat} {ad : Bool} {f : Fn} {c : CA} : cCmK c2 n q perm ad f c ρ S = (match c ρ S with
  | .ok xs S1 => (if xs.length = q then (match pick (.val (.ins c2 [] []) :: xs) perm with
  | some ys => if ys.length = n then callIn ad f ys S1 else .bad
  | none => .bad) else .bad)
  | .exc e S9 => .exc e S9
  | .bad => .bad) := rfl
@[simp] theorem orI_one {g f : List A → Store → Res} : orI g f [x] S = if (insOf S x).isSome then g [x] S else f [x] S := rfl
@[simp] theorem spc_one {tbl : Nat → Option Fn} {chk : D → Bool} : spcF tbl chk [x] S = (match insOf S x with
    | some (k, _) => (match tbl k with
      | some f => (match callIn false f [x] S with
        | .ok (.val d) S2 => if chk d then .ok (.val d) S2 else .bad
        | _ => .bad)
      | none => .bad)
    | none => .bad) := rfl
@[simp] theorem eqI_two {tbl : Nat → Option Fn} {neg : Bool} {f : A → A → Store → Res} : eqI tbl neg f x y S = (match insOf S x with
  | some (k, _) => (match tbl k with
    | some q => if sideOk S k y then (match callIn false q [x, y] S with
      | .ok (.val (.bl b)) S2 => .ok (.val (.bl (if neg then !b else b))) S2
      | _ => .bad) else .bad
    | none => .bad)
  | none => f x y S) := rfl
@[simp] theorem sideOk_eq {k : Nat} : sideOk S k y = ((tyD S y).isSome || (match insOf S y with
  | some (k', _) => k' == k
  | none => false)) := rfl
@[simp] theorem inD_two {neg : Bool} {f : A → A → Store → Res} : fInD neg f x y S = (match dicOf S y with
  | some (ks, vs) => (match keyA x with
    | some k => .ok (.val (.bl (if neg then !(lookK k ks vs).isSome else (lookK k ks vs).isSome))) S
    | none => .bad)
  | none => f x y S) := rfl
@[simp] theorem ixD_two {f : A → A → Store → Res} : fIxD f x y S = (match dicOf S x with
  | some (ks, vs) => (match keyA y with
    | some k => (match lookK k ks vs with
      | some d => .ok (.val d) S
      | none => .bad)
    | none => .bad)
  | none => f x y S) := rfl
@[simp] theorem tupD_one {f : List A → Store → Res} : fTupD f [x] S = (match dicOf S x with
    | some (ks, _) => .ok (.val (.tup (ks.map keyD))) S
    | none => f [x] S) := rfl
@[simp] theorem dicOf_ins {c : Nat} {ns : List Str} : dicOf S (.val (.ins c ns ds)) = if c = 999 then some (ns.map Sum.inr, ds) else none := rfl
@[simp] theorem dicOf_dic {ks : List Key} : dicOf S (.val (.dic ks ds)) = some (ks, ds) := rfl
@[simp] theorem dicOf_ref : dicOf S (.ref i) = (match S[i]? with | some (.dic ks ds) => some (ks, ds) | _ => none) := by first | rfl | (unfold dicOf; rfl) | (simp only [dicOf]; split <;> rfl)
@[simp] theorem dicOf_tup : dicOf S (.val (.tup ds)) = none := rfl
@[simp] theorem dicOf_lst : dicOf S (.val (.lst ds)) = none := rfl
@[simp] theorem dicOf_str : dicOf S (.val (.str s)) = none := rfl
@[simp] theorem keyA_str : keyA (.val (.str s)) = some (.inr s) := rfl
@[simp] theorem keyA_int : keyA (.val (.int k)) = some (.inl k) := rfl
@[simp ↓] theorem ap_DicR : cDicR ρ S = .ok (.ref S.length) (S ++ [.dic [] []]) := rfl
@[simp ↓] theorem ap_tgSubD {co ci : CE} : tgSubD co ci x ρ S = (match co ρ S, x with
  | .ok (.ref j) S1, .val d => (match ci ρ S1 with
    | .ok y S2 => (match keyA y, S2[j]? with
      | some k, some (.dic ks vs) => if decide (ks.length < 1000000) then some (ρ, S2.set j (.dic (putKD k d ks vs).1 (putKD k d ks vs).2)) else none
      | _, _ => none)
    | _ => none)
  | _, _ => none) := rfl
@[simp ↓] theorem ap_ciK {c : CE} : ciK c ρ S = (match c ρ S with
  | .ok (.val (.ins k ns vs)) S1 => if k = 999 then .ok (ns.map D.str) S1 else .bad
  | .exc e S1 => .exc e S1
  | _ => .bad) := rfl
@[simp ↓] theorem ap_Dc {vs : List Nat} {ci : CI} {t : CT} {ct ck cv : CE} : cDc vs ci t ct ck cv ρ S = (match ci ρ S with
  | .ok xs S1 => if decide (xs.length < 1000000) then (match dcGo (elmK t ct ck cv (wipeR ρ vs)) xs [] [] S1 with
    | some (ks, ds, S2) => (match strK ks with
      | some ns => .ok (.val (.ins 999 ns ds)) S2
      | none => .bad)
    | none => .bad) else .bad
  | .exc e S1 => .exc e S1
  | .bad => .bad) := rfl
@[simp ↓] theorem ap_elmK {t : CT} {ct ck cv : CE} : elmK t ct ck cv ρ d S = (match t (.val d) ρ S with
  | some (ρ', S') => (match ct ρ' S' with
    | .ok (.val (.bl true)) S2 => (match ck ρ' S2 with
      | .ok y S3 => (match keyA y with
        | some k => (match cv ρ' S3 with
          | .ok (.val z) S4 => some (some (k, z), S4)
          | _ => none)
        | none => none)
      | _ => none)
    | .ok (.val (.bl false)) S2 => some (none, S2)
    | _ => none)
  | none => none) := rfl
end
end T3
namespace T3
open PySem PySem.Spec PyProof.Rows L2 PySem.W
section
end
section
variable {X : Cx}
theorem asT_tup {B : Addr → Prop} {H : Hp} {m : List Addr} {v : V} {ds : List D} {K : PySem.W.Frag} {cl : ClT} (r : RepA K cl (NN B m) H m v (.val (.tup ds))) : ∃ a xs, v = .ref a ∧ SqT K H a xs ∧ RepL K cl (NN B m) H xs ds := by
  cases r with
  | tup t q => exact ⟨_, _, rfl, t.seq, q⟩
end
end T3
namespace T3
open PySem PySem.Spec PyProof.Rows L2 LamX L2H
/-- what is known of the i-th error class -/
structure Err1 (K : PySem.W.Frag) (mg : Str → Option Value) (f : Nat → Addr) (i : Nat) : Prop where
  nm : mg (xNm i) = some (.ref (f i))
  ex : PySem.W.exmOne K (.ref (f i)) (.ref (f i)) = some true
  ce : ClsE K (f i)
  n1 : PySem.W.findIn K (.ref (f i)) "given" = some none
  n2 : PySem.W.findIn K (.ref (f i)) "index" = some none
noncomputable def sTryO (c0 : Nat) (cb cs : CS) : CS := fun ρ S => match cb ρ S with
  | .exc e ρ' S' => if e.c = c0 then (match cs ρ' S' with
    | .exc _ _ _ => .bad
    | r => r) else .bad
  | r => r
noncomputable def sTryE (c0 : Nat) (f w : Str) (cb : CS) : CS := fun ρ S => match cb ρ S with
  | .exc e ρ' S' => if e.c = c0 ∧ e.ns ≠ [] ∧ nInsL e.vs = true then (match (e.ns.zip e.vs).lookup f with
    | some d => (match fReprD [.val d] [] with
      | .ok (.val (.str r)) [] => .rt (.val (.lst [.str w, .str r])) S'
      | _ => .bad)
    | none => .bad) else .bad
  | r => r
section
variable {X : Cx} {cl : ClT} {W : WX} {x n : Str} {i kk : Nat} {body suite : List Stmt} {b0 : Stmt} {np pos hpos : Pos} {cb cs : CS}
theorem pm_tryO (c0 : Nat) (E : Err1 X.K X.mg cl.f c0) (hx : x = xNm c0) (hg : Gl X x) (tk : Takes X W)
    (hb : ∀ (W' : WX) (pn : List (Addr × Obj)) (xe : Value → Shared → Prop), Takes (X.tr pn xe) W' → PSs (X.tr pn xe) body (tMS X.K cl W' cb))
    (hs : ∀ (a : Addr) (pn : List (Addr × Obj)), PSs (X.suite a pn) (b0 :: suite) (tMS X.K cl W0 cs))
    (stk : X.stack = X.env :: X.outer := by rfl) (fr : X.env.frame = some X.env.locals := by rfl) (hdb : (x == ("__debug__" : Str)) = false := by decide) :
    PS X (.Try body [.ExceptHandler (some (.Name x np)) none (b0 :: suite) hpos] [] [] pos) (tMS X.K cl W (sTryO c0 cb cs)) := by
  subst hx
  refine PS.imp (ps_try_only (c := .ref (cl c0)) (Wout := W) (tb := fun W' => tMS X.K cl W' cb) (ts := fun _ _ _ => tMS X.K cl W0 cs) stk fr ⟨hg, hdb, .inl E.nm⟩ tk (fun W' pn xe t _ => hb W' pn xe t) fun a oe cls d pn _ _ => hs a _) fun D σ H h => ?_
  obtain ⟨B, m, S, ρ, o, en, fin⟩ := h
  refine ⟨B, m, S, ρ, o, en, ?_⟩
  unfold sTryO at fin
  cases hc : cb ρ S with
  | bad => rw [hc] at fin; exact fin
  | nx _ _ => rw [hc] at fin; exact fin
  | rt _ _ => rw [hc] at fin; exact fin
  | bk _ _ => rw [hc] at fin; exact fin
  | ct _ _ => rw [hc] at fin; exact fin
  | exc e ρ' S' =>
    rw [hc] at fin
    intro c d σ' H' m' s' o' en' x'
    obtain ⟨rfl, x2⟩ := x'
    dsimp only at fin
    split at fin
    · rename_i he
      subst he
      refine ⟨true, E.ex, fun _ a na => ⟨B, m', S', ρ', o', en', ?_⟩, fun z => by cases z⟩
      have f2 := FinS.step s' fin
      cases hq : cs ρ' S' with
      | bad => rw [hq] at f2; exact f2
      | nx _ _ => rw [hq] at f2; exact f2
      | rt _ _ => rw [hq] at f2; exact f2
      | bk _ _ => rw [hq] at f2; exact f2
      | ct _ _ => rw [hq] at f2; exact f2
      | exc _ _ _ => rw [hq] at f2; exact f2.elim
    · exact fin.elim
end
end T3
namespace T3
open PySem PySem.Spec PyProof.Rows L2
structure KdT (K : PySem.W.Frag) (w : World) (mg : Str → Option Value) (nm : Str) (tbl : List (Str × Int)) : Prop where
  ex : ∃ d es n, mg nm = some (.ref d) ∧ KDict K w d es n ∧ ∀ z, (match tbl.lookup z with
    | some i => ∃ t, PySem.W.nsIn K d z = some (some (.int i t))
    | none => PySem.W.nsIn K d z = some none)
noncomputable def cInK (neg : Bool) (tbl : List (Str × Int)) (c : CE) : CE := fun ρ S => (c ρ S).bind fun x S1 => match x with
  | .val (.str z) => .ok (.val (.bl (if neg then !(tbl.lookup z).isSome else (tbl.lookup z).isSome))) S1
  | _ => .bad
noncomputable def cIxK (tbl : List (Str × Int)) (c : CE) : CE := fun ρ S => (c ρ S).bind fun x S1 => match x with
  | .val (.str z) => (match tbl.lookup z with
    | some i => .ok (.val (.int i)) S1
    | none => .bad)
  | _ => .bad
section
variable {X : Cx} {cl : ClT} {W : WX} {nm : Str} {tbl : List (Str × Int)} {e : Expr} {c : CE} {p pos : Pos}
noncomputable abbrev r_notInK (K : PySem.W.Frag) (d : Addr) : R2 := fun x y H Q => ∃ (z : Str) (r : Option Value), x = .str z ∧ y = .ref d ∧ PySem.W.nsIn K d z = some r ∧ Q (.bl (!r.isSome)) H
theorem notInK_imp (T : KdT X.K X.w X.mg nm tbl) : ∃ d es n, X.mg nm = some (.ref d) ∧ KDict X.K X.w d es n ∧ ∀ σ H Q, tM X.K cl W (cInK true tbl c) σ H Q → tOp (r_notInK X.K d) (tM X.K cl W c) (tC (.ref d)) σ H Q := by
  obtain ⟨d, es, n, g, D, h⟩ := T.ex
  refine ⟨d, es, n, g, D, fun σ H Q q => ?_⟩
  obtain ⟨B, m, S, ρ, o, en, fin⟩ := q
  refine ⟨B, m, S, ρ, o, en, Fin.bind fin fun x S1 v H1 m1 s1 o1 r1 f1 => ?_⟩
  split at f1
  · rename_i z
    cases r1
    have hz := h z
    refine ⟨z, (tbl.lookup z).map fun i => ?_, rfl, rfl, ?_, ?_⟩
    · exact (match PySem.W.nsIn X.K d z with | some (some u) => u | _ => .none)
    · cases hl : tbl.lookup z with
      | none => rw [hl] at hz; exact hz
      | some i =>
        rw [hl] at hz
        obtain ⟨t, ht⟩ := hz
        rw [ht] <;> rfl
    · rw [Option.isSome_map]
      exact f1.here o1 (.bl _)
  · exact f1.elim
theorem pt_notInK (T : KdT X.K X.w X.mg nm tbl) (he : PE X e (tM X.K cl W c)) (hg : Gl X nm := by rfl) (hdb : (nm == ("__debug__" : Str)) = false := by decide) (hm : behindInMarks .NotIn (.Name nm p) = false := by first | exact nobehind _ (by decide) (by decide) | rfl) :
    PT X (.Compare e [.NotIn] [.Name nm p] pos) (tMT X.K cl W (cInK true tbl c)) := by
  obtain ⟨d, es, n, g, D, h⟩ := notInK_imp (cl := cl) (W := W) (c := c) T
  refine PT.imp (pt_cmpR (op_notIn_kd D) he (pe_glob (v := .ref d) hg g rfl hdb) hm) fun σ H Q q => ?_
  obtain ⟨B, m, S, ρ, o, en, fin⟩ := q
  exact h σ H _ ⟨B, m, S, ρ, o, en, FinT.of fin⟩
theorem pm_ixK (T : KdT X.K X.w X.mg nm tbl) (he : PE X e (tM X.K cl W c)) (hg : Gl X nm := by rfl) (hdb : (nm == ("__debug__" : Str)) = false := by decide) (hs : PlainIx e := by exact fun _ _ => rfl) :
    PE X (.Subscript (.Name nm p) e pos) (tM X.K cl W (cIxK tbl c)) := by
  obtain ⟨d, es, n, g, D, h⟩ := T.ex
  refine PE.imp (pe_ix (ix_kdict) (pe_glob (v := .ref d) hg g rfl hdb) he hs) fun σ H Q q => ?_
  obtain ⟨B, m, S, ρ, o, en, fin⟩ := q
  refine ⟨B, m, S, ρ, o, en, Fin.bind fin fun x S1 v H1 m1 s1 o1 r1 f1 => ?_⟩
  split at f1
  · rename_i z
    cases r1
    have hz := h z
    split at f1
    · rename_i i hl
      rw [hl] at hz
      obtain ⟨t, ht⟩ := hz
      exact ⟨d, z, .int i, rfl, rfl, ⟨es, n, .int i t, D.at_, D.lit, ht, ⟨t, rfl⟩⟩, f1.here o1 (.int _)⟩
    · exact f1.elim
  · exact f1.elim
end
section
variable {ρ : Slots} {S : Store} {tbl : List (Str × Int)} {c : CE}
@[simp ↓] theorem ap_InK {neg : Bool} : cInK neg tbl c ρ S = (match c ρ S with
  | .ok x S1 => (match x with
    | .val (.str z) => .ok (.val (.bl (if neg then !(tbl.lookup z).isSome else (tbl.lookup z).isSome))) S1
    | _ => .bad)
  | .exc e S9 => .exc e S9
  | .bad => .bad) := rfl
@[simp ↓] theorem ap_IxK : cIxK tbl c ρ S = (match c ρ S with
  | .ok x S1 => (match x with
    | .val (.str z) => (match tbl.lookup z with
      | some i => .ok (.val (.int i)) S1
      | none => .bad)
    | _ => .bad)
  | .exc e S9 => .exc e S9
  | .bad => .bad) := rfl
@[simp ↓] theorem ap_TryO {c0 : Nat} {cb cs : CS} : sTryO c0 cb cs ρ S = (match cb ρ S with
  | .exc e ρ' S' => if e.c = c0 then (match cs ρ' S' with
    | .exc _ _ _ => .bad
    | r => r) else .bad
  | r => r) := rfl
@[simp ↓] theorem ap_TryE {c0 : Nat} {f w : Str} {cb : CS} : sTryE c0 f w cb ρ S = (match cb ρ S with
  | .exc e ρ' S' => if e.c = c0 ∧ e.ns ≠ [] ∧ nInsL e.vs = true then (match (e.ns.zip e.vs).lookup f with
    | some d => (match fReprD [.val d] [] with
      | .ok (.val (.str r)) [] => .rt (.val (.lst [.str w, .str r])) S'
      | _ => .bad)
    | none => .bad) else .bad
  | r => r) := rfl
end
end T3
namespace T3
open PySem PySem.Spec PyProof.Rows L2
noncomputable def g_LETTERS : D := .str "abcdefghijklmnopqrstuvwxyz"
noncomputable def g_MOST_LETTERS : D := .int 4
noncomputable def g_MOST_TABLES : D := .int 6
noncomputable def tf_held : List Nat := [100]
noncomputable def b_Box__tables : CS := sRet (cB1 (fTuple) (cCons (cLc true [1] (ciK (cFld tf_held "held" (cV 0))) (tgName 1) (cYes) (cBin (fIxD fIx) (cFld tf_held "held" (cV 0)) (cV 1))) (cNil)))
noncomputable def m_Box__tables : Fn := runF 2 b_Box__tables
noncomputable def tp_tables (i : Nat) : Option Fn := if i = 100 then some m_Box__tables else none
noncomputable def b_is_short : CS := sRet (cAnd (cIsi "str" (cV 0)) (cAnd (cChain fLe fLe (cI 1) (cB1 (fLen) (cCons (cV 0) (cNil))) (cV 1)) (cB1 (fAll) (cCons (cLcV true [2] (cV 0) (tgName 2) (cYes) (cBin fIn (cV 2) (cK g_LETTERS))) (cNil)))))
noncomputable def m_is_short : Fn := runF 3 b_is_short
noncomputable def b_row_in : CS := sSeq (sAsg (tgName 1) (cIf (cTru (cIsi "str" (cV 0))) (cMt tyS (fSplit true) (cV 0) (cCons (cS " ") cNil)) (cLst true (cNil)))) (sSeq (sIf (cOr (cBin fNe (cB1 (fLen) (cCons (cV 1) (cNil))) (cI 2)) (cOr (cNot (cTru (cCall 2 false m_is_short (cCons (cBin fIx (cV 1) (cI 0)) (cCons (cK g_MOST_LETTERS) (cNil)))))) (cNot (cTru (cCall 1 false m_is_table (cCons (cBin fIx (cV 1) (cI 1)) (cNil))))))) (sRet (cN)) (sNil)) (sRet (cTup (cCons (cBin fIx (cV 1) (cI 0)) (cCons (cBin fIx (cV 1) (cI 1)) (cNil))))))
noncomputable def m_row_in : Fn := runF 2 b_row_in
noncomputable def b_wrong_rows : CS := sSeq (sIf (cBin fGt (cB1 (fLen) (cCons (cV 0) (cNil))) (cK g_MOST_TABLES)) (sRet (cTup (cCons (cN) (cNil)))) (sNil)) (sSeq (sAsg (tgName 1) (cDicR)) (sSeq (sFor (ciEn (cV 0)) (tgAny 2 (tgCons (tgName 2) (tgCons (tgName 3) (tgNil)))) (sSeq (sAsg (tgName 4) (cCall 1 false m_row_in (cCons (cV 3) (cNil)))) (sSeq (sIf (cOr (cBin fIsN (cV 4) (cN)) (cBin (fInD false fIn) (cBin fIx (cV 4) (cI 0)) (cV 1))) (sRet (cTup (cCons (cV 2) (cNil)))) (sNil)) (sAsg (tgSubD (cV 1) (cBin fIx (cV 4) (cI 0))) (cB true))))) (sRet (cTup (cNil)))))
noncomputable def m_wrong_rows : Fn := runF 5 b_wrong_rows
noncomputable def tf_told : List Nat := [100]
noncomputable def b_Box__init : CS := sSeq (sAsg (tgName 2) (cCall 1 false m_wrong_rows (cCons (cV 1) (cNil)))) (sSeq (sIf (cTru (cV 2)) (sBad) (sNil)) (sSeq (sSetF tf_told "told" (cV 0) (cV 1)) (sSetF tf_held "held" (cV 0) (cDc [3] (ciV (cV 1)) (tgName 3) (cYes) (cBin fIx (cCall 1 false m_row_in (cCons (cV 3) (cNil))) (cI 0)) (cBin fIx (cCall 1 false m_row_in (cCons (cV 3) (cNil))) (cI 1))))))
noncomputable def m_Box__init : Fn := starF 1 (runF 4 b_Box__init)
end T3
namespace T3
open PySem PySem.Spec PyProof.Rows L2
noncomputable def ddStep (l : List Str) (x : Str) : List Str := if l.contains x then l else l ++ [x]
noncomputable def ddS (xs : List Str) : List Str := xs.foldl ddStep []
section
variable {prog : Program} {w : World} {A : Around} {R : Result → Shared → Prop} {I : Addr} {fp wr : List Addr} {G : Array GenState → Array GenState → Prop} {n : Nat} {Pv : Nat → Value → Prop} {St : Nat → Shared → Prop}
/-- the texts seen so far, as a set -/
noncomputable def DdAt (prog : Program) (w : World) (h : Heap) (Z : Addr) (xs : List Str) : Prop := h.SetOf (PySem.strKind prog w) Z (fun y => (ddS xs).any (· == y)) (ddS xs).length
theorem DdAt.go {h h' : Heap} {Z : Addr} {xs : List Str} (d : DdAt prog w h Z xs) (k : ∀ o, h.get? Z = some o → h'.get? Z = some o) : DdAt prog w h' Z xs := by
  obtain ⟨o, es, ep, tb, ho, r⟩ := d
  exact ⟨o, es, ep, tb, k o ho, r⟩
end
section
end
noncomputable def cLenSetS (c : CE) : CE := fun ρ S => (c ρ S).bind fun x S1 => match asL S1 x with
  | some ds => (match strsOf ds with
    | some xs => if decide (xs.length ≤ 1000) then .ok (.val (.int (ddS xs).length)) S1 else .bad
    | none => .bad)
  | none => .bad
section
end
@[simp ↓] theorem ap_LenSetS {c : CE} {ρ : Slots} {S : Store} : cLenSetS c ρ S = (match c ρ S with
  | .ok x S1 => (match asL S1 x with
    | some ds => (match strsOf ds with
      | some xs => if decide (xs.length ≤ 1000) then .ok (.val (.int (ddS xs).length)) S1 else .bad
      | none => .bad)
    | none => .bad)
  | .exc e S1 => .exc e S1
  | .bad => .bad) := by
  unfold cLenSetS Res.bind
  cases c ρ S <;> rfl
end T3
namespace T3
open PySem PySem.Spec PyProof.Rows L2
noncomputable def rTupE (K : PySem.W.Frag) : R2 := fun x y H Q => ∃ a b xs, x = .ref a ∧ y = .ref b ∧ SqT K H a xs ∧ SqT K H b [] ∧ Q (.bl xs.isEmpty) H
theorem op_tupE {X : Cx} (hu : X.A.units + 64 < cLine) : OpR X (compareOp .Eq) (rTupE X.K) := by
  intro pins s σ H x y v u Q I rx ry h
  obtain ⟨a, b, xs, rfl, rfl, ha, hb, q⟩ := h
  obtain rfl : v = Value.ref a := rx
  obtain rfl : u = Value.ref b := ry
  obtain ⟨its, r, pl, _⟩ := I.tuple ha
  obtain ⟨its2, r2, pl2, _⟩ := I.tuple hb
  cases r2
  refine SeqAt.eq_tupleAt (e := fun _ => true) (show s.heap.IsTuple a its.toArray from pl) (show s.heap.IsTuple b ([] : List Value).toArray from pl2) (by omega) (fun j h1 h2 => absurd h2 (by simp)) ⟨.bl xs.isEmpty, H, I, ?_, q⟩
  have hl := r.length
  cases r with
  | nil => rfl
  | cons _ _ => rfl
noncomputable def fEqE (f : A → A → Store → Res) (x y : A) (S : Store) : Res := match x, y with
  | .val (.tup xs), .val (.tup []) => .ok (.val (.bl xs.isEmpty)) S
  | x, y => f x y S
theorem ok_eqE {X : Cx} {cl : ClT} {r : R2} {f : A → A → Store → Res} (hf : OpOk X.K cl r f) : OpOk X.K cl (fun x y H Q => rTupE X.K x y H Q ∨ r x y H Q) (fEqE f) := by
  intro B H m S σ W v w x y Q o rx ry h
  unfold fEqE at h
  split at h
  · rename_i xs
    obtain ⟨a, vs, rfl, q1, r1⟩ := asT_tup rx
    obtain ⟨b, ws, rfl, q2, r2⟩ := asT_tup ry
    cases r2
    refine .inl ⟨a, b, vs, rfl, rfl, q1, q2, ?_⟩
    have e : vs.isEmpty = xs.isEmpty := by cases r1 <;> rfl
    rw [e]
    exact h.here o (.bl _)
  · exact .inr (hf o rx ry h)
@[simp] theorem eqE_tup {f : A → A → Store → Res} {xs : List D} {S : Store} : fEqE f (.val (.tup xs)) (.val (.tup [])) S = .ok (.val (.bl xs.isEmpty)) S := rfl
end T3
namespace T3
open PySem PySem.Spec PyProof.Rows L2
section
variable {prog : Program} {w : World} {A : Around} {E : Value → Shared → Prop} {s : Shared} {l : Addr} {its : List Value} {ns : List Int} {Q : Value → Shared → Prop}
theorem max_tup {xs : Array (Int × Tok)} (hh : A.handled = none) (hl : s.heap.IsTuple l (intItems xs)) (hne : 0 < xs.size)
    (h : ∀ v h' tk, (intItems xs)[argBest (fun i j => decide (numAt xs i > numAt xs j)) (xs.size - 1)]? = some v → (∀ b o, s.heap.get? b = some o → h'.get? b = some o) → Q v { s with heap := h', toks := tk }) :
    wpAny (model prog w) A (call (.builtin "max") [.ref l]) Q E s := by
  have hlt : l < s.heap.objs.size := by obtain ⟨_, e, _⟩ := hl; exact Heap.lt_size e
  refine call_max_walk (wpAny_pyIter_tuple hl ?_)
  refine ⟨_, _, _, _, _, _, _, rfl, Walks.tuple (A := A.in1) hh _ l (Nat.ne_of_lt hlt) (intItems xs), ⟨⟨_, Heap.get?_push_size _ rfl, rfl, rfl⟩, hl.push _⟩, fun b hb => ?_, by simpa [intItems] using hne, CmpOf.ints_gt (numAt xs) (fun _ _ => intItems_at), fun v h' tk hP hk => ?_⟩
  · show b < (s.heap.push _).objs.size
    rw [Heap.size_push]
    rcases List.mem_cons.mp hb with rfl | hb
    · exact Nat.lt_succ_self _
    · rcases List.mem_cons.mp hb with rfl | hb
      · exact Nat.lt_succ_of_lt hlt
      · cases hb
  · refine h v h' tk (by simpa [intItems] using hP) fun b o e => hk b o (fun hm => ?_) (Heap.get?_push_of_some _ e)
    rcases List.mem_cons.mp hm with e1 | hm
    · exact absurd (e1 ▸ Heap.lt_size e) (Nat.lt_irrefl _)
    · cases hm
theorem max_rawT (hh : A.handled = none) (hl : s.heap.IsTuple l its.toArray) (hi : IntsAre its ns) (hne : 0 < ns.length)
    (h : ∀ h' tk M t', (∀ b o, s.heap.get? b = some o → h'.get? b = some o) → M ∈ ns → (∀ a, a ∈ ns → a ≤ M) → Q (.int M t') { s with heap := h', toks := tk }) : wpAny (model prog w) A (call (.builtin "max") [.ref l]) Q E s := by
  obtain ⟨xs, e⟩ := hi.allInts.items
  have hn : numsOf (intItems xs).toList = ns := by rw [← e]; exact hi.numsOf
  rw [nums_intItems] at hn
  subst hn
  rw [e] at hl
  have hsz : 0 < xs.size := by simpa using hne
  refine max_tup hh hl hsz fun v h' tk hv hk => ?_
  obtain ⟨t, rfl⟩ := intItems_at hv
  obtain ⟨h1, h2⟩ := argBest_gt (numAt xs) (xs.size - 1)
  refine h h' tk _ t hk ?_ fun a ha => ?_
  · rw [numAt_eq]; exact PySem.getD_mem (by rw [List.length_map, Array.length_toList]; omega)
  · obtain ⟨j, hj, rfl⟩ := mem_getD ha
    rw [List.length_map, Array.length_toList] at hj
    rw [← numAt_eq]; exact h2 j (by omega)
end
section
variable {X : Cx} {cl : ClT} {W : WX}
noncomputable def rMaxT (K : PySem.W.Frag) : List V → Hp → VK → Prop := fun vs H Q => ∃ (a : Addr) (ns : List Int), vs = [V.ref a] ∧ (SqT K H a (ns.map V.int) ∨ SqL K H a (ns.map V.int)) ∧ 0 < ns.length ∧ ∀ m, m ∈ ns → (∀ y, y ∈ ns → y ≤ m) → Q (.int m) H
theorem cr_maxT (hc : X.calm = true) : CallR X (.builtin "max") (rMaxT X.K) := by
  intro pins s σ H vs us Q I r h
  obtain ⟨a, ns, rfl, hs, hne, q⟩ := h
  rw [Vals.ref1 r]
  rcases hs with hs | hs
  · obtain ⟨its, rv, hl, _⟩ := I.tuple hs
    exact max_rawT (I.ok.hd hc) hl rv.ints hne fun h' tk m t' hk h1 h2 => ⟨.int _, H, I.kept hk, ⟨_, rfl⟩, q m h1 h2⟩
  · obtain ⟨its, rv, hl, _⟩ := I.list hs
    exact max_raw (I.ok.hd hc) hl.isList rv.ints hne fun h' tk m t' hk h1 h2 => ⟨.int _, H, I.kept hk, ⟨_, rfl⟩, q m h1 h2⟩
theorem maxI_ok {is : List Int} {k : Int} (h : maxI is = some k) : k ∈ is ∧ ∀ y ∈ is, y ≤ k := by
  cases is with
  | nil => cases h
  | cons i r =>
    cases h
    induction r generalizing i with
    | nil => exact ⟨List.mem_singleton.mpr rfl, fun y hy => by rw [List.mem_singleton.mp hy]; exact Int.le_refl _⟩
    | cons j r ih =>
      obtain ⟨a, b⟩ := ih (max i j)
      rw [List.foldl_cons]
      have m := b _ List.mem_cons_self
      refine ⟨?_, fun y hy => ?_⟩
      · rcases List.mem_cons.mp a with e | e
        · rw [e]
          by_cases h : i ≤ j
          · rw [Int.max_eq_right h]; exact List.mem_cons_of_mem _ List.mem_cons_self
          · rw [Int.max_eq_left (by omega)]; exact List.mem_cons_self
        · exact List.mem_cons_of_mem _ (List.mem_cons_of_mem _ e)
      · rcases List.mem_cons.mp hy with rfl | hy
        · exact Int.le_trans (Int.le_max_left _ _) m
        · rcases List.mem_cons.mp hy with rfl | hy
          · exact Int.le_trans (Int.le_max_right _ _) m
          · exact b y (List.mem_cons_of_mem _ hy)
noncomputable def fMaxT : List A → Store → Res
  | [x], S => (match (match asT x with | some ds => some ds | none => asL S x) with
    | some ds => (match intsOf ds with
      | some is => (match maxI is with
        | some k => .ok (.val (.int k)) S
        | none => .bad)
      | none => .bad)
    | none => .bad)
  | _, _ => .bad
theorem ok_maxT : CaOk X.K cl (rMaxT X.K) fMaxT := by
  intro B H m S σ W vs xs Q o r h
  unfold fMaxT at h
  split at h
  · obtain ⟨v, rfl, r1⟩ := one_arg r
    split at h
    · rename_i ds hd
      split at h
      · rename_i bs hb
        split at h
        · rename_i k hk
          obtain ⟨k1, k2⟩ := maxI_ok hk
          have fin : ∀ j, j ∈ bs → (∀ y, y ∈ bs → y ≤ j) → j = k := fun j hj h2 => Int.le_antisymm (k2 j hj) (h2 k k1)
          split at hd
          · rename_i ds' hd'
            cases hd
            obtain ⟨a, xs, rfl, q, rl⟩ := asT_ok r1 hd'
            refine ⟨a, bs, rfl, .inl (intsOf_ok rl hb ▸ q), List.length_pos_of_mem k1, fun j hj h2 => ?_⟩
            rw [fin j hj h2]
            exact h.here o (.int _)
          · obtain ⟨a, xs, rfl, q, rl⟩ := asL_ok o r1 hd
            refine ⟨a, bs, rfl, .inr (intsOf_ok rl hb ▸ q), List.length_pos_of_mem k1, fun j hj h2 => ?_⟩
            rw [fin j hj h2]
            exact h.here o (.int _)
        · exact h.elim
      · exact h.elim
    · exact h.elim
  · exact h.elim
end
end T3
namespace T3
open PySem PySem.Spec PyProof.Rows L2
noncomputable def cTupR (c : CA) : CE := fun ρ S => (c ρ S).bind fun xs S1 => if szOk xs.length then .ok (.ref S1.length) (S1 ++ [.tp xs]) else .bad
section
variable {X : Cx} {cl : ClT} {W : WX}
theorem pm_tupR {es : List Expr} {c : CA} {x1} {pos : Pos} (h : PA X es (tML X.K cl W c)) : PE X (.Tuple es x1 pos) (tM X.K cl W (cTupR c)) := PE.imp (pe_tupZ h) fun σ H Q h => by
  obtain ⟨B, m, S, ρ, o, e, fin⟩ := h
  refine ⟨B, m, S, ρ, o, e, FinL.bind fin fun xs S1 vs H1 m1 s1 o1 r1 f1 => ?_⟩
  split at f1
  · rename_i hz
    refine ⟨by rw [r1.length]; exact szOk_line hz, fun p ob hd hp => ?_⟩
    refine f1 _ _ _ (Step.adopt hp) (o1.adopt hp ⟨ob, vs, upd_same, hd, r1.mono (Kp.adopt hp) ⟨[p], rfl⟩⟩) ⟨p, ?_, rfl⟩
    rw [← o1.len, List.getElem?_append_right (Nat.le_refl _)]
    simp
  · exact f1.elim
@[simp ↓] theorem ap_TupR {c : CA} {ρ : Slots} {S : Store} : cTupR c ρ S = (match c ρ S with | .ok xs S1 => (if szOk xs.length then .ok (.ref S1.length) (S1 ++ [.tp xs]) else .bad) | .exc e S9 => .exc e S9 | .bad => .bad) := by
  unfold cTupR
  cases c ρ S <;> rfl
end
@[simp] theorem frzR_tp {S : Store} {k : Nat} {zs : List A} : frzR S k (.tp zs) = (frzZ S k zs).map D.tup := rfl
@[simp] theorem frzZ_nil {S : Store} {k : Nat} : frzZ S k [] = some [] := rfl
@[simp] theorem frzZ_val {S : Store} {k : Nat} {d : D} {r : List A} : frzZ S k (.val d :: r) = (frzZ S k r).map (d :: ·) := rfl
@[simp] theorem frzZ_ref {S : Store} {k j : Nat} {r : List A} : frzZ S k (.ref j :: r) = if k ≤ j then (match S[j]? with
    | some (.lst ds) => (frzZ S k r).map (.lst ds :: ·)
    | _ => none) else none := rfl
end T3
namespace T3
open PySem PySem.Spec PyProof.Rows L2
noncomputable def g_PLAIN : D := .str "012"
noncomputable def tk_LENGTHS : List (Str × Int) := [("all", 3), ("kept", 3), ("out", 4), ("made", 3)]
noncomputable def b_is_step : CS := sSeq (sIf (cOr (cNot (cTru (cIsi "tuple" (cV 1)))) (cOr (cBin fNe (cB1 (fLen) (cCons (cV 1) (cNil))) (cI 2)) (cOr (cNot (cTru (cIsi "str" (cBin fIx (cV 1) (cI 0))))) (cBin (fInD true fNotIn) (cBin fIx (cV 1) (cI 0)) (cFld tf_held "held" (cV 0)))))) (sRet (cB false)) (sNil)) (sSeq (sIf (cOr (cNot (cTru (cIsi "tuple" (cBin fIx (cV 1) (cI 1))))) (cBin fNe (cB1 (fLen) (cCons (cBin fIx (cV 1) (cI 1)) (cNil))) (cCall 1 false m_places_of (cCons (cBin (fIxD fIx) (cFld tf_held "held" (cV 0)) (cBin fIx (cV 1) (cI 0))) (cNil))))) (sRet (cB false)) (sNil)) (sRet (cB1 (fAll) (cCons (cLc true [3] (ciV (cBin fIx (cV 1) (cI 1))) (tgName 3) (cYes) (cCall 3 false m_is_between (cCons (cV 3) (cCons (cI 0) (cCons (cBin fSub (cV 2) (cI 1)) (cNil)))))) (cNil)))))
noncomputable def m_is_step : Fn := runF 4 b_is_step
noncomputable def b_made_of : CS := sSeq (sAsg (tgName 2) (cLst false (cCons (cK g_PLAIN) (cNil)))) (sSeq (sIf (cNot (cTru (cIsi "tuple" (cV 1)))) (sRet (cTupR (cCons (cV 2) (cCons (cTup (cCons (cN) (cNil))) (cNil))))) (sNil)) (sSeq (sFor (ciEn (cV 1)) (tgAny 2 (tgCons (tgName 3) (tgCons (tgName 4) (tgNil)))) (sSeq (sIf (cNot (cTru (cCall 3 false m_is_step (cCons (cV 0) (cCons (cV 4) (cCons (cB1 (fLen) (cCons (cV 2) (cNil))) (cNil))))))) (sRet (cTupR (cCons (cV 2) (cCons (cTup (cCons (cV 3) (cNil))) (cNil))))) (sNil)) (sExp (cMt tyL fAppend (cV 2) (cCons (cCall 2 false m_put_in (cCons (cBin (fIxD fIx) (cFld tf_held "held" (cV 0)) (cBin fIx (cV 4) (cI 0))) (cCons (cLc true [5] (ciV (cBin fIx (cV 4) (cI 1))) (tgName 5) (cYes) (cBin fIx (cV 2) (cV 5))) (cNil)))) cNil))))) (sRet (cTupR (cCons (cV 2) (cCons (cTup (cNil)) (cNil)))))))
noncomputable def m_made_of : Fn := runF 6 b_made_of
noncomputable def b_accepts_all : CS := sSeq (sIf (cOr (cNot (cTru (cIsi "str" (cV 1)))) (cBin (fInD true fNotIn) (cV 1) (cFld tf_held "held" (cV 0)))) (sRet (cB false)) (sNil)) (sSeq (sIf (cOr (cNot (cTru (cCall 1 false m_is_full (cCons (cBin (fIxD fIx) (cFld tf_held "held" (cV 0)) (cV 1)) (cNil))))) (cBin fLt (cB1 (fLen) (cCons (cCall 1 false m_counting_of (cCons (cBin (fIxD fIx) (cFld tf_held "held" (cV 0)) (cV 1)) (cNil))) (cNil))) (cI 2))) (sRet (cB false)) (sNil)) (sSeq (sAsg (tgAny 2 (tgCons (tgName 3) (tgCons (tgName 4) (tgNil)))) (cCall 2 false m_made_of (cCons (cV 0) (cCons (cV 2) (cNil))))) (sRet (cAnd (cBin fEq (cV 4) (cTup (cNil))) (cB1 (fAll) (cCons (cLc true [5] (ciV (cCall0 false m_all_tables)) (tgName 5) (cYes) (cBin fIn (cV 5) (cV 3))) (cNil)))))))
noncomputable def m_accepts_all : Fn := runF 6 b_accepts_all
noncomputable def b_is_nothing : CS := sRet (cAnd (cIsi "tuple" (cV 0)) (cBin fEq (cV 0) (cTup (cNil))))
noncomputable def m_is_nothing : Fn := runF 1 b_is_nothing
noncomputable def b_accepts_kept : CS := sSeq (sIf (cOr (cNot (cTru (cCall 1 false m_is_nothing (cCons (cV 2) (cNil))))) (cNot (cTru (cCall 1 false m_is_word (cCons (cV 1) (cNil)))))) (sRet (cB false)) (sNil)) (sRet (cB1 (fAll) (cCons (cLc true [3] (ciV (cProp tp_tables (cV 0))) (tgName 3) (cYes) (cCall 2 false m_is_kept (cCons (cV 3) (cCons (cV 1) (cNil))))) (cNil))))
noncomputable def m_accepts_kept : Fn := runF 4 b_accepts_kept
noncomputable def b_accepts_made : CS := sSeq (sIf (cOr (cNot (cTru (cCall 1 false m_is_table (cCons (cV 1) (cNil))))) (cBin fNe (cCall 1 false m_places_of (cCons (cV 1) (cNil))) (cI 1))) (sRet (cB false)) (sNil)) (sSeq (sAsg (tgAny 2 (tgCons (tgName 3) (tgCons (tgName 4) (tgNil)))) (cCall 2 false m_made_of (cCons (cV 0) (cCons (cV 2) (cNil))))) (sRet (cAnd (cBin fEq (cV 4) (cTup (cNil))) (cBin fIn (cV 1) (cV 3)))))
noncomputable def m_accepts_made : Fn := runF 5 b_accepts_made
noncomputable def b_is_plain : CS := sRet (cB1 (fAll) (cCons (cLcV true [1] (cV 0) (tgName 1) (cYes) (cAnd (cIsi "int" (cV 1)) (cNot (cIsi "bool" (cV 1))))) (cNil)))
noncomputable def m_is_plain : Fn := runF 2 b_is_plain
noncomputable def b_accepts_out : CS := sSeq (sAsg (tgAny 3 (tgCons (tgName 3) (tgCons (tgName 4) (tgCons (tgName 5) (tgNil))))) (cSl true (cV 0) (some (cI 1)) none)) (sSeq (sIf (cOr (cNot (cTru (cCall 1 false m_is_nothing (cCons (cV 1) (cNil))))) (cOr (cNot (cTru (cCall 1 false m_is_table (cCons (cV 3) (cNil))))) (cNot (cTru (cCall 1 false m_is_word (cCons (cV 4) (cNil))))))) (sRet (cB false)) (sNil)) (sSeq (sIf (cOr (cNot (cTru (cIsi "tuple" (cV 5)))) (cBin fNe (cB1 (fLen) (cCons (cV 5) (cNil))) (cCall 1 false m_places_of (cCons (cV 3) (cNil))))) (sRet (cB false)) (sNil)) (sSeq (sAsg (tgName 2) (cCall 1 false m_relation_of (cCons (cV 4) (cNil)))) (sSeq (sIf (cNot (cTru (cB1 (fAll) (cCons (cLcV true [6] (cV 5) (tgName 6) (cYes) (cAnd (cIsi "tuple" (cV 6)) (cAnd (cCall 1 false m_is_plain (cCons (cV 6) (cNil))) (cBin fIn (cV 6) (cV 2))))) (cNil))))) (sRet (cB false)) (sNil)) (sRet (cNot (cCall 2 false m_is_in (cCons (cV 4) (cCons (cCall 2 false m_made_by (cCons (cV 3) (cCons (cV 5) (cNil)))) (cNil))))))))))
noncomputable def m_accepts_out : Fn := runF 7 b_accepts_out
noncomputable def b_box_from : CS := sSeq (sAsg (tgName 1) (cIf (cAnd (cTru (cIsi "str" (cV 0))) (cBin fNe (cV 0) (cS ""))) (cMt tyS (fSplit true) (cV 0) (cCons (cS "\n") cNil)) (cLst true (cNil)))) (sSeq (sIf (cOr (cNot (cTru (cIsi "str" (cV 0)))) (cTru (cCall 1 false m_wrong_rows (cCons (cV 1) (cNil))))) (sRaiseX 0 "given" (cV 0)) (sNil)) (sRet (cMake true 100 none m_Box__init (cSeq (cV 1)))))
noncomputable def m_box_from : Fn := runF 2 b_box_from
noncomputable def b_Box__read : CS := sRet (cCall 1 true m_box_from (cCons (cV 1) (cNil)))
noncomputable def m_Box__read : Fn := runF 2 b_Box__read
noncomputable def b_box_told : CS := sSeq (sTryO 0 (sAsg (tgName 1) (cCm 2000 1 false m_Box__read (cCons (cV 0) (cNil)))) (sAsg (tgName 1) (cN))) (sRet (cV 1))
noncomputable def m_box_told : Fn := runF 2 b_box_told
noncomputable def b_accepts : CS := sSeq (sIf (cOr (cNot (cTru (cIsi "tuple" (cV 0)))) (cOr (cBin (fEqE fEq) (cV 0) (cTup (cNil))) (cNot (cTru (cIsi "str" (cBin fIx (cV 0) (cI 0))))))) (sRet (cB false)) (sNil)) (sSeq (sIf (cOr (cInK true tk_LENGTHS (cBin fIx (cV 0) (cI 0))) (cBin fNe (cB1 (fLen) (cCons (cV 0) (cNil))) (cIxK tk_LENGTHS (cBin fIx (cV 0) (cI 0))))) (sRet (cB false)) (sNil)) (sSeq (sIf (cBin fEq (cBin fIx (cV 0) (cI 0)) (cS "out")) (sRet (cCall 2 true m_accepts_out (cCons (cV 0) (cCons (cV 1) (cNil))))) (sNil)) (sSeq (sAsg (tgName 2) (cCall 1 false m_box_told (cCons (cBin fIx (cV 0) (cI 1)) (cNil)))) (sSeq (sIf (cBin fIsN (cV 2) (cN)) (sRet (cB false)) (sNil)) (sSeq (sIf (cBin fEq (cBin fIx (cV 0) (cI 0)) (cS "all")) (sRet (cCall 3 true m_accepts_all (cCons (cV 2) (cCons (cBin fIx (cV 0) (cI 2)) (cCons (cV 1) (cNil)))))) (sNil)) (sSeq (sIf (cBin fEq (cBin fIx (cV 0) (cI 0)) (cS "made")) (sRet (cCall 3 true m_accepts_made (cCons (cV 2) (cCons (cBin fIx (cV 0) (cI 2)) (cCons (cV 1) (cNil)))))) (sNil)) (sRet (cCall 3 true m_accepts_kept (cCons (cV 2) (cCons (cBin fIx (cV 0) (cI 2)) (cCons (cV 1) (cNil))))))))))))
noncomputable def m_accepts : Fn := runF 3 b_accepts
end T3
namespace T3
open PySem PySem.Spec PyProof.Rows L2
noncomputable def bI (b : Bool) : Int := if b = true then 1 else 0
section
variable {X : Cx} {cl : ClT}
noncomputable def fAddB (f : A → A → Store → Res) (x y : A) (S : Store) : Res := match x, y with
  | .val (.bl b), .val (.int i) => .ok (.val (.int (bI b + i))) S
  | x, y => f x y S
noncomputable def fSubB (f : A → A → Store → Res) (x y : A) (S : Store) : Res := match x, y with
  | .val (.bl b), .val (.int i) => .ok (.val (.int (bI b - i))) S
  | .val (.int i), .val (.bl b) => .ok (.val (.int (i - bI b))) S
  | x, y => f x y S
end
@[simp] theorem addB_bl {f : A → A → Store → Res} {b : Bool} {i : Int} {S : Store} : fAddB f (.val (.bl b)) (.val (.int i)) S = .ok (.val (.int (bI b + i))) S := rfl
@[simp] theorem addB_int {f : A → A → Store → Res} {a i : Int} {S : Store} : fAddB f (.val (.int a)) (.val (.int i)) S = f (.val (.int a)) (.val (.int i)) S := rfl
@[simp] theorem addB_tup {f : A → A → Store → Res} {a b : List D} {S : Store} : fAddB f (.val (.tup a)) (.val (.tup b)) S = f (.val (.tup a)) (.val (.tup b)) S := rfl
@[simp] theorem addB_lst {f : A → A → Store → Res} {a b : List D} {S : Store} : fAddB f (.val (.lst a)) (.val (.lst b)) S = f (.val (.lst a)) (.val (.lst b)) S := rfl
@[simp] theorem subB_bl {f : A → A → Store → Res} {b : Bool} {i : Int} {S : Store} : fSubB f (.val (.bl b)) (.val (.int i)) S = .ok (.val (.int (bI b - i))) S := rfl
@[simp] theorem subB_ib {f : A → A → Store → Res} {b : Bool} {i : Int} {S : Store} : fSubB f (.val (.int i)) (.val (.bl b)) S = .ok (.val (.int (i - bI b))) S := rfl
@[simp] theorem subB_int {f : A → A → Store → Res} {a i : Int} {S : Store} : fSubB f (.val (.int a)) (.val (.int i)) S = f (.val (.int a)) (.val (.int i)) S := rfl
/-- a def of which nothing is asked -/
theorem fn_bad {P : Program} {w : World} {K : PySem.W.Frag} {mg : Str → Option Value} {base : Heap} {cl : ClT} {k n : Nat} {f : Addr} {fd : FuncData} {ps : List Str} (hn : ps.length = n) : FnG P w K mg base k f fd ps (spF K cl n fun _ _ => .bad) :=
  ⟨fun _ _ _ _ h => h.1.trans hn.symm, fun _ _ _ _ _ h => by obtain ⟨_, _, _, _, _, _, _, fin⟩ := h; exact fin.elim⟩
end T3
namespace T3
open PySem PySem.Spec PyProof.Rows L2
noncomputable def sPar3 (i j k : Nat) (c : CA) : CS := fun ρ S => match c ρ S with
  | .ok [x, y, z] S1 => .nx (((ρ.set i (some x)).set j (some y)).set k (some z)) S1
  | .ok _ _ => .bad
  | .exc e S1 => .exc e ρ S1
  | .bad => .bad
noncomputable def tPar3 (i j k : Nat) (ta : TA) : TS := fun D σ H => ta σ H fun vs H1 => ∃ u v w, vs = [u, v, w] ∧ D.nx (((σ.set i (some u)).set j (some v)).set k (some w)) H1
section
variable {X : Cx} {cl : ClT} {W : WX}
/-- a, b, c = x, y, z where a name is a cell: the triple is taken apart in order -/
theorem ps_parC3 {i j k : Nat} {x y z : Str} {a b c : Expr} {ta : TA} {px py pz pt pos : Pos} {kt k2 pt2} (hc : X.calm = true) (hN : X.N.Nodup) (hi : X.N[i]? = some x) (hj : X.N[j]? = some y) (hk : X.N[k]? = some z)
    (hx : Loc X.env.scope x) (hy : Loc X.env.scope y) (hz : Loc X.env.scope z) (fx : X.fn x = true ∨ X.env.scope.names.lookup x = some .local) (fy : X.fn y = true ∨ X.env.scope.names.lookup y = some .local) (fz : X.fn z = true ∨ X.env.scope.names.lookup z = some .local) (ha : PA X [a, b, c] ta)
    (hw : swappedStores [.Tuple [.Name x px, .Name y py, .Name z pz] kt pt] (.Tuple [a, b, c] k2 pt2) X.env = pure none)
    (hs : swapsWithSole [.Tuple [.Name x px, .Name y py, .Name z pz] kt pt] (.Tuple [a, b, c] k2 pt2) pos.line X.env = pure false) :
    PS X (.Assign [.Tuple [.Name x px, .Name y py, .Name z pz] kt pt] (.Tuple [a, b, c] k2 pt2) pos) (tPar3 i j k ta) := by
  refine ⟨fun pins s σ H D I h => ?_⟩
  refine Assign_Tuple ?_ hs hw
  refine Tuple_ (thn (ha.run _ pins s σ H _ I h) fun us s1 ⟨vs, H1, I1, r1, q1⟩ => ?_)
  obtain ⟨v, w, q, e1, q1⟩ := q1
  subst e1
  obtain ⟨u1, u2, u3, rfl, rv, rw', rq⟩ : ∃ u1 u2 u3, us = [u1, u2, u3] ∧ RelV v u1 ∧ RelV w u2 ∧ RelV q u3 := by
    cases r1 with
    | cons p q =>
      cases q with
      | cons p' q' =>
        cases q' with
        | cons p2 q2 =>
          cases q2
          exact ⟨_, _, _, rfl, p, p', p2⟩
  refine wpAny_newObj_type ?_ (by show 3 ≤ sizeLine; decide)
  have I2 : Inv X pins σ H1 { s1 with heap := s1.heap.push { cls := .type "tuple", data := .seq [u1, u2, u3].toArray } } := I1.kept (t' := s1.toks) fun b o e => Heap.get?_push_of_some _ e
  refine assign_Tuple_tuple (items := #[u1, u2, u3]) (I.ok.hd hc) (IsTup.new s1.heap _) rfl rfl fun h' hx' => ?_
  have I3 := I2.kept (h' := h') (t' := s1.toks) fun b o e => hx' b o (Nat.ne_of_lt (Heap.lt_size e)) e
  show wpAny _ _ (assignInOrder [assign (.Name x px) X.env, assign (.Name y py) X.env, assign (.Name z pz) X.env] [u1, u2, u3]) _ _ _
  refine assignInOrder_cons (assign_Name (store_ok I3 hN hi hx rv (fun s2 I4 => ?_) fx))
  refine assignInOrder_cons (assign_Name (store_ok I4 hN hj hy rw' (fun s3 I5 => ?_) fy))
  refine assignInOrder_cons (assign_Name (store_ok I5 hN hk hz rq (fun s4 I6 => assignInOrder_nil ?_) fz))
  exact ⟨_, H1, I6, q1⟩
theorem pm_parC3 (i j k : Nat) {x y z : Str} {a b c0 : Expr} {c : CA} {px py pz pt pos : Pos} {kt k2 pt2} (hc : X.calm = true) (hN : X.N.Nodup) (ha : PA X [a, b, c0] (tML X.K cl W c)) (hi : X.N[i]? = some x := by rfl) (hj : X.N[j]? = some y := by rfl) (hk : X.N[k]? = some z := by rfl)
    (hx : Loc X.env.scope x := by first | exact Or.inl rfl | exact Or.inr rfl) (hy : Loc X.env.scope y := by first | exact Or.inl rfl | exact Or.inr rfl) (hz : Loc X.env.scope z := by first | exact Or.inl rfl | exact Or.inr rfl)
    (fx : X.fn x = true ∨ X.env.scope.names.lookup x = some .local := by first | exact .inl rfl | exact .inr rfl) (fy : X.fn y = true ∨ X.env.scope.names.lookup y = some .local := by first | exact .inl rfl | exact .inr rfl) (fz : X.fn z = true ∨ X.env.scope.names.lookup z = some .local := by first | exact .inl rfl | exact .inr rfl)
    (hw : swappedStores [.Tuple [.Name x px, .Name y py, .Name z pz] kt pt] (.Tuple [a, b, c0] k2 pt2) X.env = pure none := by rfl)
    (hs : swapsWithSole [.Tuple [.Name x px, .Name y py, .Name z pz] kt pt] (.Tuple [a, b, c0] k2 pt2) pos.line X.env = pure false := by rfl) :
    PS X (.Assign [.Tuple [.Name x px, .Name y py, .Name z pz] kt pt] (.Tuple [a, b, c0] k2 pt2) pos) (tMS X.K cl W (sPar3 i j k c)) := PS.imp (ps_parC3 hc hN hi hj hk hx hy hz fx fy fz ha hw hs) fun E σ H h => by
  obtain ⟨B, m, S, ρ, o, e, fin⟩ := h
  refine ⟨B, m, S, ρ, o, e, ?_⟩
  unfold sPar3 at fin
  cases hr : c ρ S with
  | bad => rw [hr] at fin; exact fin
  | exc e' S1 => rw [hr] at fin; exact fun c d H' m' s' o' x' => fin c d σ H' m' s' o' (s'.env o e) x'
  | ok xs S1 =>
    rw [hr] at fin
    intro vs H1 m1 s1 o1 r1
    match xs, fin, r1 with
    | [x, y, z], fin, r1 =>
      cases r1 with
      | cons q1 r1 =>
        cases r1 with
        | cons q2 r1 =>
          cases r1 with
          | cons q3 r1 =>
            cases r1
            exact ⟨_, _, _, rfl, fin _ H1 m1 s1 o1 ((((s1.env o e).set i q1).set j q2).set k q3)⟩
@[simp ↓] theorem ap_Par3 {i j k : Nat} {c : CA} {ρ : Slots} {S : Store} : sPar3 i j k c ρ S = (match c ρ S with | .ok [x, y, z] S1 => .nx (((ρ.set i (some x)).set j (some y)).set k (some z)) S1 | .ok _ _ => .bad | .exc e S1 => .exc e ρ S1 | .bad => .bad) := rfl
end
end T3
namespace T3
open PySem PySem.Spec PyProof.Rows L2
noncomputable def b__law_bank : CS := sSeq (sAsg (tgAny 2 (tgCons (tgName 1) (tgCons (tgName 2) (tgNil)))) (cTup (cCons (cS "max 012112222\nswap 210") (cCons (cS "max 012112222\nup 120") (cNil))))) (sSeq (sAsg (tgName 0) (cLst false (cCons (cTup (cCons (cTup (cCons (cS "kept") (cCons (cV 1) (cCons (cS "set 1") (cNil))))) (cCons (cTup (cNil)) (cNil)))) (cCons (cTup (cCons (cTup (cCons (cS "kept") (cCons (cV 1) (cCons (cS "centre 1") (cNil))))) (cCons (cTup (cNil)) (cNil)))) (cCons (cTup (cCons (cTup (cCons (cS "kept") (cCons (cS "") (cCons (cS "mixed") (cNil))))) (cCons (cTup (cNil)) (cNil)))) (cNil)))))) (sSeq (sAsg (tgName 0) (cBin (fAdd false) (cV 0) (cLst true (cCons (cTup (cCons (cTup (cCons (cS "out") (cCons (cS "012112222") (cCons (cS "part 1") (cCons (cTup (cCons (cTup (cCons (cI 0) (cCons (cI 2) (cNil)))) (cCons (cTup (cCons (cI 1) (cCons (cI 1) (cNil)))) (cNil)))) (cNil)))))) (cCons (cTup (cNil)) (cNil)))) (cCons (cTup (cCons (cTup (cCons (cS "out") (cCons (cS "120") (cCons (cS "set 0") (cCons (cTup (cCons (cTup (cCons (cI 0) (cNil))) (cNil))) (cNil)))))) (cCons (cTup (cNil)) (cNil)))) (cNil)))))) (sSeq (sExp (cMt tyL fAppend (cV 0) (cCons (cTup (cCons (cTup (cCons (cS "out") (cCons (cS "210") (cCons (cS "turn") (cCons (cTup (cCons (cTup (cCons (cI 0) (cCons (cI 1) (cNil)))) (cNil))) (cNil)))))) (cCons (cTup (cNil)) (cNil)))) cNil))) (sSeq (sAsg (tgName 0) (cBin (fAdd false) (cV 0) (cLst true (cCons (cTup (cCons (cTup (cCons (cS "made") (cCons (cV 1) (cCons (cS "212") (cNil))))) (cCons (cTup (cCons (cTup (cCons (cS "swap") (cCons (cTup (cCons (cI 0) (cNil))) (cNil)))) (cCons (cTup (cCons (cS "max") (cCons (cTup (cCons (cI 0) (cCons (cI 1) (cNil)))) (cNil)))) (cNil)))) (cNil)))) (cCons (cTup (cCons (cTup (cCons (cS "made") (cCons (cV 1) (cCons (cS "012") (cNil))))) (cCons (cTup (cNil)) (cNil)))) (cNil)))))) (sSeq (sExp (cMt tyL fAppend (cV 0) (cCons (cTup (cCons (cTup (cCons (cS "made") (cCons (cV 2) (cCons (cS "222") (cNil))))) (cCons (cTup (cCons (cTup (cCons (cS "up") (cCons (cTup (cCons (cI 0) (cNil))) (cNil)))) (cCons (cTup (cCons (cS "up") (cCons (cTup (cCons (cI 1) (cNil))) (cNil)))) (cCons (cTup (cCons (cS "max") (cCons (cTup (cCons (cI 1) (cCons (cI 2) (cNil)))) (cNil)))) (cCons (cTup (cCons (cS "max") (cCons (cTup (cCons (cI 0) (cCons (cI 3) (cNil)))) (cNil)))) (cNil)))))) (cNil)))) cNil))) (sRet (cV 0)))))))
noncomputable def m__law_bank : Fn := runF 3 b__law_bank
noncomputable def b__law_put : CS := sSeq (sAsg (tgName 2) (cS "")) (sSeq (sFor (ciV (cCall 1 false m__law_tuples (cCons (cCall 1 false m__law_places (cCons (cBin fIx (cV 1) (cI 0)) (cNil))) (cNil)))) (tgName 3) (sAsg (tgName 2) (cBin (fAdd true) (cV 2) (cB1 (fStr) (cCons (cCall 2 false m__law_at (cCons (cV 0) (cCons (cLcV true [4] (cV 1) (tgName 4) (cYes) (cCall 2 false m__law_at (cCons (cV 4) (cCons (cV 3) (cNil))))) (cNil)))) (cNil)))))) (sRet (cV 2)))
noncomputable def m__law_put : Fn := runF 5 b__law_put
noncomputable def b__law_closing : CS := sSeq (sPar3 2 3 4 (cCons (cLst false (cCons (cS "012") (cNil))) (cCons (cLst false (cNil)) (cCons (cI 0) cNil)))) (sSeq (sFor (ciR1 (cI 30)) (tgName 1) (sSeq (sAsg (tgName 5) (cB1 (fLen) (cCons (cV 2) (cNil)))) (sSeq (sForV (cV 0) (tgName 6) (sSeq (sAsg (tgAny 2 (tgCons (tgName 8) (tgCons (tgName 9) (tgNil)))) (cMt tyS (fSplit true) (cV 6) (cCons (cS " ") cNil))) (sFor (ciV (cCall 2 false m__law_rows_of (cCons (cListR true (cV 5)) (cCons (cCall 1 false m__law_places (cCons (cV 9) (cNil))) (cNil))))) (tgName 7) (sSeq (sAsg (tgName 10) (cIf (cBin fGe (cB1 (fMaxT) (cCons (cV 7) (cNil))) (cV 4)) (cCall 2 false m__law_put (cCons (cV 9) (cCons (cLcV true [11] (cV 7) (tgName 11) (cYes) (cBin fIx (cV 2) (cV 11))) (cNil)))) (cS "012"))) (sIf (cBin fNotIn (cV 10) (cV 2)) (sSeq (sExp (cMt tyL fAppend (cV 2) (cCons (cV 10) cNil))) (sExp (cMt tyL fAppend (cV 3) (cCons (cTup (cCons (cV 8) (cCons (cB1 (fTuple) (cCons (cV 7) (cNil))) (cNil)))) cNil)))) (sNil)))))) (sSeq (sAsg (tgName 4) (cV 5)) (sIf (cBin fEq (cB1 (fLen) (cCons (cV 2) (cNil))) (cV 5)) (sRet (cB1 (fTuple) (cCons (cV 3) (cNil)))) (sNil)))))) (sRet (cB1 (fTuple) (cCons (cV 3) (cNil)))))
noncomputable def m__law_closing : Fn := runF 12 b__law_closing
noncomputable def b__law_judged : CS := sRet (cBin fEq (cB1 (fRepr) (cCons (cLst true (cCons (cCall 2 false m_accepts (cCons (cV 0) (cCons (cV 1) (cNil)))) (cCons (cCallK 2 2 false [1, 0] m_accepts (cCons (cV 1) (cCons (cV 0) (cNil)))) (cNil)))) (cNil))) (cB1 (fRepr) (cCons (cLst true (cCons (cV 2) (cCons (cV 2) (cNil)))) (cNil))))
noncomputable def m__law_judged : Fn := runF 3 b__law_judged
noncomputable def b__law_odd_part : CS := sSeq (sAsg (tgName 1) (cLst true (cCons (cN) (cCons (cB true) (cCons (cB false) (cCons (cUn fNeg (cI 1)) (cCons (cI 99) (cCons (cBin fPow (cI 10) (cI 39)) (cCons (cS "A") (cCons (cS "zz") (cCons (cS "0121") (cCons (cLst true (cNil)) (cCons (cDic0) (cCons (cTup (cCons (cN) (cNil))) (cCons (cTup (cCons (cLst true (cNil)) (cNil))) (cCons (cTup (cCons (cTup (cNil)) (cNil))) (cCons (cLst true (cCons (cS "up") (cNil))) (cNil)))))))))))))))))) (sRet (cCall 2 true m__law_of (cCons (cV 0) (cCons (cBin (fAdd true) (cV 1) (cLst true (cCons (cTup (cCons (cS "zz") (cNil))) (cCons (cTup (cCons (cI 3) (cNil))) (cCons (cTup (cCons (cI 0) (cCons (cI 3) (cNil)))) (cCons (cTup (cCons (cB true) (cCons (cI 1) (cNil)))) (cCons (cTup (cCons (cS "up") (cNil))) (cCons (cS "set 3") (cCons (cS "max 012112222\n") (cNil)))))))))) (cNil)))))
noncomputable def m__law_odd_part : Fn := runF 2 b__law_odd_part
noncomputable def m__law_put_in_0 : Fn := fun _ _ => .bad
noncomputable def b__law_put_in_1 : CS := sSeq (sIf (cOr (cNot (cTru (cIsi "tuple" (cV 1)))) (cOr (cBin fEq (cV 1) (cTup (cNil))) (cBin fEq (cCall 2 false m__law_draw (cCons (cV 0) (cCons (cI 6) (cNil)))) (cI 0)))) (sRet (cV 2)) (sNil)) (sSeq (sAsg (tgName 3) (cCall 2 false m__law_draw (cCons (cV 0) (cCons (cB1 (fLen) (cCons (cV 1) (cNil))) (cNil))))) (sRet (cBin (fAdd false) (cBin (fAdd true) (cSl true (cV 1) none (some (cV 3))) (cTup (cCons (cCall 3 false m__law_put_in_0 (cCons (cV 0) (cCons (cBin fIx (cV 1) (cV 3)) (cCons (cV 2) (cNil))))) (cNil)))) (cSl true (cV 1) (some (cBin (fAdd true) (cV 3) (cI 1))) none))))
noncomputable def m__law_put_in_1 : Fn := runF 4 b__law_put_in_1
noncomputable def b__law_put_in_2 : CS := sSeq (sIf (cOr (cNot (cTru (cIsi "tuple" (cV 1)))) (cOr (cBin fEq (cV 1) (cTup (cNil))) (cBin fEq (cCall 2 false m__law_draw (cCons (cV 0) (cCons (cI 6) (cNil)))) (cI 0)))) (sRet (cV 2)) (sNil)) (sSeq (sAsg (tgName 3) (cCall 2 false m__law_draw (cCons (cV 0) (cCons (cB1 (fLen) (cCons (cV 1) (cNil))) (cNil))))) (sRet (cBin (fAdd false) (cBin (fAdd true) (cSl true (cV 1) none (some (cV 3))) (cTup (cCons (cCall 3 false m__law_put_in_1 (cCons (cV 0) (cCons (cBin fIx (cV 1) (cV 3)) (cCons (cV 2) (cNil))))) (cNil)))) (cSl true (cV 1) (some (cBin (fAdd true) (cV 3) (cI 1))) none))))
noncomputable def m__law_put_in_2 : Fn := runF 4 b__law_put_in_2
noncomputable def b__law_put_in_3 : CS := sSeq (sIf (cOr (cNot (cTru (cIsi "tuple" (cV 1)))) (cOr (cBin fEq (cV 1) (cTup (cNil))) (cBin fEq (cCall 2 false m__law_draw (cCons (cV 0) (cCons (cI 6) (cNil)))) (cI 0)))) (sRet (cV 2)) (sNil)) (sSeq (sAsg (tgName 3) (cCall 2 false m__law_draw (cCons (cV 0) (cCons (cB1 (fLen) (cCons (cV 1) (cNil))) (cNil))))) (sRet (cBin (fAdd false) (cBin (fAdd true) (cSl true (cV 1) none (some (cV 3))) (cTup (cCons (cCall 3 false m__law_put_in_2 (cCons (cV 0) (cCons (cBin fIx (cV 1) (cV 3)) (cCons (cV 2) (cNil))))) (cNil)))) (cSl true (cV 1) (some (cBin (fAdd true) (cV 3) (cI 1))) none))))
noncomputable def m__law_put_in_3 : Fn := runF 4 b__law_put_in_3
noncomputable def b__law_put_in_4 : CS := sSeq (sIf (cOr (cNot (cTru (cIsi "tuple" (cV 1)))) (cOr (cBin fEq (cV 1) (cTup (cNil))) (cBin fEq (cCall 2 false m__law_draw (cCons (cV 0) (cCons (cI 6) (cNil)))) (cI 0)))) (sRet (cV 2)) (sNil)) (sSeq (sAsg (tgName 3) (cCall 2 false m__law_draw (cCons (cV 0) (cCons (cB1 (fLen) (cCons (cV 1) (cNil))) (cNil))))) (sRet (cBin (fAdd false) (cBin (fAdd true) (cSl true (cV 1) none (some (cV 3))) (cTup (cCons (cCall 3 false m__law_put_in_3 (cCons (cV 0) (cCons (cBin fIx (cV 1) (cV 3)) (cCons (cV 2) (cNil))))) (cNil)))) (cSl true (cV 1) (some (cBin (fAdd true) (cV 3) (cI 1))) none))))
noncomputable def m__law_put_in_4 : Fn := runF 4 b__law_put_in_4
noncomputable def m__law_put_in : Fn := m__law_put_in_4
noncomputable def b__law_right : CS := sSeq (sAsg (tgName 1) (cLst true (cCons (cS "max 012112222") (cCons (cS "up 120") (cNil))))) (sSeq (sAsg (tgName 2) (cBin (fAdd true) (cCall0 false m__law_bank) (cLst true (cCons (cTup (cCons (cTup (cCons (cS "all") (cCons (cMt tyS fJoin (cS "\n") (cCons (cV 1) cNil)) (cCons (cS "max") (cNil))))) (cCons (cCall 1 false m__law_closing (cCons (cV 1) (cNil))) (cNil)))) (cNil))))) (sSeq (sForV (cV 2) (tgAny 2 (tgCons (tgName 3) (tgCons (tgName 4) (tgNil)))) (sSeq (sIf (cNot (cTru (cCall 3 false m__law_judged (cCons (cV 3) (cCons (cV 4) (cCons (cB true) (cNil))))))) (sRet (cB false)) (sNil)) (sSeq (sAsg (tgName 5) (cLst true (cCons (cB1 (fList2 true) (cCons (cV 3) (cNil))) (cCons (cSl true (cV 3) none (some (cUn fNeg (cI 1)))) (cCons (cBin (fAdd true) (cV 3) (cTup (cCons (cV 4) (cNil)))) (cCons (cRev2 true (cV 3)) (cCons (cTup (cCons (cV 3) (cNil))) (cCons (cSl true (cV 3) (some (cI 1)) none) (cCons (cN) (cCons (cBin fIx (cV 3) (cI 0)) (cCons (cTup (cNil)) (cNil)))))))))))) (sSeq (sForV (cV 5) (tgName 6) (sIf (cNot (cTru (cCall 3 false m__law_judged (cCons (cV 6) (cCons (cV 4) (cCons (cB false) (cNil))))))) (sRet (cB false)) (sNil))) (sSeq (sAsg (tgName 7) (cCall 2 false m__law_of (cCons (cV 0) (cCons (cLst true (cCons (cS "All") (cCons (cS "") (cCons (cS "keep") (cCons (cS "outs") (cCons (cS "make") (cCons (cN) (cCons (cI 0) (cCons (cTup (cCons (cBin fIx (cV 3) (cI 0)) (cNil))) (cCons (cLst true (cCons (cS "kept") (cNil))) (cCons (cS "made ") (cNil)))))))))))) (cNil))))) (sSeq (sIf (cNot (cTru (cCall 3 false m__law_judged (cCons (cBin (fAdd true) (cTup (cCons (cV 7) (cNil))) (cSl true (cV 3) (some (cI 1)) none)) (cCons (cV 4) (cCons (cB false) (cNil))))))) (sRet (cB false)) (sNil)) (sSeq (sAsg (tgName 8) (cLst true (cCons (cBin (fAdd true) (cBin fIx (cV 3) (cI 1)) (cS "\n")) (cCons (cBin (fAdd true) (cS " ") (cBin fIx (cV 3) (cI 1))) (cCons (cBin (fAdd true) (cBin fIx (cV 3) (cI 1)) (cS " ")) (cCons (cBin (fAdd true) (cSl true (cBin fIx (cV 3) (cI 1)) (some (cI 1)) none) (cS "3")) (cCons (cN) (cCons (cTup (cCons (cBin fIx (cV 3) (cI 1)) (cNil))) (cNil))))))))) (sSeq (sIf (cNot (cTru (cCall 3 false m__law_judged (cCons (cBin (fAdd true) (cBin (fAdd true) (cSl true (cV 3) none (some (cI 1))) (cTup (cCons (cCall 2 false m__law_of (cCons (cV 0) (cCons (cV 8) (cNil)))) (cNil)))) (cSl true (cV 3) (some (cI 2)) none)) (cCons (cV 4) (cCons (cB false) (cNil))))))) (sRet (cB false)) (sNil)) (sSeq (sAsg (tgName 9) (cCall 1 false m__law_odd_part (cCons (cV 0) (cNil)))) (sSeq (sIf (cNot (cTru (cCall 3 false m__law_judged (cCons (cCall 3 false m__law_put_in (cCons (cV 0) (cCons (cV 3) (cCons (cV 9) (cNil))))) (cCons (cV 4) (cCons (cB false) (cNil))))))) (sRet (cB false)) (sNil)) (sSeq (sIf (cOr (cNot (cTru (cCall 3 false m__law_judged (cCons (cV 9) (cCons (cV 9) (cCons (cB false) (cNil))))))) (cNot (cTru (cCall 3 false m__law_judged (cCons (cV 3) (cCons (cV 9) (cCons (cB false) (cNil)))))))) (sRet (cB false)) (sNil)) (sFor (ciV (cLst true (cCons (cTup (cCons (cV 4) (cNil))) (cCons (cLst true (cCons (cV 4) (cNil))) (cCons (cDic0) (cCons (cS "all") (cCons (cI 0) (cCons (cB true) (cCons (cN) (cCons (cV 3) (cNil))))))))))) (tgName 10) (sIf (cNot (cTru (cCall 3 false m__law_judged (cCons (cV 3) (cCons (cV 10) (cCons (cB false) (cNil))))))) (sRet (cB false)) (sNil)))))))))))))) (sRet (cB true))))
noncomputable def m__law_right : Fn := runF 11 b__law_right
noncomputable def b_law : CS := sRet (cB1 (fAll) (cCons (cLc true [1] (ciR1 (cB1 (fMax2) (cCons (cI 2) (cCons (cB1 (fMin2) (cCons (cB1 (fLen) (cCons (cV 0) (cNil))) (cCons (cI 5) (cNil)))) (cNil))))) (tgName 1) (cYes) (cCall 1 false m__law_right (cCons (cCall 2 true m__law_spring (cCons (cV 0) (cCons (cV 1) (cNil)))) (cNil)))) (cNil)))
noncomputable def m_law : Fn := runF 2 b_law
end T3
noncomputable section
namespace T3
open PySem PySem.Spec PyProof.Rows L2
noncomputable abbrev FO : Type := Option (Str × Str × Arguments × FuncBody × Scope × Addr × List Str × Value × Addr)
noncomputable def foA (K : PySem.W.Frag) (a : Addr) : FO := match K.lookup a with
  | some ⟨_, _, .func fd, _⟩ => some (fd.name, fd.qualname, fd.params, fd.body, fd.scope, fd.globals, fd.closure.map (·.1), fd.defaults, fd.builtins)
  | _ => none
noncomputable def codeB (K : PySem.W.Frag) (a : Addr) (q : Str) : Bool := match K.lookup a with
  | some ⟨_, _, .func fd, _⟩ => PySem.W.codeIn K fd.code q
  | _ => false
/-- a def: where it stands, its name, qualified name, statement, cells -/
structure FnH where
  at_ : PySem.W.Frag → Addr
  name : Str
  qual : Str
  st : Stmt
  cells : List Str
noncomputable def FnH.val (d : FnH) : FO := some (d.name, d.qual, defArgs d.st, .stmts (defBody d.st), defScope d.st, mainGlobals, d.cells, .none, builtinsNs)
noncomputable def FnH.ok (K : PySem.W.Frag) (d : FnH) : Bool := codeB K (d.at_ K) d.qual && PySem.W.keepIn K (.ref (d.at_ K))
theorem foA_ok {K : PySem.W.Frag} {d : FnH} (e : foA K (d.at_ K) = d.val) (c : d.ok K = true) :
    ∃ oc od osl cls kV doc pm an cdv ct, K.lookup (d.at_ K) = some ⟨oc, od, .func ⟨d.name, d.qual, defArgs d.st, .stmts (defBody d.st), defScope d.st, mainGlobals, cls, .none, kV, doc, pm, an, cdv, ct, builtinsNs⟩, osl⟩ ∧ cls.map (·.1) = d.cells ∧ PySem.W.codeIn K cdv d.qual = true := by
  obtain ⟨c1, c3⟩ := He.ba c
  have c2 : (match K.lookup (d.at_ K) with
    | some ⟨_, _, .func fd, _⟩ => PySem.W.codeIn K fd.code d.qual
    | _ => false) = true := c1
  unfold foA at e
  cases q : K.lookup (d.at_ K) with
  | none =>
    rw [q] at c2
    cases c2
  | some o =>
    obtain ⟨oc, od, dt, osl⟩ := o
    rw [q] at c2 e
    cases dt with
    | func fd =>
      obtain ⟨n1, n2, n3, n4, n5, n6, n7, n8, n9, n10, n11, n12, n13, n14, n15⟩ := fd
      have e2 : (some (n1, n2, n3, n4, n5, n6, n7.map (·.1), n8, n15) : FO) = some (d.name, d.qual, defArgs d.st, .stmts (defBody d.st), defScope d.st, mainGlobals, d.cells, .none, builtinsNs) := e
      simp only [Option.some.injEq, Prod.mk.injEq] at e2
      obtain ⟨h1, h2, h3, h4, h5, h6, h7, h8, h9⟩ := e2
      subst h1 h2 h3 h4 h5 h6 h8 h9
      exact ⟨oc, od, osl, n7, n9, n10, n11, n12, n13, n14, rfl, h7, c2⟩
    | _ => cases c2
noncomputable abbrev Fk : Type := PySem.W.Frag → Bool
structure Says (fs : List Fk) (ds : List FnH) (K : PySem.W.Frag) : Prop where
  b : fs.all (fun f => f K) = true
  d : ds.all (fun d => d.ok K) = true
  v : ds.map (fun d => foA K (d.at_ K)) = ds.map FnH.val
noncomputable def bFree (x : Str) : Fk := fun K => decide (PySem.W.nsIn K mainGlobals x = some none)
noncomputable def bGlo (x : Str) : Fk := fun K => decide (PySem.W.nsIn K mainGlobals x = some (some (.ref (He.ga K x))))
noncomputable def bCon (x : Str) (v : V) : Fk := fun K => match PySem.W.nsIn K mainGlobals x with
  | some (some u) => He.relB v u
  | _ => false
noncomputable def bTup (x : Str) (xs : List Str) : Fk := fun K => decide (PySem.W.nsIn K mainGlobals x = some (some (.ref (He.ga K x)))) && (match K.lookup (He.ga K x) with
  | some ⟨.type c, none, .seq its _, _⟩ => decide (c = "tuple") && (szOk its.size && decide (strsV its.toList = some xs))
  | _ => false)
/-- an error class's __init__ -/
noncomputable def bInit (fl C : Str) : Fk := fun K => match K.lookup (He.fAd K (C, some "__init__")) with
  | some ⟨_, _, .func fd, _⟩ => (match fd.code with
    | .ref cda => (match K.lookup cda with
      | some ⟨_, _, .fields vs, _⟩ => (match (vs[2]? : Option Value) with
        | some (.str file _) => decide (fl = file)
        | _ => false)
      | _ => false)
    | _ => false) && (match fd.closure with
    | [(_, cc)] => (match K.lookup cc with
      | some ⟨_, _, .cell (some (.ref D)), _⟩ => decide (D = He.ga K C)
      | _ => false)
    | _ => false)
  | _ => false
noncomputable def bX (C f : Str) (B newId initId : String) (bmB : List Value) : Fk := fun K => bGlo C K && xB K (He.ga K C) (He.fAd K (C, some "__init__")) f B newId initId bmB
section
variable {fs : List Fk} {ds : List FnH} {K : PySem.W.Frag} {h : Heap} {mg : Str → Option Value}
theorem Says.fact (c : Says fs ds K) (i : Nat) {f : Fk} (e : fs[i]? = some f) : f K = true := List.all_eq_true.mp c.b f (List.mem_of_getElem? e)
theorem Says.def_ (c : Says fs ds K) (i : Nat) {d : FnH} (e : ds[i]? = some d) :
    ∃ oc od osl cls kV doc pm an cdv ct, K.lookup (d.at_ K) = some ⟨oc, od, .func ⟨d.name, d.qual, defArgs d.st, .stmts (defBody d.st), defScope d.st, mainGlobals, cls, .none, kV, doc, pm, an, cdv, ct, builtinsNs⟩, osl⟩ ∧ cls.map (·.1) = d.cells ∧ PySem.W.codeIn K cdv d.qual = true ∧ PySem.W.keepIn K (.ref (d.at_ K)) = true := by
  have c2 := List.all_eq_true.mp c.d d (List.mem_of_getElem? e)
  have e2 : (ds.map fun d => foA K (d.at_ K))[i]? = (ds.map FnH.val)[i]? := by rw [c.v]
  rw [List.getElem?_map, List.getElem?_map, e] at e2
  obtain ⟨oc, od, osl, cls, kV, doc, pm, an, cdv, ct, h1, h2, h3⟩ := foA_ok (Option.some.inj e2) c2
  exact ⟨oc, od, osl, cls, kV, doc, pm, an, cdv, ct, h1, h2, h3, (He.ba c2).2⟩
theorem hat_ok (X : K.In h) (G : h.Ns mainGlobals mg) (c : Says fs ds K) (i j : Nat) {x : Str} {st : Stmt} (e : ds[i]? = some ⟨fun K => He.ga K x, x, x, st, []⟩) (f : fs[j]? = some (bGlo x)) : At K mg x st := by
  obtain ⟨oc, od, osl, cls, kV, doc, pm, an, cdv, ct, h1, h2, h3, h4⟩ := c.def_ i e
  obtain rfl : cls = [] := List.map_eq_nil_iff.mp h2
  have f2 := c.fact j f
  exact ⟨_, _, PySem.W.mg_of X G (of_decide_eq_true f2), fun_mk (st := st) h1 h3 h4⟩
theorem free_ok (X : K.In h) (G : h.Ns mainGlobals mg) (c : Says fs ds K) (j : Nat) {x : Str} (f : fs[j]? = some (bFree x)) : mg x = none := PySem.W.mg_none_of X G (of_decide_eq_true (c.fact j f))
theorem con_ok (X : K.In h) (G : h.Ns mainGlobals mg) (c : Says fs ds K) (j : Nat) {x : Str} {v : V} (f : fs[j]? = some (bCon x v)) : Cn mg x v := by
  have f2 : (match PySem.W.nsIn K mainGlobals x with
    | some (some u) => He.relB v u
    | _ => false) = true := c.fact j f
  split at f2
  · rename_i u hu
    exact ⟨u, PySem.W.mg_of X G hu, He.relB_ok f2⟩
  · cases f2
theorem tup_ok (X : K.In h) (G : h.Ns mainGlobals mg) (c : Says fs ds K) (j : Nat) {x : Str} {xs : List Str} (f : fs[j]? = some (bTup x xs)) : CnT K mg x xs := by
  have f2 := c.fact j f
  unfold bTup at f2
  obtain ⟨f3, f4⟩ := He.ba f2
  split at f4
  · rename_i c' its n sl hl
    simp only [Bool.and_eq_true, decide_eq_true_eq] at f4
    obtain ⟨rfl, f5, f6⟩ := f4
    exact cnT_mk X G (of_decide_eq_true f3) hl f5 f6
  · cases f4
theorem raisX_ok (X : K.In h) (G : h.Ns mainGlobals mg) (c : Says fs ds K) {prog : Program} {C qual f : Str} {st : Stmt} {B newId initId : String} {bmB : List Value} {p1 p2 p0 a1 a2 a3 a4 q1 q2 q3 q4 : Pos} (i j j2 : Nat) (e : ds[i]? = some ⟨fun K => He.fAd K (C, some "__init__"), "__init__", qual, st, ["__class__"]⟩)
    (ea : defArgs st = XI.ag f p1 p2) (eb : defBody st = XI.bd f p0 a1 a2 a3 a4 q1 q2 q3 q4) (es : defScope st = XI.sc f) (ln : (a2.endLine == a3.line) = true) (h1 : fs[j]? = some (bInit prog.main.file C)) (h2 : fs[j2]? = some (bX C f B newId initId bmB)) (top : (prog.main.scope.names.lookup ("super" : Str)).isSome = false)
    (base : XI.BaseX B newId initId bmB) : RaisX prog K mg C f := by
  obtain ⟨oc, od, osl, cls, kV, doc, pm, an, cdv, ct, g1, g2, g3, g4⟩ := c.def_ i e
  have k1 := c.fact j h1
  obtain ⟨k2, k3⟩ := He.ba (c.fact j2 h2)
  have g1' : K.lookup (He.fAd K (C, some "__init__")) = some ⟨oc, od, .func ⟨"__init__", qual, defArgs st, .stmts (defBody st), defScope st, mainGlobals, cls, .none, kV, doc, pm, an, cdv, ct, builtinsNs⟩, osl⟩ := g1
  unfold bInit at k1
  rw [g1'] at k1
  obtain ⟨k4, k5⟩ := He.ba k1
  cases cdv with
  | ref cda =>
    have k4' : (match K.lookup cda with
      | some ⟨_, _, .fields vs, _⟩ => (match (vs[2]? : Option Value) with
        | some (.str file _) => decide (prog.main.file = file)
        | _ => false)
      | _ => false) = true := k4
    split at k4'
    · rename_i u1 u2 vs u3 hl
      split at k4'
      · rename_i file tf hv
        match cls, g2, g1', k5 with
        | [(z, cc)], g2, g1', k5 =>
          obtain rfl : z = "__class__" := by simpa using g2
          have k5' : (match K.lookup cc with
            | some ⟨_, _, .cell (some (.ref D)), _⟩ => decide (D = He.ga K C)
            | _ => false) = true := k5
          split at k5'
          · rename_i v1 v2 D v3 hc
            have hD : D = He.ga K C := of_decide_eq_true k5'
            rw [hD] at hc
            have k3' := k3
            unfold xB at k3'
            simp only [Bool.and_eq_true, decide_eq_true_eq] at k3'
            rw [ea, eb, es] at g1'
            exact raisX_mk (f := f) (p1 := p1) (p2 := p2) (p0 := p0) (a1 := a1) (a2 := a2) (a3 := a3) (a4 := a4) (q1 := q1) (q2 := q2) (q3 := q3) (q4 := q4) X G (of_decide_eq_true k2) k3'.2.2.2.2.2.1 g1' hl hc g3 rfl ln hv (by rw [of_decide_eq_true k4']; exact BEq.rfl) top base k3
          · cases k5'
        | [], g2, _, _ => cases g2
        | _ :: _ :: _, g2, _, _ => simp at g2
      · cases k4'
    · cases k4'
  | _ => cases g3
end
end T3
namespace T3
open PySem PySem.Spec PyProof.Rows L2
noncomputable abbrev Ad : Type := PySem.W.Frag → Addr
/-- where classes stand: 100 on: a class's instances; 2000 on: defs, classes as values -/
noncomputable def cgn (K : PySem.W.Frag) (cls fns : List Str) : Nat → Addr := fun n => match Nat.ble 100 n && Nat.ble n 199 with
  | true => fA K (cls.getD (n - 100) "")
  | false => cfn K fns n
noncomputable def PAt (K : PySem.W.Frag) (C : Addr) (m qual : Str) (st : Stmt) : Prop := ∃ (p fa : Addr) (fd : FuncData), PropOf K C m p fa ∧ Fun K m qual st fa fd
noncomputable def CAt (K : PySem.W.Frag) (C : Addr) (m qual : Str) (st : Stmt) : Prop := ∃ (p fa : Addr) (fd : FuncData), ClX.CMet K C (.type "type") m p fa ∧ Fun K m qual st fa fd
noncomputable def IAt (K : PySem.W.Frag) (C : Addr) (qual : Str) (st : Stmt) : Prop := ∃ (fa : Addr) (fd : FuncData), Mk K C fa ∧ Fun K "__init__" qual st fa fd
section
variable {P : Program} {w : World} {K : PySem.W.Frag} {mg : Str → Option Value} {base : Heap} {cl : ClT} {j c n : Nat} {m nm qual : Str} {st : Stmt} {ps ks : List Str} {perm : List Nat} {f : Fn}
theorem bindsF_of (h : ∀ (kV doc pm : Value) (an : Option Addr) (cdv ct : Value) (us : List Value), us.length = ps.length → bindArgs (PySem.W.fnOf m qual (defArgs st) (defBody st) (defScope st) .none kV doc pm an cdv ct) ⟨us, []⟩ = pure (ps.zip us))
    (fa : Addr) (fd : FuncData) (F : Fun K m qual st fa fd) : Binds K fd ps [] := F.binds h
theorem propG_of (hc : c < 999) (C : Cls K (cl c)) (D : PAt K (cl c) m qual st) (bd : ∀ fa fd, Fun K m qual st fa fd → Binds K fd ps []) (h : ∀ fa fd, Fun K m qual st fa fd → FnG P w K mg base j fa fd ps (spF K cl 1 f)) (hn : ps.length = 1 := by rfl) : PropG P w K mg base cl j c m f := by
  obtain ⟨p, fa, fd, hm, F⟩ := D
  exact ⟨hc, C, p, fa, fd, ps, hm, bd _ _ F, hn, h _ _ F⟩
theorem cmG_of {c2 : Nat} (hc : 2000 ≤ c2) (gC : mg nm = some (.ref (cl c2))) (rd : ClX.CRead K (cl c2) (.type "type")) (D : CAt K (cl c2) m qual st) (bd : ∀ fa fd, Fun K m qual st fa fd → Binds K fd ps []) (h : ∀ fa fd, Fun K m qual st fa fd → FnG P w K mg base j fa fd ps (spF K cl (n + 1) f)) (hn : ps.length = n + 1 := by rfl) : CmG P w K mg base cl j nm m c2 n f := by
  obtain ⟨p, fa, fd, hm, F⟩ := D
  exact ⟨hc, gC, rd, p, fa, fd, ps, hm, bd _ _ F, hn, h _ _ F⟩
theorem mkV_of (gC : mg nm = some (.ref (cl c))) (D : IAt K (cl c) qual st) (h : ∀ fa fd, Fun K "__init__" qual st fa fd → FnV P w K mg base j fa (spU K cl f)) : MkG P w K mg base cl j c nm none f := by
  obtain ⟨fa, fd, hm, F⟩ := D
  exact ⟨gC, fa, _, hm, h _ _ F, fun _ _ _ _ _ _ q => q⟩
end
noncomputable def mAd (a : Ad) (m : Str) : Ad := fun K => match PySem.W.findIn K (.ref (a K)) m with
  | some (some (.ref p)) => p
  | _ => 0
noncomputable def wAd (a : Ad) (T : String) (m : Str) : Ad := fun K => match PySem.W.recIn K (mAd a m K) T with
  | some (.ref f :: _) => f
  | _ => 0
noncomputable def bGloA (x : Str) (a : Ad) : Fk := fun K => decide (PySem.W.nsIn K mainGlobals x = some (some (.ref (a K))))
noncomputable def bCls (a : Ad) : Fk := fun K => PySem.W.plainGet K (a K) Str.empty && (PySem.W.hasDictIn K (a K) && (PySem.W.plainOver K (a K) && decide (PySem.W.findIn K (.ref (a K)) "__setattr__" = some (some (.builtin "object.__setattr__")))))
noncomputable def bNoat (a : Ad) (f : Str) : Fk := fun K => decide (PySem.W.findIn K (.ref (a K)) f = some none)
noncomputable def bMkr (a : Ad) : Fk := fun K => PySem.W.makesIn K (a K) && (decide (PySem.W.findIn K (.ref (a K)) "__init__" = some (some (.ref (mAd a "__init__" K)))) && (PySem.W.isFn K (.ref (mAd a "__init__" K)) && PySem.W.keepIn K (.ref (a K))))
noncomputable def bProp (a : Ad) (m : Str) : Fk := fun K => decide (PySem.W.findIn K (.ref (a K)) m = some (some (.ref (mAd a m K)))) && (decide (PySem.W.specialIn K (.ref (mAd a m K)) "__get__" = some (some (.builtin "property.__get__"))) && (decide (PySem.W.takesIn K (.ref (mAd a m K)) = some true) && (match PySem.W.recIn K (mAd a m K) "property" with
  | some (.ref _ :: _) => true
  | _ => false)))
noncomputable def bCmt (a : Ad) (m : Str) : Fk := fun K => (match PySem.W.findCls K (.ref (a K)) (.type "type") m with
    | some (.get (.builtin g) (.ref p) .none (.ref D)) => decide (g = "classmethod.__get__") && (decide (p = mAd a m K) && decide (D = a K))
    | _ => false) && ((match PySem.W.recIn K (mAd a m K) "classmethod" with
    | some (.ref _ :: _) => true
    | _ => false) && PySem.W.fnIn K (wAd a "classmethod" m K))
noncomputable def bCrd (a : Ad) : Fk := fun K => PySem.W.readsIn K (a K) (.type "type") && decide (PySem.W.specialIn K (.ref (a K)) "__getattribute__" = some (some (.builtin "type.__getattribute__")))
section
variable {fs : List Fk} {ds : List FnH} {K : PySem.W.Frag} {h : Heap} {mg : Str → Option Value} {a : Ad} {m qual : Str} {st : Stmt}
theorem gloA_ok (X : K.In h) (G : h.Ns mainGlobals mg) (c : Says fs ds K) (j : Nat) {x : Str} (f : fs[j]? = some (bGloA x a)) : mg x = some (.ref (a K)) := PySem.W.mg_of X G (of_decide_eq_true (c.fact j f))
theorem cls_of (z : bCls a K = true) : Cls K (a K) := by
  unfold bCls at z
  simp only [Bool.and_eq_true, decide_eq_true_eq] at z
  exact ⟨z.1, z.2.1, z.2.2.1, z.2.2.2⟩
theorem clsA_ok (c : Says fs ds K) (j : Nat) (f : fs[j]? = some (bCls a)) : Cls K (a K) := cls_of (c.fact j f)
theorem noatA_ok (c : Says fs ds K) (j : Nat) {x : Str} (f : fs[j]? = some (bNoat a x)) : NoAttr K (a K) x := by
  have z : decide (PySem.W.findIn K (.ref (a K)) x = some none) = true := c.fact j f
  exact (of_decide_eq_true z : PySem.W.findIn K (.ref (a K)) x = some none)
theorem funA_ok (c : Says fs ds K) (i : Nat) {b : Ad} (e : ds[i]? = some ⟨b, m, qual, st, []⟩) : ∃ fd, Fun K m qual st (b K) fd := by
  obtain ⟨oc, od, osl, cls, kV, doc, pm, an, cdv, ct, h1, h2, h3, h4⟩ := c.def_ i e
  obtain rfl : cls = [] := List.map_eq_nil_iff.mp h2
  exact ⟨_, fun_mk (st := st) h1 h3 h4⟩
theorem initA_ok (c : Says fs ds K) (i j : Nat) (e : ds[i]? = some ⟨mAd a "__init__", "__init__", qual, st, []⟩) (f : fs[j]? = some (bMkr a)) : IAt K (a K) qual st := by
  obtain ⟨fd, F⟩ := funA_ok c i e
  have z := c.fact j f
  unfold bMkr at z
  simp only [Bool.and_eq_true, decide_eq_true_eq] at z
  exact ⟨_, fd, ⟨z.1, z.2.1, z.2.2.1, z.2.2.2⟩, F⟩
theorem rec_wA {T : String} (z : (match PySem.W.recIn K (mAd a m K) T with
    | some (.ref _ :: _) => true
    | _ => false) = true) : ∃ rest, PySem.W.recIn K (mAd a m K) T = some (.ref (wAd a T m K) :: rest) := by
  unfold wAd
  split at z
  · rename_i f r e
    exact ⟨r, by rw [e]⟩
  · cases z
theorem propA_ok (c : Says fs ds K) (i j : Nat) (e : ds[i]? = some ⟨wAd a "property" m, m, qual, st, []⟩) (f : fs[j]? = some (bProp a m)) : PAt K (a K) m qual st := by
  obtain ⟨fd, F⟩ := funA_ok c i e
  obtain ⟨z1, z⟩ := He.ba (c.fact j f)
  obtain ⟨z2, z⟩ := He.ba z
  obtain ⟨z3, z4⟩ := He.ba z
  exact ⟨_, _, fd, ⟨of_decide_eq_true z1, of_decide_eq_true z2, of_decide_eq_true z3, rec_wA z4⟩, F⟩
theorem cmA_ok (c : Says fs ds K) (i j : Nat) (e : ds[i]? = some ⟨wAd a "classmethod" m, m, qual, st, []⟩) (f : fs[j]? = some (bCmt a m)) : CAt K (a K) m qual st := by
  obtain ⟨fd, F⟩ := funA_ok c i e
  obtain ⟨z1, z⟩ := He.ba (c.fact j f)
  obtain ⟨z2, z3⟩ := He.ba z
  refine ⟨_, _, fd, ⟨?_, rec_wA z2, z3⟩, F⟩
  split at z1
  · rename_i g p D e
    obtain ⟨k1, k⟩ := He.ba z1
    obtain ⟨k2, k3⟩ := He.ba k
    rw [e, of_decide_eq_true k1, of_decide_eq_true k2, of_decide_eq_true k3]
  · cases z1
theorem crdA_ok (c : Says fs ds K) (j : Nat) (f : fs[j]? = some (bCrd a)) : ClX.CRead K (a K) (.type "type") := by
  obtain ⟨z1, z2⟩ := He.ba (c.fact j f)
  exact ⟨z1, of_decide_eq_true z2⟩
theorem hasF_nil {cl : ClT} {f : Str} : HasF K cl f [] := fun c h => by cases h
theorem hasF_cons {cl : ClT} {f : Str} {c : Nat} {r : List Nat} (hc : c < 999) (h1 : Cls K (cl c)) (h2 : NoAttr K (cl c) f) (t : HasF K cl f r) : HasF K cl f (c :: r) := fun d h => by
  rcases List.mem_cons.mp h with rfl | h
  · exact ⟨hc, h1, h2⟩
  · exact t d h
end
end T3
namespace T3
open PySem PySem.Spec PyProof.Rows L2
section
variable {P : Program} {w : World} {K : PySem.W.Frag} {mg : Str → Option Value} {base : Heap} {cl : ClT} {j k c n : Nat} {m nm : Str} {ks : List Str} {perm : List Nat} {f : Fn}
theorem PropG.up (M : PropG P w K mg base cl j c m f) (h : j ≤ k) : PropG P w K mg base cl k c m f := by
  obtain ⟨p, fa, fd, ps, h1, h2, h3, F⟩ := M.ex
  exact ⟨M.lt, M.C, p, fa, fd, ps, h1, h2, h3, F.up h⟩
theorem MetK.up (M : MetK P w K mg base cl j c m n f ks perm) (h : j ≤ k) : MetK P w K mg base cl k c m n f ks perm := by
  obtain ⟨fa, fd, ps, h1, h2, F⟩ := M.ex
  exact ⟨M.lt, M.C, fa, fd, ps, h1, h2, F.up h⟩
theorem EqG.up (M : EqG P w K mg base cl j c f) (h : j ≤ k) : EqG P w K mg base cl k c f := ⟨M.M.up h, M.ne, M.top⟩
end
end T3
namespace T3
open PySem PySem.Spec PyProof.Rows L2
section
variable {X : Cx} {cl : ClT} {W : WX}
theorem pm_raise1 (i : Nat) {f : Str} {a : Expr} {e : CE} {p pos pos2 : Pos} {k : Nat} (E : Err1 X.K X.mg cl.f i) (R : RaisX X.prog X.K X.mg (xNm i) f) (hf : f = "given" ∨ f = "index") (hr : Room k X.A) (tk : Takes X W) (noS : X.mg "super" = none) (ha : PE X a (tM X.K cl W e)) (hc : X.calm = true := by rfl) (hg : Gl X (xNm i) := by rfl)
    (he : starEach (a :: []) X.env = (false, eval a X.env) :: starEach [] X.env := by rfl) (hpl : (backTo pos (starEach [] X.env)).any (·.1) = false := by rfl) (hdb : (xNm i == ("__debug__" : Str)) = false := by decide) :
    PS X (.Raise (some (.Call (.Name (xNm i) p) [a] [] pos)) none pos2) (tMS X.K cl W (sRaiseX i f e)) := by
  obtain ⟨C, fI, B, n1, n2, bm, T⟩ := R
  have e1 := T.gC.symm.trans E.nm
  cases e1
  exact pm_raiseX i hc tk hf T hr noS ha hg he hpl hdb
end
noncomputable def err1B (K : PySem.W.Frag) (i : Nat) : Bool := decide (PySem.W.nsIn K mainGlobals (xNm i) = some (some (.ref (xA K i)))) && (decide (PySem.W.exmOne K (.ref (xA K i)) (.ref (xA K i)) = some true) && (errB4 K (xA K i) && (decide (PySem.W.findIn K (.ref (xA K i)) "given" = some none) && decide (PySem.W.findIn K (.ref (xA K i)) "index" = some none))))
section
variable {fs : List Fk} {ds : List FnH} {K : PySem.W.Frag} {h : Heap} {mg : Str → Option Value}
theorem err1_ok (X : K.In h) (G : h.Ns mainGlobals mg) (c : Says fs ds K) {i : Nat} (cls fns : List Str) (j : Nat) (f : fs[j]? = some (fun K => err1B K i)) (hi : i < 25) : Err1 K mg (cgn K cls fns) i := by
  have z : err1B K i = true := c.fact j f
  unfold err1B at z
  simp only [Bool.and_eq_true, decide_eq_true_eq] at z
  obtain ⟨z1, z2, z4, z5, z6⟩ := z
  have e : cgn K cls fns i = xA K i := by
    unfold cgn
    have : Nat.ble 100 i = false := by
      cases h : Nat.ble 100 i with
      | false => rfl
      | true => have := Nat.le_of_ble_eq_true h; omega
    rw [this]
    exact if_pos (by omega)
  unfold errB4 at z4
  simp only [Bool.and_eq_true, decide_eq_true_eq] at z4
  refine ⟨by rw [e]; exact PySem.W.mg_of X G z1, by rw [e]; exact z2, by rw [e]; exact ⟨xfB_ok z4.1, z4.2.1, z4.2.2.1, z4.2.2.2.1, z4.2.2.2.2.1, z4.2.2.2.2.2⟩, by rw [e]; exact z5, by rw [e]; exact z6⟩
end
end T3
namespace T3
open PySem PySem.Spec PyProof.Rows L2
noncomputable abbrev KTb := Str × List (Str × Int)
noncomputable def bTb (t : KTb) : Fk := fun K => bGlo t.1 K && t.2.all fun q => match PySem.W.nsIn K (He.ga K t.1) q.1 with
  | some (some (.int j _)) => decide (j = q.2)
  | _ => false
theorem ns_none {K : PySem.W.Frag} {P : Params} {d : Addr} {ks : List Str} {z : Str} (h : He.dicW K d = some (He.keysIn P ks)) (hz : z ∉ ks) : PySem.W.nsIn K d z = some none := by
  unfold He.dicW at h
  unfold PySem.W.nsIn
  split at h
  · rename_i c es n sl hl
    rw [hl]
    dsimp only
    split at h
    · cases h' : es.toList.find? (·.key.isStr z) with
      | some e =>
        exfalso
        have hm := List.mem_of_find?_eq_some h'
        have hs := List.find?_some h'
        have he : He.keyOf e ∈ es.toList.map He.keyOf := List.mem_map_of_mem hm
        rw [Option.some.inj h] at he
        obtain ⟨k, hk, ek⟩ := List.mem_map.mp he
        unfold He.keyOf at ek
        split at ek
        · rename_i x t hx
          have ex : k = x := (Prod.mk.inj (Option.some.inj ek)).1
          rw [hx] at hs
          have hs2 : (x == z) = true := hs
          rw [beq_iff_eq] at hs2
          exact hz (hs2 ▸ ex ▸ hk)
        · cases ek
      | none =>
        dsimp only
        rw [if_neg]
        intro ha
        obtain ⟨e, hm, hr⟩ := List.any_eq_true.mp ha
        have he : He.keyOf e ∈ es.toList.map He.keyOf := List.mem_map_of_mem hm
        rw [Option.some.inj h] at he
        obtain ⟨k, hk, ek⟩ := List.mem_map.mp he
        unfold He.keyOf at ek
        split at ek
        · rename_i x t hx
          unfold DictEntry.refKey at hr
          rw [hx] at hr
          cases hr
        · cases ek
    · cases h
  · cases h
theorem lookup_none {z : Str} : ∀ {tbl : List (Str × Int)}, tbl.lookup z = none → z ∉ tbl.map (·.1)
  | [], _, h => absurd h List.not_mem_nil
  | q :: r, h, m => by
    rw [List.lookup_cons] at h
    cases e : z == q.1 with
    | true => rw [e] at h; cases h
    | false =>
      rw [e] at h
      rcases List.mem_cons.mp m with m | m
      · rw [beq_eq_false_iff_ne] at e
        exact e m
      · exact lookup_none h m
theorem lookup_some {z : Str} {i : Int} : ∀ {tbl : List (Str × Int)}, tbl.lookup z = some i → (z, i) ∈ tbl
  | [], h => by simp at h
  | q :: r, h => by
    rw [List.lookup_cons] at h
    cases e : z == q.1 with
    | true =>
      rw [e] at h
      rw [beq_iff_eq] at e
      cases h
      rw [e]
      exact List.mem_cons_self
    | false =>
      rw [e] at h
      exact List.mem_cons_of_mem _ (lookup_some h)
theorem kdT_of {K : PySem.W.Frag} {h : Heap} {w : World} {mg : Str → Option Value} {t : KTb} (X : K.In h) (G : h.Ns mainGlobals mg) (hd : He.dicW K (He.ga K t.1) = some (He.keysIn w.params (t.2.map (·.1)))) (hb : bTb t K = true) : KdT K w mg t.1 t.2 := by
  obtain ⟨es, n, D⟩ := He.dicW_ok hd
  obtain ⟨b1, b2⟩ := He.ba hb
  refine ⟨He.ga K t.1, es, n, PySem.W.mg_of X G (of_decide_eq_true b1), D, fun z => ?_⟩
  cases hl : t.2.lookup z with
  | none => exact ns_none hd (lookup_none hl)
  | some i =>
    have z1 := List.all_eq_true.mp b2 _ (lookup_some hl)
    dsimp only at z1
    split at z1
    · rename_i j tk hj
      have e := of_decide_eq_true z1
      exact ⟨tk, by rw [hj, e]⟩
    · cases z1
theorem map_inj {α β : Type} {f g : α → β} : ∀ {l : List α}, l.map f = l.map g → ∀ x ∈ l, f x = g x
  | y :: r, h, x, m => by
    rw [List.map_cons, List.map_cons] at h
    injection h with h1 h2
    rcases List.mem_cons.mp m with rfl | m
    · exact h1
    · exact map_inj h2 x m
theorem kdT_ok {fs : List Fk} {ds : List FnH} {K : PySem.W.Frag} {h : Heap} {w : World} {mg : Str → Option Value} {ts : List KTb} (X : K.In h) (G : h.Ns mainGlobals mg) (c : Says fs ds K) (dt : ∀ t ∈ ts, He.dicW K (He.ga K t.1) = some (He.keysIn w.params (t.2.map (·.1)))) {t : KTb} (i j : Nat) (hi : ts[i]? = some t) (f : fs[j]? = some (bTb t)) : KdT K w mg t.1 t.2 :=
  kdT_of X G (dt t (List.mem_of_getElem? hi)) (c.fact j f)
theorem says_go {fs : List Fk} {ds : List FnH} {ts : List KTb} {w : World} {K : PySem.W.Frag} {h : Heap} {C : Prop} (X : K.In h) (b : (fs.all fun f => f K) = true) (d : (ds.all fun d => d.ok K) = true) (v : ds.map (fun d => foA K (d.at_ K)) = ds.map FnH.val)
    (t : (ts.map fun t => He.dicW K (He.ga K t.1)) = ts.map fun t => some (He.keysIn w.params (t.2.map (·.1)))) (k : Says fs ds K → (∀ t ∈ ts, He.dicW K (He.ga K t.1) = some (He.keysIn w.params (t.2.map (·.1)))) → C) : C :=
  k ⟨b, d, v⟩ fun x hx => map_inj t x hx
end T3
namespace T3
open PySem PySem.Spec PyProof.Rows L2
noncomputable abbrev topS (i : Nat) : Stmt := PySem.Challenge.pw_threevalues_k57_claims_of_any_kind.main.body.getD i (.Pass ⟨0, 0, 0, 0⟩)
noncomputable abbrev s__law_bank : Stmt := topS 71
noncomputable abbrev N__law_bank : List Str := ["found", "two", "pair"]
theorem sc__law_bank : FnScope N__law_bank [] (defScope s__law_bank) := ⟨rfl, rfl, rfl, by decide +kernel, rfl, by decide +kernel, by decide +kernel⟩
noncomputable abbrev s__law_places : Stmt := topS 66
noncomputable abbrev N__law_places : List Str := ["sheet_now"]
theorem sc__law_places : FnScope N__law_places ["sheet_now"] (defScope s__law_places) := ⟨rfl, rfl, rfl, by decide +kernel, rfl, by decide +kernel, by decide +kernel⟩
noncomputable abbrev s__law_at : Stmt := topS 65
noncomputable abbrev N__law_at : List Str := ["sheet_now", "some", "index_now", "each"]
theorem sc__law_at : FnScope N__law_at ["sheet_now", "some"] (defScope s__law_at) := ⟨rfl, rfl, rfl, by decide +kernel, rfl, by decide +kernel, by decide +kernel⟩
noncomputable abbrev s__law_tuples : Stmt := topS 64
noncomputable abbrev N__law_tuples : List Str := ["size", "found", "k", "later", "some"]
theorem sc__law_tuples : FnScope N__law_tuples ["size"] (defScope s__law_tuples) := ⟨rfl, rfl, rfl, by decide +kernel, rfl, by decide +kernel, by decide +kernel⟩
noncomputable abbrev s__law_put : Stmt := topS 68
noncomputable abbrev N__law_put : List Str := ["sheet_now", "some", "found", "each", "other_sheet"]
theorem sc__law_put : FnScope N__law_put ["sheet_now", "some"] (defScope s__law_put) := ⟨rfl, rfl, rfl, by decide +kernel, rfl, by decide +kernel, by decide +kernel⟩
noncomputable abbrev s__law_rows_of : Stmt := topS 67
noncomputable abbrev N__law_rows_of : List Str := ["some", "size", "found", "k", "later", "rows_now", "each"]
theorem sc__law_rows_of : FnScope N__law_rows_of ["some", "size"] (defScope s__law_rows_of) := ⟨rfl, rfl, rfl, by decide +kernel, rfl, by decide +kernel, by decide +kernel⟩
noncomputable abbrev s__law_closing : Stmt := topS 69
noncomputable abbrev N__law_closing : List Str := ["rows_now", "turn_k", "found", "ran", "begin", "many", "row_now", "some", "name_now", "sheet_now", "fresh", "k"]
theorem sc__law_closing : FnScope N__law_closing ["rows_now"] (defScope s__law_closing) := ⟨rfl, rfl, rfl, by decide +kernel, rfl, by decide +kernel, by decide +kernel⟩
noncomputable abbrev s_all_arguments : Stmt := topS 18
noncomputable abbrev N_all_arguments : List Str := ["count", "found", "turn", "some", "each"]
theorem sc_all_arguments : FnScope N_all_arguments ["count"] (defScope s_all_arguments) := ⟨rfl, rfl, rfl, by decide +kernel, rfl, by decide +kernel, by decide +kernel⟩
noncomputable abbrev s_table_from : Stmt := topS 19
noncomputable abbrev N_table_from : List Str := ["values", "each"]
theorem sc_table_from : FnScope N_table_from ["values"] (defScope s_table_from) := ⟨rfl, rfl, rfl, by decide +kernel, rfl, by decide +kernel, by decide +kernel⟩
noncomputable abbrev s_all_tables : Stmt := topS 24
noncomputable abbrev N_all_tables : List Str := ["some"]
theorem sc_all_tables : FnScope N_all_tables [] (defScope s_all_tables) := ⟨rfl, rfl, rfl, by decide +kernel, rfl, by decide +kernel, by decide +kernel⟩
noncomputable abbrev s_size_of : Stmt := topS 13
noncomputable abbrev N_size_of : List Str := ["count", "found", "turn"]
theorem sc_size_of : FnScope N_size_of ["count"] (defScope s_size_of) := ⟨rfl, rfl, rfl, by decide +kernel, rfl, by decide +kernel, by decide +kernel⟩
noncomputable abbrev s_places_of : Stmt := topS 15
noncomputable abbrev N_places_of : List Str := ["table", "count"]
theorem sc_places_of : FnScope N_places_of ["table"] (defScope s_places_of) := ⟨rfl, rfl, rfl, by decide +kernel, rfl, by decide +kernel, by decide +kernel⟩
noncomputable abbrev s_index_of : Stmt := topS 16
noncomputable abbrev N_index_of : List Str := ["arguments", "found", "each"]
theorem sc_index_of : FnScope N_index_of ["arguments"] (defScope s_index_of) := ⟨rfl, rfl, rfl, by decide +kernel, rfl, by decide +kernel, by decide +kernel⟩
noncomputable abbrev s_value_at : Stmt := topS 17
noncomputable abbrev N_value_at : List Str := ["table", "arguments"]
theorem sc_value_at : FnScope N_value_at ["table", "arguments"] (defScope s_value_at) := ⟨rfl, rfl, rfl, by decide +kernel, rfl, by decide +kernel, by decide +kernel⟩
noncomputable abbrev s_counts_at : Stmt := topS 20
noncomputable abbrev N_counts_at : List Str := ["table", "place", "some", "changed", "each", "other"]
theorem sc_counts_at : FnScope N_counts_at ["table", "place"] (defScope s_counts_at) := ⟨rfl, rfl, rfl, by decide +kernel, rfl, by decide +kernel, by decide +kernel⟩
noncomputable abbrev s_counting_of : Stmt := topS 21
noncomputable abbrev N_counting_of : List Str := ["table", "place"]
theorem sc_counting_of : FnScope N_counting_of ["table"] (defScope s_counting_of) := ⟨rfl, rfl, rfl, by decide +kernel, rfl, by decide +kernel, by decide +kernel⟩
noncomputable abbrev s_is_full : Stmt := topS 22
noncomputable abbrev N_is_full : List Str := ["table", "sign"]
theorem sc_is_full : FnScope N_is_full ["table"] (defScope s_is_full) := ⟨rfl, rfl, rfl, by decide +kernel, rfl, by decide +kernel, by decide +kernel⟩
noncomputable abbrev s_is_integer : Stmt := topS 11
noncomputable abbrev N_is_integer : List Str := ["value"]
theorem sc_is_integer : FnScope N_is_integer ["value"] (defScope s_is_integer) := ⟨rfl, rfl, rfl, by decide +kernel, rfl, by decide +kernel, by decide +kernel⟩
noncomputable abbrev s_is_between : Stmt := topS 12
noncomputable abbrev N_is_between : List Str := ["value", "least", "most"]
theorem sc_is_between : FnScope N_is_between ["value", "least", "most"] (defScope s_is_between) := ⟨rfl, rfl, rfl, by decide +kernel, rfl, by decide +kernel, by decide +kernel⟩
noncomputable abbrev s_is_step : Stmt := topS 48
noncomputable abbrev N_is_step : List Str := ["box", "value", "many", "at"]
theorem sc_is_step : FnScope N_is_step ["box", "value", "many"] (defScope s_is_step) := ⟨rfl, rfl, rfl, by decide +kernel, rfl, by decide +kernel, by decide +kernel⟩
noncomputable abbrev s_put_in : Stmt := topS 23
noncomputable abbrev N_put_in : List Str := ["table", "some", "count", "found", "arguments", "other"]
theorem sc_put_in : FnScope N_put_in ["table", "some"] (defScope s_put_in) := ⟨rfl, rfl, rfl, by decide +kernel, rfl, by decide +kernel, by decide +kernel⟩
noncomputable abbrev s_made_of : Stmt := topS 49
noncomputable abbrev N_made_of : List Str := ["box", "told", "found", "index", "step", "at"]
theorem sc_made_of : FnScope N_made_of ["box", "told"] (defScope s_made_of) := ⟨rfl, rfl, rfl, by decide +kernel, rfl, by decide +kernel, by decide +kernel⟩
noncomputable abbrev s_accepts_all : Stmt := topS 56
noncomputable abbrev N_accepts_all : List Str := ["box", "name", "told", "found", "wrong", "table"]
theorem sc_accepts_all : FnScope N_accepts_all ["box", "name", "told"] (defScope s_accepts_all) := ⟨rfl, rfl, rfl, by decide +kernel, rfl, by decide +kernel, by decide +kernel⟩
noncomputable abbrev s_Box__tables : Stmt := inClass (topS 30) 5
noncomputable abbrev N_Box__tables : List Str := ["self", "name"]
theorem sc_Box__tables : FnScope N_Box__tables ["self"] (defScope s_Box__tables) := ⟨rfl, rfl, rfl, by decide +kernel, rfl, by decide +kernel, by decide +kernel⟩
noncomputable abbrev s_all_rows : Stmt := topS 43
noncomputable abbrev N_all_rows : List Str := ["some", "count", "first", "rest"]
noncomputable abbrev s_chain_of : Stmt := topS 37
noncomputable abbrev N_chain_of : List Str := ["middle", "others", "each"]
theorem sc_chain_of : FnScope N_chain_of ["middle"] (defScope s_chain_of) := ⟨rfl, rfl, rfl, by decide +kernel, rfl, by decide +kernel, by decide +kernel⟩
noncomputable abbrev s_is_in_pairs : Stmt := topS 38
noncomputable abbrev N_is_in_pairs : List Str := ["word", "pair", "chain", "first", "second", "kind", "told"]
theorem sc_is_in_pairs : FnScope N_is_in_pairs ["word", "pair"] (defScope s_is_in_pairs) := ⟨rfl, rfl, rfl, by decide +kernel, rfl, by decide +kernel, by decide +kernel⟩
noncomputable abbrev s_is_in : Stmt := topS 39
noncomputable abbrev N_is_in : List Str := ["word", "some"]
theorem sc_is_in : FnScope N_is_in ["word", "some"] (defScope s_is_in) := ⟨rfl, rfl, rfl, by decide +kernel, rfl, by decide +kernel, by decide +kernel⟩
noncomputable abbrev s_made_by : Stmt := topS 42
noncomputable abbrev N_made_by : List Str := ["table", "rows", "at", "row"]
theorem sc_made_by : FnScope N_made_by ["table", "rows"] (defScope s_made_by) := ⟨rfl, rfl, rfl, by decide +kernel, rfl, by decide +kernel, by decide +kernel⟩
noncomputable abbrev s_length_of : Stmt := topS 40
noncomputable abbrev N_length_of : List Str := ["word"]
theorem sc_length_of : FnScope N_length_of ["word"] (defScope s_length_of) := ⟨rfl, rfl, rfl, by decide +kernel, rfl, by decide +kernel, by decide +kernel⟩
noncomputable abbrev s_relation_of : Stmt := topS 41
noncomputable abbrev N_relation_of : List Str := ["word", "some"]
theorem sc_relation_of : FnScope N_relation_of ["word"] (defScope s_relation_of) := ⟨rfl, rfl, rfl, by decide +kernel, rfl, by decide +kernel, by decide +kernel⟩
noncomputable abbrev s_out_of : Stmt := topS 44
noncomputable abbrev N_out_of : List Str := ["table", "word", "some", "rows"]
theorem sc_out_of : FnScope N_out_of ["table", "word"] (defScope s_out_of) := ⟨rfl, rfl, rfl, by decide +kernel, rfl, by decide +kernel, by decide +kernel⟩
noncomputable abbrev s_is_kept : Stmt := topS 45
noncomputable abbrev N_is_kept : List Str := ["table", "word"]
theorem sc_is_kept : FnScope N_is_kept ["table", "word"] (defScope s_is_kept) := ⟨rfl, rfl, rfl, by decide +kernel, rfl, by decide +kernel, by decide +kernel⟩
noncomputable abbrev s_is_nothing : Stmt := topS 53
noncomputable abbrev N_is_nothing : List Str := ["value"]
theorem sc_is_nothing : FnScope N_is_nothing ["value"] (defScope s_is_nothing) := ⟨rfl, rfl, rfl, by decide +kernel, rfl, by decide +kernel, by decide +kernel⟩
noncomputable abbrev s_is_word : Stmt := topS 36
noncomputable abbrev N_is_word : List Str := ["value"]
theorem sc_is_word : FnScope N_is_word ["value"] (defScope s_is_word) := ⟨rfl, rfl, rfl, by decide +kernel, rfl, by decide +kernel, by decide +kernel⟩
noncomputable abbrev s_accepts_kept : Stmt := topS 58
noncomputable abbrev N_accepts_kept : List Str := ["box", "word", "certificate", "table"]
theorem sc_accepts_kept : FnScope N_accepts_kept ["box", "word", "certificate"] (defScope s_accepts_kept) := ⟨rfl, rfl, rfl, by decide +kernel, rfl, by decide +kernel, by decide +kernel⟩
noncomputable abbrev s_is_table : Stmt := topS 14
noncomputable abbrev N_is_table : List Str := ["value", "sign", "count"]
theorem sc_is_table : FnScope N_is_table ["value"] (defScope s_is_table) := ⟨rfl, rfl, rfl, by decide +kernel, rfl, by decide +kernel, by decide +kernel⟩
noncomputable abbrev s_accepts_made : Stmt := topS 57
noncomputable abbrev N_accepts_made : List Str := ["box", "table", "told", "found", "wrong"]
theorem sc_accepts_made : FnScope N_accepts_made ["box", "table", "told"] (defScope s_accepts_made) := ⟨rfl, rfl, rfl, by decide +kernel, rfl, by decide +kernel, by decide +kernel⟩
noncomputable abbrev s_is_plain : Stmt := topS 55
noncomputable abbrev N_is_plain : List Str := ["row", "each"]
theorem sc_is_plain : FnScope N_is_plain ["row"] (defScope s_is_plain) := ⟨rfl, rfl, rfl, by decide +kernel, rfl, by decide +kernel, by decide +kernel⟩
noncomputable abbrev s_accepts_out : Stmt := topS 54
noncomputable abbrev N_accepts_out : List Str := ["claim", "certificate", "some", "table", "word", "rows", "row"]
theorem sc_accepts_out : FnScope N_accepts_out ["claim", "certificate"] (defScope s_accepts_out) := ⟨rfl, rfl, rfl, by decide +kernel, rfl, by decide +kernel, by decide +kernel⟩
noncomputable abbrev s_is_short : Stmt := topS 27
noncomputable abbrev N_is_short : List Str := ["value", "most", "sign"]
theorem sc_is_short : FnScope N_is_short ["value", "most"] (defScope s_is_short) := ⟨rfl, rfl, rfl, by decide +kernel, rfl, by decide +kernel, by decide +kernel⟩
noncomputable abbrev s_row_in : Stmt := topS 28
noncomputable abbrev N_row_in : List Str := ["row", "words"]
theorem sc_row_in : FnScope N_row_in ["row"] (defScope s_row_in) := ⟨rfl, rfl, rfl, by decide +kernel, rfl, by decide +kernel, by decide +kernel⟩
noncomputable abbrev s_wrong_rows : Stmt := topS 29
noncomputable abbrev N_wrong_rows : List Str := ["rows", "known", "index", "row", "found"]
theorem sc_wrong_rows : FnScope N_wrong_rows ["rows"] (defScope s_wrong_rows) := ⟨rfl, rfl, rfl, by decide +kernel, rfl, by decide +kernel, by decide +kernel⟩
noncomputable abbrev s_Box__init : Stmt := inClass (topS 30) 0
noncomputable abbrev N_Box__init : List Str := ["self", "rows", "wrong", "row"]
theorem sc_Box__init : FnScope N_Box__init ["self", "rows"] (defScope s_Box__init) := ⟨rfl, rfl, rfl, by decide +kernel, rfl, by decide +kernel, by decide +kernel⟩
noncomputable abbrev s_box_from : Stmt := topS 31
noncomputable abbrev N_box_from : List Str := ["text", "rows"]
theorem sc_box_from : FnScope N_box_from ["text"] (defScope s_box_from) := ⟨rfl, rfl, rfl, by decide +kernel, rfl, by decide +kernel, by decide +kernel⟩
noncomputable abbrev s_Box__read : Stmt := inClass (topS 30) 1
noncomputable abbrev N_Box__read : List Str := ["cls", "text"]
theorem sc_Box__read : FnScope N_Box__read ["cls", "text"] (defScope s_Box__read) := ⟨rfl, rfl, rfl, by decide +kernel, rfl, by decide +kernel, by decide +kernel⟩
noncomputable abbrev s_box_told : Stmt := topS 52
noncomputable abbrev N_box_told : List Str := ["text", "found"]
theorem sc_box_told : FnScope N_box_told ["text"] (defScope s_box_told) := ⟨rfl, rfl, rfl, by decide +kernel, rfl, by decide +kernel, by decide +kernel⟩
noncomputable abbrev s_accepts : Stmt := topS 59
noncomputable abbrev N_accepts : List Str := ["claim", "certificate", "box"]
theorem sc_accepts : FnScope N_accepts ["claim", "certificate"] (defScope s_accepts) := ⟨rfl, rfl, rfl, by decide +kernel, rfl, by decide +kernel, by decide +kernel⟩
noncomputable abbrev s__law_judged : Stmt := topS 70
noncomputable abbrev N__law_judged : List Str := ["asked", "paper", "due"]
theorem sc__law_judged : FnScope N__law_judged ["asked", "paper", "due"] (defScope s__law_judged) := ⟨rfl, rfl, rfl, by decide +kernel, rfl, by decide +kernel, by decide +kernel⟩
noncomputable abbrev s__law_draw : Stmt := topS 62
noncomputable abbrev N__law_draw : List Str := ["spring", "size", "far", "mixed", "digit"]
theorem sc__law_draw : FnScope N__law_draw ["spring", "size"] (defScope s__law_draw) := ⟨rfl, rfl, rfl, by decide +kernel, rfl, by decide +kernel, by decide +kernel⟩
noncomputable abbrev s__law_of : Stmt := topS 63
noncomputable abbrev N__law_of : List Str := ["spring", "menu"]
theorem sc__law_of : FnScope N__law_of ["spring", "menu"] (defScope s__law_of) := ⟨rfl, rfl, rfl, by decide +kernel, rfl, by decide +kernel, by decide +kernel⟩
noncomputable abbrev s__law_odd_part : Stmt := topS 72
noncomputable abbrev N__law_odd_part : List Str := ["spring", "some"]
theorem sc__law_odd_part : FnScope N__law_odd_part ["spring"] (defScope s__law_odd_part) := ⟨rfl, rfl, rfl, by decide +kernel, rfl, by decide +kernel, by decide +kernel⟩
noncomputable abbrev s__law_put_in : Stmt := topS 73
noncomputable abbrev N__law_put_in : List Str := ["spring", "thing", "odd", "at"]
theorem sc__law_put_in : FnScope N__law_put_in ["spring", "thing", "odd"] (defScope s__law_put_in) := ⟨rfl, rfl, rfl, by decide +kernel, rfl, by decide +kernel, by decide +kernel⟩
noncomputable abbrev s__law_right : Stmt := topS 74
noncomputable abbrev N__law_right : List Str := ["spring", "full", "bank", "asked", "paper", "some", "wrong", "other_word", "pages", "odd", "mate"]
theorem sc__law_right : FnScope N__law_right ["spring"] (defScope s__law_right) := ⟨rfl, rfl, rfl, by decide +kernel, rfl, by decide +kernel, by decide +kernel⟩
noncomputable abbrev s__law_spring : Stmt := topS 61
noncomputable abbrev N__law_spring : List Str := ["cells", "k", "cell", "mixed", "number"]
theorem sc__law_spring : FnScope N__law_spring ["cells", "k"] (defScope s__law_spring) := ⟨rfl, rfl, rfl, by decide +kernel, rfl, by decide +kernel, by decide +kernel⟩
noncomputable abbrev s_law : Stmt := topS 75
noncomputable abbrev N_law : List Str := ["cells", "k"]
theorem sc_law : FnScope N_law ["cells"] (defScope s_law) := ⟨rfl, rfl, rfl, by decide +kernel, rfl, by decide +kernel, by decide +kernel⟩
/-- what the top has left -/
structure Txt (P : Program) (w : World) (K : PySem.W.Frag) (mg : Str → Option Value) (cl : ClT) : Prop where
  a__law_bank : At K mg "_law_bank" s__law_bank
  a__law_places : At K mg "_law_places" s__law_places
  a__law_at : At K mg "_law_at" s__law_at
  a__law_tuples : At K mg "_law_tuples" s__law_tuples
  a__law_put : At K mg "_law_put" s__law_put
  a__law_rows_of : At K mg "_law_rows_of" s__law_rows_of
  a__law_closing : At K mg "_law_closing" s__law_closing
  a_all_arguments : At K mg "all_arguments" s_all_arguments
  a_table_from : At K mg "table_from" s_table_from
  a_all_tables : At K mg "all_tables" s_all_tables
  a_size_of : At K mg "size_of" s_size_of
  a_places_of : At K mg "places_of" s_places_of
  a_index_of : At K mg "index_of" s_index_of
  a_value_at : At K mg "value_at" s_value_at
  a_counts_at : At K mg "counts_at" s_counts_at
  a_counting_of : At K mg "counting_of" s_counting_of
  a_is_full : At K mg "is_full" s_is_full
  a_is_integer : At K mg "is_integer" s_is_integer
  a_is_between : At K mg "is_between" s_is_between
  a_is_step : At K mg "is_step" s_is_step
  a_put_in : At K mg "put_in" s_put_in
  a_made_of : At K mg "made_of" s_made_of
  a_accepts_all : At K mg "accepts_all" s_accepts_all
  a_all_rows : At K mg "all_rows" s_all_rows
  a_chain_of : At K mg "chain_of" s_chain_of
  a_is_in_pairs : At K mg "is_in_pairs" s_is_in_pairs
  a_is_in : At K mg "is_in" s_is_in
  a_made_by : At K mg "made_by" s_made_by
  a_length_of : At K mg "length_of" s_length_of
  a_relation_of : At K mg "relation_of" s_relation_of
  a_out_of : At K mg "out_of" s_out_of
  a_is_kept : At K mg "is_kept" s_is_kept
  a_is_nothing : At K mg "is_nothing" s_is_nothing
  a_is_word : At K mg "is_word" s_is_word
  a_accepts_kept : At K mg "accepts_kept" s_accepts_kept
  a_is_table : At K mg "is_table" s_is_table
  a_accepts_made : At K mg "accepts_made" s_accepts_made
  a_is_plain : At K mg "is_plain" s_is_plain
  a_accepts_out : At K mg "accepts_out" s_accepts_out
  a_is_short : At K mg "is_short" s_is_short
  a_row_in : At K mg "row_in" s_row_in
  a_wrong_rows : At K mg "wrong_rows" s_wrong_rows
  a_box_from : At K mg "box_from" s_box_from
  a_box_told : At K mg "box_told" s_box_told
  a_accepts : At K mg "accepts" s_accepts
  a__law_judged : At K mg "_law_judged" s__law_judged
  a__law_draw : At K mg "_law_draw" s__law_draw
  a__law_of : At K mg "_law_of" s__law_of
  a__law_odd_part : At K mg "_law_odd_part" s__law_odd_part
  a__law_put_in : At K mg "_law_put_in" s__law_put_in
  a__law_right : At K mg "_law_right" s__law_right
  a__law_spring : At K mg "_law_spring" s__law_spring
  a_law : At K mg "law" s_law
  z_abs : mg "abs" = none
  z_all : mg "all" = none
  z_bool : mg "bool" = none
  z_divmod : mg "divmod" = none
  z_enumerate : mg "enumerate" = none
  z_int : mg "int" = none
  z_isinstance : mg "isinstance" = none
  z_len : mg "len" = none
  z_list : mg "list" = none
  z_max : mg "max" = none
  z_min : mg "min" = none
  z_range : mg "range" = none
  z_repr : mg "repr" = none
  z_set : mg "set" = none
  z_str : mg "str" = none
  z_tuple : mg "tuple" = none
  g_MOST_PLACES : Cn mg "MOST_PLACES" (.int 3)
  g_DIGITS : Cn mg "DIGITS" (.str "012")
  g_PLAIN : Cn mg "PLAIN" (.str "012")
  g_WORDS : CnT K mg "WORDS" ["set 0", "set 1", "set 2", "set 01", "set 02", "set 12", "part 0", "part 1", "part 2", "turn", "sums", "chain 0", "chain 1", "chain 2", "centre 0", "centre 1", "centre 2", "mixed"]
  g_LETTERS : Cn mg "LETTERS" (.str "abcdefghijklmnopqrstuvwxyz")
  g_MOST_LETTERS : Cn mg "MOST_LETTERS" (.int 4)
  g_MOST_TABLES : Cn mg "MOST_TABLES" (.int 6)
  i_bool : IsiT K "bool"
  i_int : IsiT K "int"
  i_str : IsiT K "str"
  i_tuple : IsiT K "tuple"
  c_Box : Cls K (cl.f 100)
  gi_Box : mg "Box" = some (.ref (cl.f 100))
  g2_Box : mg "Box" = some (.ref (cl.f 2000))
  rd_Box : ClX.CRead K (cl.f 2000) (.type "type")
  fld_held : HasF K cl "held" tf_held
  fld_told : HasF K cl "told" tf_told
  me_Box__tables : PAt K (cl.f 100) "tables" "Box.tables" s_Box__tables
  me_Box__init : IAt K (cl.f 100) "Box.__init__" s_Box__init
  me_Box__read : CAt K (cl.f 2000) "read" "Box.read" s_Box__read
  k_LENGTHS : KdT K w mg "LENGTHS" tk_LENGTHS
  e1_InvalidText : Err1 K mg cl.f 0
  x_InvalidText : RaisX P K mg (xNm 0) "given"
  noS : mg "super" = none
section
variable {P : Program} {w : World} {K : PySem.W.Frag} {mg : Str → Option Value} {base : Heap} {cl : ClT}
theorem r_MOST_PLACES {N : Addr → Prop} {H : Hp} : Rep K cl N H (.int 3) g_MOST_PLACES := .int _
theorem r_DIGITS {N : Addr → Prop} {H : Hp} : Rep K cl N H (.str "012") g_DIGITS := .str _
theorem r_PLAIN {N : Addr → Prop} {H : Hp} : Rep K cl N H (.str "012") g_PLAIN := .str _
theorem r_LETTERS {N : Addr → Prop} {H : Hp} : Rep K cl N H (.str "abcdefghijklmnopqrstuvwxyz") g_LETTERS := .str _
theorem r_MOST_LETTERS {N : Addr → Prop} {H : Hp} : Rep K cl N H (.int 4) g_MOST_LETTERS := .int _
theorem r_MOST_TABLES {N : Addr → Prop} {H : Hp} : Rep K cl N H (.int 6) g_MOST_TABLES := .int _
theorem wf__law_bank (T : Txt P w K mg cl) (fa : Addr) (fd : FuncData) (F : Fun K "_law_bank" "_law_bank" s__law_bank fa fd) : FnG P w K mg base 1 fa fd [] (spF K cl 0 m__law_bank) :=
  fnD (b := b__law_bank) sc__law_bank (fun fa cdv A outer s H E g hr tk =>
    pms_cons (pm_asg (pm_tup (pm_cons pm_str (pm_cons pm_str pm_nil))) (pg_any (n := 2) rfl (pgs_cons (pg_name (i := 1) sc__law_bank.nd rfl (by first | exact Or.inl rfl | exact Or.inr rfl)) (pgs_cons (pg_name (i := 2) sc__law_bank.nd rfl (by first | exact Or.inl rfl | exact Or.inr rfl)) pgs_nil))) (tg_any (tgs_cons (tg_name 1) (tgs_cons (tg_name 2) tgs_nil)))) (pms_cons (pm_set 0 sc__law_bank.nd (pm_lst false (pm_cons (pm_tup (pm_cons (pm_tup (pm_cons pm_str (pm_cons (pm_v 1) (pm_cons pm_str pm_nil)))) (pm_cons (pm_tup pm_nil) pm_nil))) (pm_cons (pm_tup (pm_cons (pm_tup (pm_cons pm_str (pm_cons (pm_v 1) (pm_cons pm_str pm_nil)))) (pm_cons (pm_tup pm_nil) pm_nil))) (pm_cons (pm_tup (pm_cons (pm_tup (pm_cons pm_str (pm_cons pm_str (pm_cons pm_str pm_nil)))) (pm_cons (pm_tup pm_nil) pm_nil))) pm_nil))))) (pms_cons (pm_set 0 sc__law_bank.nd (pm_op op_addM (ok_add false) (pm_v 0) (pm_lst true (pm_cons (pm_tup (pm_cons (pm_tup (pm_cons pm_str (pm_cons pm_str (pm_cons pm_str (pm_cons (pm_tup (pm_cons (pm_tup (pm_cons pm_int (pm_cons pm_int pm_nil))) (pm_cons (pm_tup (pm_cons pm_int (pm_cons pm_int pm_nil))) pm_nil))) pm_nil))))) (pm_cons (pm_tup pm_nil) pm_nil))) (pm_cons (pm_tup (pm_cons (pm_tup (pm_cons pm_str (pm_cons pm_str (pm_cons pm_str (pm_cons (pm_tup (pm_cons (pm_tup (pm_cons pm_int pm_nil)) pm_nil)) pm_nil))))) (pm_cons (pm_tup pm_nil) pm_nil))) pm_nil))))) (pms_cons (pm_exp (pm_append (pm_v 0) (pm_tup (pm_cons (pm_tup (pm_cons pm_str (pm_cons pm_str (pm_cons pm_str (pm_cons (pm_tup (pm_cons (pm_tup (pm_cons pm_int (pm_cons pm_int pm_nil))) pm_nil)) pm_nil))))) (pm_cons (pm_tup pm_nil) pm_nil))))) (pms_cons (pm_set 0 sc__law_bank.nd (pm_op op_addM (ok_add false) (pm_v 0) (pm_lst true (pm_cons (pm_tup (pm_cons (pm_tup (pm_cons pm_str (pm_cons (pm_v 1) (pm_cons pm_str pm_nil)))) (pm_cons (pm_tup (pm_cons (pm_tup (pm_cons pm_str (pm_cons (pm_tup (pm_cons pm_int pm_nil)) pm_nil))) (pm_cons (pm_tup (pm_cons pm_str (pm_cons (pm_tup (pm_cons pm_int (pm_cons pm_int pm_nil))) pm_nil))) pm_nil))) pm_nil))) (pm_cons (pm_tup (pm_cons (pm_tup (pm_cons pm_str (pm_cons (pm_v 1) (pm_cons pm_str pm_nil)))) (pm_cons (pm_tup pm_nil) pm_nil))) pm_nil))))) (pms_cons (pm_exp (pm_append (pm_v 0) (pm_tup (pm_cons (pm_tup (pm_cons pm_str (pm_cons (pm_v 2) (pm_cons pm_str pm_nil)))) (pm_cons (pm_tup (pm_cons (pm_tup (pm_cons pm_str (pm_cons (pm_tup (pm_cons pm_int pm_nil)) pm_nil))) (pm_cons (pm_tup (pm_cons pm_str (pm_cons (pm_tup (pm_cons pm_int pm_nil)) pm_nil))) (pm_cons (pm_tup (pm_cons pm_str (pm_cons (pm_tup (pm_cons pm_int (pm_cons pm_int pm_nil))) pm_nil))) (pm_cons (pm_tup (pm_cons pm_str (pm_cons (pm_tup (pm_cons pm_int (pm_cons pm_int pm_nil))) pm_nil))) pm_nil))))) pm_nil))))) (pms_one (pm_ret (pm_v 0))))))))) fa fd F
theorem wk__law_bank (T : Txt P w K mg cl) : CalG P w K mg base cl 1 "_law_bank" 0 m__law_bank := calG_of T.a__law_bank (binds_of fun _ _ _ _ _ _ us hl => match us, hl with | [], _ => rfl) (wf__law_bank T)
theorem wf__law_places (T : Txt P w K mg cl) (fa : Addr) (fd : FuncData) (F : Fun K "_law_places" "_law_places" s__law_places fa fd) : FnG P w K mg base 1 fa fd ["sheet_now"] (spF K cl 1 m__law_places) :=
  fnD (b := b__law_places) sc__law_places (fun fa cdv A outer s H E g hr tk =>
    pms_one (pm_ret (pm_op op_addM (ok_add false) (pm_index (hu65 hr) (pm_lst true (pm_cons pm_int (pm_cons pm_int (pm_cons pm_int pm_nil)))) (pm_b (nm := "") call_len (ok_len) T.z_len (by rfl) (pm_cons (pm_v 0) pm_nil))) pm_int))) fa fd F
theorem wk__law_places (T : Txt P w K mg cl) : CalG P w K mg base cl 1 "_law_places" 1 m__law_places := calG_of T.a__law_places (binds_of fun _ _ _ _ _ _ us hl => match us, hl with | [_], _ => rfl) (wf__law_places T)
theorem wf__law_at (T : Txt P w K mg cl) (fa : Addr) (fd : FuncData) (F : Fun K "_law_at" "_law_at" s__law_at fa fd) : FnG P w K mg base 1 fa fd ["sheet_now", "some"] (spF K cl 2 m__law_at) :=
  fnD (b := b__law_at) sc__law_at (fun fa cdv A outer s H E g hr tk =>
    pms_cons (pm_set 2 sc__law_at.nd pm_int) (pms_cons (pm_forV (passes_of rfl) rfl (pm_v 1) (pg_name (i := 3) sc__law_at.nd rfl (by first | exact Or.inl rfl | exact Or.inr rfl)) (tg_name 3) (pms_one (pm_set 2 sc__law_at.nd (pm_op op_addM (ok_add true) (pm_op op_mulM (ok_mul true) pm_int (pm_v 2)) (pm_v 3))))) (pms_one (pm_ret (pm_t call_intM (ok_int) T.z_int (by rfl) (pm_cons (pm_ix ix_seq ok_ix (pm_v 0) (pm_v 2)) pm_nil)))))) fa fd F
theorem wk__law_at (T : Txt P w K mg cl) : CalG P w K mg base cl 1 "_law_at" 2 m__law_at := calG_of T.a__law_at (binds_of fun _ _ _ _ _ _ us hl => match us, hl with | [_, _], _ => rfl) (wf__law_at T)
theorem wf__law_tuples (T : Txt P w K mg cl) (fa : Addr) (fd : FuncData) (F : Fun K "_law_tuples" "_law_tuples" s__law_tuples fa fd) : FnG P w K mg base 1 fa fd ["size"] (spF K cl 1 m__law_tuples) :=
  fnD (b := b__law_tuples) sc__law_tuples (fun fa cdv A outer s H E g hr tk =>
    pms_cons (pm_set 1 sc__law_tuples.nd (pm_lst true (pm_cons (pm_tup pm_nil) pm_nil))) (pms_cons (pm_for (passes_of rfl) rfl (pi_r1 T.z_range (pm_v 0)) (pg_name (i := 2) sc__law_tuples.nd rfl (by first | exact Or.inl rfl | exact Or.inr rfl)) (tg_name 2) (pms_cons (pm_set 3 sc__law_tuples.nd (pm_lst true pm_nil)) (pms_cons (pm_forV (passes_of rfl) rfl (pm_v 1) (pg_name (i := 4) sc__law_tuples.nd rfl (by first | exact Or.inl rfl | exact Or.inr rfl)) (tg_name 4) (pms_one (pm_set 3 sc__law_tuples.nd (pm_op op_addM (ok_add true) (pm_v 3) (pm_lst true (pm_cons (pm_op op_addM (ok_add true) (pm_v 4) (pm_tup (pm_cons pm_int pm_nil))) (pm_cons (pm_op op_addM (ok_add true) (pm_v 4) (pm_tup (pm_cons pm_int pm_nil))) (pm_cons (pm_op op_addM (ok_add true) (pm_v 4) (pm_tup (pm_cons pm_int pm_nil))) pm_nil)))))))) (pms_one (pm_set 1 sc__law_tuples.nd (pm_v 3)))))) (pms_one (pm_ret (pm_v 1))))) fa fd F
theorem wk__law_tuples (T : Txt P w K mg cl) : CalG P w K mg base cl 1 "_law_tuples" 1 m__law_tuples := calG_of T.a__law_tuples (binds_of fun _ _ _ _ _ _ us hl => match us, hl with | [_], _ => rfl) (wf__law_tuples T)
theorem wf__law_put (T : Txt P w K mg cl) (fa : Addr) (fd : FuncData) (F : Fun K "_law_put" "_law_put" s__law_put fa fd) : FnG P w K mg base 2 fa fd ["sheet_now", "some"] (spF K cl 2 m__law_put) :=
  fnD (b := b__law_put) sc__law_put (fun fa cdv A outer s H E g hr tk =>
    pms_cons (pm_set 2 sc__law_put.nd pm_str) (pms_cons (pm_for (passes_of rfl) rfl (pi_v (pm_call false (wk__law_tuples T) hr g tk (by rfl) (pm_cons (pm_call false (wk__law_places T) hr g tk (by rfl) (pm_cons (pm_ix ix_seq ok_ix (pm_v 1) pm_int) pm_nil)) pm_nil))) (pg_name (i := 3) sc__law_put.nd rfl (by first | exact Or.inl rfl | exact Or.inr rfl)) (tg_name 3) (pms_one (pm_set 2 sc__law_put.nd (pm_op op_addM (ok_add true) (pm_v 2) (pm_t call_strM (ok_str) T.z_str (by rfl) (pm_cons (pm_call false (wk__law_at T) hr g tk (by rfl) (pm_cons (pm_v 0) (pm_cons (pm_lcV true (own := [("other_sheet", 4)]) rfl sc__law_put.nd (pm_v 1) (blkOk_by (N := N__law_put) (sc := (defScope s__law_put)) (own := [("other_sheet", 4)]) (by decide +kernel)) (fun _ _ _ _ _ => (pg_name (i := 4) sc__law_put.nd rfl (by first | exact Or.inl rfl | exact Or.inr rfl))) (tgc_name 4 (by decide)) (fun _ _ _ _ _ => pts_nil) (fun _ _ _ => tYes_ok) (fun _ _ _ _ _ => (pm_call false (wk__law_at T) hr g takes0 (by rfl) (pm_cons (pm_v 4) (pm_cons (pm_v 3) pm_nil))))) pm_nil))) pm_nil)))))) (pms_one (pm_ret (pm_v 2))))) fa fd F
theorem wk__law_put (T : Txt P w K mg cl) : CalG P w K mg base cl 2 "_law_put" 2 m__law_put := calG_of T.a__law_put (binds_of fun _ _ _ _ _ _ us hl => match us, hl with | [_, _], _ => rfl) (wf__law_put T)
theorem wf__law_rows_of (T : Txt P w K mg cl) (fa : Addr) (fd : FuncData) (F : Fun K "_law_rows_of" "_law_rows_of" s__law_rows_of fa fd) : FnG P w K mg base 1 fa fd ["some", "size"] (spF K cl 2 m__law_rows_of) :=
  fnD (b := b__law_rows_of) sc__law_rows_of (fun fa cdv A outer s H E g hr tk =>
    pms_cons (pm_set 2 sc__law_rows_of.nd (pm_lst true (pm_cons (pm_lst true pm_nil) pm_nil))) (pms_cons (pm_for (passes_of rfl) rfl (pi_r1 T.z_range (pm_v 1)) (pg_name (i := 3) sc__law_rows_of.nd rfl (by first | exact Or.inl rfl | exact Or.inr rfl)) (tg_name 3) (pms_cons (pm_set 4 sc__law_rows_of.nd (pm_lst true pm_nil)) (pms_cons (pm_forV (passes_of rfl) rfl (pm_v 2) (pg_name (i := 5) sc__law_rows_of.nd rfl (by first | exact Or.inl rfl | exact Or.inr rfl)) (tg_name 5) (pms_one (pm_set 4 sc__law_rows_of.nd (pm_op op_addM (ok_add true) (pm_v 4) (pm_lcV true (own := [("each", 6)]) rfl sc__law_rows_of.nd (pm_v 0) (blkOk_by (N := N__law_rows_of) (sc := (defScope s__law_rows_of)) (own := [("each", 6)]) (by decide +kernel)) (fun _ _ _ _ _ => (pg_name (i := 6) sc__law_rows_of.nd rfl (by first | exact Or.inl rfl | exact Or.inr rfl))) (tgc_name 6 (by decide)) (fun _ _ _ _ _ => pts_nil) (fun _ _ _ => tYes_ok) (fun _ _ _ _ _ => (pm_op op_addM (ok_add true) (pm_v 5) (pm_lst true (pm_cons (pm_v 6) pm_nil))))))))) (pms_one (pm_set 2 sc__law_rows_of.nd (pm_v 4)))))) (pms_one (pm_ret (pm_v 2))))) fa fd F
theorem wk__law_rows_of (T : Txt P w K mg cl) : CalG P w K mg base cl 1 "_law_rows_of" 2 m__law_rows_of := calG_of T.a__law_rows_of (binds_of fun _ _ _ _ _ _ us hl => match us, hl with | [_, _], _ => rfl) (wf__law_rows_of T)
theorem wf__law_closing (T : Txt P w K mg cl) (fa : Addr) (fd : FuncData) (F : Fun K "_law_closing" "_law_closing" s__law_closing fa fd) : FnG P w K mg base 3 fa fd ["rows_now"] (spF K cl 1 m__law_closing) :=
  fnD (b := b__law_closing) sc__law_closing (fun fa cdv A outer s H E g hr tk =>
    pms_cons (pm_parC3 2 3 4 rfl sc__law_closing.nd (pm_cons (pm_lst false (pm_cons pm_str pm_nil)) (pm_cons (pm_lst false pm_nil) (pm_cons pm_int pm_nil)))) (pms_cons (pm_for (passes_of rfl) rfl (pi_r1 T.z_range pm_int) (pg_name (i := 1) sc__law_closing.nd rfl (by first | exact Or.inl rfl | exact Or.inr rfl)) (tg_name 1) (pms_cons (pm_set 5 sc__law_closing.nd (pm_b (nm := "") call_len (ok_len) T.z_len (by rfl) (pm_cons (pm_v 2) pm_nil))) (pms_cons (pm_forV (passes_of rfl) rfl (pm_v 0) (pg_name (i := 6) sc__law_closing.nd rfl (by first | exact Or.inl rfl | exact Or.inr rfl)) (tg_name 6) (pms_cons (pm_asg (pm_split true (pm_v 6) pm_str) (pg_any (n := 2) rfl (pgs_cons (pg_name (i := 8) sc__law_closing.nd rfl (by first | exact Or.inl rfl | exact Or.inr rfl)) (pgs_cons (pg_name (i := 9) sc__law_closing.nd rfl (by first | exact Or.inl rfl | exact Or.inr rfl)) pgs_nil))) (tg_any (tgs_cons (tg_name 8) (tgs_cons (tg_name 9) tgs_nil)))) (pms_one (pm_for (passes_of rfl) rfl (pi_v (pm_call false (wk__law_rows_of T) hr g tk (by rfl) (pm_cons (pm_listR true T.z_list T.z_range (pm_v 5) rfl) (pm_cons (pm_call false (wk__law_places T) hr g tk (by rfl) (pm_cons (pm_v 9) pm_nil)) pm_nil)))) (pg_name (i := 7) sc__law_closing.nd rfl (by first | exact Or.inl rfl | exact Or.inr rfl)) (tg_name 7) (pms_cons (pm_set 10 sc__law_closing.nd (pm_if (pt_cmpM op_ge ok_fGe (pm_b (nm := "") (cr_maxT rfl) (ok_maxT) T.z_max (by rfl) (pm_cons (pm_v 7) pm_nil)) (pm_v 4)) (pm_call false (wk__law_put T) hr g tk (by rfl) (pm_cons (pm_v 9) (pm_cons (pm_lcV true (own := [("k", 11)]) rfl sc__law_closing.nd (pm_v 7) (blkOk_by (N := N__law_closing) (sc := (defScope s__law_closing)) (own := [("k", 11)]) (by decide +kernel)) (fun _ _ _ _ _ => (pg_name (i := 11) sc__law_closing.nd rfl (by first | exact Or.inl rfl | exact Or.inr rfl))) (tgc_name 11 (by decide)) (fun _ _ _ _ _ => pts_nil) (fun _ _ _ => tYes_ok) (fun _ _ _ _ _ => (pm_ix ix_seq ok_ix (pm_v 2) (pm_v 11)))) pm_nil))) pm_str)) (pms_one (pm_ifs (pt_cmpM (op_notInM (hu65 hr)) ok_notIn (pm_v 10) (pm_v 2)) (pms_cons (pm_exp (pm_append (pm_v 2) (pm_v 10))) (pms_one (pm_exp (pm_append (pm_v 3) (pm_tup (pm_cons (pm_v 8) (pm_cons (pm_t call_tupleZ (ok_tuple) T.z_tuple (by rfl) (pm_cons (pm_v 7) pm_nil)) pm_nil))))))) pms_nil))))))) (pms_cons (pm_set 4 sc__law_closing.nd (pm_v 5)) (pms_one (pm_ifs (pt_cmpM (op_eqM (hu64 hr)) ok_eq (pm_b (nm := "") call_len (ok_len) T.z_len (by rfl) (pm_cons (pm_v 2) pm_nil)) (pm_v 5)) (pms_one (pm_ret (pm_t call_tupleZ (ok_tuple) T.z_tuple (by rfl) (pm_cons (pm_v 3) pm_nil)))) pms_nil)))))) (pms_one (pm_ret (pm_t call_tupleZ (ok_tuple) T.z_tuple (by rfl) (pm_cons (pm_v 3) pm_nil)))))) fa fd F
theorem wk__law_closing (T : Txt P w K mg cl) : CalG P w K mg base cl 3 "_law_closing" 1 m__law_closing := calG_of T.a__law_closing (binds_of fun _ _ _ _ _ _ us hl => match us, hl with | [_], _ => rfl) (wf__law_closing T)
theorem wf_all_arguments (T : Txt P w K mg cl) (fa : Addr) (fd : FuncData) (F : Fun K "all_arguments" "all_arguments" s_all_arguments fa fd) : FnG P w K mg base 1 fa fd ["count"] (spF K cl 1 m_all_arguments) :=
  fnD (b := b_all_arguments) sc_all_arguments (fun fa cdv A outer s H E g hr tk =>
    pms_cons (pm_set 1 sc_all_arguments.nd (pm_lst true (pm_cons (pm_tup pm_nil) pm_nil))) (pms_cons (pm_for (passes_of rfl) rfl (pi_r1 T.z_range (pm_v 0)) (pg_name (i := 2) sc_all_arguments.nd rfl (by first | exact Or.inl rfl | exact Or.inr rfl)) (tg_name 2) (pms_one (pm_setLc2 true 1 (own := [("some", 3), ("each", 4)]) rfl sc_all_arguments.nd (sw_true rfl rfl rfl (by decide +kernel)) (pi_v (pm_v 1)) (blkOk_by (N := N_all_arguments) (sc := (defScope s_all_arguments)) (own := [("some", 3), ("each", 4)]) (by decide +kernel)) (vs1 := [4]) (by decide) (fun _ _ _ _ _ => (pg_name (i := 3) sc_all_arguments.nd rfl (by first | exact Or.inl rfl | exact Or.inr rfl))) (tgc_name 3 (by decide)) (fun _ _ _ _ _ => pts_nil) (fun _ _ _ => tYes_ok) (fun _ _ _ _ _ => (pi_r1 T.z_range pm_int)) (fun _ _ _ _ _ => (pg_name (i := 4) sc_all_arguments.nd rfl (by first | exact Or.inl rfl | exact Or.inr rfl))) (tgc_name 4 (by decide)) (fun _ _ _ _ _ => pts_nil) (fun _ _ _ => tYes_ok) (fun _ _ _ _ _ => (pm_tup (pm_star (pm_v 3) (pm_cons (pm_v 4) pm_nil))))))) (pms_one (pm_ret (pm_v 1))))) fa fd F
theorem wk_all_arguments (T : Txt P w K mg cl) : CalG P w K mg base cl 1 "all_arguments" 1 m_all_arguments := calG_of T.a_all_arguments (binds_of fun _ _ _ _ _ _ us hl => match us, hl with | [_], _ => rfl) (wf_all_arguments T)
theorem wf_table_from (T : Txt P w K mg cl) (fa : Addr) (fd : FuncData) (F : Fun K "table_from" "table_from" s_table_from fa fd) : FnG P w K mg base 1 fa fd ["values"] (spF K cl 1 m_table_from) :=
  fnD (b := b_table_from) sc_table_from (fun fa cdv A outer s H E g hr tk =>
    pms_one (pm_ret (pm_join pm_str (pm_lcV true (own := [("each", 1)]) rfl sc_table_from.nd (pm_v 0) (blkOk_by (N := N_table_from) (sc := (defScope s_table_from)) (own := [("each", 1)]) (by decide +kernel)) (fun _ _ _ _ _ => (pg_name (i := 1) sc_table_from.nd rfl (by first | exact Or.inl rfl | exact Or.inr rfl))) (tgc_name 1 (by decide)) (fun _ _ _ _ _ => pts_nil) (fun _ _ _ => tYes_ok) (fun _ _ _ _ _ => (pm_t call_strM (ok_str) T.z_str (by rfl) (pm_cons (pm_v 1) pm_nil))))))) fa fd F
theorem wk_table_from (T : Txt P w K mg cl) : CalG P w K mg base cl 1 "table_from" 1 m_table_from := calG_of T.a_table_from (binds_of fun _ _ _ _ _ _ us hl => match us, hl with | [_], _ => rfl) (wf_table_from T)
theorem wf_all_tables (T : Txt P w K mg cl) (fa : Addr) (fd : FuncData) (F : Fun K "all_tables" "all_tables" s_all_tables fa fd) : FnG P w K mg base 2 fa fd [] (spF K cl 0 m_all_tables) :=
  fnD (b := b_all_tables) sc_all_tables (fun fa cdv A outer s H E g hr tk =>
    pms_one (pm_ret (pm_t call_tupleZ (ok_tuple) T.z_tuple (by rfl) (pm_cons (pm_lc true (own := [("some", 0)]) rfl sc_all_tables.nd (pi_v (pm_call false (wk_all_arguments T) hr g tk (by rfl) (pm_cons pm_int pm_nil))) (blkOk_by (N := N_all_tables) (sc := (defScope s_all_tables)) (own := [("some", 0)]) (by decide +kernel)) (fun _ _ _ _ _ => (pg_name (i := 0) sc_all_tables.nd rfl (by first | exact Or.inl rfl | exact Or.inr rfl))) (tgc_name 0 (by decide)) (fun _ _ _ _ _ => pts_nil) (fun _ _ _ => tYes_ok) (fun _ _ _ _ _ => (pm_call false (wk_table_from T) hr g takes0 (by rfl) (pm_cons (pm_v 0) pm_nil)))) pm_nil)))) fa fd F
theorem wk_all_tables (T : Txt P w K mg cl) : CalG P w K mg base cl 2 "all_tables" 0 m_all_tables := calG_of T.a_all_tables (binds_of fun _ _ _ _ _ _ us hl => match us, hl with | [], _ => rfl) (wf_all_tables T)
theorem wf_size_of (T : Txt P w K mg cl) (fa : Addr) (fd : FuncData) (F : Fun K "size_of" "size_of" s_size_of fa fd) : FnG P w K mg base 1 fa fd ["count"] (spF K cl 1 m_size_of) :=
  fnD (b := b_size_of) sc_size_of (fun fa cdv A outer s H E g hr tk =>
    pms_cons (pm_set 1 sc_size_of.nd pm_int) (pms_cons (pm_for (passes_of rfl) rfl (pi_r1 T.z_range (pm_v 0)) (pg_name (i := 2) sc_size_of.nd rfl (by first | exact Or.inl rfl | exact Or.inr rfl)) (tg_name 2) (pms_one (pm_set 1 sc_size_of.nd (pm_op op_mulM (ok_mul true) (pm_v 1) pm_int)))) (pms_one (pm_ret (pm_v 1))))) fa fd F
theorem wk_size_of (T : Txt P w K mg cl) : CalG P w K mg base cl 1 "size_of" 1 m_size_of := calG_of T.a_size_of (binds_of fun _ _ _ _ _ _ us hl => match us, hl with | [_], _ => rfl) (wf_size_of T)
theorem wf_places_of (T : Txt P w K mg cl) (fa : Addr) (fd : FuncData) (F : Fun K "places_of" "places_of" s_places_of fa fd) : FnG P w K mg base 2 fa fd ["table"] (spF K cl 1 m_places_of) :=
  fnD (b := b_places_of) sc_places_of (fun fa cdv A outer s H E g hr tk =>
    pms_one (pm_ret (pm_ix ix_seq ok_ix (pm_lc true (own := [("count", 1)]) rfl sc_places_of.nd (pi_r1 T.z_range (pm_g (by exact T.g_MOST_PLACES) (fun _ _ => r_MOST_PLACES))) (blkOk_by (N := N_places_of) (sc := (defScope s_places_of)) (own := [("count", 1)]) (by decide +kernel)) (fun _ _ _ _ _ => (pg_name (i := 1) sc_places_of.nd rfl (by first | exact Or.inl rfl | exact Or.inr rfl))) (tgc_name 1 (by decide)) (fun _ _ _ _ _ => (pts_one (pt_cmpM (op_eqM (hu64 hr)) ok_eq (pm_call false (wk_size_of T) hr g takes0 (by rfl) (pm_cons (pm_op op_addM (ok_add true) (pm_v 1) pm_int) pm_nil)) (pm_b (nm := "") call_len (ok_len) T.z_len (by rfl) (pm_cons (pm_v 0) pm_nil))))) (fun _ _ _ h => h) (fun _ _ _ _ _ => (pm_op op_addM (ok_add true) (pm_v 1) pm_int))) pm_int))) fa fd F
theorem wk_places_of (T : Txt P w K mg cl) : CalG P w K mg base cl 2 "places_of" 1 m_places_of := calG_of T.a_places_of (binds_of fun _ _ _ _ _ _ us hl => match us, hl with | [_], _ => rfl) (wf_places_of T)
theorem wf_index_of (T : Txt P w K mg cl) (fa : Addr) (fd : FuncData) (F : Fun K "index_of" "index_of" s_index_of fa fd) : FnG P w K mg base 1 fa fd ["arguments"] (spF K cl 1 m_index_of) :=
  fnD (b := b_index_of) sc_index_of (fun fa cdv A outer s H E g hr tk =>
    pms_cons (pm_set 1 sc_index_of.nd pm_int) (pms_cons (pm_forV (passes_of rfl) rfl (pm_v 0) (pg_name (i := 2) sc_index_of.nd rfl (by first | exact Or.inl rfl | exact Or.inr rfl)) (tg_name 2) (pms_one (pm_set 1 sc_index_of.nd (pm_op op_addM (ok_add true) (pm_op op_mulM (ok_mul true) pm_int (pm_v 1)) (pm_v 2))))) (pms_one (pm_ret (pm_v 1))))) fa fd F
theorem wk_index_of (T : Txt P w K mg cl) : CalG P w K mg base cl 1 "index_of" 1 m_index_of := calG_of T.a_index_of (binds_of fun _ _ _ _ _ _ us hl => match us, hl with | [_], _ => rfl) (wf_index_of T)
theorem wf_value_at (T : Txt P w K mg cl) (fa : Addr) (fd : FuncData) (F : Fun K "value_at" "value_at" s_value_at fa fd) : FnG P w K mg base 2 fa fd ["table", "arguments"] (spF K cl 2 m_value_at) :=
  fnD (b := b_value_at) sc_value_at (fun fa cdv A outer s H E g hr tk =>
    pms_one (pm_ret (pm_t call_intM (ok_int) T.z_int (by rfl) (pm_cons (pm_ix ix_seq ok_ix (pm_v 0) (pm_call false (wk_index_of T) hr g tk (by rfl) (pm_cons (pm_v 1) pm_nil))) pm_nil)))) fa fd F
theorem wk_value_at (T : Txt P w K mg cl) : CalG P w K mg base cl 2 "value_at" 2 m_value_at := calG_of T.a_value_at (binds_of fun _ _ _ _ _ _ us hl => match us, hl with | [_, _], _ => rfl) (wf_value_at T)
theorem wf_counts_at (T : Txt P w K mg cl) (fa : Addr) (fd : FuncData) (F : Fun K "counts_at" "counts_at" s_counts_at fa fd) : FnG P w K mg base 3 fa fd ["table", "place"] (spF K cl 2 m_counts_at) :=
  fnD (b := b_counts_at) sc_counts_at (fun fa cdv A outer s H E g hr tk =>
    pms_cons (pm_for (passes_of rfl) rfl (pi_v (pm_call false (wk_all_arguments T) hr g tk (by rfl) (pm_cons (pm_call false (wk_places_of T) hr g tk (by rfl) (pm_cons (pm_v 0) pm_nil)) pm_nil))) (pg_name (i := 2) sc_counts_at.nd rfl (by first | exact Or.inl rfl | exact Or.inr rfl)) (tg_name 2) (pms_cons (pm_setLc true 3 (own := [("each", 4)]) rfl sc_counts_at.nd (sw_true rfl rfl rfl (by decide +kernel)) (pi_r1 T.z_range pm_int) (blkOk_by (N := N_counts_at) (sc := (defScope s_counts_at)) (own := [("each", 4)]) (by decide +kernel)) (fun _ _ _ _ _ => (pg_name (i := 4) sc_counts_at.nd rfl (by first | exact Or.inl rfl | exact Or.inr rfl))) (tgc_name 4 (by decide)) (fun _ _ _ _ _ => pts_nil) (fun _ _ _ => tYes_ok) (fun _ _ _ _ _ => (pm_tup (pm_star (pm_slice true (pm_v 2) po_n (po_e (pm_v 1))) (pm_cons (pm_v 4) (pm_star (pm_slice true (pm_v 2) (po_e (pm_op op_addM (ok_add true) (pm_v 1) pm_int)) po_n) pm_nil)))))) (pms_one (pm_ifs (pt_cmpM op_gt ok_fGt (pm_lenSet T.z_len T.z_set (pm_lcV true (own := [("other", 5)]) rfl sc_counts_at.nd (pm_v 3) (blkOk_by (N := N_counts_at) (sc := (defScope s_counts_at)) (own := [("other", 5)]) (by decide +kernel)) (fun _ _ _ _ _ => (pg_name (i := 5) sc_counts_at.nd rfl (by first | exact Or.inl rfl | exact Or.inr rfl))) (tgc_name 5 (by decide)) (fun _ _ _ _ _ => pts_nil) (fun _ _ _ => tYes_ok) (fun _ _ _ _ _ => (pm_call false (wk_value_at T) hr g takes0 (by rfl) (pm_cons (pm_v 0) (pm_cons (pm_v 5) pm_nil))))) rfl) pm_int) (pms_one (pm_ret pm_bl)) pms_nil)))) (pms_one (pm_ret pm_bl))) fa fd F
theorem wk_counts_at (T : Txt P w K mg cl) : CalG P w K mg base cl 3 "counts_at" 2 m_counts_at := calG_of T.a_counts_at (binds_of fun _ _ _ _ _ _ us hl => match us, hl with | [_, _], _ => rfl) (wf_counts_at T)
theorem wf_counting_of (T : Txt P w K mg cl) (fa : Addr) (fd : FuncData) (F : Fun K "counting_of" "counting_of" s_counting_of fa fd) : FnG P w K mg base 4 fa fd ["table"] (spF K cl 1 m_counting_of) :=
  fnD (b := b_counting_of) sc_counting_of (fun fa cdv A outer s H E g hr tk =>
    pms_one (pm_ret (pm_t call_tupleZ (ok_tuple) T.z_tuple (by rfl) (pm_cons (pm_lc true (own := [("place", 1)]) rfl sc_counting_of.nd (pi_r1 T.z_range (pm_call false (wk_places_of T) hr g tk (by rfl) (pm_cons (pm_v 0) pm_nil))) (blkOk_by (N := N_counting_of) (sc := (defScope s_counting_of)) (own := [("place", 1)]) (by decide +kernel)) (fun _ _ _ _ _ => (pg_name (i := 1) sc_counting_of.nd rfl (by first | exact Or.inl rfl | exact Or.inr rfl))) (tgc_name 1 (by decide)) (fun _ _ _ _ _ => (pts_one (pt_truM (pm_call false (wk_counts_at T) hr g takes0 (by rfl) (pm_cons (pm_v 0) (pm_cons (pm_v 1) pm_nil)))))) (fun _ _ _ h => h) (fun _ _ _ _ _ => (pm_v 1))) pm_nil)))) fa fd F
theorem wk_counting_of (T : Txt P w K mg cl) : CalG P w K mg base cl 4 "counting_of" 1 m_counting_of := calG_of T.a_counting_of (binds_of fun _ _ _ _ _ _ us hl => match us, hl with | [_], _ => rfl) (wf_counting_of T)
theorem wf_is_full (T : Txt P w K mg cl) (fa : Addr) (fd : FuncData) (F : Fun K "is_full" "is_full" s_is_full fa fd) : FnG P w K mg base 1 fa fd ["table"] (spF K cl 1 m_is_full) :=
  fnD (b := b_is_full) sc_is_full (fun fa cdv A outer s H E g hr tk =>
    pms_one (pm_ret (pm_b (nm := "") (cr_all rfl) (ok_all) T.z_all (by rfl) (pm_cons (pm_lc true (own := [("sign", 1)]) rfl sc_is_full.nd (pi_v (pm_g (by exact T.g_DIGITS) (fun _ _ => r_DIGITS))) (blkOk_by (N := N_is_full) (sc := (defScope s_is_full)) (own := [("sign", 1)]) (by decide +kernel)) (fun _ _ _ _ _ => (pg_name (i := 1) sc_is_full.nd rfl (by first | exact Or.inl rfl | exact Or.inr rfl))) (tgc_name 1 (by decide)) (fun _ _ _ _ _ => pts_nil) (fun _ _ _ => tYes_ok) (fun _ _ _ _ _ => (pm_cmp (op_inM (hu65 hr)) ok_in (pm_v 1) (pm_v 0)))) pm_nil)))) fa fd F
theorem wk_is_full (T : Txt P w K mg cl) : CalG P w K mg base cl 1 "is_full" 1 m_is_full := calG_of T.a_is_full (binds_of fun _ _ _ _ _ _ us hl => match us, hl with | [_], _ => rfl) (wf_is_full T)
theorem wf_is_integer (T : Txt P w K mg cl) (fa : Addr) (fd : FuncData) (F : Fun K "is_integer" "is_integer" s_is_integer fa fd) : FnG P w K mg base 1 fa fd ["value"] (spF K cl 1 m_is_integer) :=
  fnD (b := b_is_integer) sc_is_integer (fun fa cdv A outer s H E g hr tk =>
    pms_one (pm_ret (pm_and (pm_isi T.i_int (pm_v 0) T.z_isinstance T.z_int (by rfl)) (pm_one (pm_not (pm_isi T.i_bool (pm_v 0) T.z_isinstance T.z_bool (by rfl))))))) fa fd F
theorem wk_is_integer (T : Txt P w K mg cl) : CalG P w K mg base cl 1 "is_integer" 1 m_is_integer := calG_of T.a_is_integer (binds_of fun _ _ _ _ _ _ us hl => match us, hl with | [_], _ => rfl) (wf_is_integer T)
theorem wf_is_between (T : Txt P w K mg cl) (fa : Addr) (fd : FuncData) (F : Fun K "is_between" "is_between" s_is_between fa fd) : FnG P w K mg base 2 fa fd ["value", "least", "most"] (spF K cl 3 m_is_between) :=
  fnD (b := b_is_between) sc_is_between (fun fa cdv A outer s H E g hr tk =>
    pms_one (pm_ret (pm_and (pm_call false (wk_is_integer T) hr g tk (by rfl) (pm_cons (pm_v 0) pm_nil)) (pm_one (pm_chain op_le op_le ok_fLe ok_fLe (pm_v 1) (pm_v 0) (pm_v 2)))))) fa fd F
theorem wk_is_between (T : Txt P w K mg cl) : CalG P w K mg base cl 2 "is_between" 3 m_is_between := calG_of T.a_is_between (binds_of fun _ _ _ _ _ _ us hl => match us, hl with | [_, _, _], _ => rfl) (wf_is_between T)
theorem wf_is_step (T : Txt P w K mg cl) (fa : Addr) (fd : FuncData) (F : Fun K "is_step" "is_step" s_is_step fa fd) : FnG P w K mg base 3 fa fd ["box", "value", "many"] (spF K cl 3 m_is_step) :=
  fnD (b := b_is_step) sc_is_step (fun fa cdv A outer s H E g hr tk =>
    pms_cons (pm_ifs (PW.pt (pw_orM (pt_notM (pt_truM (pm_isi T.i_tuple (pm_v 1) T.z_isinstance T.z_tuple (by rfl)))) (pw_orM (pt_cmpM (op_neM (hu64 hr)) ok_ne (pm_b (nm := "") call_len (ok_len) T.z_len (by rfl) (pm_cons (pm_v 1) pm_nil)) pm_int) (pw_orM (pt_notM (pt_truM (pm_isi T.i_str (pm_ix ix_seq ok_ix (pm_v 1) pm_int) T.z_isinstance T.z_str (by rfl)))) (pw_or1M (pt_cmpM (OpR.or (op_notInDG (hu1 hr)) (op_notInM (hu65 hr))) (ok_fInD (neg := true) ok_notIn) (pm_ix ix_seq ok_ix (pm_v 1) pm_int) (pm_fld T.fld_held (pm_v 0)))))))) (pms_one (pm_ret pm_bl)) pms_nil) (pms_cons (pm_ifs (PW.pt (pw_orM (pt_notM (pt_truM (pm_isi T.i_tuple (pm_ix ix_seq ok_ix (pm_v 1) pm_int) T.z_isinstance T.z_tuple (by rfl)))) (pw_or1M (pt_cmpM (op_neM (hu64 hr)) ok_ne (pm_b (nm := "") call_len (ok_len) T.z_len (by rfl) (pm_cons (pm_ix ix_seq ok_ix (pm_v 1) pm_int) pm_nil)) (pm_call false (wk_places_of T) hr g tk (by rfl) (pm_cons (pm_ix (IxR.or (ix_dict (hu1 hr)) ix_seq) (ok_fIxD ok_ix) (pm_fld T.fld_held (pm_v 0)) (pm_ix ix_seq ok_ix (pm_v 1) pm_int)) pm_nil)))))) (pms_one (pm_ret pm_bl)) pms_nil) (pms_one (pm_ret (pm_b (nm := "") (cr_all rfl) (ok_all) T.z_all (by rfl) (pm_cons (pm_lc true (own := [("at", 3)]) rfl sc_is_step.nd (pi_v (pm_ix ix_seq ok_ix (pm_v 1) pm_int)) (blkOk_by (N := N_is_step) (sc := (defScope s_is_step)) (own := [("at", 3)]) (by decide +kernel)) (fun _ _ _ _ _ => (pg_name (i := 3) sc_is_step.nd rfl (by first | exact Or.inl rfl | exact Or.inr rfl))) (tgc_name 3 (by decide)) (fun _ _ _ _ _ => pts_nil) (fun _ _ _ => tYes_ok) (fun _ _ _ _ _ => (pm_call false (wk_is_between T) hr g takes0 (by rfl) (pm_cons (pm_v 3) (pm_cons pm_int (pm_cons (pm_op op_sub ok_fSub (pm_v 2) pm_int) pm_nil)))))) pm_nil)))))) fa fd F
theorem wk_is_step (T : Txt P w K mg cl) : CalG P w K mg base cl 3 "is_step" 3 m_is_step := calG_of T.a_is_step (binds_of fun _ _ _ _ _ _ us hl => match us, hl with | [_, _, _], _ => rfl) (wf_is_step T)
theorem wf_put_in (T : Txt P w K mg cl) (fa : Addr) (fd : FuncData) (F : Fun K "put_in" "put_in" s_put_in fa fd) : FnG P w K mg base 3 fa fd ["table", "some"] (spF K cl 2 m_put_in) :=
  fnD (b := b_put_in) sc_put_in (fun fa cdv A outer s H E g hr tk =>
    pms_cons (pm_set 2 sc_put_in.nd (pm_call false (wk_places_of T) hr g tk (by rfl) (pm_cons (pm_ix ix_seq ok_ix (pm_v 1) pm_int) pm_nil))) (pms_cons (pm_set 3 sc_put_in.nd (pm_lst false pm_nil)) (pms_cons (pm_for (passes_of rfl) rfl (pi_v (pm_call false (wk_all_arguments T) hr g tk (by rfl) (pm_cons (pm_v 2) pm_nil))) (pg_name (i := 4) sc_put_in.nd rfl (by first | exact Or.inl rfl | exact Or.inr rfl)) (tg_name 4) (pms_one (pm_exp (pm_append (pm_v 3) (pm_call false (wk_value_at T) hr g tk (by rfl) (pm_cons (pm_v 0) (pm_cons (pm_lcV true (own := [("other", 5)]) rfl sc_put_in.nd (pm_v 1) (blkOk_by (N := N_put_in) (sc := (defScope s_put_in)) (own := [("other", 5)]) (by decide +kernel)) (fun _ _ _ _ _ => (pg_name (i := 5) sc_put_in.nd rfl (by first | exact Or.inl rfl | exact Or.inr rfl))) (tgc_name 5 (by decide)) (fun _ _ _ _ _ => pts_nil) (fun _ _ _ => tYes_ok) (fun _ _ _ _ _ => (pm_call false (wk_value_at T) hr g takes0 (by rfl) (pm_cons (pm_v 5) (pm_cons (pm_v 4) pm_nil))))) pm_nil))))))) (pms_one (pm_ret (pm_call true (wk_table_from T) hr g tk (by rfl) (pm_cons (pm_v 3) pm_nil))))))) fa fd F
theorem wk_put_in (T : Txt P w K mg cl) : CalG P w K mg base cl 3 "put_in" 2 m_put_in := calG_of T.a_put_in (binds_of fun _ _ _ _ _ _ us hl => match us, hl with | [_, _], _ => rfl) (wf_put_in T)
theorem wf_made_of (T : Txt P w K mg cl) (fa : Addr) (fd : FuncData) (F : Fun K "made_of" "made_of" s_made_of fa fd) : FnG P w K mg base 4 fa fd ["box", "told"] (spF K cl 2 m_made_of) :=
  fnD (b := b_made_of) sc_made_of (fun fa cdv A outer s H E g hr tk =>
    pms_cons (pm_set 2 sc_made_of.nd (pm_lst false (pm_cons (pm_g (by exact T.g_PLAIN) (fun _ _ => r_PLAIN)) pm_nil))) (pms_cons (pm_ifs (pt_notM (pt_truM (pm_isi T.i_tuple (pm_v 1) T.z_isinstance T.z_tuple (by rfl)))) (pms_one (pm_ret (pm_tupR (pm_cons (pm_v 2) (pm_cons (pm_tup (pm_cons pm_non pm_nil)) pm_nil))))) pms_nil) (pms_cons (pm_for (passes_of rfl) rfl (pi_en T.z_enumerate (pm_v 1)) (pg_any (n := 2) rfl (pgs_cons (pg_name (i := 3) sc_made_of.nd rfl (by first | exact Or.inl rfl | exact Or.inr rfl)) (pgs_cons (pg_name (i := 4) sc_made_of.nd rfl (by first | exact Or.inl rfl | exact Or.inr rfl)) pgs_nil))) (tg_any (tgs_cons (tg_name 3) (tgs_cons (tg_name 4) tgs_nil))) (pms_cons (pm_ifs (pt_notM (pt_truM (pm_call false (wk_is_step T) hr g tk (by rfl) (pm_cons (pm_v 0) (pm_cons (pm_v 4) (pm_cons (pm_b (nm := "") call_len (ok_len) T.z_len (by rfl) (pm_cons (pm_v 2) pm_nil)) pm_nil)))))) (pms_one (pm_ret (pm_tupR (pm_cons (pm_v 2) (pm_cons (pm_tup (pm_cons (pm_v 3) pm_nil)) pm_nil))))) pms_nil) (pms_one (pm_exp (pm_append (pm_v 2) (pm_call false (wk_put_in T) hr g tk (by rfl) (pm_cons (pm_ix (IxR.or (ix_dict (hu1 hr)) ix_seq) (ok_fIxD ok_ix) (pm_fld T.fld_held (pm_v 0)) (pm_ix ix_seq ok_ix (pm_v 4) pm_int)) (pm_cons (pm_lc true (own := [("at", 5)]) rfl sc_made_of.nd (pi_v (pm_ix ix_seq ok_ix (pm_v 4) pm_int)) (blkOk_by (N := N_made_of) (sc := (defScope s_made_of)) (own := [("at", 5)]) (by decide +kernel)) (fun _ _ _ _ _ => (pg_name (i := 5) sc_made_of.nd rfl (by first | exact Or.inl rfl | exact Or.inr rfl))) (tgc_name 5 (by decide)) (fun _ _ _ _ _ => pts_nil) (fun _ _ _ => tYes_ok) (fun _ _ _ _ _ => (pm_ix ix_seq ok_ix (pm_v 2) (pm_v 5)))) pm_nil)))))))) (pms_one (pm_ret (pm_tupR (pm_cons (pm_v 2) (pm_cons (pm_tup pm_nil) pm_nil)))))))) fa fd F
theorem wk_made_of (T : Txt P w K mg cl) : CalG P w K mg base cl 4 "made_of" 2 m_made_of := calG_of T.a_made_of (binds_of fun _ _ _ _ _ _ us hl => match us, hl with | [_, _], _ => rfl) (wf_made_of T)
theorem wf_accepts_all (T : Txt P w K mg cl) (fa : Addr) (fd : FuncData) (F : Fun K "accepts_all" "accepts_all" s_accepts_all fa fd) : FnG P w K mg base 5 fa fd ["box", "name", "told"] (spF K cl 3 m_accepts_all) :=
  fnD (b := b_accepts_all) sc_accepts_all (fun fa cdv A outer s H E g hr tk =>
    pms_cons (pm_ifs (PW.pt (pw_orM (pt_notM (pt_truM (pm_isi T.i_str (pm_v 1) T.z_isinstance T.z_str (by rfl)))) (pw_or1M (pt_cmpM (OpR.or (op_notInDG (hu1 hr)) (op_notInM (hu65 hr))) (ok_fInD (neg := true) ok_notIn) (pm_v 1) (pm_fld T.fld_held (pm_v 0)))))) (pms_one (pm_ret pm_bl)) pms_nil) (pms_cons (pm_ifs (PW.pt (pw_orM (pt_notM (pt_truM (pm_call false (wk_is_full T) hr g tk (by rfl) (pm_cons (pm_ix (IxR.or (ix_dict (hu1 hr)) ix_seq) (ok_fIxD ok_ix) (pm_fld T.fld_held (pm_v 0)) (pm_v 1)) pm_nil)))) (pw_or1M (pt_cmpM op_lt ok_fLt (pm_b (nm := "") call_len (ok_len) T.z_len (by rfl) (pm_cons (pm_call false (wk_counting_of T) hr g tk (by rfl) (pm_cons (pm_ix (IxR.or (ix_dict (hu1 hr)) ix_seq) (ok_fIxD ok_ix) (pm_fld T.fld_held (pm_v 0)) (pm_v 1)) pm_nil)) pm_nil)) pm_int)))) (pms_one (pm_ret pm_bl)) pms_nil) (pms_cons (pm_asg (pm_call false (wk_made_of T) hr g tk (by rfl) (pm_cons (pm_v 0) (pm_cons (pm_v 2) pm_nil))) (pg_any (n := 2) rfl (pgs_cons (pg_name (i := 3) sc_accepts_all.nd rfl (by first | exact Or.inl rfl | exact Or.inr rfl)) (pgs_cons (pg_name (i := 4) sc_accepts_all.nd rfl (by first | exact Or.inl rfl | exact Or.inr rfl)) pgs_nil))) (tg_any (tgs_cons (tg_name 3) (tgs_cons (tg_name 4) tgs_nil)))) (pms_one (pm_ret (pm_and (pm_cmp (op_eqM (hu64 hr)) ok_eq (pm_v 4) (pm_tup pm_nil)) (pm_one (pm_b (nm := "") (cr_all rfl) (ok_all) T.z_all (by rfl) (pm_cons (pm_lc true (own := [("table", 5)]) rfl sc_accepts_all.nd (pi_v (pm_call0 false (wk_all_tables T) hr g tk (by rfl))) (blkOk_by (N := N_accepts_all) (sc := (defScope s_accepts_all)) (own := [("table", 5)]) (by decide +kernel)) (fun _ _ _ _ _ => (pg_name (i := 5) sc_accepts_all.nd rfl (by first | exact Or.inl rfl | exact Or.inr rfl))) (tgc_name 5 (by decide)) (fun _ _ _ _ _ => pts_nil) (fun _ _ _ => tYes_ok) (fun _ _ _ _ _ => (pm_cmp (op_inM (hu65 hr)) ok_in (pm_v 5) (pm_v 3)))) pm_nil))))))))) fa fd F
theorem wk_accepts_all (T : Txt P w K mg cl) : CalG P w K mg base cl 5 "accepts_all" 3 m_accepts_all := calG_of T.a_accepts_all (binds_of fun _ _ _ _ _ _ us hl => match us, hl with | [_, _, _], _ => rfl) (wf_accepts_all T)
theorem wf_Box__tables (T : Txt P w K mg cl) (fa : Addr) (fd : FuncData) (F : Fun K "tables" "Box.tables" s_Box__tables fa fd) : FnG P w K mg base 1 fa fd ["self"] (spF K cl 1 m_Box__tables) :=
  fnM (N := N_Box__tables) (b := b_Box__tables) F sc_Box__tables (fun cdv A outer s H E g hr tk =>
    pms_one (pm_ret (pm_t call_tupleZ (ok_tuple) T.z_tuple (by rfl) (pm_cons (pm_lc true (own := [("name", 1)]) rfl sc_Box__tables.nd (pi_k (pm_fld T.fld_held (pm_v 0))) (blkOk_by (N := N_Box__tables) (sc := (defScope s_Box__tables)) (own := [("name", 1)]) (by decide +kernel)) (fun _ _ _ _ _ => (pg_name (i := 1) sc_Box__tables.nd rfl (by first | exact Or.inl rfl | exact Or.inr rfl))) (tgc_name 1 (by decide)) (fun _ _ _ _ _ => pts_nil) (fun _ _ _ => tYes_ok) (fun _ _ _ _ _ => (pm_ix (IxR.or (ix_dict (hu1 hr)) ix_seq) (ok_fIxD ok_ix) (pm_fld T.fld_held (pm_v 0)) (pm_v 1)))) pm_nil))))
theorem wk_Box__tables (T : Txt P w K mg cl) : PropG P w K mg base cl 1 100 "tables" m_Box__tables := propG_of (by decide) T.c_Box T.me_Box__tables (bindsF_of fun _ _ _ _ _ _ us hl => match us, hl with | [_], _ => rfl) (wf_Box__tables T)
theorem wg_all_rows (T : Txt P w K mg cl) : GDef P w K mg base cl 8 "all_rows" 2 (gfRows 3) := by
  obtain ⟨fa, fd, hm, F⟩ := T.a_all_rows
  have nd : (N_all_rows : List Str).Nodup := by decide +kernel
  refine gd_rows (st := s_all_rows) (N := N_all_rows) (ps := ["some", "count"]) hm (binds_of (fun _ _ _ _ _ _ us hl => match us, hl with | [_, _], _ => rfl) fa fd F) rfl rfl F rfl rfl rfl nd rfl (by decide +kernel) (fun x => noc_of (by decide +kernel) x) (fun _ => rfl) ?_ 3
  rintro ⟨P, w, K, mg, base, cl, B, A, outer, N, qual, sc, L, f, cd, g0, a, k⟩ rfl rfl rfl rfl rfl rfl rfl rfl ok
  have hr := ok.room
  have g := ok.guards
  exact ⟨_, _, _, _, _, _, _, _, _, _, _, _, _, _, _, _, _, rfl, rfl, fun _ _ => (pt_cmpM (op_eqM (hu64 hr)) ok_eq (pm_v 1) pm_int), fun _ _ => (pm_tup pm_nil), fun _ _ => (pi_v (pm_v 0)), fun _ _ => (pg_name (i := 2) nd rfl (Or.inl rfl)), fun _ => rfl, fun _ _ => (by rfl), fun _ _ => (pm_cons (pm_v 0) (pm_cons (pm_op op_sub ok_fSub (pm_v 1) pm_int) pm_nil)), fun _ _ => (pg_name (i := 3) nd rfl (Or.inl rfl)), by decide, rfl, rfl, fun _ => rfl, fun _ _ => (pm_tup (pm_cons (pm_v 2) (pm_star (pm_v 3) pm_nil)))⟩
theorem wf_chain_of (T : Txt P w K mg cl) (fa : Addr) (fd : FuncData) (F : Fun K "chain_of" "chain_of" s_chain_of fa fd) : FnG P w K mg base 1 fa fd ["middle"] (spF K cl 1 m_chain_of) :=
  fnD (b := b_chain_of) sc_chain_of (fun fa cdv A outer s H E g hr tk =>
    pms_cons (pm_setLc true 1 (own := [("each", 2)]) rfl sc_chain_of.nd (sw_true rfl rfl rfl (by decide +kernel)) (pi_r1 T.z_range pm_int) (blkOk_by (N := N_chain_of) (sc := (defScope s_chain_of)) (own := [("each", 2)]) (by decide +kernel)) (fun _ _ _ _ _ => (pg_name (i := 2) sc_chain_of.nd rfl (by first | exact Or.inl rfl | exact Or.inr rfl))) (tgc_name 2 (by decide)) (fun _ _ _ _ _ => (pts_one (pt_cmpM (op_neM (hu64 hr)) ok_ne (pm_v 2) (pm_v 0)))) (fun _ _ _ h => h) (fun _ _ _ _ _ => (pm_v 2))) (pms_one (pm_ret (pm_tup (pm_cons (pm_ix ix_seq ok_ix (pm_v 1) pm_int) (pm_cons (pm_v 0) (pm_cons (pm_ix ix_seq ok_ix (pm_v 1) pm_int) pm_nil))))))) fa fd F
theorem wk_chain_of (T : Txt P w K mg cl) : CalG P w K mg base cl 1 "chain_of" 1 m_chain_of := calG_of T.a_chain_of (binds_of fun _ _ _ _ _ _ us hl => match us, hl with | [_], _ => rfl) (wf_chain_of T)
theorem wf_is_in_pairs (T : Txt P w K mg cl) (fa : Addr) (fd : FuncData) (F : Fun K "is_in_pairs" "is_in_pairs" s_is_in_pairs fa fd) : FnG P w K mg base 2 fa fd ["word", "pair"] (spF K cl 2 m_is_in_pairs) :=
  fnD (b := b_is_in_pairs) sc_is_in_pairs (fun fa cdv A outer s H E g hr tk =>
    pms_cons (pm_asg (pm_v 1) (pg_any (n := 2) rfl (pgs_cons (pg_name (i := 3) sc_is_in_pairs.nd rfl (by first | exact Or.inl rfl | exact Or.inr rfl)) (pgs_cons (pg_name (i := 4) sc_is_in_pairs.nd rfl (by first | exact Or.inl rfl | exact Or.inr rfl)) pgs_nil))) (tg_any (tgs_cons (tg_name 3) (tgs_cons (tg_name 4) tgs_nil)))) (pms_cons (pm_ifs (pt_cmpM (op_eqM (hu64 hr)) ok_eq (pm_v 0) pm_str) (pms_one (pm_ret (pm_cmp (op_eqM (hu64 hr)) ok_eq (pm_v 4) (pm_op op_mod ok_fMod (pm_op op_addM (ok_add true) (pm_v 3) pm_int) pm_int)))) pms_nil) (pms_cons (pm_asg (pm_split true (pm_v 0) pm_str) (pg_any (n := 2) rfl (pgs_cons (pg_name (i := 5) sc_is_in_pairs.nd rfl (by first | exact Or.inl rfl | exact Or.inr rfl)) (pgs_cons (pg_name (i := 6) sc_is_in_pairs.nd rfl (by first | exact Or.inl rfl | exact Or.inr rfl)) pgs_nil))) (tg_any (tgs_cons (tg_name 5) (tgs_cons (tg_name 6) tgs_nil)))) (pms_cons (pm_ifs (pt_cmpM (op_eqM (hu64 hr)) ok_eq (pm_v 3) (pm_v 4)) (pms_one (pm_ret pm_bl)) pms_nil) (pms_cons (pm_ifs (pt_cmpM (op_eqM (hu64 hr)) ok_eq (pm_v 5) pm_str) (pms_one (pm_ret (pm_cmp (op_notInM (hu65 hr)) ok_notIn (pm_t call_intM (ok_int) T.z_int (by rfl) (pm_cons (pm_v 6) pm_nil)) (pm_v 1)))) pms_nil) (pms_cons (pm_ifs (pt_cmpM (op_eqM (hu64 hr)) ok_eq (pm_v 5) pm_str) (pms_one (pm_ret (pm_cmp (op_inM (hu65 hr)) ok_in (pm_t call_intM (ok_int) T.z_int (by rfl) (pm_cons (pm_v 6) pm_nil)) (pm_v 1)))) pms_nil) (pms_cons (pm_set 2 sc_is_in_pairs.nd (pm_call false (wk_chain_of T) hr g tk (by rfl) (pm_cons (pm_t call_intM (ok_int) T.z_int (by rfl) (pm_cons (pm_v 6) pm_nil)) pm_nil))) (pms_one (pm_ret (pm_cmp op_lt ok_fLt (pm_tindex (hu65 hr) (pm_v 2) (pm_v 3)) (pm_tindex (hu65 hr) (pm_v 2) (pm_v 4)))))))))))) fa fd F
theorem wk_is_in_pairs (T : Txt P w K mg cl) : CalG P w K mg base cl 2 "is_in_pairs" 2 m_is_in_pairs := calG_of T.a_is_in_pairs (binds_of fun _ _ _ _ _ _ us hl => match us, hl with | [_, _], _ => rfl) (wf_is_in_pairs T)
theorem wf_is_in (T : Txt P w K mg cl) (fa : Addr) (fd : FuncData) (F : Fun K "is_in" "is_in" s_is_in fa fd) : FnG P w K mg base 3 fa fd ["word", "some"] (spF K cl 2 m_is_in) :=
  fnD (b := b_is_in) sc_is_in (fun fa cdv A outer s H E g hr tk =>
    pms_cons (pm_ifs (pt_cmpM (op_eqM (hu64 hr)) ok_eq (pm_slice true (pm_v 0) po_n (po_e pm_int)) pm_str) (pms_one (pm_ret (pm_cmp (op_inM (hu65 hr)) ok_in (pm_t call_strM (ok_str) T.z_str (by rfl) (pm_cons (pm_ix ix_seq ok_ix (pm_v 1) pm_int) pm_nil)) (pm_slice true (pm_v 0) (po_e pm_int) po_n)))) pms_nil) (pms_cons (pm_ifs (pt_cmpM (op_eqM (hu64 hr)) ok_eq (pm_v 0) pm_str) (pms_one (pm_ret (pm_cmp (op_eqM (hu64 hr)) ok_eq (pm_op op_mod ok_fMod (pm_op op_sub ok_fSub (pm_op op_sub ok_fSub (pm_op op_addM (ok_add true) (pm_ix ix_seq ok_ix (pm_v 1) pm_int) (pm_ix ix_seq ok_ix (pm_v 1) pm_int)) (pm_ix ix_seq ok_ix (pm_v 1) pm_int)) (pm_ix ix_seq ok_ix (pm_v 1) pm_int)) pm_int) pm_int))) pms_nil) (pms_cons (pm_ifs (pt_cmpM (op_eqM (hu64 hr)) ok_eq (pm_v 0) pm_str) (pms_one (pm_ret (pm_cmp op_lt ok_fLt (pm_lenSet T.z_len T.z_set (pm_v 1) rfl) pm_int))) pms_nil) (pms_one (pm_ret (pm_call true (wk_is_in_pairs T) hr g tk (by rfl) (pm_cons (pm_v 0) (pm_cons (pm_v 1) pm_nil)))))))) fa fd F
theorem wk_is_in (T : Txt P w K mg cl) : CalG P w K mg base cl 3 "is_in" 2 m_is_in := calG_of T.a_is_in (binds_of fun _ _ _ _ _ _ us hl => match us, hl with | [_, _], _ => rfl) (wf_is_in T)
theorem wf_made_by (T : Txt P w K mg cl) (fa : Addr) (fd : FuncData) (F : Fun K "made_by" "made_by" s_made_by fa fd) : FnG P w K mg base 3 fa fd ["table", "rows"] (spF K cl 2 m_made_by) :=
  fnD (b := b_made_by) sc_made_by (fun fa cdv A outer s H E g hr tk =>
    pms_one (pm_ret (pm_t call_tupleZ (ok_tuple) T.z_tuple (by rfl) (pm_cons (pm_lc true (own := [("at", 2)]) rfl sc_made_by.nd (pi_r1 T.z_range (pm_b (nm := "") call_len (ok_len) T.z_len (by rfl) (pm_cons (pm_ix ix_seq ok_ix (pm_v 1) pm_int) pm_nil))) (blkOk_by (N := N_made_by) (sc := (defScope s_made_by)) (own := [("at", 2)]) (by decide +kernel)) (fun _ _ _ _ _ => (pg_name (i := 2) sc_made_by.nd rfl (by first | exact Or.inl rfl | exact Or.inr rfl))) (tgc_name 2 (by decide)) (fun _ _ _ _ _ => pts_nil) (fun _ _ _ => tYes_ok) (fun _ _ _ _ _ => (pm_call false (wk_value_at T) hr g takes0 (by rfl) (pm_cons (pm_v 0) (pm_cons (pm_lcV true (own := [("row", 3)]) rfl sc_made_by.nd (pm_v 1) (blkOk_by (own := [("row", 3)]) (by rfl)) (fun _ _ _ _ _ => (pg_name (i := 3) sc_made_by.nd rfl (by first | exact Or.inl rfl | exact Or.inr rfl))) (tgc_name 3 (by decide)) (fun _ _ _ _ _ => pts_nil) (fun _ _ _ => tYes_ok) (fun _ _ _ _ _ => (pm_ix ix_seq ok_ix (pm_v 3) (pm_v 2)))) pm_nil))))) pm_nil)))) fa fd F
theorem wk_made_by (T : Txt P w K mg cl) : CalG P w K mg base cl 3 "made_by" 2 m_made_by := calG_of T.a_made_by (binds_of fun _ _ _ _ _ _ us hl => match us, hl with | [_, _], _ => rfl) (wf_made_by T)
theorem wf_length_of (T : Txt P w K mg cl) (fa : Addr) (fd : FuncData) (F : Fun K "length_of" "length_of" s_length_of fa fd) : FnG P w K mg base 1 fa fd ["word"] (spF K cl 1 m_length_of) :=
  fnD (b := b_length_of) sc_length_of (fun fa cdv A outer s H E g hr tk =>
    pms_cons (pm_ifs (pt_cmpM (op_eqM (hu64 hr)) ok_eq (pm_slice true (pm_v 0) po_n (po_e pm_int)) pm_str) (pms_one (pm_ret pm_int)) pms_nil) (pms_one (pm_ret (pm_dgetC [("sums", 4), ("mixed", 3)] (hu1 hr) (pps_cons pe_str pe_int (pps_cons pe_str pe_int pps_nil)) (pm_v 0) pm_int ⟨rfl, rfl, rfl, rfl⟩)))) fa fd F
theorem wk_length_of (T : Txt P w K mg cl) : CalG P w K mg base cl 1 "length_of" 1 m_length_of := calG_of T.a_length_of (binds_of fun _ _ _ _ _ _ us hl => match us, hl with | [_], _ => rfl) (wf_length_of T)
theorem wf_relation_of (T : Txt P w K mg cl) (fa : Addr) (fd : FuncData) (F : Fun K "relation_of" "relation_of" s_relation_of fa fd) : FnG P w K mg base 4 fa fd ["word"] (spF K cl 1 m_relation_of) :=
  fnD (b := b_relation_of) sc_relation_of (fun fa cdv A outer s H E g hr tk =>
    pms_one (pm_ret (pm_lc false (own := [("some", 1)]) rfl sc_relation_of.nd (pi_v (pm_call false (wk_all_arguments T) hr g tk (by rfl) (pm_cons (pm_call false (wk_length_of T) hr g tk (by rfl) (pm_cons (pm_v 0) pm_nil)) pm_nil))) (blkOk_by (N := N_relation_of) (sc := (defScope s_relation_of)) (own := [("some", 1)]) (by decide +kernel)) (fun _ _ _ _ _ => (pg_name (i := 1) sc_relation_of.nd rfl (by first | exact Or.inl rfl | exact Or.inr rfl))) (tgc_name 1 (by decide)) (fun _ _ _ _ _ => (pts_one (pt_truM (pm_call false (wk_is_in T) hr g takes0 (by rfl) (pm_cons (pm_v 0) (pm_cons (pm_v 1) pm_nil)))))) (fun _ _ _ h => h) (fun _ _ _ _ _ => (pm_v 1))))) fa fd F
theorem wk_relation_of (T : Txt P w K mg cl) : CalG P w K mg base cl 4 "relation_of" 1 m_relation_of := calG_of T.a_relation_of (binds_of fun _ _ _ _ _ _ us hl => match us, hl with | [_], _ => rfl) (wf_relation_of T)
theorem wf_out_of (T : Txt P w K mg cl) (fa : Addr) (fd : FuncData) (F : Fun K "out_of" "out_of" s_out_of fa fd) : FnG P w K mg base 9 fa fd ["table", "word"] (spF K cl 2 m_out_of) :=
  fnD (b := b_out_of) sc_out_of (fun fa cdv A outer s H E g hr tk =>
    pms_cons (pm_set 2 sc_out_of.nd (pm_call false (wk_relation_of T) hr g tk (by rfl) (pm_cons (pm_v 1) pm_nil))) (pms_cons (pm_forG (passes_of rfl) xback_cx (wg_all_rows T) hr g (by rfl) (pm_cons (pm_v 2) (pm_cons (pm_call false (wk_places_of T) hr g tk (by rfl) (pm_cons (pm_v 0) pm_nil)) pm_nil)) (pg_name (i := 3) sc_out_of.nd rfl (by first | exact Or.inl rfl | exact Or.inr rfl)) (tg_name 3) (pms_one (pm_ifs (pt_notM (pt_truM (pm_call false (wk_is_in T) hr g tk (by rfl) (pm_cons (pm_v 1) (pm_cons (pm_call false (wk_made_by T) hr g tk (by rfl) (pm_cons (pm_v 0) (pm_cons (pm_v 3) pm_nil))) pm_nil))))) (pms_one (pm_ret (pm_v 3))) pms_nil))) (pms_one (pm_ret pm_non)))) fa fd F
theorem wk_out_of (T : Txt P w K mg cl) : CalG P w K mg base cl 9 "out_of" 2 m_out_of := calG_of T.a_out_of (binds_of fun _ _ _ _ _ _ us hl => match us, hl with | [_, _], _ => rfl) (wf_out_of T)
theorem wf_is_kept (T : Txt P w K mg cl) (fa : Addr) (fd : FuncData) (F : Fun K "is_kept" "is_kept" s_is_kept fa fd) : FnG P w K mg base 10 fa fd ["table", "word"] (spF K cl 2 m_is_kept) :=
  fnD (b := b_is_kept) sc_is_kept (fun fa cdv A outer s H E g hr tk =>
    pms_one (pm_ret (pm_cmp op_isN ok_isN (pm_call false (wk_out_of T) hr g tk (by rfl) (pm_cons (pm_v 0) (pm_cons (pm_v 1) pm_nil))) pm_non))) fa fd F
theorem wk_is_kept (T : Txt P w K mg cl) : CalG P w K mg base cl 10 "is_kept" 2 m_is_kept := calG_of T.a_is_kept (binds_of fun _ _ _ _ _ _ us hl => match us, hl with | [_, _], _ => rfl) (wf_is_kept T)
theorem wf_is_nothing (T : Txt P w K mg cl) (fa : Addr) (fd : FuncData) (F : Fun K "is_nothing" "is_nothing" s_is_nothing fa fd) : FnG P w K mg base 1 fa fd ["value"] (spF K cl 1 m_is_nothing) :=
  fnD (b := b_is_nothing) sc_is_nothing (fun fa cdv A outer s H E g hr tk =>
    pms_one (pm_ret (pm_and (pm_isi T.i_tuple (pm_v 0) T.z_isinstance T.z_tuple (by rfl)) (pm_one (pm_cmp (op_eqM (hu64 hr)) ok_eq (pm_v 0) (pm_tup pm_nil)))))) fa fd F
theorem wk_is_nothing (T : Txt P w K mg cl) : CalG P w K mg base cl 1 "is_nothing" 1 m_is_nothing := calG_of T.a_is_nothing (binds_of fun _ _ _ _ _ _ us hl => match us, hl with | [_], _ => rfl) (wf_is_nothing T)
theorem wf_is_word (T : Txt P w K mg cl) (fa : Addr) (fd : FuncData) (F : Fun K "is_word" "is_word" s_is_word fa fd) : FnG P w K mg base 1 fa fd ["value"] (spF K cl 1 m_is_word) :=
  fnD (b := b_is_word) sc_is_word (fun fa cdv A outer s H E g hr tk =>
    pms_one (pm_ret (pm_and (pm_isi T.i_str (pm_v 0) T.z_isinstance T.z_str (by rfl)) (pm_one (pm_cmp (op_inM (hu65 hr)) ok_in (pm_v 0) (pm_gT T.g_WORDS rfl)))))) fa fd F
theorem wk_is_word (T : Txt P w K mg cl) : CalG P w K mg base cl 1 "is_word" 1 m_is_word := calG_of T.a_is_word (binds_of fun _ _ _ _ _ _ us hl => match us, hl with | [_], _ => rfl) (wf_is_word T)
theorem tpk_tables (T : Txt P w K mg cl) : ∀ i f, tp_tables i = some f → PropG P w K mg base cl 1 i "tables" f := by
  intro i f h
  unfold tp_tables at h
  by_cases e : i = 100
  · subst e; simp at h; subst h; exact (wk_Box__tables T).up (by decide)
  rw [if_neg e] at h; clear e
  cases h
theorem wf_accepts_kept (T : Txt P w K mg cl) (fa : Addr) (fd : FuncData) (F : Fun K "accepts_kept" "accepts_kept" s_accepts_kept fa fd) : FnG P w K mg base 11 fa fd ["box", "word", "certificate"] (spF K cl 3 m_accepts_kept) :=
  fnD (b := b_accepts_kept) sc_accepts_kept (fun fa cdv A outer s H E g hr tk =>
    pms_cons (pm_ifs (PW.pt (pw_orM (pt_notM (pt_truM (pm_call false (wk_is_nothing T) hr g tk (by rfl) (pm_cons (pm_v 2) pm_nil)))) (pw_or1M (pt_notM (pt_truM (pm_call false (wk_is_word T) hr g tk (by rfl) (pm_cons (pm_v 1) pm_nil))))))) (pms_one (pm_ret pm_bl)) pms_nil) (pms_one (pm_ret (pm_b (nm := "") (cr_all rfl) (ok_all) T.z_all (by rfl) (pm_cons (pm_lc true (own := [("table", 3)]) rfl sc_accepts_kept.nd (pi_v (pm_prop (tpk_tables T) hr g (pm_v 0))) (blkOk_by (N := N_accepts_kept) (sc := (defScope s_accepts_kept)) (own := [("table", 3)]) (by decide +kernel)) (fun _ _ _ _ _ => (pg_name (i := 3) sc_accepts_kept.nd rfl (by first | exact Or.inl rfl | exact Or.inr rfl))) (tgc_name 3 (by decide)) (fun _ _ _ _ _ => pts_nil) (fun _ _ _ => tYes_ok) (fun _ _ _ _ _ => (pm_call false (wk_is_kept T) hr g takes0 (by rfl) (pm_cons (pm_v 3) (pm_cons (pm_v 1) pm_nil))))) pm_nil))))) fa fd F
theorem wk_accepts_kept (T : Txt P w K mg cl) : CalG P w K mg base cl 11 "accepts_kept" 3 m_accepts_kept := calG_of T.a_accepts_kept (binds_of fun _ _ _ _ _ _ us hl => match us, hl with | [_, _, _], _ => rfl) (wf_accepts_kept T)
theorem wf_is_table (T : Txt P w K mg cl) (fa : Addr) (fd : FuncData) (F : Fun K "is_table" "is_table" s_is_table fa fd) : FnG P w K mg base 2 fa fd ["value"] (spF K cl 1 m_is_table) :=
  fnD (b := b_is_table) sc_is_table (fun fa cdv A outer s H E g hr tk =>
    pms_cons (pm_ifs (PW.pt (pw_orM (pt_notM (pt_truM (pm_isi T.i_str (pm_v 0) T.z_isinstance T.z_str (by rfl)))) (pw_or1M (pt_cmpM (op_notInM (hu65 hr)) ok_notIn (pm_b (nm := "") call_len (ok_len) T.z_len (by rfl) (pm_cons (pm_v 0) pm_nil)) (pm_lc true (own := [("count", 2)]) rfl sc_is_table.nd (pi_r1 T.z_range (pm_g (by exact T.g_MOST_PLACES) (fun _ _ => r_MOST_PLACES))) (blkOk_by (N := N_is_table) (sc := (defScope s_is_table)) (own := [("count", 2)]) (by decide +kernel)) (fun _ _ _ _ _ => (pg_name (i := 2) sc_is_table.nd rfl (by first | exact Or.inl rfl | exact Or.inr rfl))) (tgc_name 2 (by decide)) (fun _ _ _ _ _ => pts_nil) (fun _ _ _ => tYes_ok) (fun _ _ _ _ _ => (pm_call false (wk_size_of T) hr g takes0 (by rfl) (pm_cons (pm_op op_addM (ok_add true) (pm_v 2) pm_int) pm_nil)))))))) (pms_one (pm_ret pm_bl)) pms_nil) (pms_one (pm_ret (pm_b (nm := "") (cr_all rfl) (ok_all) T.z_all (by rfl) (pm_cons (pm_lcV true (own := [("sign", 1)]) rfl sc_is_table.nd (pm_v 0) (blkOk_by (N := N_is_table) (sc := (defScope s_is_table)) (own := [("sign", 1)]) (by decide +kernel)) (fun _ _ _ _ _ => (pg_name (i := 1) sc_is_table.nd rfl (by first | exact Or.inl rfl | exact Or.inr rfl))) (tgc_name 1 (by decide)) (fun _ _ _ _ _ => pts_nil) (fun _ _ _ => tYes_ok) (fun _ _ _ _ _ => (pm_cmp (op_inM (hu65 hr)) ok_in (pm_v 1) (pm_g (by exact T.g_DIGITS) (fun _ _ => r_DIGITS))))) pm_nil))))) fa fd F
theorem wk_is_table (T : Txt P w K mg cl) : CalG P w K mg base cl 2 "is_table" 1 m_is_table := calG_of T.a_is_table (binds_of fun _ _ _ _ _ _ us hl => match us, hl with | [_], _ => rfl) (wf_is_table T)
theorem wf_accepts_made (T : Txt P w K mg cl) (fa : Addr) (fd : FuncData) (F : Fun K "accepts_made" "accepts_made" s_accepts_made fa fd) : FnG P w K mg base 5 fa fd ["box", "table", "told"] (spF K cl 3 m_accepts_made) :=
  fnD (b := b_accepts_made) sc_accepts_made (fun fa cdv A outer s H E g hr tk =>
    pms_cons (pm_ifs (PW.pt (pw_orM (pt_notM (pt_truM (pm_call false (wk_is_table T) hr g tk (by rfl) (pm_cons (pm_v 1) pm_nil)))) (pw_or1M (pt_cmpM (op_neM (hu64 hr)) ok_ne (pm_call false (wk_places_of T) hr g tk (by rfl) (pm_cons (pm_v 1) pm_nil)) pm_int)))) (pms_one (pm_ret pm_bl)) pms_nil) (pms_cons (pm_asg (pm_call false (wk_made_of T) hr g tk (by rfl) (pm_cons (pm_v 0) (pm_cons (pm_v 2) pm_nil))) (pg_any (n := 2) rfl (pgs_cons (pg_name (i := 3) sc_accepts_made.nd rfl (by first | exact Or.inl rfl | exact Or.inr rfl)) (pgs_cons (pg_name (i := 4) sc_accepts_made.nd rfl (by first | exact Or.inl rfl | exact Or.inr rfl)) pgs_nil))) (tg_any (tgs_cons (tg_name 3) (tgs_cons (tg_name 4) tgs_nil)))) (pms_one (pm_ret (pm_and (pm_cmp (op_eqM (hu64 hr)) ok_eq (pm_v 4) (pm_tup pm_nil)) (pm_one (pm_cmp (op_inM (hu65 hr)) ok_in (pm_v 1) (pm_v 3)))))))) fa fd F
theorem wk_accepts_made (T : Txt P w K mg cl) : CalG P w K mg base cl 5 "accepts_made" 3 m_accepts_made := calG_of T.a_accepts_made (binds_of fun _ _ _ _ _ _ us hl => match us, hl with | [_, _, _], _ => rfl) (wf_accepts_made T)
theorem wf_is_plain (T : Txt P w K mg cl) (fa : Addr) (fd : FuncData) (F : Fun K "is_plain" "is_plain" s_is_plain fa fd) : FnG P w K mg base 1 fa fd ["row"] (spF K cl 1 m_is_plain) :=
  fnD (b := b_is_plain) sc_is_plain (fun fa cdv A outer s H E g hr tk =>
    pms_one (pm_ret (pm_b (nm := "") (cr_all rfl) (ok_all) T.z_all (by rfl) (pm_cons (pm_lcV true (own := [("each", 1)]) rfl sc_is_plain.nd (pm_v 0) (blkOk_by (N := N_is_plain) (sc := (defScope s_is_plain)) (own := [("each", 1)]) (by decide +kernel)) (fun _ _ _ _ _ => (pg_name (i := 1) sc_is_plain.nd rfl (by first | exact Or.inl rfl | exact Or.inr rfl))) (tgc_name 1 (by decide)) (fun _ _ _ _ _ => pts_nil) (fun _ _ _ => tYes_ok) (fun _ _ _ _ _ => (pm_and (pm_isi T.i_int (pm_v 1) T.z_isinstance T.z_int (by rfl)) (pm_one (pm_not (pm_isi T.i_bool (pm_v 1) T.z_isinstance T.z_bool (by rfl))))))) pm_nil)))) fa fd F
theorem wk_is_plain (T : Txt P w K mg cl) : CalG P w K mg base cl 1 "is_plain" 1 m_is_plain := calG_of T.a_is_plain (binds_of fun _ _ _ _ _ _ us hl => match us, hl with | [_], _ => rfl) (wf_is_plain T)
theorem wf_accepts_out (T : Txt P w K mg cl) (fa : Addr) (fd : FuncData) (F : Fun K "accepts_out" "accepts_out" s_accepts_out fa fd) : FnG P w K mg base 5 fa fd ["claim", "certificate"] (spF K cl 2 m_accepts_out) :=
  fnD (b := b_accepts_out) sc_accepts_out (fun fa cdv A outer s H E g hr tk =>
    pms_cons (pm_asg (pm_slice true (pm_v 0) (po_e pm_int) po_n) (pg_any (n := 3) rfl (pgs_cons (pg_name (i := 3) sc_accepts_out.nd rfl (by first | exact Or.inl rfl | exact Or.inr rfl)) (pgs_cons (pg_name (i := 4) sc_accepts_out.nd rfl (by first | exact Or.inl rfl | exact Or.inr rfl)) (pgs_cons (pg_name (i := 5) sc_accepts_out.nd rfl (by first | exact Or.inl rfl | exact Or.inr rfl)) pgs_nil)))) (tg_any (tgs_cons (tg_name 3) (tgs_cons (tg_name 4) (tgs_cons (tg_name 5) tgs_nil))))) (pms_cons (pm_ifs (PW.pt (pw_orM (pt_notM (pt_truM (pm_call false (wk_is_nothing T) hr g tk (by rfl) (pm_cons (pm_v 1) pm_nil)))) (pw_orM (pt_notM (pt_truM (pm_call false (wk_is_table T) hr g tk (by rfl) (pm_cons (pm_v 3) pm_nil)))) (pw_or1M (pt_notM (pt_truM (pm_call false (wk_is_word T) hr g tk (by rfl) (pm_cons (pm_v 4) pm_nil)))))))) (pms_one (pm_ret pm_bl)) pms_nil) (pms_cons (pm_ifs (PW.pt (pw_orM (pt_notM (pt_truM (pm_isi T.i_tuple (pm_v 5) T.z_isinstance T.z_tuple (by rfl)))) (pw_or1M (pt_cmpM (op_neM (hu64 hr)) ok_ne (pm_b (nm := "") call_len (ok_len) T.z_len (by rfl) (pm_cons (pm_v 5) pm_nil)) (pm_call false (wk_places_of T) hr g tk (by rfl) (pm_cons (pm_v 3) pm_nil)))))) (pms_one (pm_ret pm_bl)) pms_nil) (pms_cons (pm_set 2 sc_accepts_out.nd (pm_call false (wk_relation_of T) hr g tk (by rfl) (pm_cons (pm_v 4) pm_nil))) (pms_cons (pm_ifs (pt_notM (pt_truM (pm_b (nm := "") (cr_all rfl) (ok_all) T.z_all (by rfl) (pm_cons (pm_lcV true (own := [("row", 6)]) rfl sc_accepts_out.nd (pm_v 5) (blkOk_by (N := N_accepts_out) (sc := (defScope s_accepts_out)) (own := [("row", 6)]) (by decide +kernel)) (fun _ _ _ _ _ => (pg_name (i := 6) sc_accepts_out.nd rfl (by first | exact Or.inl rfl | exact Or.inr rfl))) (tgc_name 6 (by decide)) (fun _ _ _ _ _ => pts_nil) (fun _ _ _ => tYes_ok) (fun _ _ _ _ _ => (pm_and (pm_isi T.i_tuple (pm_v 6) T.z_isinstance T.z_tuple (by rfl)) (pm_and (pm_call false (wk_is_plain T) hr g takes0 (by rfl) (pm_cons (pm_v 6) pm_nil)) (pm_one (pm_cmp (op_inM (hu65 hr)) ok_in (pm_v 6) (pm_v 2))))))) pm_nil)))) (pms_one (pm_ret pm_bl)) pms_nil) (pms_one (pm_ret (pm_not (pm_call false (wk_is_in T) hr g tk (by rfl) (pm_cons (pm_v 4) (pm_cons (pm_call false (wk_made_by T) hr g tk (by rfl) (pm_cons (pm_v 3) (pm_cons (pm_v 5) pm_nil))) pm_nil))))))))))) fa fd F
theorem wk_accepts_out (T : Txt P w K mg cl) : CalG P w K mg base cl 5 "accepts_out" 2 m_accepts_out := calG_of T.a_accepts_out (binds_of fun _ _ _ _ _ _ us hl => match us, hl with | [_, _], _ => rfl) (wf_accepts_out T)
theorem wf_is_short (T : Txt P w K mg cl) (fa : Addr) (fd : FuncData) (F : Fun K "is_short" "is_short" s_is_short fa fd) : FnG P w K mg base 1 fa fd ["value", "most"] (spF K cl 2 m_is_short) :=
  fnD (b := b_is_short) sc_is_short (fun fa cdv A outer s H E g hr tk =>
    pms_one (pm_ret (pm_and (pm_isi T.i_str (pm_v 0) T.z_isinstance T.z_str (by rfl)) (pm_and (pm_chain op_le op_le ok_fLe ok_fLe pm_int (pm_b (nm := "") call_len (ok_len) T.z_len (by rfl) (pm_cons (pm_v 0) pm_nil)) (pm_v 1)) (pm_one (pm_b (nm := "") (cr_all rfl) (ok_all) T.z_all (by rfl) (pm_cons (pm_lcV true (own := [("sign", 2)]) rfl sc_is_short.nd (pm_v 0) (blkOk_by (N := N_is_short) (sc := (defScope s_is_short)) (own := [("sign", 2)]) (by decide +kernel)) (fun _ _ _ _ _ => (pg_name (i := 2) sc_is_short.nd rfl (by first | exact Or.inl rfl | exact Or.inr rfl))) (tgc_name 2 (by decide)) (fun _ _ _ _ _ => pts_nil) (fun _ _ _ => tYes_ok) (fun _ _ _ _ _ => (pm_cmp (op_inM (hu65 hr)) ok_in (pm_v 2) (pm_g (by exact T.g_LETTERS) (fun _ _ => r_LETTERS))))) pm_nil))))))) fa fd F
theorem wk_is_short (T : Txt P w K mg cl) : CalG P w K mg base cl 1 "is_short" 2 m_is_short := calG_of T.a_is_short (binds_of fun _ _ _ _ _ _ us hl => match us, hl with | [_, _], _ => rfl) (wf_is_short T)
theorem wf_row_in (T : Txt P w K mg cl) (fa : Addr) (fd : FuncData) (F : Fun K "row_in" "row_in" s_row_in fa fd) : FnG P w K mg base 3 fa fd ["row"] (spF K cl 1 m_row_in) :=
  fnD (b := b_row_in) sc_row_in (fun fa cdv A outer s H E g hr tk =>
    pms_cons (pm_set 1 sc_row_in.nd (pm_if (pt_truM (pm_isi T.i_str (pm_v 0) T.z_isinstance T.z_str (by rfl))) (pm_split true (pm_v 0) pm_str) (pm_lst true pm_nil))) (pms_cons (pm_ifs (PW.pt (pw_orM (pt_cmpM (op_neM (hu64 hr)) ok_ne (pm_b (nm := "") call_len (ok_len) T.z_len (by rfl) (pm_cons (pm_v 1) pm_nil)) pm_int) (pw_orM (pt_notM (pt_truM (pm_call false (wk_is_short T) hr g tk (by rfl) (pm_cons (pm_ix ix_seq ok_ix (pm_v 1) pm_int) (pm_cons (pm_g (by exact T.g_MOST_LETTERS) (fun _ _ => r_MOST_LETTERS)) pm_nil))))) (pw_or1M (pt_notM (pt_truM (pm_call false (wk_is_table T) hr g tk (by rfl) (pm_cons (pm_ix ix_seq ok_ix (pm_v 1) pm_int) pm_nil)))))))) (pms_one (pm_ret pm_non)) pms_nil) (pms_one (pm_ret (pm_tup (pm_cons (pm_ix ix_seq ok_ix (pm_v 1) pm_int) (pm_cons (pm_ix ix_seq ok_ix (pm_v 1) pm_int) pm_nil))))))) fa fd F
theorem wk_row_in (T : Txt P w K mg cl) : CalG P w K mg base cl 3 "row_in" 1 m_row_in := calG_of T.a_row_in (binds_of fun _ _ _ _ _ _ us hl => match us, hl with | [_], _ => rfl) (wf_row_in T)
theorem wf_wrong_rows (T : Txt P w K mg cl) (fa : Addr) (fd : FuncData) (F : Fun K "wrong_rows" "wrong_rows" s_wrong_rows fa fd) : FnG P w K mg base 4 fa fd ["rows"] (spF K cl 1 m_wrong_rows) :=
  fnD (b := b_wrong_rows) sc_wrong_rows (fun fa cdv A outer s H E g hr tk =>
    pms_cons (pm_ifs (pt_cmpM op_gt ok_fGt (pm_b (nm := "") call_len (ok_len) T.z_len (by rfl) (pm_cons (pm_v 0) pm_nil)) (pm_g (by exact T.g_MOST_TABLES) (fun _ _ => r_MOST_TABLES))) (pms_one (pm_ret (pm_tup (pm_cons pm_non pm_nil)))) pms_nil) (pms_cons (pm_set 1 sc_wrong_rows.nd pm_dicR) (pms_cons (pm_for (passes_of rfl) rfl (pi_en T.z_enumerate (pm_v 0)) (pg_any (n := 2) rfl (pgs_cons (pg_name (i := 2) sc_wrong_rows.nd rfl (by first | exact Or.inl rfl | exact Or.inr rfl)) (pgs_cons (pg_name (i := 3) sc_wrong_rows.nd rfl (by first | exact Or.inl rfl | exact Or.inr rfl)) pgs_nil))) (tg_any (tgs_cons (tg_name 2) (tgs_cons (tg_name 3) tgs_nil))) (pms_cons (pm_set 4 sc_wrong_rows.nd (pm_call false (wk_row_in T) hr g tk (by rfl) (pm_cons (pm_v 3) pm_nil))) (pms_cons (pm_ifs (PW.pt (pw_orM (pt_cmpM op_isN ok_isN (pm_v 4) pm_non) (pw_or1M (pt_cmpM (OpR.or (op_inDG (hu1 hr)) (op_inM (hu65 hr))) (ok_fInD (neg := false) ok_in) (pm_ix ix_seq ok_ix (pm_v 4) pm_int) (pm_v 1))))) (pms_one (pm_ret (pm_tup (pm_cons (pm_v 2) pm_nil)))) pms_nil) (pms_one (pm_asg pm_bl (pg_sub (pm_v 1) (pm_ix ix_seq ok_ix (pm_v 4) pm_int) (set_dict (hu1 hr))) (tg_subD (W := W0) rfl rfl)))))) (pms_one (pm_ret (pm_tup pm_nil)))))) fa fd F
theorem wk_wrong_rows (T : Txt P w K mg cl) : CalG P w K mg base cl 4 "wrong_rows" 1 m_wrong_rows := calG_of T.a_wrong_rows (binds_of fun _ _ _ _ _ _ us hl => match us, hl with | [_], _ => rfl) (wf_wrong_rows T)
theorem wf_Box__init (T : Txt P w K mg cl) (fa : Addr) (fd : FuncData) (F : Fun K "__init__" "Box.__init__" s_Box__init fa fd) : FnV P w K mg base 5 fa (spU K cl m_Box__init) :=
  fnStar (N := N_Box__init) (b := b_Box__init) (ps := ["self"]) (pv := "rows") F sc_Box__init (fun kV doc pm an cdv ct us rest hl => StX.bind_star1 (B := fun us => bindArgs (PySem.W.fnOf "__init__" "Box.__init__" (defArgs s_Box__init) (defBody s_Box__init) (defScope s_Box__init) .none kV doc pm an cdv ct) ⟨us, []⟩) (fun _ => rfl) (fun _ _ _ => rfl) us rest hl) (fun cdv A outer s H E g hr tk =>
    pms_cons (pm_set 2 sc_Box__init.nd (pm_call false (wk_wrong_rows T) hr g tk (by rfl) (pm_cons (pm_v 1) pm_nil))) (pms_cons (pm_ifs (pt_truM (pm_v 2)) (pms_one pm_never) pms_nil) (pms_cons (pm_setF T.fld_told (pm_v 0) (pm_v 1)) (pms_one (pm_setF T.fld_held (pm_v 0) (pm_dc (own := [("row", 3)]) (vs := [3]) rfl sc_Box__init.nd (pi_v (pm_v 1)) (blkOk_by (N := N_Box__init) (sc := (defScope s_Box__init)) (own := [("row", 3)]) (by decide +kernel)) (fun _ _ _ _ _ => (pg_name (i := 3) sc_Box__init.nd rfl (by first | exact Or.inl rfl | exact Or.inr rfl))) (tgc_name 3 (by decide)) (fun _ _ _ _ _ => pts_nil) (fun _ _ _ => tYes_ok) (fun _ _ _ _ _ => (pm_ix ix_seq ok_ix (pm_call false (wk_row_in T) hr g takes0 (by rfl) (pm_cons (pm_v 3) pm_nil)) pm_int)) (fun _ _ _ _ _ => (pm_ix ix_seq ok_ix (pm_call false (wk_row_in T) hr g takes0 (by rfl) (pm_cons (pm_v 3) pm_nil)) pm_int))))))))
theorem mk_Box (T : Txt P w K mg cl) : MkG P w K mg base cl 5 100 "Box" none m_Box__init := mkV_of T.gi_Box T.me_Box__init (wf_Box__init T)
theorem wf_box_from (T : Txt P w K mg cl) (fa : Addr) (fd : FuncData) (F : Fun K "box_from" "box_from" s_box_from fa fd) : FnG P w K mg base 7 fa fd ["text"] (spF K cl 1 m_box_from) :=
  fnD (b := b_box_from) sc_box_from (fun fa cdv A outer s H E g hr tk =>
    pms_cons (pm_set 1 sc_box_from.nd (pm_if (PW.pt (pw_andM (pt_truM (pm_isi T.i_str (pm_v 0) T.z_isinstance T.z_str (by rfl))) (pw_and1M (pt_cmpM (op_neM (hu64 hr)) ok_ne (pm_v 0) pm_str)))) (pm_split true (pm_v 0) pm_str) (pm_lst true pm_nil))) (pms_cons (pm_ifs (PW.pt (pw_orM (pt_notM (pt_truM (pm_isi T.i_str (pm_v 0) T.z_isinstance T.z_str (by rfl)))) (pw_or1M (pt_truM (pm_call false (wk_wrong_rows T) hr g tk (by rfl) (pm_cons (pm_v 1) pm_nil)))))) (pms_one (pm_raise1 0 T.e1_InvalidText T.x_InvalidText (.inl rfl) hr tk T.noS (pm_v 0))) pms_nil) (pms_one (pm_ret (pm_makeS true (mk_Box T) hr g tk (by rfl) (pm_v 1)))))) fa fd F
theorem wk_box_from (T : Txt P w K mg cl) : CalG P w K mg base cl 7 "box_from" 1 m_box_from := calG_of T.a_box_from (binds_of fun _ _ _ _ _ _ us hl => match us, hl with | [_], _ => rfl) (wf_box_from T)
theorem wf_Box__read (T : Txt P w K mg cl) (fa : Addr) (fd : FuncData) (F : Fun K "read" "Box.read" s_Box__read fa fd) : FnG P w K mg base 8 fa fd ["cls", "text"] (spF K cl 2 m_Box__read) :=
  fnM (N := N_Box__read) (b := b_Box__read) F sc_Box__read (fun cdv A outer s H E g hr tk =>
    pms_one (pm_ret (pm_call true (wk_box_from T) hr g tk (by rfl) (pm_cons (pm_v 1) pm_nil))))
theorem cm_Box__read (T : Txt P w K mg cl) : CmG P w K mg base cl 8 "Box" "read" 2000 1 m_Box__read := cmG_of (by decide) T.g2_Box T.rd_Box T.me_Box__read (bindsF_of fun _ _ _ _ _ _ us hl => match us, hl with | [_, _], _ => rfl) (wf_Box__read T)
theorem wf_box_told (T : Txt P w K mg cl) (fa : Addr) (fd : FuncData) (F : Fun K "box_told" "box_told" s_box_told fa fd) : FnG P w K mg base 9 fa fd ["text"] (spF K cl 1 m_box_told) :=
  fnD (b := b_box_told) sc_box_told (fun fa cdv A outer s H E g hr tk =>
    pms_cons (pm_tryO 0 T.e1_InvalidText rfl rfl tk (fun W1 pn xe tk1 => (pms_one (pm_set 1 sc_box_told.nd (pm_cm false (cm_Box__read T) hr g tk1 (by rfl) (pm_cons (pm_v 0) pm_nil))))) (fun a1 pn => (pms_one (pm_set 1 sc_box_told.nd pm_non)))) (pms_one (pm_ret (pm_v 1)))) fa fd F
theorem wk_box_told (T : Txt P w K mg cl) : CalG P w K mg base cl 9 "box_told" 1 m_box_told := calG_of T.a_box_told (binds_of fun _ _ _ _ _ _ us hl => match us, hl with | [_], _ => rfl) (wf_box_told T)
theorem wf_accepts (T : Txt P w K mg cl) (fa : Addr) (fd : FuncData) (F : Fun K "accepts" "accepts" s_accepts fa fd) : FnG P w K mg base 12 fa fd ["claim", "certificate"] (spF K cl 2 m_accepts) :=
  fnD (b := b_accepts) sc_accepts (fun fa cdv A outer s H E g hr tk =>
    pms_cons (pm_ifs (PW.pt (pw_orM (pt_notM (pt_truM (pm_isi T.i_tuple (pm_v 0) T.z_isinstance T.z_tuple (by rfl)))) (pw_orM (pt_cmpM (OpR.or (op_tupE (hu64 hr)) (op_eqM (hu64 hr))) (ok_eqE ok_eq) (pm_v 0) (pm_tup pm_nil)) (pw_or1M (pt_notM (pt_truM (pm_isi T.i_str (pm_ix ix_seq ok_ix (pm_v 0) pm_int) T.z_isinstance T.z_str (by rfl)))))))) (pms_one (pm_ret pm_bl)) pms_nil) (pms_cons (pm_ifs (PW.pt (pw_orM (pt_notInK T.k_LENGTHS (pm_ix ix_seq ok_ix (pm_v 0) pm_int)) (pw_or1M (pt_cmpM (op_neM (hu64 hr)) ok_ne (pm_b (nm := "") call_len (ok_len) T.z_len (by rfl) (pm_cons (pm_v 0) pm_nil)) (pm_ixK T.k_LENGTHS (pm_ix ix_seq ok_ix (pm_v 0) pm_int)))))) (pms_one (pm_ret pm_bl)) pms_nil) (pms_cons (pm_ifs (pt_cmpM (op_eqM (hu64 hr)) ok_eq (pm_ix ix_seq ok_ix (pm_v 0) pm_int) pm_str) (pms_one (pm_ret (pm_call true (wk_accepts_out T) hr g tk (by rfl) (pm_cons (pm_v 0) (pm_cons (pm_v 1) pm_nil))))) pms_nil) (pms_cons (pm_set 2 sc_accepts.nd (pm_call false (wk_box_told T) hr g tk (by rfl) (pm_cons (pm_ix ix_seq ok_ix (pm_v 0) pm_int) pm_nil))) (pms_cons (pm_ifs (pt_cmpM op_isN ok_isN (pm_v 2) pm_non) (pms_one (pm_ret pm_bl)) pms_nil) (pms_cons (pm_ifs (pt_cmpM (op_eqM (hu64 hr)) ok_eq (pm_ix ix_seq ok_ix (pm_v 0) pm_int) pm_str) (pms_one (pm_ret (pm_call true (wk_accepts_all T) hr g tk (by rfl) (pm_cons (pm_v 2) (pm_cons (pm_ix ix_seq ok_ix (pm_v 0) pm_int) (pm_cons (pm_v 1) pm_nil)))))) pms_nil) (pms_cons (pm_ifs (pt_cmpM (op_eqM (hu64 hr)) ok_eq (pm_ix ix_seq ok_ix (pm_v 0) pm_int) pm_str) (pms_one (pm_ret (pm_call true (wk_accepts_made T) hr g tk (by rfl) (pm_cons (pm_v 2) (pm_cons (pm_ix ix_seq ok_ix (pm_v 0) pm_int) (pm_cons (pm_v 1) pm_nil)))))) pms_nil) (pms_one (pm_ret (pm_call true (wk_accepts_kept T) hr g tk (by rfl) (pm_cons (pm_v 2) (pm_cons (pm_ix ix_seq ok_ix (pm_v 0) pm_int) (pm_cons (pm_v 1) pm_nil))))))))))))) fa fd F
theorem wk_accepts (T : Txt P w K mg cl) : CalG P w K mg base cl 12 "accepts" 2 m_accepts := calG_of T.a_accepts (binds_of fun _ _ _ _ _ _ us hl => match us, hl with | [_, _], _ => rfl) (wf_accepts T)
theorem wk_accepts__certificate_claim (T : Txt P w K mg cl) : CalK P w K mg base cl 12 "accepts" 2 m_accepts ["certificate", "claim"] [1, 0] := calK_of T.a_accepts (kb_of fun _ _ _ _ _ _ ws hl => match ws, hl with | [x0, x1], _ => ⟨[x1, x0], rfl, rfl⟩) (wf_accepts T)
theorem wf__law_judged (T : Txt P w K mg cl) (fa : Addr) (fd : FuncData) (F : Fun K "_law_judged" "_law_judged" s__law_judged fa fd) : FnG P w K mg base 13 fa fd ["asked", "paper", "due"] (spF K cl 3 m__law_judged) :=
  fnD (b := b__law_judged) sc__law_judged (fun fa cdv A outer s H E g hr tk =>
    pms_one (pm_ret (pm_cmp (op_eqM (hu64 hr)) ok_eq (pm_b (nm := "") (cr_repr g (hu70 hr)) (ok_repr) T.z_repr (by rfl) (pm_cons (pm_lst true (pm_cons (pm_call false (wk_accepts T) hr g tk (by rfl) (pm_cons (pm_v 0) (pm_cons (pm_v 1) pm_nil))) (pm_cons (pm_callK false (wk_accepts__certificate_claim T) hr g tk (by rfl) (pkm_cons (pm_v 1) (pkm_cons (pm_v 0) pkm_nil))) pm_nil))) pm_nil)) (pm_b (nm := "") (cr_repr g (hu70 hr)) (ok_repr) T.z_repr (by rfl) (pm_cons (pm_lst true (pm_cons (pm_v 2) (pm_cons (pm_v 2) pm_nil))) pm_nil))))) fa fd F
theorem wk__law_judged (T : Txt P w K mg cl) : CalG P w K mg base cl 13 "_law_judged" 3 m__law_judged := calG_of T.a__law_judged (binds_of fun _ _ _ _ _ _ us hl => match us, hl with | [_, _, _], _ => rfl) (wf__law_judged T)
theorem wf__law_draw (T : Txt P w K mg cl) (fa : Addr) (fd : FuncData) (F : Fun K "_law_draw" "_law_draw" s__law_draw fa fd) : FnG P w K mg base 1 fa fd ["spring", "size"] (spF K cl 2 m__law_draw) :=
  fnD (b := b__law_draw) sc__law_draw (fun fa cdv A outer s H E g hr tk =>
    pms_cons (pm_asg (pm_op op_addM (ok_add true) (pm_ix ix_seq ok_ix (pm_v 0) pm_int) pm_int) (pg_sub (pm_v 0) pm_int set_list) (tg_sub (W := W0) rfl rfl)) (pms_cons (pm_asg (pm_op op_mod ok_fMod (pm_t call_intM (ok_int) T.z_int (by rfl) (pm_cons (pm_op op_addM (ok_add true) (pm_op op_addM (ok_add true) (pm_op op_mulM (ok_mul true) (pm_ix ix_seq ok_ix (pm_v 0) pm_int) pm_int) (pm_op op_mulM (ok_mul true) pm_int (pm_ix ix_seq ok_ix (pm_v 0) pm_int))) pm_int) pm_nil)) pm_int) (pg_sub (pm_v 0) pm_int set_list) (tg_sub (W := W0) rfl rfl)) (pms_cons (pm_ifs (pt_cmpM op_gt ok_fGt (pm_ix ix_seq ok_ix (pm_v 0) pm_int) pm_int) (pms_cons (pm_asg (pm_b (nm := "") call_divmodZ (ok_divmod) T.z_divmod (by rfl) (pm_cons (pm_ix ix_seq ok_ix (pm_v 0) pm_int) (pm_cons (pm_v 1) pm_nil))) (pg_any (n := 2) rfl (pgs_cons (pg_sub (pm_v 0) pm_int set_list) (pgs_cons (pg_name (i := 4) sc__law_draw.nd rfl (by first | exact Or.inl rfl | exact Or.inr rfl)) pgs_nil))) (tg_any (tgs_cons (tg_sub (W := W0) rfl rfl) (tgs_cons (tg_name 4) tgs_nil)))) (pms_one (pm_ret (pm_v 4)))) pms_nil) (pms_cons (pm_set 2 sc__law_draw.nd (pm_op op_addM (ok_add true) (pm_ix ix_seq ok_ix (pm_v 0) pm_int) pm_int)) (pms_cons (pm_set 3 sc__law_draw.nd (pm_op op_mod ok_fMod (pm_t call_intM (ok_int) T.z_int (by rfl) (pm_cons (pm_op op_addM (ok_add true) (pm_op op_mulM (ok_mul true) (pm_v 2) (pm_ix ix_seq ok_ix (pm_v 0) pm_int)) (pm_ix ix_seq ok_ix (pm_v 0) pm_int)) pm_nil)) pm_int)) (pms_one (pm_ret (pm_op op_mod ok_fMod (pm_t call_intM (ok_int) T.z_int (by rfl) (pm_cons (pm_op op_fdiv ok_fFdv (pm_v 3) pm_int) pm_nil)) (pm_v 1))))))))) fa fd F
theorem wk__law_draw (T : Txt P w K mg cl) : CalG P w K mg base cl 1 "_law_draw" 2 m__law_draw := calG_of T.a__law_draw (binds_of fun _ _ _ _ _ _ us hl => match us, hl with | [_, _], _ => rfl) (wf__law_draw T)
theorem wf__law_of (T : Txt P w K mg cl) (fa : Addr) (fd : FuncData) (F : Fun K "_law_of" "_law_of" s__law_of fa fd) : FnG P w K mg base 2 fa fd ["spring", "menu"] (spF K cl 2 m__law_of) :=
  fnD (b := b__law_of) sc__law_of (fun fa cdv A outer s H E g hr tk =>
    pms_one (pm_ret (pm_ix ix_seq ok_ix (pm_v 1) (pm_call false (wk__law_draw T) hr g tk (by rfl) (pm_cons (pm_v 0) (pm_cons (pm_b (nm := "") call_len (ok_len) T.z_len (by rfl) (pm_cons (pm_v 1) pm_nil)) pm_nil)))))) fa fd F
theorem wk__law_of (T : Txt P w K mg cl) : CalG P w K mg base cl 2 "_law_of" 2 m__law_of := calG_of T.a__law_of (binds_of fun _ _ _ _ _ _ us hl => match us, hl with | [_, _], _ => rfl) (wf__law_of T)
theorem wf__law_odd_part (T : Txt P w K mg cl) (fa : Addr) (fd : FuncData) (F : Fun K "_law_odd_part" "_law_odd_part" s__law_odd_part fa fd) : FnG P w K mg base 3 fa fd ["spring"] (spF K cl 1 m__law_odd_part) :=
  fnD (b := b__law_odd_part) sc__law_odd_part (fun fa cdv A outer s H E g hr tk =>
    pms_cons (pm_set 1 sc__law_odd_part.nd (pm_lst true (pm_cons pm_non (pm_cons pm_bl (pm_cons pm_bl (pm_cons (pm_un un_neg ok_neg pm_int) (pm_cons pm_int (pm_cons (pm_op op_pow ok_fPow pm_int pm_int) (pm_cons pm_str (pm_cons pm_str (pm_cons pm_str (pm_cons (pm_lst true pm_nil) (pm_cons pm_dic0 (pm_cons (pm_tup (pm_cons pm_non pm_nil)) (pm_cons (pm_tup (pm_cons (pm_lst true pm_nil) pm_nil)) (pm_cons (pm_tup (pm_cons (pm_tup pm_nil) pm_nil)) (pm_cons (pm_lst true (pm_cons pm_str pm_nil)) pm_nil))))))))))))))))) (pms_one (pm_ret (pm_call true (wk__law_of T) hr g tk (by rfl) (pm_cons (pm_v 0) (pm_cons (pm_op op_addM (ok_add true) (pm_v 1) (pm_lst true (pm_cons (pm_tup (pm_cons pm_str pm_nil)) (pm_cons (pm_tup (pm_cons pm_int pm_nil)) (pm_cons (pm_tup (pm_cons pm_int (pm_cons pm_int pm_nil))) (pm_cons (pm_tup (pm_cons pm_bl (pm_cons pm_int pm_nil))) (pm_cons (pm_tup (pm_cons pm_str pm_nil)) (pm_cons pm_str (pm_cons pm_str pm_nil))))))))) pm_nil)))))) fa fd F
theorem wk__law_odd_part (T : Txt P w K mg cl) : CalG P w K mg base cl 3 "_law_odd_part" 1 m__law_odd_part := calG_of T.a__law_odd_part (binds_of fun _ _ _ _ _ _ us hl => match us, hl with | [_], _ => rfl) (wf__law_odd_part T)
theorem wf__law_put_in_0 (T : Txt P w K mg cl) (fa : Addr) (fd : FuncData) (F : Fun K "_law_put_in" "_law_put_in" s__law_put_in fa fd) : FnG P w K mg base 2 fa fd ["spring", "thing", "odd"] (spF K cl 3 m__law_put_in_0) := fn_bad rfl
theorem wk__law_put_in_0 (T : Txt P w K mg cl) : CalG P w K mg base cl 2 "_law_put_in" 3 m__law_put_in_0 := calG_of T.a__law_put_in (binds_of fun _ _ _ _ _ _ us hl => match us, hl with | [_, _, _], _ => rfl) (wf__law_put_in_0 T)
theorem wf__law_put_in_1 (T : Txt P w K mg cl) (fa : Addr) (fd : FuncData) (F : Fun K "_law_put_in" "_law_put_in" s__law_put_in fa fd) : FnG P w K mg base 3 fa fd ["spring", "thing", "odd"] (spF K cl 3 m__law_put_in_1) :=
  fnD (b := b__law_put_in_1) sc__law_put_in (fun fa cdv A outer s H E g hr tk =>
    pms_cons (pm_ifs (PW.pt (pw_orM (pt_notM (pt_truM (pm_isi T.i_tuple (pm_v 1) T.z_isinstance T.z_tuple (by rfl)))) (pw_orM (pt_cmpM (op_eqM (hu64 hr)) ok_eq (pm_v 1) (pm_tup pm_nil)) (pw_or1M (pt_cmpM (op_eqM (hu64 hr)) ok_eq (pm_call false (wk__law_draw T) hr g tk (by rfl) (pm_cons (pm_v 0) (pm_cons pm_int pm_nil))) pm_int))))) (pms_one (pm_ret (pm_v 2))) pms_nil) (pms_cons (pm_set 3 sc__law_put_in.nd (pm_call false (wk__law_draw T) hr g tk (by rfl) (pm_cons (pm_v 0) (pm_cons (pm_b (nm := "") call_len (ok_len) T.z_len (by rfl) (pm_cons (pm_v 1) pm_nil)) pm_nil)))) (pms_one (pm_ret (pm_op op_addM (ok_add false) (pm_op op_addM (ok_add true) (pm_slice true (pm_v 1) po_n (po_e (pm_v 3))) (pm_tup (pm_cons (pm_call false (wk__law_put_in_0 T) hr g tk (by rfl) (pm_cons (pm_v 0) (pm_cons (pm_ix ix_seq ok_ix (pm_v 1) (pm_v 3)) (pm_cons (pm_v 2) pm_nil)))) pm_nil))) (pm_slice true (pm_v 1) (po_e (pm_op op_addM (ok_add true) (pm_v 3) pm_int)) po_n)))))) fa fd F
theorem wk__law_put_in_1 (T : Txt P w K mg cl) : CalG P w K mg base cl 3 "_law_put_in" 3 m__law_put_in_1 := calG_of T.a__law_put_in (binds_of fun _ _ _ _ _ _ us hl => match us, hl with | [_, _, _], _ => rfl) (wf__law_put_in_1 T)
theorem wf__law_put_in_2 (T : Txt P w K mg cl) (fa : Addr) (fd : FuncData) (F : Fun K "_law_put_in" "_law_put_in" s__law_put_in fa fd) : FnG P w K mg base 4 fa fd ["spring", "thing", "odd"] (spF K cl 3 m__law_put_in_2) :=
  fnD (b := b__law_put_in_2) sc__law_put_in (fun fa cdv A outer s H E g hr tk =>
    pms_cons (pm_ifs (PW.pt (pw_orM (pt_notM (pt_truM (pm_isi T.i_tuple (pm_v 1) T.z_isinstance T.z_tuple (by rfl)))) (pw_orM (pt_cmpM (op_eqM (hu64 hr)) ok_eq (pm_v 1) (pm_tup pm_nil)) (pw_or1M (pt_cmpM (op_eqM (hu64 hr)) ok_eq (pm_call false (wk__law_draw T) hr g tk (by rfl) (pm_cons (pm_v 0) (pm_cons pm_int pm_nil))) pm_int))))) (pms_one (pm_ret (pm_v 2))) pms_nil) (pms_cons (pm_set 3 sc__law_put_in.nd (pm_call false (wk__law_draw T) hr g tk (by rfl) (pm_cons (pm_v 0) (pm_cons (pm_b (nm := "") call_len (ok_len) T.z_len (by rfl) (pm_cons (pm_v 1) pm_nil)) pm_nil)))) (pms_one (pm_ret (pm_op op_addM (ok_add false) (pm_op op_addM (ok_add true) (pm_slice true (pm_v 1) po_n (po_e (pm_v 3))) (pm_tup (pm_cons (pm_call false (wk__law_put_in_1 T) hr g tk (by rfl) (pm_cons (pm_v 0) (pm_cons (pm_ix ix_seq ok_ix (pm_v 1) (pm_v 3)) (pm_cons (pm_v 2) pm_nil)))) pm_nil))) (pm_slice true (pm_v 1) (po_e (pm_op op_addM (ok_add true) (pm_v 3) pm_int)) po_n)))))) fa fd F
theorem wk__law_put_in_2 (T : Txt P w K mg cl) : CalG P w K mg base cl 4 "_law_put_in" 3 m__law_put_in_2 := calG_of T.a__law_put_in (binds_of fun _ _ _ _ _ _ us hl => match us, hl with | [_, _, _], _ => rfl) (wf__law_put_in_2 T)
theorem wf__law_put_in_3 (T : Txt P w K mg cl) (fa : Addr) (fd : FuncData) (F : Fun K "_law_put_in" "_law_put_in" s__law_put_in fa fd) : FnG P w K mg base 5 fa fd ["spring", "thing", "odd"] (spF K cl 3 m__law_put_in_3) :=
  fnD (b := b__law_put_in_3) sc__law_put_in (fun fa cdv A outer s H E g hr tk =>
    pms_cons (pm_ifs (PW.pt (pw_orM (pt_notM (pt_truM (pm_isi T.i_tuple (pm_v 1) T.z_isinstance T.z_tuple (by rfl)))) (pw_orM (pt_cmpM (op_eqM (hu64 hr)) ok_eq (pm_v 1) (pm_tup pm_nil)) (pw_or1M (pt_cmpM (op_eqM (hu64 hr)) ok_eq (pm_call false (wk__law_draw T) hr g tk (by rfl) (pm_cons (pm_v 0) (pm_cons pm_int pm_nil))) pm_int))))) (pms_one (pm_ret (pm_v 2))) pms_nil) (pms_cons (pm_set 3 sc__law_put_in.nd (pm_call false (wk__law_draw T) hr g tk (by rfl) (pm_cons (pm_v 0) (pm_cons (pm_b (nm := "") call_len (ok_len) T.z_len (by rfl) (pm_cons (pm_v 1) pm_nil)) pm_nil)))) (pms_one (pm_ret (pm_op op_addM (ok_add false) (pm_op op_addM (ok_add true) (pm_slice true (pm_v 1) po_n (po_e (pm_v 3))) (pm_tup (pm_cons (pm_call false (wk__law_put_in_2 T) hr g tk (by rfl) (pm_cons (pm_v 0) (pm_cons (pm_ix ix_seq ok_ix (pm_v 1) (pm_v 3)) (pm_cons (pm_v 2) pm_nil)))) pm_nil))) (pm_slice true (pm_v 1) (po_e (pm_op op_addM (ok_add true) (pm_v 3) pm_int)) po_n)))))) fa fd F
theorem wk__law_put_in_3 (T : Txt P w K mg cl) : CalG P w K mg base cl 5 "_law_put_in" 3 m__law_put_in_3 := calG_of T.a__law_put_in (binds_of fun _ _ _ _ _ _ us hl => match us, hl with | [_, _, _], _ => rfl) (wf__law_put_in_3 T)
theorem wf__law_put_in_4 (T : Txt P w K mg cl) (fa : Addr) (fd : FuncData) (F : Fun K "_law_put_in" "_law_put_in" s__law_put_in fa fd) : FnG P w K mg base 6 fa fd ["spring", "thing", "odd"] (spF K cl 3 m__law_put_in_4) :=
  fnD (b := b__law_put_in_4) sc__law_put_in (fun fa cdv A outer s H E g hr tk =>
    pms_cons (pm_ifs (PW.pt (pw_orM (pt_notM (pt_truM (pm_isi T.i_tuple (pm_v 1) T.z_isinstance T.z_tuple (by rfl)))) (pw_orM (pt_cmpM (op_eqM (hu64 hr)) ok_eq (pm_v 1) (pm_tup pm_nil)) (pw_or1M (pt_cmpM (op_eqM (hu64 hr)) ok_eq (pm_call false (wk__law_draw T) hr g tk (by rfl) (pm_cons (pm_v 0) (pm_cons pm_int pm_nil))) pm_int))))) (pms_one (pm_ret (pm_v 2))) pms_nil) (pms_cons (pm_set 3 sc__law_put_in.nd (pm_call false (wk__law_draw T) hr g tk (by rfl) (pm_cons (pm_v 0) (pm_cons (pm_b (nm := "") call_len (ok_len) T.z_len (by rfl) (pm_cons (pm_v 1) pm_nil)) pm_nil)))) (pms_one (pm_ret (pm_op op_addM (ok_add false) (pm_op op_addM (ok_add true) (pm_slice true (pm_v 1) po_n (po_e (pm_v 3))) (pm_tup (pm_cons (pm_call false (wk__law_put_in_3 T) hr g tk (by rfl) (pm_cons (pm_v 0) (pm_cons (pm_ix ix_seq ok_ix (pm_v 1) (pm_v 3)) (pm_cons (pm_v 2) pm_nil)))) pm_nil))) (pm_slice true (pm_v 1) (po_e (pm_op op_addM (ok_add true) (pm_v 3) pm_int)) po_n)))))) fa fd F
theorem wk__law_put_in_4 (T : Txt P w K mg cl) : CalG P w K mg base cl 6 "_law_put_in" 3 m__law_put_in_4 := calG_of T.a__law_put_in (binds_of fun _ _ _ _ _ _ us hl => match us, hl with | [_, _, _], _ => rfl) (wf__law_put_in_4 T)
theorem wk__law_put_in (T : Txt P w K mg cl) : CalG P w K mg base cl 6 "_law_put_in" 3 m__law_put_in := wk__law_put_in_4 T
theorem wf__law_right (T : Txt P w K mg cl) (fa : Addr) (fd : FuncData) (F : Fun K "_law_right" "_law_right" s__law_right fa fd) : FnG P w K mg base 14 fa fd ["spring"] (spF K cl 1 m__law_right) :=
  fnD (b := b__law_right) sc__law_right (fun fa cdv A outer s H E g hr tk =>
    pms_cons (pm_set 1 sc__law_right.nd (pm_lst true (pm_cons pm_str (pm_cons pm_str pm_nil)))) (pms_cons (pm_set 2 sc__law_right.nd (pm_op op_addM (ok_add true) (pm_call0 false (wk__law_bank T) hr g tk (by rfl)) (pm_lst true (pm_cons (pm_tup (pm_cons (pm_tup (pm_cons pm_str (pm_cons (pm_join pm_str (pm_v 1)) (pm_cons pm_str pm_nil)))) (pm_cons (pm_call false (wk__law_closing T) hr g tk (by rfl) (pm_cons (pm_v 1) pm_nil)) pm_nil))) pm_nil)))) (pms_cons (pm_forV (passes_of rfl) rfl (pm_v 2) (pg_any (n := 2) rfl (pgs_cons (pg_name (i := 3) sc__law_right.nd rfl (by first | exact Or.inl rfl | exact Or.inr rfl)) (pgs_cons (pg_name (i := 4) sc__law_right.nd rfl (by first | exact Or.inl rfl | exact Or.inr rfl)) pgs_nil))) (tg_any (tgs_cons (tg_name 3) (tgs_cons (tg_name 4) tgs_nil))) (pms_cons (pm_ifs (pt_notM (pt_truM (pm_call false (wk__law_judged T) hr g tk (by rfl) (pm_cons (pm_v 3) (pm_cons (pm_v 4) (pm_cons pm_bl pm_nil)))))) (pms_one (pm_ret pm_bl)) pms_nil) (pms_cons (pm_set 5 sc__law_right.nd (pm_lst true (pm_cons (pm_t (CallR.or call_list_of (CallR.or (call_list_txt rfl) (call_list_dK rfl))) (ok_list2 true) T.z_list (by rfl) (pm_cons (pm_v 3) pm_nil)) (pm_cons (pm_slice true (pm_v 3) po_n (po_e (pm_un un_neg ok_neg pm_int))) (pm_cons (pm_op op_addM (ok_add true) (pm_v 3) (pm_tup (pm_cons (pm_v 4) pm_nil))) (pm_cons (pm_rev2 true (pm_v 3)) (pm_cons (pm_tup (pm_cons (pm_v 3) pm_nil)) (pm_cons (pm_slice true (pm_v 3) (po_e pm_int) po_n) (pm_cons pm_non (pm_cons (pm_ix ix_seq ok_ix (pm_v 3) pm_int) (pm_cons (pm_tup pm_nil) pm_nil))))))))))) (pms_cons (pm_forV (passes_of rfl) rfl (pm_v 5) (pg_name (i := 6) sc__law_right.nd rfl (by first | exact Or.inl rfl | exact Or.inr rfl)) (tg_name 6) (pms_one (pm_ifs (pt_notM (pt_truM (pm_call false (wk__law_judged T) hr g tk (by rfl) (pm_cons (pm_v 6) (pm_cons (pm_v 4) (pm_cons pm_bl pm_nil)))))) (pms_one (pm_ret pm_bl)) pms_nil))) (pms_cons (pm_set 7 sc__law_right.nd (pm_call false (wk__law_of T) hr g tk (by rfl) (pm_cons (pm_v 0) (pm_cons (pm_lst true (pm_cons pm_str (pm_cons pm_str (pm_cons pm_str (pm_cons pm_str (pm_cons pm_str (pm_cons pm_non (pm_cons pm_int (pm_cons (pm_tup (pm_cons (pm_ix ix_seq ok_ix (pm_v 3) pm_int) pm_nil)) (pm_cons (pm_lst true (pm_cons pm_str pm_nil)) (pm_cons pm_str pm_nil))))))))))) pm_nil)))) (pms_cons (pm_ifs (pt_notM (pt_truM (pm_call false (wk__law_judged T) hr g tk (by rfl) (pm_cons (pm_op op_addM (ok_add true) (pm_tup (pm_cons (pm_v 7) pm_nil)) (pm_slice true (pm_v 3) (po_e pm_int) po_n)) (pm_cons (pm_v 4) (pm_cons pm_bl pm_nil)))))) (pms_one (pm_ret pm_bl)) pms_nil) (pms_cons (pm_set 8 sc__law_right.nd (pm_lst true (pm_cons (pm_op op_addM (ok_add true) (pm_ix ix_seq ok_ix (pm_v 3) pm_int) pm_str) (pm_cons (pm_op op_addM (ok_add true) pm_str (pm_ix ix_seq ok_ix (pm_v 3) pm_int)) (pm_cons (pm_op op_addM (ok_add true) (pm_ix ix_seq ok_ix (pm_v 3) pm_int) pm_str) (pm_cons (pm_op op_addM (ok_add true) (pm_slice true (pm_ix ix_seq ok_ix (pm_v 3) pm_int) (po_e pm_int) po_n) pm_str) (pm_cons pm_non (pm_cons (pm_tup (pm_cons (pm_ix ix_seq ok_ix (pm_v 3) pm_int) pm_nil)) pm_nil)))))))) (pms_cons (pm_ifs (pt_notM (pt_truM (pm_call false (wk__law_judged T) hr g tk (by rfl) (pm_cons (pm_op op_addM (ok_add true) (pm_op op_addM (ok_add true) (pm_slice true (pm_v 3) po_n (po_e pm_int)) (pm_tup (pm_cons (pm_call false (wk__law_of T) hr g tk (by rfl) (pm_cons (pm_v 0) (pm_cons (pm_v 8) pm_nil))) pm_nil))) (pm_slice true (pm_v 3) (po_e pm_int) po_n)) (pm_cons (pm_v 4) (pm_cons pm_bl pm_nil)))))) (pms_one (pm_ret pm_bl)) pms_nil) (pms_cons (pm_set 9 sc__law_right.nd (pm_call false (wk__law_odd_part T) hr g tk (by rfl) (pm_cons (pm_v 0) pm_nil))) (pms_cons (pm_ifs (pt_notM (pt_truM (pm_call false (wk__law_judged T) hr g tk (by rfl) (pm_cons (pm_call false (wk__law_put_in T) hr g tk (by rfl) (pm_cons (pm_v 0) (pm_cons (pm_v 3) (pm_cons (pm_v 9) pm_nil)))) (pm_cons (pm_v 4) (pm_cons pm_bl pm_nil)))))) (pms_one (pm_ret pm_bl)) pms_nil) (pms_cons (pm_ifs (PW.pt (pw_orM (pt_notM (pt_truM (pm_call false (wk__law_judged T) hr g tk (by rfl) (pm_cons (pm_v 9) (pm_cons (pm_v 9) (pm_cons pm_bl pm_nil)))))) (pw_or1M (pt_notM (pt_truM (pm_call false (wk__law_judged T) hr g tk (by rfl) (pm_cons (pm_v 3) (pm_cons (pm_v 9) (pm_cons pm_bl pm_nil))))))))) (pms_one (pm_ret pm_bl)) pms_nil) (pms_one (pm_for (passes_of rfl) rfl (pi_v (pm_lst true (pm_cons (pm_tup (pm_cons (pm_v 4) pm_nil)) (pm_cons (pm_lst true (pm_cons (pm_v 4) pm_nil)) (pm_cons pm_dic0 (pm_cons pm_str (pm_cons pm_int (pm_cons pm_bl (pm_cons pm_non (pm_cons (pm_v 3) pm_nil)))))))))) (pg_name (i := 10) sc__law_right.nd rfl (by first | exact Or.inl rfl | exact Or.inr rfl)) (tg_name 10) (pms_one (pm_ifs (pt_notM (pt_truM (pm_call false (wk__law_judged T) hr g tk (by rfl) (pm_cons (pm_v 3) (pm_cons (pm_v 10) (pm_cons pm_bl pm_nil)))))) (pms_one (pm_ret pm_bl)) pms_nil))))))))))))))) (pms_one (pm_ret pm_bl))))) fa fd F
theorem wk__law_right (T : Txt P w K mg cl) : CalG P w K mg base cl 14 "_law_right" 1 m__law_right := calG_of T.a__law_right (binds_of fun _ _ _ _ _ _ us hl => match us, hl with | [_], _ => rfl) (wf__law_right T)
theorem wf__law_spring (T : Txt P w K mg cl) (fa : Addr) (fd : FuncData) (F : Fun K "_law_spring" "_law_spring" s__law_spring fa fd) : FnG P w K mg base 1 fa fd ["cells", "k"] (spF K cl 2 m__law_spring) :=
  fnD (b := b__law_spring) sc__law_spring (fun fa cdv A outer s H E g hr tk =>
    pms_cons (pm_set 2 sc__law_spring.nd (pm_if (pt_cmpM op_lt ok_fLt (pm_v 1) (pm_b (nm := "") call_len (ok_len) T.z_len (by rfl) (pm_cons (pm_v 0) pm_nil))) (pm_ix ix_seq ok_ix (pm_v 0) (pm_v 1)) (pm_op op_addM (ok_add true) (pm_op op_mulM (ok_mul true) pm_int (pm_v 1)) pm_int))) (pms_cons (pm_set 3 sc__law_spring.nd (pm_op op_addM (ok_add true) pm_int (pm_op op_mulM (ok_mul true) pm_int (pm_v 1)))) (pms_cons (pm_for (passes_of rfl) rfl (pi_v (pm_op op_addM (ok_add true) (pm_slice true (pm_v 0) po_n (po_e pm_int)) (pm_lst true (pm_cons (pm_v 2) pm_nil)))) (pg_name (i := 4) sc__law_spring.nd rfl (by first | exact Or.inl rfl | exact Or.inr rfl)) (tg_name 4) (pms_one (pm_set 3 sc__law_spring.nd (pm_op op_mod ok_fMod (pm_t call_intM (ok_int) T.z_int (by rfl) (pm_cons (pm_op op_addM (ok_add true) (pm_op op_addM (ok_add true) (pm_op op_mulM (ok_mul true) (pm_v 3) pm_int) (pm_t call_intM (ok_int) T.z_int (by rfl) (pm_cons (pm_v 4) pm_nil))) (pm_op op_mulM (ok_mul true) pm_int (pm_v 1))) pm_nil)) pm_int)))) (pms_one (pm_ret (pm_lst false (pm_cons (pm_if (PW.pt (pw_orM (pt_cmpM op_lt ok_fLt (pm_v 2) pm_int) (pw_or1M (pt_cmpM op_ge ok_fGe (pm_v 2) (pm_op op_pow ok_fPow pm_int pm_int))))) (pm_b (nm := "") call_abs (ok_abs) T.z_abs (by rfl) (pm_cons (pm_v 2) pm_nil)) pm_int) (pm_cons (pm_v 3) (pm_cons pm_int pm_nil))))))))) fa fd F
theorem wk__law_spring (T : Txt P w K mg cl) : CalG P w K mg base cl 1 "_law_spring" 2 m__law_spring := calG_of T.a__law_spring (binds_of fun _ _ _ _ _ _ us hl => match us, hl with | [_, _], _ => rfl) (wf__law_spring T)
theorem wf_law (T : Txt P w K mg cl) (fa : Addr) (fd : FuncData) (F : Fun K "law" "law" s_law fa fd) : FnG P w K mg base 15 fa fd ["cells"] (spF K cl 1 m_law) :=
  fnD (b := b_law) sc_law (fun fa cdv A outer s H E g hr tk =>
    pms_one (pm_ret (pm_b (nm := "") (cr_all rfl) (ok_all) T.z_all (by rfl) (pm_cons (pm_lc true (own := [("k", 1)]) rfl sc_law.nd (pi_r1 T.z_range (pm_b (nm := "") (call_max2 rfl) (ok_max2) T.z_max (by rfl) (pm_cons pm_int (pm_cons (pm_b (nm := "") (call_min2 rfl) (ok_min2) T.z_min (by rfl) (pm_cons (pm_b (nm := "") call_len (ok_len) T.z_len (by rfl) (pm_cons (pm_v 0) pm_nil)) (pm_cons pm_int pm_nil))) pm_nil)))) (blkOk_by (N := N_law) (sc := (defScope s_law)) (own := [("k", 1)]) (by decide +kernel)) (fun _ _ _ _ _ => (pg_name (i := 1) sc_law.nd rfl (by first | exact Or.inl rfl | exact Or.inr rfl))) (tgc_name 1 (by decide)) (fun _ _ _ _ _ => pts_nil) (fun _ _ _ => tYes_ok) (fun _ _ _ _ _ => (pm_call false (wk__law_right T) hr g takes0 (by rfl) (pm_cons (pm_call true (wk__law_spring T) hr g takes0 (by rfl) (pm_cons (pm_v 0) (pm_cons (pm_v 1) pm_nil))) pm_nil)))) pm_nil)))) fa fd F
theorem all_mk {fa : Addr} (T : Txt P w K mg ⟨cgn K ["Box"] ["Box"], []⟩) (hm : mg "law" = some (.ref fa)) :
    ∃ (fd : FuncData) (cl : Nat → Addr), (∀ (s : Shared) (u : Value), BindsTo s fd ⟨[u], []⟩ [("cells", u)]) ∧ ∀ base : Heap, K.In base → base.Ns mainGlobals mg → FnG P w K mg base 15 fa fd ["cells"] (spF K ⟨cl, []⟩ 1 m_law) :=
  law_end (cl := (cgn K ["Box"] ["Box"])) hm T.a_law (bindsL fun _ _ _ _ _ _ _ => rfl) fun base => wf_law T
end
end T3
namespace T3
open PySem PySem.Spec PyProof.Rows L2
noncomputable def prs (f : Nat → Nat → Bool) : List (List Nat) := (allA 2).filter fun a => f (gd a 0) (gd a 1)
noncomputable def relN (w : Str) : List (List Nat) :=
  if w = "set 0" then [[0]] else if w = "set 1" then [[1]] else if w = "set 2" then [[2]] else if w = "set 01" then [[0], [1]] else if w = "set 02" then [[0], [2]] else if w = "set 12" then [[1], [2]]
  else if w = "part 0" then prs fun x y => x == y || (x != 0 && y != 0) else if w = "part 1" then prs fun x y => x == y || (x != 1 && y != 1) else if w = "part 2" then prs fun x y => x == y || (x != 2 && y != 2)
  else if w = "turn" then [[0, 1], [1, 2], [2, 0]] else if w = "sums" then (allA 4).filter fun a => (gd a 0 + gd a 1) % 3 == (gd a 2 + gd a 3) % 3
  else if w = "chain 0" then prs fun x y => x == y || (x == 1 && y == 0) || (x == 0 && y == 2) || (x == 1 && y == 2)
  else if w = "chain 1" then prs fun x y => x ≤ y
  else if w = "chain 2" then prs fun x y => x == y || (x == 0 && y == 2) || (x == 2 && y == 1) || (x == 0 && y == 1)
  else if w = "centre 0" then prs fun x y => x == y || x == 0 || y == 0 else if w = "centre 1" then prs fun x y => x == y || x == 1 || y == 1 else if w = "centre 2" then prs fun x y => x == y || x == 2 || y == 2
  else (allA 3).filter fun a => gd a 0 == gd a 1 || gd a 1 == gd a 2 || gd a 0 == gd a 2
noncomputable def lenW (w : Str) : Nat := (gd0 (relN w)).length where gd0 : List (List Nat) → List Nat := fun l => l.headD []
noncomputable def blOf : Option D → Option Bool
  | some (.bl b) => some b
  | _ => none
theorem blOf_some {x : Option D} {b : Bool} (h : blOf x = some b) : x = some (.bl b) := by
  cases x with
  | none => cases h
  | some d => cases d <;> simp [blOf] at h; rw [h]
end T3
namespace T3
open PySem PySem.Spec PyProof.Rows L2
noncomputable def accO (a c : D) : Option Bool := blOf (gives (m_accepts [.val a, .val c] []))
noncomputable def fls (a c : D) : Bool := match accO a c with
  | some false => true
  | _ => false
noncomputable def tru1 (a c : D) : Bool := match accO a c with
  | some true => true
  | _ => false
/-- what stands in no right claim -/
noncomputable def odds : List D := [.non, .bl true, .bl false, .int (-1), .int 99, .int 1000000000000000000000000000000000000000, .str "A", .str "zz", .str "0121", .lst [], .dic [] [], .tup [.non], .tup [.lst []], .tup [.tup []], .lst [.str "up"], .tup [.str "zz"], .tup [.int 3], .tup [.int 0, .int 3], .tup [.bl true, .int 1], .tup [.str "up"], .str "set 3", .str "max 012112222\n"]
/-- a value put in the place of a part, at any depth -/
noncomputable def putsF : Nat → D → D → List D
  | n + 1, .tup xs, o => o :: (List.range xs.length).flatMap fun i => (putsF n (xs.getD i .non) o).map fun y => .tup (xs.take i ++ [y] ++ xs.drop (i + 1))
  | _, _, o => [o]
/-- tuples within tuples, of so much depth, that can be compared -/
noncomputable def okF : Nat → D → Bool
  | 0, _ => false
  | n + 1, .tup xs => shp (.tup xs) && decide (xs.length ≤ 10) && xs.all (okF n)
  | _, .ins _ _ _ => false
  | _, .wt _ => false
  | _, _ => true
noncomputable def som (xs : List D) (c : D) : List D := [.lst xs, .tup (cutD xs none (some (-1))), .tup (xs ++ [c]), .tup xs.reverse, .tup [.tup xs], .tup (cutD xs (some 1) none), .non, xs.headD .non, .tup []]
noncomputable def oth (xs : List D) : List D := [.str "All", .str "", .str "keep", .str "outs", .str "make", .non, .int 0, .tup [xs.headD .non], .lst [.str "kept"], .str "made "]
noncomputable def pag (t : Str) : List D := [.str (t ++ "\n"), .str (" " ++ t), .str (t ++ " "), .str (cutS t (some 1) none ++ "3"), .non, .tup [.str t]]
noncomputable def mat (xs : List D) (c : D) : List D := [.tup [c], .lst [c], .dic [] [], .str "all", .int 0, .bl true, .non, .tup xs]
structure It where
  h : Str
  t : Str
  r : List D
  c : D
noncomputable def It.xs (i : It) : List D := .str i.h :: .str i.t :: i.r
noncomputable def It.d (i : It) : D := .tup [.tup i.xs, i.c]
noncomputable def chkA (i : It) : Bool := tru1 (.tup i.xs) i.c && ((som i.xs i.c).all (fun w => fls w i.c) && ((oth i.xs).all (fun w => fls (.tup ([w] ++ cutD i.xs (some 1) none)) i.c) &&
  ((pag i.t).all (fun w => fls (.tup (cutD i.xs none (some 1) ++ [w] ++ cutD i.xs (some 2) none)) i.c) && (mat i.xs i.c).all (fun w => fls (.tup i.xs) w))))
noncomputable def chkB (i : It) : Bool := odds.all fun o => fls (.tup i.xs) o && (putsF 4 (.tup i.xs) o).all (fun y => fls y i.c)
noncomputable def chkC (i : It) : Bool := okF 4 (.tup i.xs) && (decide (i.t.length ≤ 100) && (decide (i.r.length ≤ 2) && decide (1 ≤ i.r.length)))
noncomputable def txA : Str := "max 012112222\nswap 210"
noncomputable def txB : Str := "max 012112222\nup 120"
noncomputable def sp (n : Str) (ks : List Nat) : D := .tup [.str n, .tup (ks.map nD)]
noncomputable def cloD : D := .tup [sp "up" [0], sp "max" [0, 1], sp "up" [1], sp "max" [0, 3], sp "max" [1, 3], sp "max" [2, 3], sp "up" [2], sp "max" [1, 7], sp "up" [4], sp "up" [5], sp "up" [6], sp "up" [7], sp "max" [0, 9], sp "max" [1, 12], sp "max" [3, 10], sp "max" [3, 12], sp "max" [9, 12], sp "up" [8], sp "up" [9], sp "up" [10], sp "up" [11], sp "max" [0, 19], sp "max" [7, 20], sp "max" [10, 19], sp "up" [13], sp "up" [15]]
noncomputable def it0 : It := ⟨"kept", txA, [.str "set 1"], .tup []⟩
noncomputable def it1 : It := ⟨"kept", txA, [.str "centre 1"], .tup []⟩
noncomputable def it2 : It := ⟨"kept", "", [.str "mixed"], .tup []⟩
noncomputable def it3 : It := ⟨"out", "012112222", [.str "part 1", .tup [.tup [.int 0, .int 2], .tup [.int 1, .int 1]]], .tup []⟩
noncomputable def it4 : It := ⟨"out", "120", [.str "set 0", .tup [.tup [.int 0]]], .tup []⟩
noncomputable def it5 : It := ⟨"out", "210", [.str "turn", .tup [.tup [.int 0, .int 1]]], .tup []⟩
noncomputable def it6 : It := ⟨"made", txA, [.str "212"], .tup [sp "swap" [0], sp "max" [0, 1]]⟩
noncomputable def it7 : It := ⟨"made", txA, [.str "012"], .tup []⟩
noncomputable def it8 : It := ⟨"made", txB, [.str "222"], .tup [sp "up" [0], sp "up" [1], sp "max" [1, 2], sp "max" [0, 3]]⟩
noncomputable def it9 : It := ⟨"all", txB, [.str "max"], cloD⟩
noncomputable def its : List It := [it0, it1, it2, it3, it4, it5, it6, it7, it8, it9]
theorem ck_C : its.all chkC = true := by decide +kernel
theorem ck_o : odds.all (fun o => fls o o) = true := by decide +kernel
theorem ck_A0 : [it0, it1, it2].all chkA = true := by decide +kernel
theorem ck_B0 : [it0, it1, it2].all chkB = true := by decide +kernel
theorem ck_A3 : [it3, it4, it5].all chkA = true := by decide +kernel
theorem ck_B3 : [it3, it4, it5].all chkB = true := by decide +kernel
theorem ck_A6 : [it6, it7, it8].all chkA = true := by decide +kernel
theorem ck_B6 : [it6, it7, it8].all chkB = true := by decide +kernel
theorem ck_A9 : chkA it9 = true := by decide +kernel
theorem ck_B9 : chkB it9 = true := by decide +kernel
/-- steps read -/
noncomputable def natL : List D → Option (List Nat)
  | [] => some []
  | .int (.ofNat k) :: r => (natL r).map (k :: ·)
  | _ => none
noncomputable def stpL : List D → Option (List (Str × List Nat))
  | [] => some []
  | .tup [.str n, .tup ks] :: r => match natL ks, stpL r with
    | some k, some q => some ((n, k) :: q)
    | _, _ => none
  | _ => none
noncomputable def stpD : Option D → Option (List (Str × List Nat))
  | some (.tup l) => stpL l
  | _ => none
theorem natL_ok : ∀ {ds : List D} {l : List Nat}, natL ds = some l → ds = l.map nD
  | [], l, h => by cases h; rfl
  | d :: r, l, h => by
    unfold natL at h
    split at h
    · cases h; rename_i e; cases e
    · rename_i k r' e
      cases e
      rw [Option.map_eq_some_iff] at h
      obtain ⟨q, hq, rfl⟩ := h
      rw [natL_ok hq]
      rfl
    · cases h
theorem stpL_ok : ∀ {ds : List D} {l : List (Str × List Nat)}, stpL ds = some l → ds = l.map fun p => sp p.1 p.2
  | [], l, h => by cases h; rfl
  | d :: r, l, h => by
    unfold stpL at h
    split at h
    · cases h; rename_i e; cases e
    · rename_i n ks r' e
      cases e
      split at h
      · rename_i k q hk hq
        cases h
        rw [natL_ok hk, stpL_ok hq]
        rfl
      · cases h
    · cases h
theorem stpD_ok {x : Option D} {l : List (Str × List Nat)} (h : stpD x = some l) : x = some (.tup (l.map fun p => sp p.1 p.2)) := by
  unfold stpD at h
  split at h
  · rename_i ds
    rw [stpL_ok h]
  · cases h
noncomputable def fulD : D := .lst [.str "max 012112222", .str "up 120"]
theorem ck_clo : stpD (gives (m__law_closing [.val fulD] [])) = some ([("up", [0]), ("max", [0, 1]), ("up", [1]), ("max", [0, 3]), ("max", [1, 3]), ("max", [2, 3]), ("up", [2]), ("max", [1, 7]), ("up", [4]), ("up", [5]), ("up", [6]), ("up", [7]), ("max", [0, 9]), ("max", [1, 12]), ("max", [3, 10]), ("max", [3, 12]), ("max", [9, 12]), ("up", [8]), ("up", [9]), ("up", [10]), ("up", [11]), ("max", [0, 19]), ("max", [7, 20]), ("max", [10, 19]), ("up", [13]), ("up", [15])] : List (Str × List Nat)) := by decide +kernel
theorem k_clo (S : Store) : callIn false m__law_closing [.val fulD] S = .ok (.val cloD) S := call_val (ds := [fulD]) rfl (stpD_ok ck_clo)
theorem k_bank : gives (m__law_bank [] []) = some (.lst ([it0, it1, it2, it3, it4, it5, it6, it7, it8].map It.d)) := by rfl
end T3
namespace T3
open PySem PySem.Spec PyProof.Rows L2
@[simp ↓] theorem ap_ForG {n : Nat} {gf : List D → Option (List D)} {c : CA} {t : CT} {b : CS} {ρ : Slots} {S : Store} : sForG n gf c t b ρ S = (match c ρ S with
  | .ok xs S1 => (match valsOf xs with
    | some ds => if ds.length = n then (match gf ds with
      | some ys => forL (lb t b) ys ρ S1
      | none => .bad) else .bad
    | none => .bad)
  | _ => .bad) := rfl
/-- a call whose answer is data -/
theorem call_vb {f : Fn} {xs : List A} {ds : List D} {d : D} {S S1 : Store} (hx : xs = ds.map A.val) (h : f xs [] = .ok (.val d) S1) (b : Bool) : callIn b f xs S = .ok (.val d) S := by
  subst hx
  unfold callIn
  rw [vals_refs, if_pos List.nodup_nil]
  simp only [getAll, List.all_nil, if_true]
  rw [vals_renum, h]
  simp [back, putAll]
variable {t : List Nat} {n : Nat}
noncomputable def mk (t : List Nat) (rows : List (List Nat)) (len : Nat) : List Nat := (List.range len).map fun k => gd t (ix (rows.map fun r => gd r k))
structure Rws (rows : List (List Nat)) (n len : Nat) : Prop where
  dg : ∀ r ∈ rows, Dg r ∧ r.length = len
  len : rows.length = n
theorem gd_dg {r : List Nat} (h : Dg r) (k : Nat) : gd r k < 3 := dg_get h k
theorem Rws.at {rows : List (List Nat)} {len : Nat} (h : Rws rows n len) (k : Nat) : Dg (rows.map fun r => gd r k) ∧ (rows.map fun r => gd r k).length = n := by
  refine ⟨fun x hx => ?_, by rw [List.length_map, h.len]⟩
  obtain ⟨r, hr, rfl⟩ := List.mem_map.mp hx
  exact gd_dg (h.dg r hr).1 k
end T3
namespace T3
open PySem PySem.Spec PyProof.Rows L2
variable {t : List Nat} {n : Nat} {w : Str}
/-- the first row that leads out -/
noncomputable def bad (t : List Nat) (w : Str) (r : List (List Nat)) : Bool := !(relN w).contains (mk t r (lenW w))
end T3
namespace T3
open PySem PySem.Spec PyProof.Rows L2
end T3
namespace T3
open PySem PySem.Spec PyProof.Rows L2
variable {t : List Nat} {n : Nat} {w : Str}
noncomputable def fv (t a : List Nat) : Nat := gd t (ix a)
end T3
namespace T3
open PySem PySem.Spec PyProof.Rows L2
end T3
namespace T3
open PySem PySem.Spec PyProof.Rows L2
end T3
namespace T3
open PySem PySem.Spec PyProof.Rows L2
end T3
namespace T3
open PySem PySem.Spec PyProof.Rows L2
end T3
namespace T3
open PySem PySem.Spec PyProof.Rows L2
end T3
namespace T3
open PySem PySem.Spec PyProof.Rows L2
theorem tail_right {f : Fn} (hr : ∀ (S : Store) (i : Nat) (p q r : Int), S[i]? = some (spr p q r) → ∃ O' : O, callIn false f [.ref i] S = .ok (.val (.bl true)) (S.set i O'))
    (ns : List Int) (hl : ns.length ≤ 63) (j : Nat) (ρ : Slots) (h0 : ρ[0]? = some (some (A.val (D.ro (ns.map D.int))))) (hj : 0 < j) (hj2 : j < ρ.length) (m : Nat) (hm : m ≤ 63) (S : Store) :
    ∃ S', lcGo (elm (tgName j) cYes (cCall 1 false f (cCons (cCall 2 true m__law_spring (cCons (cV 0) (cCons (cV j) cNil))) cNil)) ρ) (rangeD 0 m) S = some ((List.range m).map fun _ => D.bl true, S') := by
  obtain ⟨ys, S', e, hy⟩ := lcGo_inv (f := elm (tgName j) cYes (cCall 1 false f (cCons (cCall 2 true m__law_spring (cCons (cV 0) (cCons (cV j) cNil))) cNil)) ρ) (ds := rangeD 0 m) (S := S)
    (fun i acc S => acc = (List.range i).map fun _ => D.bl true) rfl (by
    rintro i d acc S hd rfl
    rw [range_nD, List.getElem?_map, Option.map_eq_some_iff] at hd
    obtain ⟨x, hx, rfl⟩ := hd
    obtain ⟨hi, hx2⟩ := List.getElem?_eq_some_iff.mp hx
    rw [List.getElem_range] at hx2
    subst hx2
    rw [List.length_range] at hi
    obtain ⟨p, q, es⟩ := k_spring ns hl i (by omega) S
    obtain ⟨O', er⟩ := hr (S ++ [spr p q 0]) S.length p q 0 (by simp)
    have e0 : (ρ.set j (some (.val (nD i))))[0]? = some (some (A.val (D.ro (ns.map D.int)))) := by
      rw [List.getElem?_set_ne (by omega), h0]
    have ej : (ρ.set j (some (.val (nD i))))[j]? = some (some (.val (nD i))) := by
      rw [List.getElem?_set_self hj2]
    refine ⟨.bl true, (S ++ [spr p q 0]).set S.length O', ?_, by rw [List.range_succ]; simp⟩
    simp only [ap_elm, ap_tgName, ap_Yes, ap_Call, ap_Cons, ap_Nil, ap_V, e0, ej]
    simp [es, er])
  rw [range_nD, List.length_map, List.length_range] at hy
  rw [hy] at e
  exact ⟨S', e⟩
end T3
namespace T3
open PySem PySem.Spec PyProof.Rows L2
variable {S : Store} {a c o x : D} {xs : List D}
theorem cut_lo (ds : List D) {k : Nat} (h : k ≤ ds.length) : cutD ds none (some (k : Int)) = ds.take k := by
  unfold cutD
  rw [HT.sIx_none, HT.sIx_nat, List.drop_zero, Nat.sub_zero, Nat.min_eq_left h]
theorem cut_hi (ds : List D) {k : Nat} (h : k ≤ ds.length) : cutD ds (some (k : Int)) none = ds.drop k := by
  unfold cutD
  rw [HT.sIx_none, HT.sIx_nat, Nat.min_eq_left h, List.take_of_length_le (by simp)]
theorem fls_ok (h : fls a c = true) : accO a c = some false := by
  unfold fls at h
  split at h
  · assumption
  · cases h
theorem tru_ok (h : tru1 a c = true) : accO a c = some true := by
  unfold tru1 at h
  split at h
  · assumption
  · cases h
theorem k_acc {b : Bool} (h : accO a c = some b) (S : Store) : callIn false m_accepts [.val a, .val c] S = .ok (.val (.bl b)) S := call_val (ds := [a, c]) rfl (blOf_some h)
theorem rp_two (b : Bool) (S : Store) : fRepr [.val (.lst [.bl b, .bl b])] S = .ok (.val (.str (if b then "[True, True]" else "[False, False]"))) S := by
  cases b <;> rfl
theorem eq_same (s : Str) (S : Store) : fEq (.val (.str s)) (.val (.str s)) S = .ok (.val (.bl true)) S := by
  show Res.ok (.val (.bl (s == s))) S = _
  rw [beq_self_eq_true]
theorem k_jud {b : Bool} (h : accO a c = some b) (S : Store) : callIn false m__law_judged [.val a, .val c, .val (.bl b)] S = .ok (.val (.bl true)) S := by
  refine call_vb (ds := [a, c, .bl b]) (S1 := []) rfl ?_ false
  have e := fun S => k_acc h S
  have er := fun S => rp_two b S
  have z : szOk 2 = true := szOk_le (by omega)
  have es := fun S => eq_same (if b then "[True, True]" else "[False, False]") S
  show m__law_judged [.val a, .val c, .val (.bl b)] [] = _
  unfold m__law_judged b__law_judged runF
  simp [e, er, z, es]
theorem k_fls (h : fls a c = true) (S : Store) : callIn false m__law_judged [.val a, .val c, .val (.bl false)] S = .ok (.val (.bl true)) S := k_jud (fls_ok h) S
noncomputable def putB (F : Fn) : CS := sSeq (sIf (cOr (cNot (cTru (cIsi "tuple" (cV 1)))) (cOr (cBin fEq (cV 1) (cTup (cNil))) (cBin fEq (cCall 2 false m__law_draw (cCons (cV 0) (cCons (cI 6) (cNil)))) (cI 0)))) (sRet (cV 2)) (sNil)) (sSeq (sAsg (tgName 3) (cCall 2 false m__law_draw (cCons (cV 0) (cCons (cB1 (fLen) (cCons (cV 1) (cNil))) (cNil))))) (sRet (cBin (fAdd false) (cBin (fAdd true) (cSl true (cV 1) none (some (cV 3))) (cTup (cCons (cCall 3 false F (cCons (cV 0) (cCons (cBin fIx (cV 1) (cV 3)) (cCons (cV 2) (cNil))))) (cNil)))) (cSl true (cV 1) (some (cBin (fAdd true) (cV 3) (cI 1))) none))))
theorem put_1 : b__law_put_in_1 = putB m__law_put_in_0 := rfl
theorem put_2 : b__law_put_in_2 = putB m__law_put_in_1 := rfl
theorem put_3 : b__law_put_in_3 = putB m__law_put_in_2 := rfl
theorem put_4 : b__law_put_in_4 = putB m__law_put_in_3 := rfl
noncomputable def Put (F : Fn) (n : Nat) : Prop := ∀ (x o : D) (p q r : Int), okF n x = true → ∃ (y : D) (p' q' r' : Int), y ∈ putsF n x o ∧ F [.ref 0, .val x, .val o] [spr p q r] = .ok (.val y) [spr p' q' r']
theorem call_put {F : Fn} {n : Nat} (h : Put F n) {i : Nat} {p q r : Int} (hi : S[i]? = some (spr p q r)) (hx : okF n x = true) (o : D) : ∃ (y : D) (p' q' r' : Int), y ∈ putsF n x o ∧ callIn false F [.ref i, .val x, .val o] S = .ok (.val y) (S.set i (spr p' q' r')) := by
  obtain ⟨y, p', q', r', hy, e⟩ := h x o p q r hx
  exact ⟨y, p', q', r', hy, call_one (ds := [x, o]) hi rfl e rfl⟩
theorem eq_i (a b : Int) (S : Store) : fEq (.val (.int a)) (.val (.int b)) S = .ok (.val (.bl (a == b))) S := rfl
theorem eq_t0 (h : shp (.tup xs) = true) (S : Store) : fEq (.val (.tup xs)) (.val (.tup [])) S = .ok (.val (.bl xs.isEmpty)) S := by
  show (if (shp (.tup xs) && shp (.tup [])) = true then Res.ok (.val (.bl (dEq (.tup xs) (.tup [])))) S else .bad) = _
  rw [h, show shp (.tup []) = true from rfl]
  cases xs <;> rfl
theorem put_step {F : Fn} {n : Nat} (h : Put F n) : Put (runF 4 (putB F)) (n + 1) := by
  intro x o p q r hx
  have z0 : szOk 0 = true := szOk_le (by omega)
  have z1 : szOk 1 = true := szOk_le (by omega)
  have notT : (∃ t, ∀ S, tyD S (.val x) = some t ∧ subT t "tuple" = false) → putsF (n + 1) x o = [o] → ∃ (y : D) (p' q' r' : Int), y ∈ putsF (n + 1) x o ∧ runF 4 (putB F) [.ref 0, .val x, .val o] [spr p q r] = .ok (.val y) [spr p' q' r'] := fun ⟨t, ht⟩ he => by
    refine ⟨o, p, q, r, by rw [he]; simp, ?_⟩
    unfold runF putB
    have h1 : ∀ S, tyD S (.val x) = some t := fun S => (ht S).1
    have h2 : subT t "tuple" = false := (ht []).2
    have h3 : (t == "tuple") = false := by simpa using h2
    simp only [beq_eq_false_iff_ne, ne_eq] at h3
    have h4 : (t == "tuple") = false := by simpa using h3
    simp [h1, h4]
  cases x with
  | tup xs =>
    have hx : (shp (.tup xs) && decide (xs.length ≤ 10) && xs.all (okF n)) = true := hx
    rw [Bool.and_eq_true, Bool.and_eq_true, decide_eq_true_eq] at hx
    obtain ⟨⟨h1, h2⟩, h3⟩ := hx
    have et := fun S => eq_t0 h1 S
    cases xs with
    | nil =>
      refine ⟨o, p, q, r, List.mem_cons_self, ?_⟩
      have et : ∀ S, fEq (.val (.tup [])) (.val (.tup [])) S = .ok (.val (.bl true)) S := et
      unfold runF putB
      simp [tyD, subT, z0, et]
    | cons x0 xr =>
      have et : ∀ S, fEq (.val (.tup (x0 :: xr))) (.val (.tup [])) S = .ok (.val (.bl false)) S := et
      obtain ⟨j, p1, q1, r1, c1, c2, e1⟩ := k_draw [spr p q r] 0 p q r 6 rfl (by omega) (by omega)
      have e1 := e1 false
      have hlen : 1 ≤ (x0 :: xr).length := by simp
      generalize hX : x0 :: xr = ys at *
      by_cases h0 : j = 0
      · subst h0
        have q0 : ∀ S, fEq (.val (.int 0)) (.val (.int 0)) S = .ok (.val (.bl true)) S := fun S => rfl
        refine ⟨o, p1, q1, r1, List.mem_cons_self, ?_⟩
        unfold runF putB
        simp [tyD, subT, z0, et, e1, q0]
      · have q0 : ∀ S, fEq (.val (.int j)) (.val (.int 0)) S = .ok (.val (.bl false)) S := fun S => by
          rw [eq_i]
          have : (j == 0) = false := by simpa using h0
          rw [this]
        have zl : szOk ys.length = true := szOk_le (by omega)
        obtain ⟨k, p2, q2, r2, d1, d2, e2⟩ := k_draw [spr p1 q1 r1] 0 p1 q1 r1 ys.length rfl (by omega) (by omega)
        have e2 := e2 false
        obtain ⟨m, rfl⟩ : ∃ m : Nat, k = m := ⟨k.toNat, by omega⟩
        have hm : m < ys.length := by omega
        have hok : okF n ys[m] = true := List.all_eq_true.mp h3 _ (List.getElem_mem hm)
        obtain ⟨y, p3, q3, r3, hy, e3⟩ := call_put h (S := [spr p2 q2 r2]) (i := 0) rfl hok o
        have ei : ∀ S, fIx (.val (.tup ys)) (.val (.int (m : Nat))) S = .ok (.val ys[m]) S := fun S => by
          have e : ixN ys.length (m : Int) = some m := ixN_nat hm
          rw [ix_tup', e]
          show (match ys[m]? with | some d => Res.ok (.val d) S | none => .bad) = _
          rw [List.getElem?_eq_getElem hm]
        have cl := cut_lo ys (Nat.le_of_lt hm)
        have ch : cutD ys (some ((m : Int) + 1)) none = ys.drop (m + 1) := cut_hi ys (k := m + 1) hm
        have za : szOk ((ys.take m).length + 1) = true := szOk_le (by rw [List.length_take]; omega)
        have zb : szOk ((ys.take m).length + 1 + (ys.drop (m + 1)).length) = true := szOk_le (by rw [List.length_take, List.length_drop]; omega)
        refine ⟨.tup (ys.take m ++ [y] ++ ys.drop (m + 1)), p3, q3, r3, ?_, ?_⟩
        · refine List.mem_cons_of_mem _ (List.mem_flatMap.mpr ⟨m, List.mem_range.mpr hm, List.mem_map.mpr ⟨y, ?_, rfl⟩⟩)
          have eg : ys.getD m .non = ys[m] := by rw [List.getD_eq_getElem?_getD, List.getElem?_eq_getElem hm]; rfl
          rw [eg]
          exact hy
        · generalize ys.take m = A at *
          generalize ys.drop (m + 1) = C at *
          unfold runF putB
          simp [tyD, subT, z0, z1, et, e1, q0, zl, e2, ei, e3, cl, ch, za, zb, withO, slD, -ix_tup']
  | ins _ _ _ => cases hx
  | wt _ => cases hx
  | non => exact notT ⟨_, fun S => ⟨rfl, rfl⟩⟩ rfl
  | bl b => exact notT ⟨_, fun S => ⟨rfl, rfl⟩⟩ rfl
  | int i => exact notT ⟨_, fun S => ⟨rfl, rfl⟩⟩ rfl
  | str s => exact notT ⟨_, fun S => ⟨rfl, rfl⟩⟩ rfl
  | lst l => exact notT ⟨_, fun S => ⟨rfl, rfl⟩⟩ rfl
  | ro l => exact notT ⟨_, fun S => ⟨rfl, rfl⟩⟩ rfl
  | dic k l => exact notT ⟨_, fun S => ⟨rfl, rfl⟩⟩ rfl
theorem put_all : Put m__law_put_in 4 := by
  have p0 : Put m__law_put_in_0 0 := fun x o p q r h => by cases h
  have p1 : Put m__law_put_in_1 1 := by unfold m__law_put_in_1; rw [put_1]; exact put_step p0
  have p2 : Put m__law_put_in_2 2 := by unfold m__law_put_in_2; rw [put_2]; exact put_step p1
  have p3 : Put m__law_put_in_3 3 := by unfold m__law_put_in_3; rw [put_3]; exact put_step p2
  show Put m__law_put_in_4 4
  unfold m__law_put_in_4
  rw [put_4]
  exact put_step p3
end T3
namespace T3
open PySem PySem.Spec PyProof.Rows L2
variable {S : Store} {a c o x : D} {xs : List D} {h t : Str}
noncomputable abbrev qs1 : CS := sIf (cNot (cTru (cCall 3 false m__law_judged (cCons (cV 3) (cCons (cV 4) (cCons (cB true) (cNil))))))) (sRet (cB false)) (sNil)
noncomputable abbrev qs2 : CS := sAsg (tgName 5) (cLst true (cCons (cB1 (fList2 true) (cCons (cV 3) (cNil))) (cCons (cSl true (cV 3) none (some (cUn fNeg (cI 1)))) (cCons (cBin (fAdd true) (cV 3) (cTup (cCons (cV 4) (cNil)))) (cCons (cRev2 true (cV 3)) (cCons (cTup (cCons (cV 3) (cNil))) (cCons (cSl true (cV 3) (some (cI 1)) none) (cCons (cN) (cCons (cBin fIx (cV 3) (cI 0)) (cCons (cTup (cNil)) (cNil)))))))))))
noncomputable abbrev qs3 : CS := sForV (cV 5) (tgName 6) (sIf (cNot (cTru (cCall 3 false m__law_judged (cCons (cV 6) (cCons (cV 4) (cCons (cB false) (cNil))))))) (sRet (cB false)) (sNil))
noncomputable abbrev qs4 : CS := sAsg (tgName 7) (cCall 2 false m__law_of (cCons (cV 0) (cCons (cLst true (cCons (cS "All") (cCons (cS "") (cCons (cS "keep") (cCons (cS "outs") (cCons (cS "make") (cCons (cN) (cCons (cI 0) (cCons (cTup (cCons (cBin fIx (cV 3) (cI 0)) (cNil))) (cCons (cLst true (cCons (cS "kept") (cNil))) (cCons (cS "made ") (cNil)))))))))))) (cNil))))
noncomputable abbrev qs5 : CS := sIf (cNot (cTru (cCall 3 false m__law_judged (cCons (cBin (fAdd true) (cTup (cCons (cV 7) (cNil))) (cSl true (cV 3) (some (cI 1)) none)) (cCons (cV 4) (cCons (cB false) (cNil))))))) (sRet (cB false)) (sNil)
noncomputable abbrev qs6 : CS := sAsg (tgName 8) (cLst true (cCons (cBin (fAdd true) (cBin fIx (cV 3) (cI 1)) (cS "\n")) (cCons (cBin (fAdd true) (cS " ") (cBin fIx (cV 3) (cI 1))) (cCons (cBin (fAdd true) (cBin fIx (cV 3) (cI 1)) (cS " ")) (cCons (cBin (fAdd true) (cSl true (cBin fIx (cV 3) (cI 1)) (some (cI 1)) none) (cS "3")) (cCons (cN) (cCons (cTup (cCons (cBin fIx (cV 3) (cI 1)) (cNil))) (cNil))))))))
noncomputable abbrev qs7 : CS := sIf (cNot (cTru (cCall 3 false m__law_judged (cCons (cBin (fAdd true) (cBin (fAdd true) (cSl true (cV 3) none (some (cI 1))) (cTup (cCons (cCall 2 false m__law_of (cCons (cV 0) (cCons (cV 8) (cNil)))) (cNil)))) (cSl true (cV 3) (some (cI 2)) none)) (cCons (cV 4) (cCons (cB false) (cNil))))))) (sRet (cB false)) (sNil)
noncomputable abbrev qs8 : CS := sAsg (tgName 9) (cCall 1 false m__law_odd_part (cCons (cV 0) (cNil)))
noncomputable abbrev qs9 : CS := sIf (cNot (cTru (cCall 3 false m__law_judged (cCons (cCall 3 false m__law_put_in (cCons (cV 0) (cCons (cV 3) (cCons (cV 9) (cNil))))) (cCons (cV 4) (cCons (cB false) (cNil))))))) (sRet (cB false)) (sNil)
noncomputable abbrev qs10 : CS := sIf (cOr (cNot (cTru (cCall 3 false m__law_judged (cCons (cV 9) (cCons (cV 9) (cCons (cB false) (cNil))))))) (cNot (cTru (cCall 3 false m__law_judged (cCons (cV 3) (cCons (cV 9) (cCons (cB false) (cNil)))))))) (sRet (cB false)) (sNil)
noncomputable abbrev qs11 : CS := sFor (ciV (cLst true (cCons (cTup (cCons (cV 4) (cNil))) (cCons (cLst true (cCons (cV 4) (cNil))) (cCons (cDic0) (cCons (cS "all") (cCons (cI 0) (cCons (cB true) (cCons (cN) (cCons (cV 3) (cNil))))))))))) (tgName 10) (sIf (cNot (cTru (cCall 3 false m__law_judged (cCons (cV 3) (cCons (cV 10) (cCons (cB false) (cNil))))))) (sRet (cB false)) (sNil))
noncomputable abbrev sq (f b : D) (xs : List D) (c : D) (z5 z6 z7 z8 z9 z10 : Option A) : Slots := [some (.ref 0), some (.val f), some (.val b), some (.val (.tup xs)), some (.val c), z5, z6, z7, z8, z9, z10]
theorem cutD_len (ds : List D) (l u : Option Int) : (cutD ds l u).length ≤ ds.length := by
  unfold cutD
  rw [List.length_take, List.length_drop]
  omega
theorem cutS_len (x : Str) (a b : Option Int) : (cutS x a b).length ≤ x.length := by
  rw [TL.len_tl, TL.len_tl]
  exact ((List.take_sublist _ _).trans (List.drop_sublist _ _) : (TL.tl (cutS x a b)).Sublist (TL.tl x)).length_le
theorem p_qs1 (hA : tru1 (.tup xs) c = true) (f b : D) (z5 z6 z7 z8 z9 z10 : Option A) (S : Store) : qs1 (sq f b xs c z5 z6 z7 z8 z9 z10) S = .nx (sq f b xs c z5 z6 z7 z8 z9 z10) S := by
  have e := k_jud (tru_ok hA) S
  simp [e]
structure Fx (xs : List D) (h t : Str) : Prop where
  i0 : ∀ S, fIx (.val (.tup xs)) (.val (.int 0)) S = .ok (.val (.str h)) S
  i1 : ∀ S, fIx (.val (.tup xs)) (.val (.int 1)) S = .ok (.val (.str t)) S
  hd : xs.headD .non = .str h
  le : xs.length ≤ 10
  tl : t.length ≤ 100
theorem p_qs2 (F : Fx xs h t) (f b : D) (z5 z6 z7 z8 z9 z10 : Option A) (S : Store) : qs2 (sq f b xs c z5 z6 z7 z8 z9 z10) S = .nx (sq f b xs c (some (.val (.lst (som xs c)))) z6 z7 z8 z9 z10) S := by
  have z0 : szOk 0 = true := szOk_le (by omega)
  have z1 : szOk 1 = true := szOk_le (by omega)
  have z9 : szOk 9 = true := szOk_le (by omega)
  have hl := F.le
  have zl : szOk (xs.length + 1) = true := szOk_le (by omega)
  have i0 := F.i0
  have zn : ∀ S, fNeg (.val (.int 1)) S = .ok (.val (.int (-1))) S := fun S => rfl
  have fl : ∀ S, fList2 true [.val (.tup xs)] S = .ok (.val (.lst xs)) S := fun S => rfl
  unfold som
  rw [F.hd]
  simp [i0, z0, z1, z9, zl, zn, fl, slD, withO, -ix_tup']
theorem p_qs3 (hA : (som xs c).all (fun w => fls w c) = true) (f b : D) (z6 z7 z8 z9 z10 : Option A) (S : Store) : ∃ z6', qs3 (sq f b xs c (some (.val (.lst (som xs c)))) z6 z7 z8 z9 z10) S = .nx (sq f b xs c (some (.val (.lst (som xs c)))) z6' z7 z8 z9 z10) S := by
  have loop := forL_inv (body := lb (tgName 6) (sIf (cNot (cTru (cCall 3 false m__law_judged (cCons (cV 6) (cCons (cV 4) (cCons (cB false) (cNil))))))) (sRet (cB false)) (sNil))) (ds := som xs c) (ρ := sq f b xs c (some (.val (.lst (som xs c)))) z6 z7 z8 z9 z10) (S := S) (fun _ ρ S1 => (∃ z6, ρ = sq f b xs c (some (.val (.lst (som xs c)))) z6 z7 z8 z9 z10) ∧ S1 = S) ⟨⟨_, rfl⟩, rfl⟩ (by
    rintro i d ρ S1 hd ⟨⟨z6, rfl⟩, rfl⟩
    have e := k_fls (List.all_eq_true.mp hA d (List.mem_of_getElem? hd)) S1
    refine ⟨sq f b xs c (some (.val (.lst (som xs c)))) (some (.val d)) z7 z8 z9 z10, S1, ?_, ⟨_, rfl⟩, rfl⟩
    rw [ap_lb, ap_tgName]
    generalize som xs c = sm
    simp [e])
  obtain ⟨ρ', S', e, ⟨z6', rfl⟩, rfl⟩ := loop
  refine ⟨z6', ?_⟩
  unfold qs3
  rw [ap_sForV]
  exact e
theorem p_qs4 (F : Fx xs h t) (f b : D) (z5 z6 z7 z8 z9 z10 : Option A) (p q r : Int) : ∃ (w : D) (p' q' r' : Int), w ∈ oth xs ∧ qs4 (sq f b xs c z5 z6 z7 z8 z9 z10) [spr p q r] = .nx (sq f b xs c z5 z6 (some (.val w)) z8 z9 z10) [spr p' q' r'] := by
  obtain ⟨w, hw, p', q', r', e⟩ := k_of [spr p q r] 0 p q r (oth xs) rfl (Nat.succ_pos _) (by show 10 ≤ 1000; decide)
  have e := e false
  have z1 : szOk 1 = true := szOk_le (by omega)
  have z10 : szOk 10 = true := szOk_le (by omega)
  have i0 := F.i0
  refine ⟨w, p', q', r', hw, ?_⟩
  unfold oth at e
  rw [F.hd] at e
  simp [i0, z1, z10, e, -ix_tup']
theorem p_qs5 (F : Fx xs h t) (hA : (oth xs).all (fun w => fls (.tup ([w] ++ cutD xs (some 1) none)) c) = true) {w : D} (hw : w ∈ oth xs) (f b : D) (z5 z6 z8 z9 z10 : Option A) (S : Store) : qs5 (sq f b xs c z5 z6 (some (.val w)) z8 z9 z10) S = .nx (sq f b xs c z5 z6 (some (.val w)) z8 z9 z10) S := by
  have e := fun S => k_fls (List.all_eq_true.mp hA w hw) S
  have hl := F.le
  have hc := cutD_len xs (some 1) none
  have z1 : szOk 1 = true := szOk_le (by omega)
  have zc : szOk (1 + (cutD xs (some 1) none).length) = true := szOk_le (by omega)
  have es : ∀ S, slD true (.val (.tup xs)) (some 1) none S = .ok (.val (.tup (cutD xs (some 1) none))) S := fun _ => rfl
  generalize cutD xs (some 1) none = C at *
  have e : ∀ S, callIn false m__law_judged [.val (.tup (w :: C)), .val c, .val (.bl false)] S = .ok (.val (.bl true)) S := e
  simp [z1, zc, es, withO, e]
theorem p_qs6 (F : Fx xs h t) (f b : D) (z5 z6 z7 z8 z9 z10 : Option A) (S : Store) : qs6 (sq f b xs c z5 z6 z7 z8 z9 z10) S = .nx (sq f b xs c z5 z6 z7 (some (.val (.lst (pag t)))) z9 z10) S := by
  have z1 : szOk 1 = true := szOk_le (by omega)
  have z6' : szOk 6 = true := szOk_le (by omega)
  have i1 := F.i1
  have hl := F.tl
  have a1 : ("
" : Str).length = 1 := rfl
  have a2 : (" " : Str).length = 1 := rfl
  have a3 : ("3" : Str).length = 1 := rfl
  have zt : szOk t.length = true := szOk_le (by omega)
  have za : szOk (t.length + ("
" : Str).length) = true := szOk_le (by omega)
  have zb : szOk ((" " : Str).length + t.length) = true := szOk_le (by omega)
  have zc : szOk (t.length + (" " : Str).length) = true := szOk_le (by omega)
  have hcs : (cutS t (some 1) none).length ≤ t.length := cutS_len _ _ _
  have zd : szOk ((cutS t (some 1) none).length + ("3" : Str).length) = true := szOk_le (by omega)
  unfold pag
  simp [i1, z1, z6', zt, za, zb, zc, zd, slD, withO, -ix_tup']
theorem p_qs7 (F : Fx xs h t) (hA : (pag t).all (fun w => fls (.tup (cutD xs none (some 1) ++ [w] ++ cutD xs (some 2) none)) c) = true) (f b : D) (z5 z6 z7 z9 z10 : Option A) (p q r : Int) : ∃ (p' q' r' : Int), qs7 (sq f b xs c z5 z6 z7 (some (.val (.lst (pag t)))) z9 z10) [spr p q r] = .nx (sq f b xs c z5 z6 z7 (some (.val (.lst (pag t)))) z9 z10) [spr p' q' r'] := by
  obtain ⟨w, hw, p', q', r', e1⟩ := k_of [spr p q r] 0 p q r (pag t) rfl (Nat.succ_pos _) (by show 6 ≤ 1000; decide)
  have e1 := e1 false
  have e := fun S => k_fls (List.all_eq_true.mp hA w hw) S
  have hl := F.le
  have hc := cutD_len xs (some 2) none
  have hc2 := cutD_len xs none (some 1)
  have z1 : szOk 1 = true := szOk_le (by omega)
  have za : szOk ((cutD xs none (some 1)).length + 1) = true := szOk_le (by omega)
  have zb : szOk ((cutD xs none (some 1)).length + 1 + (cutD xs (some 2) none).length) = true := szOk_le (by omega)
  have es : ∀ S, slD true (.val (.tup xs)) none (some 1) S = .ok (.val (.tup (cutD xs none (some 1)))) S := fun _ => rfl
  have es2 : ∀ S, slD true (.val (.tup xs)) (some 2) none S = .ok (.val (.tup (cutD xs (some 2) none))) S := fun _ => rfl
  generalize cutD xs (some 2) none = C at *
  generalize cutD xs none (some 1) = B at *
  have ea : B ++ [w] ++ C = B ++ w :: C := by simp
  rw [ea] at e
  refine ⟨p', q', r', ?_⟩
  generalize pag t = pg at *
  simp [e1, z1, za, zb, es, es2, withO, e]
theorem c_oddp (p q r : Int) : ∃ d ∈ odds, ∃ p' q' r', m__law_odd_part [.ref 0] [spr p q r] = .ok (.val d) [spr p' q' r'] := by
  obtain ⟨d, hd, p', q', r', e⟩ := k_of [spr p q r] 0 p q r odds rfl (by decide) (by decide)
  have e := e true
  refine ⟨d, hd, p', q', r', ?_⟩
  simp only [odds] at e
  unfold m__law_odd_part b__law_odd_part runF
  have z : fPow (.val (.int 10)) (.val (.int 39)) = fun S => .ok (.val (.int 1000000000000000000000000000000000000000)) S := by funext S; rfl
  have z2 : ∀ S, fNeg (.val (.int 1)) S = .ok (.val (.int (-1))) S := fun S => rfl
  simp [z, z2, e, cDic0, szOk]
theorem p_qs8 (f b : D) (z5 z6 z7 z8 z9 z10 : Option A) (p q r : Int) : ∃ (o : D) (p' q' r' : Int), o ∈ odds ∧ qs8 (sq f b xs c z5 z6 z7 z8 z9 z10) [spr p q r] = .nx (sq f b xs c z5 z6 z7 z8 (some (.val o)) z10) [spr p' q' r'] := by
  obtain ⟨d, hd, p', q', r', e⟩ := c_oddp p q r
  have e2 := call_one1 (S := [spr p q r]) (i := 0) (f := m__law_odd_part) rfl rfl e rfl
  refine ⟨d, p', q', r', hd, ?_⟩
  simp [e2]
theorem p_qs9 (hC : okF 4 (.tup xs) = true) {o : D} (hA : (putsF 4 (.tup xs) o).all (fun y => fls y c) = true) (f b : D) (z5 z6 z7 z8 z10 : Option A) (p q r : Int) : ∃ (p' q' r' : Int), qs9 (sq f b xs c z5 z6 z7 z8 (some (.val o)) z10) [spr p q r] = .nx (sq f b xs c z5 z6 z7 z8 (some (.val o)) z10) [spr p' q' r'] := by
  obtain ⟨y, p', q', r', hy, e1⟩ := call_put put_all (S := [spr p q r]) (i := 0) rfl hC o
  have e := fun S => k_fls (List.all_eq_true.mp hA y hy) S
  refine ⟨p', q', r', ?_⟩
  simp [e1, e]
theorem p_qs10 {o : D} (h1 : fls o o = true) (h2 : fls (.tup xs) o = true) (f b : D) (z5 z6 z7 z8 z10 : Option A) (S : Store) : qs10 (sq f b xs c z5 z6 z7 z8 (some (.val o)) z10) S = .nx (sq f b xs c z5 z6 z7 z8 (some (.val o)) z10) S := by
  have e1 := fun S => k_fls h1 S
  have e2 := fun S => k_fls h2 S
  simp [e1, e2]
theorem p_qs11 (hA : (mat xs c).all (fun w => fls (.tup xs) w) = true) (f b : D) (z5 z6 z7 z8 z9 z10 : Option A) (S : Store) : ∃ z10', qs11 (sq f b xs c z5 z6 z7 z8 z9 z10) S = .nx (sq f b xs c z5 z6 z7 z8 z9 z10') S := by
  have loop := forL_inv (body := lb (tgName 10) (sIf (cNot (cTru (cCall 3 false m__law_judged (cCons (cV 3) (cCons (cV 10) (cCons (cB false) (cNil))))))) (sRet (cB false)) (sNil))) (ds := mat xs c) (ρ := sq f b xs c z5 z6 z7 z8 z9 z10) (S := S) (fun _ ρ S1 => (∃ z10, ρ = sq f b xs c z5 z6 z7 z8 z9 z10) ∧ S1 = S) ⟨⟨_, rfl⟩, rfl⟩ (by
    rintro i d ρ S1 hd ⟨⟨z10, rfl⟩, rfl⟩
    have e := k_fls (List.all_eq_true.mp hA d (List.mem_of_getElem? hd)) S1
    refine ⟨sq f b xs c z5 z6 z7 z8 z9 (some (.val d)), S1, ?_, ⟨_, rfl⟩, rfl⟩
    rw [ap_lb, ap_tgName]
    simp [e])
  obtain ⟨ρ', S', e, ⟨z10', rfl⟩, rfl⟩ := loop
  refine ⟨z10', ?_⟩
  have z1 : szOk 1 = true := szOk_le (by omega)
  have z8' : szOk 8 = true := szOk_le (by omega)
  have ed : ∀ ρ S, cDic0 ρ S = .ok (.val (.dic [] [])) S := fun _ _ => rfl
  unfold mat at e
  unfold qs11
  generalize hB : lb (tgName 10) (sIf (cNot (cTru (cCall 3 false m__law_judged (cCons (cV 3) (cCons (cV 10) (cCons (cB false) (cNil))))))) (sRet (cB false)) (sNil)) = Bd at e
  simp [z1, z8', ed, hB]
  exact e
end T3
namespace T3
open PySem PySem.Spec PyProof.Rows L2
variable {S : Store}
noncomputable abbrev qsB : CS := sSeq qs1 (sSeq qs2 (sSeq qs3 (sSeq qs4 (sSeq qs5 (sSeq qs6 (sSeq qs7 (sSeq qs8 (sSeq qs9 (sSeq qs10 qs11)))))))))
noncomputable abbrev qsT : CT := tgAny 2 (tgCons (tgName 3) (tgCons (tgName 4) (tgNil)))
theorem seq_1 {a b : CS} {ρ ρ1 : Slots} {S S1 : Store} (h1 : a ρ S = .nx ρ1 S1) : sSeq a b ρ S = b ρ1 S1 := by
  unfold sSeq
  rw [h1]
structure Good (i : It) : Prop where
  A : chkA i = true
  B : chkB i = true
  C : chkC i = true
theorem its_good : ∀ i ∈ its, Good i := by
  have hC := List.all_eq_true.mp ck_C
  have a0 := List.all_eq_true.mp ck_A0
  have b0 := List.all_eq_true.mp ck_B0
  have a3 := List.all_eq_true.mp ck_A3
  have b3 := List.all_eq_true.mp ck_B3
  have a6 := List.all_eq_true.mp ck_A6
  have b6 := List.all_eq_true.mp ck_B6
  intro i hi
  have hc := hC i hi
  simp only [its, List.mem_cons, List.not_mem_nil, or_false] at hi
  rcases hi with rfl | rfl | rfl | rfl | rfl | rfl | rfl | rfl | rfl | rfl
  · exact ⟨a0 _ (by simp), b0 _ (by simp), hc⟩
  · exact ⟨a0 _ (by simp), b0 _ (by simp), hc⟩
  · exact ⟨a0 _ (by simp), b0 _ (by simp), hc⟩
  · exact ⟨a3 _ (by simp), b3 _ (by simp), hc⟩
  · exact ⟨a3 _ (by simp), b3 _ (by simp), hc⟩
  · exact ⟨a3 _ (by simp), b3 _ (by simp), hc⟩
  · exact ⟨a6 _ (by simp), b6 _ (by simp), hc⟩
  · exact ⟨a6 _ (by simp), b6 _ (by simp), hc⟩
  · exact ⟨a6 _ (by simp), b6 _ (by simp), hc⟩
  · exact ⟨ck_A9, ck_B9, hc⟩
theorem fx_it {i : It} (h : chkC i = true) : Fx i.xs i.h i.t := by
  unfold chkC at h
  simp only [Bool.and_eq_true, decide_eq_true_eq] at h
  obtain ⟨_, h1, h2, h3⟩ := h
  refine ⟨fun S => ?_, fun S => ?_, rfl, ?_, h1⟩
  · have : ixN (D.str i.h :: D.str i.t :: i.r).length 0 = some 0 := ixN_nat (Nat.succ_pos _)
    show fIx (.val (.tup (D.str i.h :: D.str i.t :: i.r))) (.val (.int 0)) S = _
    rw [ix_tup', this]
    rfl
  · have : ixN (D.str i.h :: D.str i.t :: i.r).length 1 = some 1 := ixN_nat (k := 1) (by simp)
    show fIx (.val (.tup (D.str i.h :: D.str i.t :: i.r))) (.val (.int 1)) S = _
    rw [ix_tup', this]
    rfl
  · show (D.str i.h :: D.str i.t :: i.r).length ≤ 10
    simp only [List.length_cons]
    omega
theorem p_item {i : It} (g : Good i) (f b : D) (z3 z4 z5 z6 z7 z8 z9 z10 : Option A) (p q r : Int) : ∃ (z5' z6' z7' z8' z9' z10' : Option A) (p' q' r' : Int), lb qsT qsB i.d [some (.ref 0), some (.val f), some (.val b), z3, z4, z5, z6, z7, z8, z9, z10] [spr p q r] = .nx (sq f b i.xs i.c z5' z6' z7' z8' z9' z10') [spr p' q' r'] := by
  have hA := g.A
  have hB := List.all_eq_true.mp g.B
  have hC := g.C
  have F := fx_it hC
  unfold chkA at hA
  simp only [Bool.and_eq_true] at hA
  obtain ⟨a1, a2, a3, a4, a5⟩ := hA
  have hok : okF 4 (.tup i.xs) = true := by
    unfold chkC at hC
    rw [Bool.and_eq_true] at hC
    exact hC.1
  have eset : lb qsT qsB i.d [some (.ref 0), some (.val f), some (.val b), z3, z4, z5, z6, z7, z8, z9, z10] [spr p q r] = qsB (sq f b i.xs i.c z5 z6 z7 z8 z9 z10) [spr p q r] := by
    rw [ap_lb]
    generalize qsB = Bd
    unfold It.d
    generalize i.xs = xs
    simp
  have e1 := p_qs1 (c := i.c) a1 f b z5 z6 z7 z8 z9 z10 [spr p q r]
  have e2 := p_qs2 (c := i.c) F f b z5 z6 z7 z8 z9 z10 [spr p q r]
  obtain ⟨z6', e3⟩ := p_qs3 a2 f b z6 z7 z8 z9 z10 [spr p q r]
  obtain ⟨w, p4, q4, r4, hw, e4⟩ := p_qs4 (c := i.c) F f b (some (.val (.lst (som i.xs i.c)))) z6' z7 z8 z9 z10 p q r
  have e5 := p_qs5 F a3 hw f b (some (.val (.lst (som i.xs i.c)))) z6' z8 z9 z10 [spr p4 q4 r4]
  have e6 := p_qs6 (c := i.c) F f b (some (.val (.lst (som i.xs i.c)))) z6' (some (.val w)) z8 z9 z10 [spr p4 q4 r4]
  obtain ⟨p7, q7, r7, e7⟩ := p_qs7 F a4 f b (some (.val (.lst (som i.xs i.c)))) z6' (some (.val w)) z9 z10 p4 q4 r4
  obtain ⟨o, p8, q8, r8, ho, e8⟩ := p_qs8 (xs := i.xs) (c := i.c) f b (some (.val (.lst (som i.xs i.c)))) z6' (some (.val w)) (some (.val (.lst (pag i.t)))) z9 z10 p7 q7 r7
  have hBo := hB o ho
  rw [Bool.and_eq_true] at hBo
  obtain ⟨p9, q9, r9, e9⟩ := p_qs9 hok hBo.2 f b (some (.val (.lst (som i.xs i.c)))) z6' (some (.val w)) (some (.val (.lst (pag i.t)))) z10 p8 q8 r8
  have e10 := p_qs10 (c := i.c) (List.all_eq_true.mp ck_o o ho) hBo.1 f b (some (.val (.lst (som i.xs i.c)))) z6' (some (.val w)) (some (.val (.lst (pag i.t)))) z10 [spr p9 q9 r9]
  obtain ⟨z10', e11⟩ := p_qs11 a5 f b (some (.val (.lst (som i.xs i.c)))) z6' (some (.val w)) (some (.val (.lst (pag i.t)))) (some (.val o)) z10 [spr p9 q9 r9]
  refine ⟨some (.val (.lst (som i.xs i.c))), z6', some (.val w), some (.val (.lst (pag i.t))), some (.val o), z10', p9, q9, r9, ?_⟩
  rw [eset]
  unfold qsB
  rw [seq_1 e1, seq_1 e2, seq_1 e3, seq_1 e4, seq_1 e5, seq_1 e6, seq_1 e7, seq_1 e8, seq_1 e9, seq_1 e10]
  exact e11
theorem k_bankS (S : Store) : callIn false m__law_bank [] S = .ok (.val (.lst ([it0, it1, it2, it3, it4, it5, it6, it7, it8].map It.d))) S := call_val (ds := []) rfl k_bank
noncomputable abbrev qtA : CS := sAsg (tgName 1) (cLst true (cCons (cS "max 012112222") (cCons (cS "up 120") (cNil))))
noncomputable abbrev qtB : CS := sAsg (tgName 2) (cBin (fAdd true) (cCall0 false m__law_bank) (cLst true (cCons (cTup (cCons (cTup (cCons (cS "all") (cCons (cMt tyS fJoin (cS "\n") (cCons (cV 1) cNil)) (cCons (cS "max") (cNil))))) (cCons (cCall 1 false m__law_closing (cCons (cV 1) (cNil))) (cNil)))) (cNil))))
theorem right_57 : b__law_right = sSeq qtA (sSeq qtB (sSeq (sForV (cV 2) qsT qsB) (sRet (cB true)))) := rfl
theorem join_f (S : Store) : fJoin (.val (.str "\n")) [.val fulD] S = .ok (.val (.str txB)) S := by
  have e : ∀ x : Str, x = txB → Res.ok (.val (.str x)) S = Res.ok (.val (.str txB)) S := fun x h => by rw [h]
  exact e _ (by decide +kernel)
theorem p_qtB (z3 z4 : Option A) (S : Store) : qtB [some (.ref 0), some (.val fulD), none, none, none, none, none, none, none, none, none] S = .nx [some (.ref 0), some (.val fulD), some (.val (.lst (its.map It.d))), none, none, none, none, none, none, none, none] S := by
  have ej := join_f
  have ek := k_clo
  have eb := k_bankS
  have z1 : szOk 1 = true := szOk_le (by omega)
  have z2 : szOk 2 = true := szOk_le (by omega)
  have z3 : szOk 3 = true := szOk_le (by omega)
  have ei : its.map It.d = [it0, it1, it2, it3, it4, it5, it6, it7, it8].map It.d ++ [.tup [.tup [.str "all", .str txB, .str "max"], cloD]] := rfl
  have ea : ∀ S, fAdd true (.val (.lst ([it0, it1, it2, it3, it4, it5, it6, it7, it8].map It.d))) (.val (.lst [.tup [.tup [.str "all", .str txB, .str "max"], cloD]])) S = .ok (.val (.lst (its.map It.d))) S := fun S => by
    rw [ei]
    have hl : ([it0, it1, it2, it3, it4, it5, it6, it7, it8].map It.d).length = 9 := rfl
    generalize [it0, it1, it2, it3, it4, it5, it6, it7, it8].map It.d = bk at *
    have zz : szOk (bk.length + [D.tup [.tup [.str "all", .str txB, .str "max"], cloD]].length) = true := szOk_le (by rw [hl]; simp)
    generalize D.tup [.tup [.str "all", .str txB, .str "max"], cloD] = w at *
    unfold fAdd
    simp only [asM]
    rw [zz]
    rfl
  generalize its.map It.d = al at *
  generalize [it0, it1, it2, it3, it4, it5, it6, it7, it8].map It.d = bk at *
  generalize fulD = fd at *
  generalize cloD = cd at *
  generalize txB = tb at *
  simp [ej, ek, eb, z1, z2, z3, ea]
theorem c_right57 (p q r : Int) : ∃ p' q' r' T, m__law_right [.ref 0] [spr p q r] = .ok (.val (.bl true)) (spr p' q' r' :: T) := by
  have loop := forL_inv (body := lb qsT qsB) (ds := its.map It.d) (ρ := [some (.ref 0), some (.val fulD), some (.val (.lst (its.map It.d))), none, none, none, none, none, none, none, none]) (S := [spr p q r]) (fun _ ρ S => ∃ (z3 z4 z5 z6 z7 z8 z9 z10 : Option A) (p q r : Int), ρ = [some (.ref 0), some (.val fulD), some (.val (.lst (its.map It.d))), z3, z4, z5, z6, z7, z8, z9, z10] ∧ S = [spr p q r]) ⟨_, _, _, _, _, _, _, _, _, _, _, rfl, rfl⟩ (by
    rintro i d ρ S hd ⟨z3, z4, z5, z6, z7, z8, z9, z10, p, q, r, rfl, rfl⟩
    rw [List.getElem?_map, Option.map_eq_some_iff] at hd
    obtain ⟨it, hi, rfl⟩ := hd
    obtain ⟨y5, y6, y7, y8, y9, y10, p', q', r', e⟩ := p_item (its_good it (List.mem_of_getElem? hi)) fulD (.lst (its.map It.d)) z3 z4 z5 z6 z7 z8 z9 z10 p q r
    exact ⟨_, _, e, _, _, _, _, _, _, _, _, _, _, _, rfl, rfl⟩)
  obtain ⟨ρ', S', e, z3, z4, z5, z6, z7, z8, z9, z10, p', q', r', rfl, rfl⟩ := loop
  refine ⟨p', q', r', [], ?_⟩
  have e1 : qtA [some (.ref 0), none, none, none, none, none, none, none, none, none, none] [spr p q r] = .nx [some (.ref 0), some (.val fulD), none, none, none, none, none, none, none, none, none] [spr p q r] := by
    have z2 : szOk 2 = true := szOk_le (by omega)
    unfold fulD
    simp [z2]
  have e2 := p_qtB none none [spr p q r]
  have e3 : sForV (cV 2) qsT qsB [some (.ref 0), some (.val fulD), some (.val (.lst (its.map It.d))), none, none, none, none, none, none, none, none] [spr p q r] = .nx [some (.ref 0), some (.val fulD), some (.val (.lst (its.map It.d))), z3, z4, z5, z6, z7, z8, z9, z10] [spr p' q' r'] := by
    rw [ap_sForV]
    exact e
  have main : (sSeq qtA (sSeq qtB (sSeq (sForV (cV 2) qsT qsB) (sRet (cB true))))) [some (.ref 0), none, none, none, none, none, none, none, none, none, none] [spr p q r] = .rt (.val (.bl true)) [spr p' q' r'] := by
    rw [seq_1 e1, seq_1 e2, seq_1 e3]
    rfl
  have e0 : m__law_right [.ref 0] [spr p q r] = retF ((sSeq qtA (sSeq qtB (sSeq (sForV (cV 2) qsT qsB) (sRet (cB true))))) [some (.ref 0), none, none, none, none, none, none, none, none, none, none] [spr p q r]) := by
    unfold m__law_right
    rw [right_57]
    rfl
  rw [e0, main]
  rfl
theorem k_right57 (S : Store) (i : Nat) (p q r : Int) (hi : S[i]? = some (spr p q r)) : ∃ O' : O, callIn false m__law_right [.ref i] S = .ok (.val (.bl true)) (S.set i O') := by
  obtain ⟨p', q', r', T, e⟩ := c_right57 p q r
  exact ⟨_, call_one1 hi rfl e rfl⟩
theorem law_body57 (F : Fn) (hF : ∀ (S : Store) (i : Nat) (p q r : Int), S[i]? = some (spr p q r) → ∃ O' : O, callIn false F [.ref i] S = .ok (.val (.bl true)) (S.set i O')) (ns : List Int) (hl : ns.length ≤ 63) :
    ∃ S, runF 2 (sRet (cB1 (fAll) (cCons (cLc true [1] (ciR1 (cB1 (fMax2) (cCons (cI 2) (cCons (cB1 (fMin2) (cCons (cB1 (fLen) (cCons (cV 0) (cNil))) (cCons (cI 5) (cNil)))) (cNil))))) (tgName 1) (cYes) (cCall 1 false F (cCons (cCall 2 true m__law_spring (cCons (cV 0) (cCons (cV 1) (cNil)))) (cNil)))) (cNil)))) [.val (.ro (ns.map D.int))] [] = .ok (.val (.bl true)) S := by
  obtain ⟨m, hm, em⟩ : ∃ m : Nat, m ≤ 63 ∧ (if 2 < (if (5 : Int) < (ns.length : Int) then (5 : Int) else (ns.length : Int)) then (if (5 : Int) < (ns.length : Int) then (5 : Int) else (ns.length : Int)) else 2) = (m : Int) := by
    refine ⟨max 2 (min 5 ns.length), by omega, ?_⟩
    split <;> split <;> omega
  unfold runF
  simp
  rw [em]
  have g1 : (-1000000 : Int) ≤ (m : Int) := by omega
  have g2 : (m : Int) ≤ 1000000 := by omega
  obtain ⟨S', e⟩ := tail_right hF ns hl 1 [some (A.val (D.ro (ns.map D.int))), none] rfl (by omega) (by simp) m hm []
  have zz : m ≤ 16000000 := by omega
  simp [g1, g2, e, zz]
theorem law_holds : LawSays m_law := fun ns hl => law_body57 m__law_right k_right57 ns hl
end T3
namespace T3
open PySem PySem.Spec PyProof.Rows L2
noncomputable def hfs0 : List Fk := [bGlo "_law_bank", bGlo "_law_places", bGlo "_law_at", bGlo "_law_tuples", bGlo "_law_put", bGlo "_law_rows_of", bGlo "_law_closing", bGlo "all_arguments", bGlo "table_from", bGlo "all_tables", bGlo "size_of", bGlo "places_of", bGlo "index_of", bGlo "value_at", bGlo "counts_at", bGlo "counting_of", bGlo "is_full", bGlo "is_integer", bGlo "is_between", bGlo "is_step", bGlo "put_in", bGlo "made_of", bGlo "accepts_all", bGlo "all_rows", bGlo "chain_of", bGlo "is_in_pairs", bGlo "is_in", bGlo "made_by", bGlo "length_of", bGlo "relation_of"]
noncomputable def hfs1 : List Fk := [bGlo "out_of", bGlo "is_kept", bGlo "is_nothing", bGlo "is_word", bGlo "accepts_kept", bGlo "is_table", bGlo "accepts_made", bGlo "is_plain", bGlo "accepts_out", bGlo "is_short", bGlo "row_in", bGlo "wrong_rows", bGlo "box_from", bGlo "box_told", bGlo "accepts", bGlo "_law_judged", bGlo "_law_draw", bGlo "_law_of", bGlo "_law_odd_part", bGlo "_law_put_in", bGlo "_law_right", bGlo "_law_spring", bGlo "law", bFree "abs", bFree "all", bFree "bool", bFree "divmod", bFree "enumerate", bFree "int", bFree "isinstance"]
noncomputable def hfs2 : List Fk := [bFree "len", bFree "list", bFree "max", bFree "min", bFree "range", bFree "repr", bFree "set", bFree "str", bFree "tuple", bCon "MOST_PLACES" (.int 3), bCon "DIGITS" (.str "012"), bCon "PLAIN" (.str "012"), bTup "WORDS" ["set 0", "set 1", "set 2", "set 01", "set 02", "set 12", "part 0", "part 1", "part 2", "turn", "sums", "chain 0", "chain 1", "chain 2", "centre 0", "centre 1", "centre 2", "mixed"], bCon "LETTERS" (.str "abcdefghijklmnopqrstuvwxyz"), bCon "MOST_LETTERS" (.int 4), bCon "MOST_TABLES" (.int 6), bCls (fun K => cgn K ["Box"] ["Box"] 100), bGloA "Box" (fun K => cgn K ["Box"] ["Box"] 100), bGloA "Box" (fun K => cgn K ["Box"] ["Box"] 2000), bCrd (fun K => cgn K ["Box"] ["Box"] 2000), bNoat (fun K => cgn K ["Box"] ["Box"] 100) "held", bNoat (fun K => cgn K ["Box"] ["Box"] 100) "told", bProp (fun K => cgn K ["Box"] ["Box"] 100) "tables", bMkr (fun K => cgn K ["Box"] ["Box"] 100), bCmt (fun K => cgn K ["Box"] ["Box"] 2000) "read", bTb ("LENGTHS", [("all", 3), ("kept", 3), ("out", 4), ("made", 3)]), (fun K => err1B K 0), bInit PySem.Challenge.pw_threevalues_k57_claims_of_any_kind.main.file "InvalidText", bX "InvalidText" "given" "ValueError" "ValueError.__new__" "ValueError.__init__" [.type "ValueError", .type "Exception", .type "BaseException", .type "object"], bFree "super"]
noncomputable def hfs : List Fk := hfs0 ++ hfs1 ++ hfs2
noncomputable def hds0 : List FnH := [⟨fun K => He.ga K "_law_bank", "_law_bank", "_law_bank", s__law_bank, []⟩, ⟨fun K => He.ga K "_law_places", "_law_places", "_law_places", s__law_places, []⟩, ⟨fun K => He.ga K "_law_at", "_law_at", "_law_at", s__law_at, []⟩, ⟨fun K => He.ga K "_law_tuples", "_law_tuples", "_law_tuples", s__law_tuples, []⟩, ⟨fun K => He.ga K "_law_put", "_law_put", "_law_put", s__law_put, []⟩, ⟨fun K => He.ga K "_law_rows_of", "_law_rows_of", "_law_rows_of", s__law_rows_of, []⟩, ⟨fun K => He.ga K "_law_closing", "_law_closing", "_law_closing", s__law_closing, []⟩, ⟨fun K => He.ga K "all_arguments", "all_arguments", "all_arguments", s_all_arguments, []⟩, ⟨fun K => He.ga K "table_from", "table_from", "table_from", s_table_from, []⟩, ⟨fun K => He.ga K "all_tables", "all_tables", "all_tables", s_all_tables, []⟩, ⟨fun K => He.ga K "size_of", "size_of", "size_of", s_size_of, []⟩, ⟨fun K => He.ga K "places_of", "places_of", "places_of", s_places_of, []⟩, ⟨fun K => He.ga K "index_of", "index_of", "index_of", s_index_of, []⟩, ⟨fun K => He.ga K "value_at", "value_at", "value_at", s_value_at, []⟩, ⟨fun K => He.ga K "counts_at", "counts_at", "counts_at", s_counts_at, []⟩, ⟨fun K => He.ga K "counting_of", "counting_of", "counting_of", s_counting_of, []⟩, ⟨fun K => He.ga K "is_full", "is_full", "is_full", s_is_full, []⟩, ⟨fun K => He.ga K "is_integer", "is_integer", "is_integer", s_is_integer, []⟩, ⟨fun K => He.ga K "is_between", "is_between", "is_between", s_is_between, []⟩, ⟨fun K => He.ga K "is_step", "is_step", "is_step", s_is_step, []⟩, ⟨fun K => He.ga K "put_in", "put_in", "put_in", s_put_in, []⟩, ⟨fun K => He.ga K "made_of", "made_of", "made_of", s_made_of, []⟩, ⟨fun K => He.ga K "accepts_all", "accepts_all", "accepts_all", s_accepts_all, []⟩, ⟨fun K => He.ga K "all_rows", "all_rows", "all_rows", s_all_rows, []⟩, ⟨fun K => He.ga K "chain_of", "chain_of", "chain_of", s_chain_of, []⟩, ⟨fun K => He.ga K "is_in_pairs", "is_in_pairs", "is_in_pairs", s_is_in_pairs, []⟩, ⟨fun K => He.ga K "is_in", "is_in", "is_in", s_is_in, []⟩, ⟨fun K => He.ga K "made_by", "made_by", "made_by", s_made_by, []⟩, ⟨fun K => He.ga K "length_of", "length_of", "length_of", s_length_of, []⟩, ⟨fun K => He.ga K "relation_of", "relation_of", "relation_of", s_relation_of, []⟩]
noncomputable def hds1 : List FnH := [⟨fun K => He.ga K "out_of", "out_of", "out_of", s_out_of, []⟩, ⟨fun K => He.ga K "is_kept", "is_kept", "is_kept", s_is_kept, []⟩, ⟨fun K => He.ga K "is_nothing", "is_nothing", "is_nothing", s_is_nothing, []⟩, ⟨fun K => He.ga K "is_word", "is_word", "is_word", s_is_word, []⟩, ⟨fun K => He.ga K "accepts_kept", "accepts_kept", "accepts_kept", s_accepts_kept, []⟩, ⟨fun K => He.ga K "is_table", "is_table", "is_table", s_is_table, []⟩, ⟨fun K => He.ga K "accepts_made", "accepts_made", "accepts_made", s_accepts_made, []⟩, ⟨fun K => He.ga K "is_plain", "is_plain", "is_plain", s_is_plain, []⟩, ⟨fun K => He.ga K "accepts_out", "accepts_out", "accepts_out", s_accepts_out, []⟩, ⟨fun K => He.ga K "is_short", "is_short", "is_short", s_is_short, []⟩, ⟨fun K => He.ga K "row_in", "row_in", "row_in", s_row_in, []⟩, ⟨fun K => He.ga K "wrong_rows", "wrong_rows", "wrong_rows", s_wrong_rows, []⟩, ⟨fun K => He.ga K "box_from", "box_from", "box_from", s_box_from, []⟩, ⟨fun K => He.ga K "box_told", "box_told", "box_told", s_box_told, []⟩, ⟨fun K => He.ga K "accepts", "accepts", "accepts", s_accepts, []⟩, ⟨fun K => He.ga K "_law_judged", "_law_judged", "_law_judged", s__law_judged, []⟩, ⟨fun K => He.ga K "_law_draw", "_law_draw", "_law_draw", s__law_draw, []⟩, ⟨fun K => He.ga K "_law_of", "_law_of", "_law_of", s__law_of, []⟩, ⟨fun K => He.ga K "_law_odd_part", "_law_odd_part", "_law_odd_part", s__law_odd_part, []⟩, ⟨fun K => He.ga K "_law_put_in", "_law_put_in", "_law_put_in", s__law_put_in, []⟩, ⟨fun K => He.ga K "_law_right", "_law_right", "_law_right", s__law_right, []⟩, ⟨fun K => He.ga K "_law_spring", "_law_spring", "_law_spring", s__law_spring, []⟩, ⟨fun K => He.ga K "law", "law", "law", s_law, []⟩, ⟨wAd (fun K => cgn K ["Box"] ["Box"] 100) "property" "tables", "tables", "Box.tables", s_Box__tables, []⟩, ⟨mAd (fun K => cgn K ["Box"] ["Box"] 100) "__init__", "__init__", "Box.__init__", s_Box__init, []⟩, ⟨wAd (fun K => cgn K ["Box"] ["Box"] 2000) "classmethod" "read", "read", "Box.read", s_Box__read, []⟩, ⟨fun K => He.fAd K ("InvalidText", some "__init__"), "__init__", "InvalidText.__init__", inClass (topS 3) 0, ["__class__"]⟩]
noncomputable def hds : List FnH := hds0 ++ hds1
noncomputable def hnm0 : List Str := ["_wall", "WrongValue", "InvalidText", "InvalidLot", "InvalidRows", "MOST_TABLES", "MOST_LETTERS", "MOST_PLACES", "DIGITS", "is_integer", "is_between", "size_of", "is_table", "places_of", "index_of", "value_at", "all_arguments", "table_from", "counts_at", "counting_of", "is_full", "put_in", "all_tables", "LETTERS", "is_short", "row_in", "wrong_rows", "Box", "box_from", "is_lot"]
noncomputable def hnm1 : List Str := ["check_lot", "WORDS", "is_word", "chain_of", "is_in_pairs", "is_in", "length_of", "relation_of", "made_by", "all_rows", "out_of", "is_kept", "PLAIN", "is_step", "made_of", "LENGTHS", "box_told", "is_nothing", "accepts_out", "is_plain", "accepts_all", "accepts_made", "accepts_kept", "accepts", "_law_spring", "_law_draw", "_law_of", "_law_tuples", "_law_at", "_law_places"]
noncomputable def hnm2 : List Str := ["_law_rows_of", "_law_put", "_law_closing", "_law_judged", "_law_bank", "_law_odd_part", "_law_put_in", "_law_right"]
noncomputable def hnm : List Str := hnm0 ++ hnm1 ++ hnm2
noncomputable def hts : List KTb := [("LENGTHS", [("all", 3), ("kept", 3), ("out", 4), ("made", 3)])]
end T3
open PySem PySem.W PyProof.Rows
set_option maxRecDepth 100000 in
set_option maxHeartbeats 0 in
theorem PySem.Challenge.cw_threevalues_k57_claims_of_any_kind_holds : PySem.Challenge.rw_threevalues_k57_claims_of_any_kind.Holds := by
  w_on; o_law; k_head; (case hw => w_witness2)
  k_fill
  refine T3.walkG (l := PySem.Challenge.rw_threevalues_k57_claims_of_any_kind) (k := 15) (x := "cells") T3.law_holds rfl rfl ⟨rfl, by decide, by decide⟩ (fun w h Y => PySem.W.kIn_of Y) ?F
  case F =>
    intro w mg fa h KX G hmg
    refine T3.says_go (fs := T3.hfs) (ds := T3.hds) (ts := T3.hts) (w := w) KX (by kernel_rfl) (by kernel_rfl) (by kernel_rfl) (by kernel_rfl) fun c dt => ?_
    refine T3.all_mk ?T hmg
    exact ⟨T3.hat_ok KX G c 0 0 rfl rfl, T3.hat_ok KX G c 1 1 rfl rfl, T3.hat_ok KX G c 2 2 rfl rfl, T3.hat_ok KX G c 3 3 rfl rfl, T3.hat_ok KX G c 4 4 rfl rfl, T3.hat_ok KX G c 5 5 rfl rfl, T3.hat_ok KX G c 6 6 rfl rfl, T3.hat_ok KX G c 7 7 rfl rfl, T3.hat_ok KX G c 8 8 rfl rfl, T3.hat_ok KX G c 9 9 rfl rfl, T3.hat_ok KX G c 10 10 rfl rfl, T3.hat_ok KX G c 11 11 rfl rfl, T3.hat_ok KX G c 12 12 rfl rfl, T3.hat_ok KX G c 13 13 rfl rfl, T3.hat_ok KX G c 14 14 rfl rfl, T3.hat_ok KX G c 15 15 rfl rfl, T3.hat_ok KX G c 16 16 rfl rfl, T3.hat_ok KX G c 17 17 rfl rfl, T3.hat_ok KX G c 18 18 rfl rfl, T3.hat_ok KX G c 19 19 rfl rfl, T3.hat_ok KX G c 20 20 rfl rfl, T3.hat_ok KX G c 21 21 rfl rfl, T3.hat_ok KX G c 22 22 rfl rfl, T3.hat_ok KX G c 23 23 rfl rfl, T3.hat_ok KX G c 24 24 rfl rfl, T3.hat_ok KX G c 25 25 rfl rfl, T3.hat_ok KX G c 26 26 rfl rfl, T3.hat_ok KX G c 27 27 rfl rfl, T3.hat_ok KX G c 28 28 rfl rfl, T3.hat_ok KX G c 29 29 rfl rfl, T3.hat_ok KX G c 30 30 rfl rfl, T3.hat_ok KX G c 31 31 rfl rfl, T3.hat_ok KX G c 32 32 rfl rfl, T3.hat_ok KX G c 33 33 rfl rfl, T3.hat_ok KX G c 34 34 rfl rfl, T3.hat_ok KX G c 35 35 rfl rfl, T3.hat_ok KX G c 36 36 rfl rfl, T3.hat_ok KX G c 37 37 rfl rfl, T3.hat_ok KX G c 38 38 rfl rfl, T3.hat_ok KX G c 39 39 rfl rfl, T3.hat_ok KX G c 40 40 rfl rfl, T3.hat_ok KX G c 41 41 rfl rfl, T3.hat_ok KX G c 42 42 rfl rfl, T3.hat_ok KX G c 43 43 rfl rfl, T3.hat_ok KX G c 44 44 rfl rfl, T3.hat_ok KX G c 45 45 rfl rfl, T3.hat_ok KX G c 46 46 rfl rfl, T3.hat_ok KX G c 47 47 rfl rfl, T3.hat_ok KX G c 48 48 rfl rfl, T3.hat_ok KX G c 49 49 rfl rfl, T3.hat_ok KX G c 50 50 rfl rfl, T3.hat_ok KX G c 51 51 rfl rfl, T3.hat_ok KX G c 52 52 rfl rfl, T3.free_ok KX G c 53 rfl, T3.free_ok KX G c 54 rfl, T3.free_ok KX G c 55 rfl, T3.free_ok KX G c 56 rfl, T3.free_ok KX G c 57 rfl, T3.free_ok KX G c 58 rfl, T3.free_ok KX G c 59 rfl, T3.free_ok KX G c 60 rfl, T3.free_ok KX G c 61 rfl, T3.free_ok KX G c 62 rfl, T3.free_ok KX G c 63 rfl, T3.free_ok KX G c 64 rfl, T3.free_ok KX G c 65 rfl, T3.free_ok KX G c 66 rfl, T3.free_ok KX G c 67 rfl, T3.free_ok KX G c 68 rfl, T3.con_ok KX G c 69 rfl, T3.con_ok KX G c 70 rfl, T3.con_ok KX G c 71 rfl, T3.tup_ok KX G c 72 rfl, T3.con_ok KX G c 73 rfl, T3.con_ok KX G c 74 rfl, T3.con_ok KX G c 75 rfl, T3.isiT_bool _, T3.isiT_int _, T3.isiT_str _, T3.isiT_tuple _, T3.clsA_ok c 76 rfl, T3.gloA_ok KX G c 77 rfl, T3.gloA_ok KX G c 78 rfl, T3.crdA_ok c 79 rfl, (T3.hasF_cons (by decide) (T3.clsA_ok c 76 rfl) (T3.noatA_ok c 80 rfl) T3.hasF_nil), (T3.hasF_cons (by decide) (T3.clsA_ok c 76 rfl) (T3.noatA_ok c 81 rfl) T3.hasF_nil), T3.propA_ok c 53 82 rfl rfl, T3.initA_ok c 54 83 rfl rfl, T3.cmA_ok c 55 84 rfl rfl, T3.kdT_ok KX G c dt 0 85 rfl rfl, T3.err1_ok KX G c ["Box"] ["Box"] 86 rfl (by decide), T3.raisX_ok KX G c 56 87 88 rfl rfl rfl rfl rfl rfl rfl rfl T3.base_V, T3.free_ok KX G c 89 rfl⟩
