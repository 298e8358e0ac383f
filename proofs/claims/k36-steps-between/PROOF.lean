import PyProof.Rows.All
import HandS.GenList
import HandS.ForMost
import HandS.Walk
import KE.GoesMore
import PyProof.EnumMake
import PyProof.CompFree
import PyProof.ListNew
import HandS.Ends
import HandS.IsInst
import HandS.TupAny
import HandS.TupMul
import HandS.Codes
import HandS.Style
import HandS.Comp
import PySem.Challenge.RW_turndeal_k36_whole_steps_between_equal_t
import HandS.WideMore
import KE.KUnpackStar
import HandS.More
import HandS.Exc
import HandS.Iter
import HandS.Defaults
import HandS.SortKw
import KE.DataMinMax
import HandS.Lambda
import HandS.Sort
import KE.SortKeyHeap
import HandS.Star
import HandS.EndTab
import KE.KNestM
import HandS.HeadEnd
set_option Elab.async false
set_option linter.all false
set_option maxRecDepth 100000

section
set_option maxHeartbeats 1000000
/-! TdR2: runs in which a generator may sleep over a generator that it yields from (Run2); their logic (wp2, any2, code2). -/
namespace Td
open PySem PyProof.Rows
open Sem (wp)

/-- no frame of a generator among these -/
def Gf : List Frame → Prop
  | [] => True
  | .ret .. :: r => Gf r
  | .gen .. :: _ => False
theorem Gf.split : ∀ {fs : List Frame}, Gf fs → splitAtGen fs = none
  | [], _ => rfl
  | .ret k h g l c p kp :: r, h1 => by
    show (splitAtGen r).map _ = none
    rw [Gf.split (fs := r) h1]; rfl
  | .gen .. :: _, h1 => h1.elim
theorem Gf.append : ∀ {fs gs : List Frame}, Gf fs → Gf gs → Gf (fs ++ gs)
  | [], _, _, h => h
  | .ret k h g l c p kp :: r, gs, h1, h2 => Gf.append (fs := r) h1 h2
  | .gen .. :: _, _, h1, _ => h1.elim
theorem Gf.of_split : ∀ {fs : List Frame}, splitAtGen fs = none → Gf fs
  | [], _ => trivial
  | .ret k h g l c p kp :: r, h1 => by
    have h2 : (splitAtGen r).map (fun (fs, b, r') => (Frame.ret k h g l c p kp :: fs, b, r')) = none := h1
    cases e : splitAtGen r with
    | none => exact Gf.of_split (fs := r) e
    | some y => rw [e] at h2; cases h2
  | .gen .. :: _, h1 => by cases h1
/-- a generator may sleep so: quietly, or within «yield from» over a generator -/
def EndOk (e : End) (s : Shared) : Prop :=
  e.quiet = true ∨ ∃ v l k a rest kw p fs, e = .susp v true l k (.builtin "proto.yield_from" ⟨.ref a :: rest, kw⟩) p fs ∧ Gf fs ∧ fs.any Frame.guarded = false ∧ ∃ o n, s.heap.get? a = some o ∧ o.genNumber? = some n

/-- a run, big steps -/
inductive Run2 (M : Model) : PySem.Ctx → Pos → Sem PySem.Fin → List Frame → Shared → End → Shared → Prop
  | fin {Γ p f s} : Run2 M Γ p (.pure (.done f)) [] s (.ret (.ok f)) s
  | exc {Γ p x s} : Run2 M Γ p (.raise x) [] s (.ret (.error x)) s
  | more {Γ p c s e s'} (hq : Code.quiet c = true) (h : Run2 M (Γ.goto c) p (M.den c) [] s e s') : Run2 M Γ p (.pure (.again c)) [] s e s'
  | rule {Γ p tag k s e s'} (h : Run2 M Γ p (k ()) [] s e s') : Run2 M Γ p (.rule tag k) [] s e s'
  | place {Γ p p' k s e s'} (h : Run2 M Γ p' (k ()) [] s e s') : Run2 M Γ p (.at p' k) [] s e s'
  | load {Γ p a part o k s e s'} (ho : s.heap.get? a = some o) (h : Run2 M Γ p (k o) [] s e s') : Run2 M Γ p (.load a part k) [] s e s'
  | upd {Γ p a part f k s e s'} (ha : (s.heap.get? a).isSome) (h : Run2 M Γ p (k ()) [] { s with heap := s.heap.update a f } e s') : Run2 M Γ p (.update a part f k) [] s e s'
  | alive {Γ p a k s e s'} (h : Run2 M Γ p (k (s.heap.get? a)) [] s e s') : Run2 M Γ p (.loadIfAlive a k) [] s e s'
  | point {Γ p l k s e s'} (h : Run2 M Γ p (k ()) [] s e s') : Run2 M Γ p (.point l k) [] s e s'
  | alloc {Γ p o k s e s'} (h : Run2 M Γ p (k s.heap.objs.size) [] { s with heap := s.heap.push o } e s') : Run2 M Γ p (.alloc o k) [] s e s'
  | fresh {Γ p k s e s'} (h : Run2 M Γ p (k s.toks) [] { s with toks := s.toks + 1 } e s') : Run2 M Γ p (.fresh k) [] s e s'
  | ask {Γ p k s e s'} (h : Run2 M Γ p (k ⟨M.prog, M.w.params⟩) [] s e s') : Run2 M Γ p (.ask k) [] s e s'
  | choose {Γ p src n k s e s'} (hn : n ≠ 0) (h : Run2 M Γ p (k (M.w.draws src (s.drawn.get src) % n)) [] { s with drawn := s.drawn.bump src } e s') : Run2 M Γ p (.choose src n k) [] s e s'
  | os {Γ p q l k s e s'} (h : Run2 M Γ p (k (Os.step s.os q).2) [] { s with os := (Os.step s.os q).1 } e s') : Run2 M Γ p (.os q l k) [] s e s'
  | hand {Γ : PySem.Ctx} {p own k s e s'} (h : Run2 M Γ p (k (if own then Γ.own else Γ.handled)) [] s e s') : Run2 M Γ p (.handled own k) [] s e s'
  | gstate {Γ p g k st s e s'} (hg : s.gens[g]? = some st) (h : Run2 M Γ p (k st.seen) [] s e s') : Run2 M Γ p (.genState g k) [] s e s'
  | stack {Γ : PySem.Ctx} {p k s e s'} (h : Run2 M Γ p (k ((Γ.code, p) :: Γ.below)) [] s e s') : Run2 M Γ p (.stack k) [] s e s'
  | thread {Γ p k s e s'} (h : Run2 M Γ p (k 0) [] s e s') : Run2 M Γ p (.thread k) [] s e s'
  | gnew {Γ p c k s e s'} (h : Run2 M Γ p (k s.gens.size) [] { s with gens := s.gens.push (.fresh c) } e s') : Run2 M Γ p (.newGen c k) [] s e s'
  | call {Γ : PySem.Ctx} {p c h g l k s r s₁ e s'} (h1 : Run2 M (Γ.enter c h p) p (M.den c) [] s (.ret r) s₁) (h2 : Run2 M Γ p (k r) [] s₁ e s') : Run2 M Γ p (.call c h g l k) [] s e s'
  | callOut {Γ : PySem.Ctx} {p c h g l k s v g₀ l₀ k₀ c₀ p₀ fs s'} (h1 : Run2 M (Γ.enter c h p) p (M.den c) [] s (.susp v g₀ l₀ k₀ c₀ p₀ fs) s') :
      Run2 M Γ p (.call c h g l k) [] s (.susp v g₀ l₀ k₀ c₀ p₀ (fs ++ [.ret k h g l Γ.code p []])) s'
  | out {Γ : PySem.Ctx} {p v g l k s} : Run2 M Γ p (.yield v g l k) [] s (.susp v g l k Γ.code p []) s
  | wakeNew {Γ p g l k s c e₁ s₁ e s'} (hg : s.gens[g]? = some (.fresh c)) (h1 : Run2 M (Γ.wake c p) p (M.den c) [] (s.setGen g .running) e₁ s₁)
      (hq : EndOk e₁ s₁) (h2 : Run2 M Γ p (k e₁.result) [] (s₁.setGen g e₁.genState) e s') : Run2 M Γ p (.resume g (.send .none) l k) [] s e s'
  | wakeOld {Γ p g r l k s k₀ l₀ c₀ p₀ fs cl e₁ s₁ e s'} (hg : s.gens[g]? = some (.suspended k₀ l₀ c₀ p₀ fs cl)) (h1 : Run2 M (Γ.wake c₀ p) p₀ (k₀ r) fs (s.setGen g .running) e₁ s₁)
      (hq : EndOk e₁ s₁) (h2 : Run2 M Γ p (k e₁.result) [] (s₁.setGen g e₁.genState) e s') : Run2 M Γ p (.resume g r l k) [] s e s'
  | wakeSent {Γ p g v l k c s e s'} (hg : s.gens[g]? = some (.fresh c)) (hv : v ≠ .none) (h : Run2 M Γ p (k .justStarted) [] s e s') : Run2 M Γ p (.resume g (.send v) l k) [] s e s'
  | wakeThrow {Γ p g x l k c s e s'} (hg : s.gens[g]? = some (.fresh c)) (h : Run2 M Γ p (k (.raised x)) [] (s.setGen g .finished) e s') : Run2 M Γ p (.resume g (.throw x) l k) [] s e s'
  | wakeBusy {Γ p g r l k s e s'} (hg : s.gens[g]? = some .running) (h : Run2 M Γ p (k .running) [] s e s') : Run2 M Γ p (.resume g r l k) [] s e s'
  | wakeDone {Γ p g r l k s e s'} (hg : s.gens[g]? = some .finished) (h : Run2 M Γ p (k .finished) [] s e s') : Run2 M Γ p (.resume g r l k) [] s e s'
  | back {Γ p t k h g l c₁ p₁ kp fs s r s₁ e s'} (h1 : Run2 M (Γ.over (.ret k h g l c₁ p₁ kp :: fs)) p t [] s (.ret r) s₁) (h2 : Run2 M (Γ.goto c₁) p₁ (k r) fs s₁ e s') :
      Run2 M Γ p t (.ret k h g l c₁ p₁ kp :: fs) s e s'
  | backOut {Γ p t F fs s v g₀ l₀ k₀ c₀ p₀ fs₀ s'} (hs : splitAtGen (F :: fs) = none) (h1 : Run2 M (Γ.over (F :: fs)) p t [] s (.susp v g₀ l₀ k₀ c₀ p₀ fs₀) s') :
      Run2 M Γ p t (F :: fs) s (.susp v g₀ l₀ k₀ c₀ p₀ (fs₀ ++ F :: fs)) s'

/-- frames of sleeping generators -/
def GfS (G : Array GenState) : Prop := ∀ (g : Nat) k l c p fs cl, G[g]? = some (GenState.suspended k l c p fs cl) → Gf fs

/-- a generator is woken -/
inductive Wake2 (M : Model) (Γ : PySem.Ctx) (p : Pos) (g : Nat) : Resume → Shared → GenResult → Shared → Prop
  | new {s c e s₁} (hg : s.gens[g]? = some (.fresh c)) (h : Run2 M (Γ.wake c p) p (M.den c) [] (s.setGen g .running) e s₁) (hq : EndOk e s₁) : Wake2 M Γ p g (.send .none) s e.result (s₁.setGen g e.genState)
  | old {s k l c q fs cl r e s₁} (hg : s.gens[g]? = some (.suspended k l c q fs cl)) (h : Run2 M (Γ.wake c p) q (k r) fs (s.setGen g .running) e s₁) (hq : EndOk e s₁) : Wake2 M Γ p g r s e.result (s₁.setGen g e.genState)
  | sent {s c v} (hg : s.gens[g]? = some (.fresh c)) (hv : v ≠ .none) : Wake2 M Γ p g (.send v) s .justStarted s
  | thrown {s c x} (hg : s.gens[g]? = some (.fresh c)) : Wake2 M Γ p g (.throw x) s (.raised x) (s.setGen g .finished)
  | busy {s r} (hg : s.gens[g]? = some .running) : Wake2 M Γ p g r s .running s
  | over {s r} (hg : s.gens[g]? = some .finished) : Wake2 M Γ p g r s .finished s
theorem run2_resume {M : Model} {Γ : PySem.Ctx} {p : Pos} {g : Nat} {r : Resume} {l : List Value} {k : GenResult → Sem PySem.Fin} {s s₁ s' : Shared} {res : GenResult} {e : End}
    (w : Wake2 M Γ p g r s res s₁) (h : Run2 M Γ p (k res) [] s₁ e s') : Run2 M Γ p (.resume g r l k) [] s e s' := by
  cases w with
  | new hg h1 hq => exact .wakeNew hg h1 hq h
  | old hg h1 hq => exact .wakeOld hg h1 hq h
  | sent hg hv => exact .wakeSent hg hv h
  | thrown hg => exact .wakeThrow hg h
  | busy hg => exact .wakeBusy hg h
  | over hg => exact .wakeDone hg h

section
variable {α β : Type}
/-- the weakest precondition over these runs -/
def wp2 (M : Model) (Γ : PySem.Ctx) : Sem α → (α → Pos → Shared → Prop) → (Value → Pos → Shared → Prop) → Pos → Shared → Prop
  | .pure a, Q, _, p, s => Q a p s
  | .raise x, _, E, p, s => E x p s
  | .rule _ k, Q, E, p, s => wp2 M Γ (k ()) Q E p s
  | .at q k, Q, E, _, s => wp2 M Γ (k ()) Q E q s
  | .load a _ k, Q, E, p, s => ∃ o, s.heap.get? a = some o ∧ wp2 M Γ (k o) Q E p s
  | .update a _ f k, Q, E, p, s => (s.heap.get? a).isSome ∧ wp2 M Γ (k ()) Q E p { s with heap := s.heap.update a f }
  | .loadIfAlive a k, Q, E, p, s => wp2 M Γ (k (s.heap.get? a)) Q E p s
  | .point _ k, Q, E, p, s => wp2 M Γ (k ()) Q E p s
  | .alloc o k, Q, E, p, s => wp2 M Γ (k s.heap.objs.size) Q E p { s with heap := s.heap.push o }
  | .fresh k, Q, E, p, s => wp2 M Γ (k s.toks) Q E p { s with toks := s.toks + 1 }
  | .ask k, Q, E, p, s => wp2 M Γ (k ⟨M.prog, M.w.params⟩) Q E p s
  | .choose src n k, Q, E, p, s => n ≠ 0 ∧ wp2 M Γ (k (M.w.draws src (s.drawn.get src) % n)) Q E p { s with drawn := s.drawn.bump src }
  | .os q _ k, Q, E, p, s => wp2 M Γ (k (Os.step s.os q).2) Q E p { s with os := (Os.step s.os q).1 }
  | .call c h _ _ k, Q, E, p, s => ∃ r s', Run2 M (Γ.enter c h p) p (M.den c) [] s (.ret r) s' ∧ wp2 M Γ (k r) Q E p s'
  | .handled own k, Q, E, p, s => wp2 M Γ (k (if own then Γ.own else Γ.handled)) Q E p s
  | .genState g k, Q, E, p, s => ∃ st, s.gens[g]? = some st ∧ wp2 M Γ (k st.seen) Q E p s
  | .newGen c k, Q, E, p, s => wp2 M Γ (k s.gens.size) Q E p { s with gens := s.gens.push (.fresh c) }
  | .resume g r _ k, Q, E, p, s => ∃ res s', Wake2 M Γ p g r s res s' ∧ wp2 M Γ (k res) Q E p s'
  | .stack k, Q, E, p, s => wp2 M Γ (k ((Γ.code, p) :: Γ.below)) Q E p s
  | .thread k, Q, E, p, s => wp2 M Γ (k 0) Q E p s
  | _, _, _, _, _ => False

theorem wp2_bind {M : Model} {Γ : PySem.Ctx} (m : Sem α) (f : α → Sem β) (Q : β → Pos → Shared → Prop) (E : Value → Pos → Shared → Prop) (p : Pos) (s : Shared) :
    wp2 M Γ (m.bind f) Q E p s = wp2 M Γ m (fun a p' s' => wp2 M Γ (f a) Q E p' s') E p s := by
  induction m generalizing p s <;> simp only [Sem.bind, wp2, *]
theorem wp2_tryCatch {M : Model} {Γ : PySem.Ctx} (m : Sem α) (h : Value → Sem α) (Q : α → Pos → Shared → Prop) (E : Value → Pos → Shared → Prop) (p : Pos) (s : Shared) :
    wp2 M Γ (m.tryCatch h) Q E p s = wp2 M Γ m Q (fun e p' s' => wp2 M Γ (h e) Q E p' s') p s := by
  induction m generalizing p s <;> simp only [Sem.tryCatch, wp2, *]
theorem wp2_onRaise {M : Model} {Γ : PySem.Ctx} (m : Sem α) (h : Value → Sem Unit) (Q : α → Pos → Shared → Prop) (E : Value → Pos → Shared → Prop) (p : Pos) (s : Shared) :
    wp2 M Γ (m.onRaise h) Q E p s = wp2 M Γ m Q (fun e p' s' => wp2 M Γ (h e) (fun _ p'' s'' => E e p'' s'') E p' s') p s := by
  induction m generalizing p s <;> simp only [Sem.onRaise, wp2, wp2_bind, *]
theorem wp2_keep {M : Model} {Γ : PySem.Ctx} (vs : List Value) (m : Sem α) (Q : α → Pos → Shared → Prop) (E : Value → Pos → Shared → Prop) (p : Pos) (s : Shared) :
    wp2 M Γ (m.keep vs) Q E p s = wp2 M Γ m Q E p s := by
  induction m generalizing p s <;> simp only [Sem.keep, wp2, *]
theorem wp2_mono {M : Model} {Γ : PySem.Ctx} {Q Q' : α → Pos → Shared → Prop} {E E' : Value → Pos → Shared → Prop} (m : Sem α) (hQ : ∀ a p s, Q a p s → Q' a p s) (hE : ∀ x p s, E x p s → E' x p s) :
    ∀ (p : Pos) (s : Shared), wp2 M Γ m Q E p s → wp2 M Γ m Q' E' p s := by
  induction m with
  | pure a => exact fun p s h => hQ a p s h
  | raise x => exact fun p s h => hE x p s h
  | unsupported | finish | yield | fork | await | register => exact fun _ _ h => h
  | rule _ k ih | loadIfAlive _ k ih | point _ k ih | alloc _ k ih | fresh k ih | ask k ih | os _ _ k ih | handled _ k ih | newGen _ k ih | stack k ih | thread k ih => exact fun p s h => ih _ _ _ h
  | «at» q k ih => exact fun p s h => ih _ _ _ h
  | load a _ k ih | genState a k ih => exact fun p s ⟨o, ho, h⟩ => ⟨o, ho, ih _ _ _ h⟩
  | update a _ f k ih | choose _ _ k ih => exact fun p s ⟨ha, h⟩ => ⟨ha, ih _ _ _ h⟩
  | call c h g l k ih => exact fun p s ⟨r, s', hr, h⟩ => ⟨r, s', hr, ih r p s' h⟩
  | resume g r l k ih => exact fun p s ⟨res, s', hw, h⟩ => ⟨res, s', hw, ih res p s' h⟩
end

/-! ### over any way of coming there -/
def any2 {α : Type} (M : Model) (A : Around) (t : Sem α) (Q : α → Shared → Prop) (E : Value → Shared → Prop) (s : Shared) : Prop :=
  ∀ (Γ : PySem.Ctx) p, Γ.In A → wp2 M Γ t (fun a _ s' => Q a s') (fun e _ s' => E e s') p s
def code2 (M : Model) (A : Around) (c : Code) (R : Result → Shared → Prop) (s : Shared) : Prop :=
  ∀ (Γ : PySem.Ctx) p, Γ.code = c → Γ.Below A → ∃ r s', Run2 M Γ p (M.den c) [] s (.ret r) s' ∧ R r s'
section
variable {α β : Type} {M : Model} {A : Around} {E : Value → Shared → Prop} {s : Shared}
theorem a2_pure {a : α} {Q : α → Shared → Prop} (h : Q a s) : any2 M A (pure a) Q E s := fun _ _ _ => h
theorem a2_throw {e : Value} {Q : α → Shared → Prop} (h : E e s) : any2 M A (throw e : Sem α) Q E s := fun _ _ _ => h
theorem a2_mono {t : Sem α} {Q Q' : α → Shared → Prop} {E' : Value → Shared → Prop} (h : any2 M A t Q E s) (hQ : ∀ a s, Q a s → Q' a s) (hE : ∀ e s, E e s → E' e s) : any2 M A t Q' E' s :=
  fun Γ p hΓ => wp2_mono t (fun a _ s => hQ a s) (fun e _ s => hE e s) p s (h Γ p hΓ)
theorem a2_thn {t : Sem α} {Q Q' : α → Shared → Prop} (h : any2 M A t Q E s) (hQ : ∀ a s, Q a s → Q' a s) : any2 M A t Q' E s := a2_mono h hQ fun _ _ x => x
theorem a2_bind {m : Sem α} {f : α → Sem β} {Q : β → Shared → Prop} (h : any2 M A m (fun a s' => any2 M A (f a) Q E s') E s) : any2 M A (m >>= f) Q E s := fun Γ p hΓ => by
  show wp2 M Γ (m.bind f) _ _ p s
  rw [wp2_bind]
  exact wp2_mono m (fun a p' s' h' => h' Γ p' hΓ) (fun _ _ _ h' => h') p s (h Γ p hΓ)
theorem a2_onRaise {m : Sem α} {k : Value → Sem Unit} {Q : α → Shared → Prop} (h : any2 M A m Q (fun e s' => any2 M A (k e) (fun _ s'' => E e s'') E s') s) : any2 M A (m.onRaise k) Q E s := fun Γ p hΓ => by
  rw [wp2_onRaise]
  exact wp2_mono m (fun _ _ _ h' => h') (fun e p' s' h' => h' Γ p' hΓ) p s (h Γ p hΓ)
theorem a2_attempt {m : Sem α} {Q : Except Value α → Shared → Prop} (h : any2 M A m (fun a => Q (.ok a)) (fun e => Q (.error e)) s) : any2 M A m.attempt Q E s := fun Γ p hΓ => by
  unfold Sem.attempt
  rw [wp2_tryCatch, wp2_bind]
  exact h Γ p hΓ
theorem a2_holding {vs : List Value} {m : Sem α} {Q : α → Shared → Prop} (h : any2 M A m Q E s) : any2 M A (holding vs m) Q E s := fun Γ p hΓ => by
  rw [holding_eq_keep, wp2_keep]; exact h Γ p hΓ
theorem a2_at {q : Pos} {Q : Unit → Shared → Prop} (h : Q () s) : any2 M A (standAt q) Q E s := fun _ _ _ => h
theorem a2_rule {tag : String} {Q : Unit → Shared → Prop} (h : Q () s) : any2 M A (rule tag) Q E s := fun _ _ _ => h
theorem a2_point {Q : Unit → Shared → Prop} (h : Q () s) : any2 M A point Q E s := fun _ _ _ => h
theorem a2_of_eq {m : Sem α} {a : α} (e : m = pure a) {Q : α → Shared → Prop} (h : Q a s) : any2 M A m Q E s := by rw [e]; exact a2_pure h
theorem c2_mono {c : Code} {R R' : Result → Shared → Prop} (h : code2 M A c R s) (hR : ∀ r s, R r s → R' r s) : code2 M A c R' s := fun Γ p hc hΓ =>
  let ⟨r, s', hr, q⟩ := h Γ p hc hΓ; ⟨r, s', hr, hR r s' q⟩

/-! ### from the weakest precondition to a run -/
theorem Run2.lift {Γ : PySem.Ctx} {p p₁ t t₁ fs s s₁ e s'} (h : ∀ e₁ s₂, Run2 M (Γ.over fs) p₁ t₁ [] s₁ e₁ s₂ → Run2 M (Γ.over fs) p t [] s e₁ s₂) (hr : Run2 M Γ p₁ t₁ fs s₁ e s') : Run2 M Γ p t fs s e s' := by
  cases fs with
  | nil =>
    have e0 : Γ.over [] = Γ := rfl
    rw [e0] at h
    exact h _ _ hr
  | cons F fs =>
    cases hr with
    | back a b => exact .back (h _ _ a) b
    | backOut hs a => exact .backOut hs (h _ _ a)
theorem run2_wrap {γ : Type} {Γ : PySem.Ctx} {fs : List Frame} {Φ : End → Shared → Prop} (K : γ → Sem PySem.Fin) (H : Value → Sem PySem.Fin) (gd lv) (m : Sem γ) :
    ∀ {Q : γ → Pos → Shared → Prop} {E : Value → Pos → Shared → Prop} {p : Pos} {s : Shared}, wp2 M (Γ.over fs) m Q E p s →
      (∀ a p' s', Q a p' s' → ∃ e s'', Run2 M Γ p' (K a) fs s' e s'' ∧ Φ e s'') → (∀ x p' s', E x p' s' → ∃ e s'', Run2 M Γ p' (H x) fs s' e s'' ∧ Φ e s'') →
      ∃ e s'', Run2 M Γ p (m.wrap K H gd lv) fs s e s'' ∧ Φ e s'' := by
  induction m with
  | pure a => intro Q E p s h hQ _; exact hQ a p s h
  | raise x => intro Q E p s h _ hE; exact hE x p s h
  | unsupported | finish | register | yield | fork | await => intro Q E p s h; exact h.elim
  | rule tag k ih => intro Q E p s h hQ hE; obtain ⟨e, s'', hr, z⟩ := ih () h hQ hE; exact ⟨e, s'', .lift (fun _ _ x => .rule x) hr, z⟩
  | «at» q k ih => intro Q E p s h hQ hE; obtain ⟨e, s'', hr, z⟩ := ih () h hQ hE; exact ⟨e, s'', .lift (fun _ _ x => .place x) hr, z⟩
  | load a part k ih => intro Q E p s h hQ hE; obtain ⟨o, ho, h⟩ := h; obtain ⟨e, s'', hr, z⟩ := ih o h hQ hE; exact ⟨e, s'', .lift (fun _ _ x => .load ho x) hr, z⟩
  | update a part f k ih => intro Q E p s h hQ hE; obtain ⟨ha, h⟩ := h; obtain ⟨e, s'', hr, z⟩ := ih () h hQ hE; exact ⟨e, s'', .lift (fun _ _ x => .upd ha x) hr, z⟩
  | loadIfAlive a k ih => intro Q E p s h hQ hE; obtain ⟨e, s'', hr, z⟩ := ih _ h hQ hE; exact ⟨e, s'', .lift (fun _ _ x => .alive x) hr, z⟩
  | point l k ih => intro Q E p s h hQ hE; obtain ⟨e, s'', hr, z⟩ := ih () h hQ hE; exact ⟨e, s'', .lift (fun _ _ x => .point x) hr, z⟩
  | alloc o k ih => intro Q E p s h hQ hE; obtain ⟨e, s'', hr, z⟩ := ih _ h hQ hE; exact ⟨e, s'', .lift (fun _ _ x => .alloc x) hr, z⟩
  | fresh k ih => intro Q E p s h hQ hE; obtain ⟨e, s'', hr, z⟩ := ih _ h hQ hE; exact ⟨e, s'', .lift (fun _ _ x => .fresh x) hr, z⟩
  | ask k ih => intro Q E p s h hQ hE; obtain ⟨e, s'', hr, z⟩ := ih _ h hQ hE; exact ⟨e, s'', .lift (fun _ _ x => .ask x) hr, z⟩
  | choose src n k ih => intro Q E p s h hQ hE; obtain ⟨hn, h⟩ := h; obtain ⟨e, s'', hr, z⟩ := ih _ h hQ hE; exact ⟨e, s'', .lift (fun _ _ x => .choose hn x) hr, z⟩
  | os q l k ih => intro Q E p s h hQ hE; obtain ⟨e, s'', hr, z⟩ := ih _ h hQ hE; exact ⟨e, s'', .lift (fun _ _ x => .os x) hr, z⟩
  | call c h g l k ih => intro Q E p s hw hQ hE; obtain ⟨r, s₁, hret, hw⟩ := hw; obtain ⟨e, s'', hr, z⟩ := ih r hw hQ hE; exact ⟨e, s'', .lift (fun _ _ x => .call hret x) hr, z⟩
  | handled own k ih => intro Q E p s h hQ hE; obtain ⟨e, s'', hr, z⟩ := ih _ h hQ hE; exact ⟨e, s'', .lift (fun _ _ x => .hand x) hr, z⟩
  | newGen c k ih => intro Q E p s h hQ hE; obtain ⟨e, s'', hr, z⟩ := ih _ h hQ hE; exact ⟨e, s'', .lift (fun _ _ x => .gnew x) hr, z⟩
  | genState g k ih => intro Q E p s h hQ hE; obtain ⟨st, hg, h⟩ := h; obtain ⟨e, s'', hr, z⟩ := ih _ h hQ hE; exact ⟨e, s'', .lift (fun _ _ x => .gstate hg x) hr, z⟩
  | resume g r l k ih => intro Q E p s h hQ hE; obtain ⟨res, s₁, hw, h⟩ := h; obtain ⟨e, s'', hr, z⟩ := ih res h hQ hE; exact ⟨e, s'', .lift (fun _ _ x => run2_resume hw x) hr, z⟩
  | stack k ih => intro Q E p s h hQ hE; obtain ⟨e, s'', hr, z⟩ := ih _ h hQ hE; exact ⟨e, s'', .lift (fun _ _ x => .stack x) hr, z⟩
  | thread k ih => intro Q E p s h hQ hE; obtain ⟨e, s'', hr, z⟩ := ih _ h hQ hE; exact ⟨e, s'', .lift (fun _ _ x => .thread x) hr, z⟩
/-- a code's tree that ends, or goes on with another code -/
def goOn (M : Model) (A : Around) (R : Result → Shared → Prop) (f : PySem.Fin) (s : Shared) : Prop := match f with
  | .done g => R (.ok g) s
  | .again c => c.quiet = true ∧ code2 M A c R s
theorem c2_tree {c : Code} {R : Result → Shared → Prop} (h : any2 M (A.under c) (M.den c) (goOn M A R) (fun e s' => R (.error e) s') s) : code2 M A c R s := fun Γ p hc hΓ => by
  subst hc
  have w := h Γ p hΓ.in
  have key : ∀ (t : Sem PySem.Fin), t = t.wrap .pure .raise id id := fun t => by rw [← Sem.bind_eq_wrap]; exact (Sem.bind_pure t).symm
  rw [key (M.den Γ.code)]
  have e0 : Γ.over [] = Γ := rfl
  obtain ⟨e, s', hr, r, rfl, q⟩ := run2_wrap (Γ := Γ) (fs := []) (Φ := fun e s' => ∃ r, e = .ret r ∧ R r s') .pure .raise id id (M.den Γ.code) (by rw [e0]; exact w) (fun f p' s' hf => by
    cases f with
    | done g => exact ⟨_, _, .fin, _, rfl, hf⟩
    | again c' =>
      obtain ⟨hq, hc'⟩ := hf
      obtain ⟨r, s'', hr, q⟩ := hc' (Γ.goto c') p' rfl hΓ
      exact ⟨_, _, .more hq hr, r, rfl, q⟩) fun x p' s' hx => ⟨_, _, .exc, _, rfl, hx⟩
  exact ⟨r, s', hr, q⟩
end
end Td
end

section
set_option maxHeartbeats 1000000
/-! TdGF: what a run does to generators that slept ahead of it: nothing, if it goes for any state of theirs. -/
namespace Td
open PySem PyProof.Rows
open Sem (wp)

def plainFrame (x : Code × Pos) : Frame := .ret (fun _ => .unsupported "") none false [] x.1 x.2 []
theorem plain_where : ∀ l : List (Code × Pos), (l.map plainFrame).map Frame.where_ = l
  | [] => rfl
  | x :: r => by
    show (x.1, x.2) :: (r.map plainFrame).map Frame.where_ = x :: r
    rw [plain_where r]
theorem plain_gf : ∀ l : List (Code × Pos), Gf (l.map plainFrame)
  | [] => trivial
  | _ :: r => plain_gf r
theorem plain_guard : ∀ l : List (Code × Pos), (l.map plainFrame).any Frame.guarded = false
  | [] => rfl
  | _ :: r => plain_guard r

/-- a state that cannot be woken, and looks like x -/
def stuckOf : GenState → GenState
  | .suspended _ _ c p fs _ => .suspended (fun _ => .unsupported "") [] c p ((fs.map Frame.where_).map plainFrame) false
  | x => x
theorem stuckOf_seen (x : GenState) : (stuckOf x).seen = x.seen := by
  cases x with
  | suspended k l c p fs cl =>
    show (GenStatus.suspended, some ((c, p) :: ((fs.map Frame.where_).map plainFrame).map Frame.where_)) = _
    rw [plain_where]; rfl
  | _ => rfl
theorem stuckOf_bare (x : GenState) : (stuckOf x).bare = true := by
  cases x <;> rfl
def isSusp : GenState → Bool
  | .suspended .. => true
  | _ => false

/-- s is t but for the generators of X, which are stuck in t -/
structure Sw (X : Nat → Option GenState) (t s : Shared) : Prop where
  heap : s.heap = t.heap
  drawn : s.drawn = t.drawn
  toks : s.toks = t.toks
  os : s.os = t.os
  size : s.gens.size = t.gens.size
  here : ∀ g x, X g = some x → isSusp x = true ∧ s.gens[g]? = some x ∧ t.gens[g]? = some (stuckOf x)
  other : ∀ g, X g = none → s.gens[g]? = t.gens[g]?

section
variable {X : Nat → Option GenState} {t s : Shared}
theorem Sw.lt (w : Sw X t s) {g : Nat} {x : GenState} (h : X g = some x) : g < t.gens.size := by
  obtain ⟨_, _, e⟩ := w.here g x h
  exact (Array.getElem?_eq_some_iff.mp e).1
theorem Sw.with (w : Sw X t s) {h : Heap} {d : Drawn} {k : Nat} {o : OsState} : Sw X { t with heap := h, drawn := d, toks := k, os := o } { s with heap := h, drawn := d, toks := k, os := o } :=
  ⟨rfl, rfl, rfl, rfl, w.size, w.here, w.other⟩
theorem Sw.push (w : Sw X t s) (c : Code) : Sw X { t with gens := t.gens.push (.fresh c) } { s with gens := s.gens.push (.fresh c) } where
  heap := w.heap
  drawn := w.drawn
  toks := w.toks
  os := w.os
  size := by show (s.gens.push _).size = (t.gens.push _).size; rw [Array.size_push, Array.size_push, w.size]
  here := fun g x h => by
    obtain ⟨e0, e1, e2⟩ := w.here g x h
    have h1 := w.lt h
    refine ⟨e0, ?_, ?_⟩
    · show (s.gens.push _)[g]? = _
      rw [Array.getElem?_push, if_neg (by rw [w.size]; omega)]; exact e1
    · show (t.gens.push _)[g]? = _
      rw [Array.getElem?_push, if_neg (by omega)]; exact e2
  other := fun g h => by
    show (s.gens.push _)[g]? = (t.gens.push _)[g]?
    rw [Array.getElem?_push, Array.getElem?_push, w.size, w.other g h]
theorem Sw.set (w : Sw X t s) {g : Nat} (hg : X g = none) (x : GenState) : Sw X (t.setGen g x) (s.setGen g x) where
  heap := w.heap
  drawn := w.drawn
  toks := w.toks
  os := w.os
  size := by show (s.gens.setIfInBounds g x).size = (t.gens.setIfInBounds g x).size; rw [Array.size_setIfInBounds, Array.size_setIfInBounds, w.size]
  here := fun g' x' h => by
    obtain ⟨e0, e1, e2⟩ := w.here g' x' h
    have hne : g ≠ g' := fun e => by rw [← e, hg] at h; cases h
    refine ⟨e0, ?_, ?_⟩
    · show (s.gens.setIfInBounds g x)[g']? = _
      rw [Array.getElem?_setIfInBounds_ne hne]; exact e1
    · show (t.gens.setIfInBounds g x)[g']? = _
      rw [Array.getElem?_setIfInBounds_ne hne]; exact e2
  other := fun g' h => by
    show (s.gens.setIfInBounds g x)[g']? = (t.gens.setIfInBounds g x)[g']?
    rw [Array.getElem?_setIfInBounds, Array.getElem?_setIfInBounds, w.size, w.other g' h]
/-- what is not stuck in t is no generator of X -/
theorem Sw.free (w : Sw X t s) {g : Nat} {y : GenState} (h : t.gens[g]? = some y) (hy : isSusp y = false) : X g = none := by
  cases e : X g with
  | none => rfl
  | some x =>
    obtain ⟨e0, _, e2⟩ := w.here g x e
    rw [h] at e2
    cases e2
    cases x <;> first | (cases e0; done) | cases hy
theorem Sw.see (w : Sw X t s) {g : Nat} {y : GenState} (h : t.gens[g]? = some y) : ∃ x, s.gens[g]? = some x ∧ x.seen = y.seen := by
  cases e : X g with
  | none => exact ⟨y, (w.other g e).trans h, rfl⟩
  | some x =>
    obtain ⟨_, e1, e2⟩ := w.here g x e
    rw [h] at e2
    refine ⟨x, e1, ?_⟩
    rw [Option.some.inj e2, stuckOf_seen]
theorem Sw.at (w : Sw X t s) {g : Nat} {y : GenState} (h : t.gens[g]? = some y) (hx : X g = none) : s.gens[g]? = some y := (w.other g hx).trans h
end

theorem GfS.push {G : Array GenState} (h : GfS G) (c : Code) : GfS (G.push (.fresh c)) := fun g k l c' p fs cl e => by
  rw [Array.getElem?_push] at e
  split at e
  · cases e
  · exact h g k l c' p fs cl e
theorem GfS.set {G : Array GenState} (h : GfS G) (g : Nat) (x : GenState) (hx : ∀ k l c p fs cl, x = GenState.suspended k l c p fs cl → Gf fs) : GfS (G.setIfInBounds g x) := fun g' k l c p fs cl e => by
  rw [Array.getElem?_setIfInBounds] at e
  split at e
  · split at e
    · exact hx k l c p fs cl (Option.some.inj e)
    · cases e
  · exact h g' k l c p fs cl e

def gfEnd : End → Prop
  | .ret _ => True
  | .susp _ _ _ _ _ _ fs => Gf fs
theorem gfEnd.state {e : End} (h : gfEnd e) : ∀ k l c p fs cl, e.genState = GenState.suspended k l c p fs cl → Gf fs := by
  cases e with
  | ret r => intro k l c p fs cl q; cases q
  | susp v g l k c p fs => intro k' l' c' p' fs' cl q; cases q; exact h

theorem no_unsupported {M : Model} {Γ : Ctx} {p : Pos} {t : Sem Fin} {fs : List Frame} {s s' : Shared} {e : End} (h : Runs M Γ p t fs s e s') : ∀ w, t ≠ .unsupported w := by
  induction h with
  | segRet _ _ ih _ => exact ih
  | segGen _ _ ih _ => exact ih
  | segSuspOut _ _ ih => exact ih
  | segSuspGen _ _ _ _ ih _ => exact ih
  | _ => intro w q; cases q

theorem runs_swap {M : Model} {X : Nat → Option GenState} {Γ : Ctx} {p : Pos} {tr : Sem Fin} {fs : List Frame} {t t' : Shared} {e : End} (h : Runs M Γ p tr fs t e t') :
    ∀ s, Gf fs → GfS t.gens → Sw X t s → GfS t'.gens ∧ gfEnd e ∧ ∃ s', Sw X t' s' ∧ Run2 M Γ p tr fs s e s' := by
  induction h with
  | done => intro s _ g w; exact ⟨g, trivial, s, w, .fin⟩
  | raise => intro s _ g w; exact ⟨g, trivial, s, w, .exc⟩
  | again hq _ ih => intro s f g w; obtain ⟨g', z, s', w', r⟩ := ih s f g w; exact ⟨g', z, s', w', .more hq r⟩
  | rule _ ih => intro s f g w; obtain ⟨g', z, s', w', r⟩ := ih s f g w; exact ⟨g', z, s', w', .rule r⟩
  | «at» _ ih => intro s f g w; obtain ⟨g', z, s', w', r⟩ := ih s f g w; exact ⟨g', z, s', w', .place r⟩
  | load ho _ ih => intro s f g w; obtain ⟨g', z, s', w', r⟩ := ih s f g w; exact ⟨g', z, s', w', .load (by rw [w.heap]; exact ho) r⟩
  | update ha _ ih =>
    intro s f g w
    obtain ⟨g', z, s', w', r⟩ := ih { s with heap := _ } f g ⟨rfl, w.drawn, w.toks, w.os, w.size, w.here, w.other⟩
    exact ⟨g', z, s', w', .upd (by rw [w.heap]; exact ha) (by rw [w.heap]; exact r)⟩
  | loadIfAlive _ ih => intro s f g w; obtain ⟨g', z, s', w', r⟩ := ih s f g w; exact ⟨g', z, s', w', .alive (by rw [w.heap]; exact r)⟩
  | point _ ih => intro s f g w; obtain ⟨g', z, s', w', r⟩ := ih s f g w; exact ⟨g', z, s', w', .point r⟩
  | alloc _ ih =>
    intro s f g w
    obtain ⟨g', z, s', w', r⟩ := ih { s with heap := _ } f g ⟨rfl, w.drawn, w.toks, w.os, w.size, w.here, w.other⟩
    exact ⟨g', z, s', w', .alloc (by rw [w.heap]; exact r)⟩
  | fresh _ ih =>
    intro s f g w
    obtain ⟨g', z, s', w', r⟩ := ih { s with toks := s.toks + 1 } f g ⟨w.heap, w.drawn, congrArg (· + 1) w.toks, w.os, w.size, w.here, w.other⟩
    exact ⟨g', z, s', w', .fresh (by rw [← w.toks] at r; exact r)⟩
  | ask _ ih => intro s f g w; obtain ⟨g', z, s', w', r⟩ := ih s f g w; exact ⟨g', z, s', w', .ask r⟩
  | choose hn _ ih =>
    intro s f g w
    obtain ⟨g', z, s', w', r⟩ := ih { s with drawn := s.drawn.bump _ } f g ⟨w.heap, congrArg (fun d => Drawn.bump d _) w.drawn, w.toks, w.os, w.size, w.here, w.other⟩
    exact ⟨g', z, s', w', .choose hn (by rw [← w.drawn] at r; exact r)⟩
  | os _ ih =>
    intro s f g w
    obtain ⟨g', z, s', w', r⟩ := ih { s with os := (Os.step s.os _).1 } f g ⟨w.heap, w.drawn, w.toks, congrArg (fun d => (Os.step d _).1) w.os, w.size, w.here, w.other⟩
    exact ⟨g', z, s', w', .os (by rw [← w.os] at r; exact r)⟩
  | handled _ ih => intro s f g w; obtain ⟨g', z, s', w', r⟩ := ih s f g w; exact ⟨g', z, s', w', .hand r⟩
  | genState hg _ ih =>
    intro s f g w
    obtain ⟨g', z, s', w', r⟩ := ih s f g w
    obtain ⟨x, hx, hs⟩ := w.see hg
    exact ⟨g', z, s', w', .gstate hx (by rw [hs]; exact r)⟩
  | stack _ ih => intro s f g w; obtain ⟨g', z, s', w', r⟩ := ih s f g w; exact ⟨g', z, s', w', .stack r⟩
  | thread _ ih => intro s f g w; obtain ⟨g', z, s', w', r⟩ := ih s f g w; exact ⟨g', z, s', w', .thread r⟩
  | newGen _ ih =>
    intro s f g w
    obtain ⟨g', z, s', w', r⟩ := ih _ f (g.push _) (w.push _)
    exact ⟨g', z, s', w', .gnew (by rw [w.size]; exact r)⟩
  | call _ _ ih1 ih2 =>
    intro s f g w
    obtain ⟨g1, _, s1, w1, r1⟩ := ih1 s trivial g w
    obtain ⟨g2, z, s2, w2, r2⟩ := ih2 s1 f g1 w1
    exact ⟨g2, z, s2, w2, .call r1 r2⟩
  | callSusp _ ih =>
    intro s f g w
    obtain ⟨g1, z, s1, w1, r1⟩ := ih s trivial g w
    exact ⟨g1, Gf.append (show Gf _ from z) trivial, s1, w1, .callOut r1⟩
  | yield => intro s f g w; exact ⟨g, trivial, s, w, .out⟩
  | resumeFresh hg _ hq _ ih1 ih2 =>
    intro s f g w
    have hx := w.free hg rfl
    obtain ⟨g1, z1, s1, w1, r1⟩ := ih1 _ trivial (g.set _ _ fun _ _ _ _ _ _ q => by cases q) (w.set hx .running)
    obtain ⟨g2, z2, s2, w2, r2⟩ := ih2 _ f (g1.set _ _ z1.state) (w1.set hx _)
    exact ⟨g2, z2, s2, w2, .wakeNew (w.at hg hx) r1 (.inl hq) r2⟩
  | @resumeSuspended _ _ n _ _ _ _ _ _ _ _ _ _ _ _ _ _ hg hr hq _ ih1 ih2 =>
    intro s f g w
    have hx : X n = none := by
      cases e : X n with
      | none => rfl
      | some x =>
        obtain ⟨e0, _, e2⟩ := w.here n x e
        rw [hg] at e2
        cases x <;> first | (cases e0; done) | skip
        have e3 := Option.some.inj e2
        unfold stuckOf at e3
        cases e3
        exact absurd rfl (no_unsupported hr _)
    obtain ⟨g1, z1, s1, w1, r1⟩ := ih1 _ (g _ _ _ _ _ _ _ hg) (g.set _ _ fun _ _ _ _ _ _ q => by cases q) (w.set hx .running)
    obtain ⟨g2, z2, s2, w2, r2⟩ := ih2 _ f (g1.set _ _ z1.state) (w1.set hx _)
    exact ⟨g2, z2, s2, w2, .wakeOld (w.at hg hx) r1 (.inl hq) r2⟩
  | resumeJustStarted hg hv _ ih =>
    intro s f g w
    obtain ⟨g', z, s', w', r⟩ := ih s f g w
    exact ⟨g', z, s', w', .wakeSent (w.at hg (w.free hg rfl)) hv r⟩
  | resumeThrowFresh hg _ ih =>
    intro s f g w
    have hx := w.free hg rfl
    obtain ⟨g', z, s', w', r⟩ := ih _ f (g.set _ _ fun _ _ _ _ _ _ q => by cases q) (w.set hx .finished)
    exact ⟨g', z, s', w', .wakeThrow (w.at hg hx) r⟩
  | resumeRunning hg _ ih =>
    intro s f g w
    obtain ⟨g', z, s', w', r⟩ := ih s f g w
    exact ⟨g', z, s', w', .wakeBusy (w.at hg (w.free hg rfl)) r⟩
  | resumeFinished hg _ ih =>
    intro s f g w
    obtain ⟨g', z, s', w', r⟩ := ih s f g w
    exact ⟨g', z, s', w', .wakeDone (w.at hg (w.free hg rfl)) r⟩
  | segRet _ _ ih1 ih2 =>
    intro s f g w
    obtain ⟨g1, _, s1, w1, r1⟩ := ih1 s trivial g w
    obtain ⟨g2, z, s2, w2, r2⟩ := ih2 s1 f g1 w1
    exact ⟨g2, z, s2, w2, .back r1 r2⟩
  | segGen _ _ _ _ => intro s f; exact f.elim
  | segSuspOut hs _ ih =>
    intro s f g w
    obtain ⟨g1, z, s1, w1, r1⟩ := ih s trivial g w
    exact ⟨g1, Gf.append (show Gf _ from z) f, s1, w1, .backOut hs r1⟩
  | segSuspGen hs _ _ _ _ _ =>
    intro s f
    rw [f.split] at hs; cases hs

theorem wakes_swap {M : Model} {X : Nat → Option GenState} {Γ : PySem.Ctx} {p : Pos} {g : Nat} {r : Resume} {t t' s : Shared} {res : GenResult} (h : Wakes M Γ p g r t res t') (G : GfS t.gens) (w : Sw X t s) :
    ∃ s', GfS t'.gens ∧ Sw X t' s' ∧ Wake2 M Γ p g r s res s' := by
  unfold Wakes at h
  split at h
  · exact h.elim
  · rename_i c hg
    have hx := w.free hg rfl
    have hs := w.at hg hx
    split at h
    · obtain ⟨e₁, t₁, hr, hq, rfl, rfl⟩ := h
      obtain ⟨g1, z1, s1, w1, r1⟩ := runs_swap hr (s.setGen g .running) trivial (G.set g .running fun _ _ _ _ _ _ q => by cases q) (w.set hx .running)
      exact ⟨_, g1.set g _ z1.state, w1.set hx _, .new hs r1 (.inl hq)⟩
    · rename_i hv
      obtain ⟨rfl, rfl⟩ := h
      exact ⟨s, G, w, .sent hs fun e => hv (by rw [e])⟩
    · obtain ⟨rfl, rfl⟩ := h
      exact ⟨_, G.set g .finished fun _ _ _ _ _ _ q => (by cases q), w.set hx .finished, .thrown hs⟩
  · rename_i k₀ l₀ c₀ p₀ fs cl hg
    obtain ⟨e₁, t₁, hr, hq, rfl, rfl⟩ := h
    have hx : X g = none := by
      cases e : X g with
      | none => rfl
      | some x =>
        obtain ⟨e0, _, e2⟩ := w.here g x e
        rw [hg] at e2
        cases x <;> first | (cases e0; done) | skip
        have e3 := Option.some.inj e2
        unfold stuckOf at e3
        cases e3
        exact absurd rfl (no_unsupported hr _)
    obtain ⟨g1, z1, s1, w1, r1⟩ := runs_swap hr (s.setGen g .running) (G _ _ _ _ _ _ _ hg) (G.set g .running fun _ _ _ _ _ _ q => by cases q) (w.set hx .running)
    exact ⟨_, g1.set g _ z1.state, w1.set hx _, .old (w.at hg hx) r1 (.inl hq)⟩
  · rename_i hg
    obtain ⟨rfl, rfl⟩ := h
    exact ⟨s, G, w, .busy (w.at hg (w.free hg rfl))⟩
  · rename_i hg
    obtain ⟨rfl, rfl⟩ := h
    exact ⟨s, G, w, .over (w.at hg (w.free hg rfl))⟩

theorem wp_swap {α : Type} {M : Model} {X : Nat → Option GenState} {Γ : Ctx} (T : Sem α) : ∀ (Q : α → Pos → Shared → Prop) (E : Value → Pos → Shared → Prop) (p : Pos) (t s : Shared), GfS t.gens → Sw X t s → wp M Γ T Q E p t →
    wp2 M Γ T (fun a p' s' => ∃ t', GfS t'.gens ∧ Sw X t' s' ∧ Q a p' t') (fun e p' s' => ∃ t', GfS t'.gens ∧ Sw X t' s' ∧ E e p' t') p s := by
  induction T with
  | pure a => intro Q E p t s g w h; exact ⟨t, g, w, h⟩
  | raise e => intro Q E p t s g w h; exact ⟨t, g, w, h⟩
  | unsupported _ => intro Q E p t s g w h; exact h
  | finish _ => intro Q E p t s g w h; exact h
  | rule _ k ih => intro Q E p t s g w h; exact ih () Q E p t s g w h
  | «at» p' k ih => intro Q E p t s g w h; exact ih () Q E p' t s g w h
  | load a _ k ih => intro Q E p t s g w h; obtain ⟨o, ho, h⟩ := h; exact ⟨o, by rw [w.heap]; exact ho, ih o Q E p t s g w h⟩
  | update a _ f k ih => intro Q E p t s g w h; exact ⟨by rw [w.heap]; exact h.1, ih () Q E p { t with heap := t.heap.update a f } _ g ⟨congrArg (fun x => Heap.update x a f) w.heap, w.drawn, w.toks, w.os, w.size, w.here, w.other⟩ h.2⟩
  | loadIfAlive a k ih => intro Q E p t s g w h; show wp2 M Γ (k (s.heap.get? a)) _ _ p s; rw [w.heap]; exact ih _ Q E p t s g w h
  | point _ k ih => intro Q E p t s g w h; exact ih () Q E p t s g w h
  | register _ _ => intro Q E p t s g w h; exact h
  | alloc o k ih =>
    intro Q E p t s g w h
    show wp2 M Γ (k s.heap.objs.size) _ _ p { s with heap := s.heap.push o }
    rw [w.heap]
    exact ih _ Q E p { t with heap := t.heap.push o } _ g ⟨rfl, w.drawn, w.toks, w.os, w.size, w.here, w.other⟩ h
  | fresh k ih =>
    intro Q E p t s g w h
    show wp2 M Γ (k s.toks) _ _ p { s with toks := s.toks + 1 }
    rw [w.toks]
    exact ih _ Q E p { t with toks := t.toks + 1 } _ g ⟨w.heap, w.drawn, rfl, w.os, w.size, w.here, w.other⟩ h
  | ask k ih => intro Q E p t s g w h; exact ih _ Q E p t s g w h
  | choose src m k ih =>
    intro Q E p t s g w h
    show m ≠ 0 ∧ wp2 M Γ (k (M.w.draws src (s.drawn.get src) % m)) _ _ p { s with drawn := s.drawn.bump src }
    rw [w.drawn]
    exact ⟨h.1, ih _ Q E p { t with drawn := t.drawn.bump src } _ g ⟨w.heap, rfl, w.toks, w.os, w.size, w.here, w.other⟩ h.2⟩
  | os q _ k ih =>
    intro Q E p t s g w h
    show wp2 M Γ (k (Os.step s.os q).2) _ _ p { s with os := (Os.step s.os q).1 }
    rw [w.os]
    exact ih _ Q E p { t with os := (Os.step t.os q).1 } _ g ⟨w.heap, w.drawn, w.toks, rfl, w.size, w.here, w.other⟩ h
  | call c hd _ _ k ih =>
    intro Q E p t s g w h
    obtain ⟨r, t1, hr, h⟩ := h
    obtain ⟨g1, _, s1, w1, r1⟩ := runs_swap hr s trivial g w
    exact ⟨r, s1, r1, ih r Q E p t1 s1 g1 w1 h⟩
  | handled own k ih => intro Q E p t s g w h; exact ih _ Q E p t s g w h
  | genState n k ih =>
    intro Q E p t s g w h
    obtain ⟨st, hs, h⟩ := h
    obtain ⟨x, hx, e⟩ := w.see hs
    exact ⟨x, hx, by rw [e]; exact ih _ Q E p t s g w h⟩
  | newGen c k ih =>
    intro Q E p t s g w h
    show wp2 M Γ (k s.gens.size) _ _ p { s with gens := s.gens.push (.fresh c) }
    rw [w.size]
    exact ih _ Q E p { t with gens := t.gens.push (.fresh c) } _ (g.push c) (w.push c) h
  | resume n r _ k ih =>
    intro Q E p t s g w h
    obtain ⟨res, t1, hw, h⟩ := h
    obtain ⟨s1, g1, w1, hw1⟩ := wakes_swap hw g w
    exact ⟨res, s1, hw1, ih res Q E p t1 s1 g1 w1 h⟩
  | yield _ _ _ _ => intro Q E p t s g w h; exact h
  | stack k ih => intro Q E p t s g w h; exact ih _ Q E p t s g w h
  | fork _ _ => intro Q E p t s g w h; exact h
  | thread k ih => intro Q E p t s g w h; exact ih _ Q E p t s g w h
  | await _ _ _ _ _ => intro Q E p t s g w h; exact h

/-- the sleeping generators of a state -/
def sleepers (s : Shared) (g : Nat) : Option GenState := match s.gens[g]? with
  | some x => if isSusp x then some x else none
  | none => none
/-- the state with all sleepers stuck -/
def stuck (s : Shared) : Shared := { s with gens := s.gens.map stuckOf }
theorem stuck_sw (s : Shared) : Sw (sleepers s) (stuck s) s where
  heap := rfl
  drawn := rfl
  toks := rfl
  os := rfl
  size := by show s.gens.size = (s.gens.map stuckOf).size; rw [Array.size_map]
  here := fun g x h => by
    unfold sleepers at h
    split at h
    · rename_i y hy
      split at h
      · rename_i hs
        cases h
        refine ⟨hs, hy, ?_⟩
        show (s.gens.map stuckOf)[g]? = _
        rw [Array.getElem?_map, hy]; rfl
      · cases h
    · cases h
  other := fun g h => by
    show s.gens[g]? = (s.gens.map stuckOf)[g]?
    rw [Array.getElem?_map]
    unfold sleepers at h
    split at h
    · rename_i y hy
      split at h
      · cases h
      · rename_i hs
        rw [hy]
        cases y <;> first | rfl | exact absurd rfl hs
    · rename_i hy
      rw [hy]; rfl
theorem stuck_gf (s : Shared) : GfS (stuck s).gens := fun g k l c p fs cl e => by
  have e' : (s.gens.map stuckOf)[g]? = some (GenState.suspended k l c p fs cl) := e
  rw [Array.getElem?_map] at e'
  cases hy : s.gens[g]? with
  | none => rw [hy] at e'; cases e'
  | some y =>
    rw [hy] at e'
    have e2 : stuckOf y = GenState.suspended k l c p fs cl := Option.some.inj e'
    cases y with
    | suspended k' l' c' p' fs' cl' =>
      unfold stuckOf at e2
      cases e2
      exact plain_gf _
    | _ => cases e2
theorem stuck_bare (s : Shared) : AllBare (stuck s).gens := fun x hx => by
  obtain ⟨y, _, e⟩ := Array.mem_map.mp hx
  rw [← e]; exact stuckOf_bare y
/-- what a state must keep of the generators that sleep in s -/
def GenKeep (s s' : Shared) : Prop := ∀ (g : Nat) (x : GenState), s.gens[g]? = some x → isSusp x = true → s'.gens[g]? = some x
theorem Sw.keep {s t' s' : Shared} (w : Sw (sleepers s) t' s') : GenKeep s s' := fun g x h hs => by
  have e : sleepers s g = some x := by
    unfold sleepers
    rw [h]
    show (if isSusp x = true then some x else none) = some x
    rw [if_pos hs]
  exact (w.here g x e).2.1
theorem Sw.bare {s t' s' : Shared} (w : Sw (sleepers s) t' s') (hb : AllBare s.gens) (hb' : AllBare t'.gens) : AllBare s'.gens := fun x hx => by
  obtain ⟨i, hi, e⟩ := Array.mem_iff_getElem.mp hx
  have e1 : s'.gens[i]? = some x := by rw [Array.getElem?_eq_getElem hi, e]
  cases q : sleepers s i with
  | none => exact hb' x (Array.mem_of_getElem? ((w.other i q).symm.trans e1))
  | some y =>
    have e2 := (w.here i y q).2.1
    rw [e1] at e2
    cases e2
    unfold sleepers at q
    split at q
    · rename_i z hz
      split at q
      · cases q; exact hb x (Array.mem_of_getElem? hz)
      · cases q
    · cases q

/-- what holds for whatever state of the sleepers, holds here, and the sleepers sleep on -/
theorem a2_of {α : Type} {M : Model} {A : Around} {T : Sem α} {Q : α → Shared → Prop} {E : Value → Shared → Prop} {s : Shared} (h : wpAny M A T Q E (stuck s)) :
    any2 M A T (fun a s' => ∃ t', Sw (sleepers s) t' s' ∧ Q a t') (fun e s' => ∃ t', Sw (sleepers s) t' s' ∧ E e t') s := fun Γ p hΓ =>
  wp2_mono T (fun _ _ _ ⟨t', _, w, q⟩ => ⟨t', w, q⟩) (fun _ _ _ ⟨t', _, w, q⟩ => ⟨t', w, q⟩) p s (wp_swap T _ _ p (stuck s) s (stuck_gf s) (stuck_sw s) (h Γ p hΓ))
theorem c2_of {M : Model} {A : Around} {c : Code} {R : Result → Shared → Prop} {s : Shared} (h : codeAny M A c R (stuck s)) :
    code2 M A c (fun r s' => ∃ t', Sw (sleepers s) t' s' ∧ R r t') s := fun Γ p hc hΓ => by
  obtain ⟨r, t', hr, q⟩ := h Γ p hc hΓ
  subst hc
  obtain ⟨_, _, s', w, r2⟩ := runs_swap (show Runs M Γ p (M.den Γ.code) [] (stuck s) (.ret r) t' from hr) s trivial (stuck_gf s) (stuck_sw s)
  exact ⟨r, s', r2, t', w, q⟩
end Td
end

section
set_option maxHeartbeats 1000000
/-! TdSnd: what Run2 says of the machine with its schedule and lifetimes. -/
namespace Td
open PySem
section
variable {M : Model}

/-- this yield leaves no mark: it sleeps over a generator that it yields from -/
def Soft (s : Shared) (t : Thread) : Prop :=
  ∃ v l k a rest kw p st, t = ⟨.yield v true l k, .builtin "proto.yield_from" ⟨.ref a :: rest, kw⟩, p, st⟩ ∧ (∃ frames b r, splitAtGen st = some (frames, b, r) ∧ frames.any Frame.guarded = false) ∧ ∃ o n, s.heap.get? a = some o ∧ o.genNumber? = some n
def Fine (s : Shared) (t : Thread) : Prop := t.calm = true ∨ Soft s t

theorem fine_of_step {s s₁ : Shared} {t t₁ : Thread} (h : M.step s t = .go s₁ t₁) : stepK M.den M.prog M.w s t = .go s₁ t₁ ∧ t.calm = true := by
  cases hl : t.loud with
  | true => rw [M.step_loud hl] at h; cases h
  | false =>
    rw [M.step_quiet hl] at h
    refine ⟨h, ?_⟩
    rw [Thread.calm_eq, hl]
    cases hr : t.refused with
    | false => rfl
    | true =>
      obtain ⟨what, e⟩ := stepK_refused M.den M.prog M.w (s := s) hr
      rw [e] at h; cases h

/-- the machine comes from here to an end -/
inductive Way (M : Model) (base : List Frame) : Shared → Sem PySem.Fin → Code → Pos → List Frame → Shared → End → Prop
  | here {s t c p pre e} (h : Exits e t c p pre) : Way M base s t c p pre s e
  | next {s t c p pre s₁ t₁ c₁ p₁ pre₁ s' e} (hf : Fine s ⟨t, c, p, pre ++ base⟩) (hs : stepK M.den M.prog M.w s ⟨t, c, p, pre ++ base⟩ = .go s₁ ⟨t₁, c₁, p₁, pre₁ ++ base⟩) (h : Way M base s₁ t₁ c₁ p₁ pre₁ s' e) : Way M base s t c p pre s' e
theorem Way.one {base : List Frame} {s t c p pre s₁ t₁ c₁ p₁ s' e} (pre₁ : List Frame) (hs : M.step s ⟨t, c, p, pre ++ base⟩ = .go s₁ ⟨t₁, c₁, p₁, pre₁ ++ base⟩) (h : Way M base s₁ t₁ c₁ p₁ pre₁ s' e) : Way M base s t c p pre s' e :=
  .next (.inl (fine_of_step hs).2) (fine_of_step hs).1 h
theorem Way.onto {base B : List Frame} {s t c p pre s₁ e₁ s' e} (h : Way M (B ++ base) s t c p pre s₁ e₁)
    (hk : ∀ t' c' p' pre', Exits e₁ t' c' p' pre' → Way M base s₁ t' c' p' (pre' ++ B) s' e) : Way M base s t c p (pre ++ B) s' e := by
  induction h with
  | here hx => exact hk _ _ _ _ hx
  | next hf hs _ ih => exact .next (by simpa only [List.append_assoc] using hf) (by simpa only [List.append_assoc] using hs) (ih hk)

/-- a generator's end is handed to who woke it -/
theorem Way.woke {base : List Frame} {e₁ : End} {t' c' p' pre'} {s₁ s' : Shared} {g k l c p e} (hx : Exits e₁ t' c' p' pre') (hq : EndOk e₁ s₁)
    (h : Way M base (s₁.setGen g e₁.genState) (k e₁.result) c p [] s' e) : Way M base s₁ t' c' p' (pre' ++ [.gen g k l c p]) s' e := by
  rcases hq with hq | ⟨v, l₀, k₀, a, rest, kw, p₀, fs, rfl, hgf, hgd, o, n, ho, hn⟩
  · refine Way.one [] ?_ h
    have := step_exit_gen (M := M) s₁ g k l c p base hx hq
    simpa only [List.append_assoc, List.cons_append, List.nil_append] using this
  · obtain ⟨rfl, rfl, rfl, rfl, hfs⟩ := hx
    have hsp : splitAtGen (pre' ++ [Frame.gen g k l c p] ++ base) = some (pre', (g, k, c, p), base) := by
      rw [List.append_assoc, splitAtGen_append_none _ hfs]
      show (splitAtGen (Frame.gen g k l c p :: base)).map _ = _
      rw [splitAtGen_gen]
      show some (pre' ++ [], (g, k, c, p), base) = _
      rw [List.append_nil]
    refine .next (pre₁ := []) (.inr ⟨v, l₀, k₀, a, rest, kw, _, _, rfl, ⟨pre', _, base, hsp, hgd⟩, o, n, ho, hn⟩) ?_ h
    simp only [PySem.stepK, PySem.step, hsp]
    rw [hgd]
    rfl

theorem way_of {Γ : PySem.Ctx} {p t fs} {s s' : Shared} {e : End} (h : Run2 M Γ p t fs s e s') : ∀ base, Γ.Fits base → Way M base s t Γ.code p fs s' e := by
  induction h with
  | fin => intro _ _; exact .here ⟨rfl, rfl⟩
  | exc => intro _ _; exact .here ⟨rfl, rfl⟩
  | more hq _ ih => intro b hf; exact .one [] (step_again _ _ _ _ _ _ hq) (ih b (hf.goto _))
  | rule _ ih => intro b hf; exact .one [] (step_rule ..) (ih b hf)
  | place _ ih => intro b hf; exact .one [] (step_at ..) (ih b hf)
  | load ho _ ih => intro b hf; exact .one [] (step_load _ _ _ _ _ _ _ ho) (ih b hf)
  | upd ha _ ih => intro b hf; exact .one [] (step_update _ _ _ _ _ _ _ _ ha) (ih b hf)
  | alive _ ih => intro b hf; exact .one [] (step_loadIfAlive ..) (ih b hf)
  | point _ ih => intro b hf; exact .one [] (step_point ..) (ih b hf)
  | alloc _ ih => intro b hf; exact .one [] (step_alloc ..) (ih b hf)
  | fresh _ ih => intro b hf; exact .one [] (step_fresh ..) (ih b hf)
  | ask _ ih => intro b hf; exact .one [] (step_ask ..) (ih b hf)
  | choose hn _ ih => intro b hf; exact .one [] (step_choose _ _ _ _ _ _ _ hn) (ih b hf)
  | os _ ih => intro b hf; exact .one [] (step_os ..) (ih b hf)
  | @hand Γ p own k s e s' _ ih =>
    intro b hf
    refine .one [] ?_ (ih b hf)
    rw [step_handled]
    cases own
    · rw [hf.handled]; rfl
    · rw [hf.own]; rfl
  | gstate hg _ ih => intro b hf; exact .one [] (step_genState _ _ _ _ _ _ hg) (ih b hf)
  | stack _ ih => intro b hf; exact .one [] (by rw [hf.below]; exact step_stack ..) (ih b hf)
  | thread _ ih => intro b hf; exact .one [] (step_thread ..) (ih b hf)
  | gnew _ ih => intro b hf; exact .one [] (step_newGen ..) (ih b hf)
  | @call Γ p c h g l k s r s₁ e s' _ _ i1 i2 =>
    intro b hf
    refine .one [.ret k h g l Γ.code p []] (step_call ..) ?_
    refine Way.onto (B := [.ret k h g l Γ.code p []]) (pre := []) (i1 _ (hf.enter c k h g l p [])) ?_
    rintro _ _ _ _ ⟨rfl, rfl⟩; exact .one [] (step_leaf_ret ..) (i2 b hf)
  | @callOut Γ p c h g l k s v g₀ l₀ k₀ c₀ p₀ fs s' _ ih =>
    intro b hf
    refine .one [.ret k h g l Γ.code p []] (step_call ..) ?_
    refine Way.onto (B := [.ret k h g l Γ.code p []]) (pre := []) (ih _ (hf.enter c k h g l p [])) ?_
    rintro _ _ _ _ ⟨rfl, rfl, rfl, rfl, hfs⟩
    exact .here ⟨rfl, rfl, rfl, rfl, by rw [splitAtGen_append_none _ hfs]; rfl⟩
  | out => intro _ _; exact .here ⟨rfl, rfl, rfl, rfl, rfl⟩
  | @wakeNew Γ p g l k s c e₁ s₁ e s' hg _ hq _ i1 i2 =>
    intro b hf
    refine .one [.gen g k l Γ.code p] (step_resume_fresh _ _ _ _ _ _ _ hg) ?_
    refine Way.onto (B := [.gen g k l Γ.code p]) (pre := []) (i1 _ (hf.wake c g k l p)) ?_
    intro _ _ _ _ hx
    exact Way.woke hx hq (i2 b hf)
  | @wakeOld Γ p g r l k s k₀ l₀ c₀ p₀ fs cl e₁ s₁ e s' hg _ hq _ i1 i2 =>
    intro b hf
    refine .one (fs ++ [.gen g k l Γ.code p]) (by simpa only [List.append_assoc, List.cons_append, List.nil_append] using step_resume_suspended _ _ _ _ _ _ _ _ hg) ?_
    refine Way.onto (B := [.gen g k l Γ.code p]) (i1 _ (hf.wake c₀ g k l p)) ?_
    intro _ _ _ _ hx
    exact Way.woke hx hq (i2 b hf)
  | wakeSent hg hv _ ih => intro b hf; exact .one [] (step_resume_justStarted _ _ _ _ _ _ _ hg hv) (ih b hf)
  | wakeThrow hg _ ih => intro b hf; exact .one [] (step_resume_throwFresh _ _ _ _ _ _ _ _ hg) (ih b hf)
  | wakeBusy hg _ ih => intro b hf; exact .one [] (step_resume_running _ _ _ _ _ _ _ _ hg) (ih b hf)
  | wakeDone hg _ ih => intro b hf; exact .one [] (step_resume_finished _ _ _ _ _ _ _ _ hg) (ih b hf)
  | @back Γ p t k h g l c₁ p₁ kp fs s r s₁ e s' _ _ i1 i2 =>
    intro b hf
    refine Way.onto (B := .ret k h g l c₁ p₁ kp :: fs) (pre := []) (i1 _ (hf.over _)) ?_
    rintro _ _ _ _ ⟨rfl, rfl⟩; exact .one fs (step_leaf_ret ..) (i2 b (hf.goto _))
  | @backOut Γ p t F fs s v g₀ l₀ k₀ c₀ p₀ fs₀ s' hsp _ ih =>
    intro b hf
    refine Way.onto (B := F :: fs) (pre := []) (ih _ (hf.over _)) ?_
    rintro _ _ _ _ ⟨rfl, rfl, rfl, rfl, hfs⟩
    exact .here ⟨rfl, rfl, rfl, rfl, by rw [splitAtGen_append_none _ hfs, hsp]; rfl⟩

/-- the way as a number of steps -/
theorem Way.steps {base : List Frame} {s t c p pre s' e} (h : Way M base s t c p pre s' e) : ∃ n t' c' p' pre', runNK M.den M.prog M.w n s ⟨t, c, p, pre ++ base⟩ = .running s' ⟨t', c', p', pre' ++ base⟩ ∧ Exits e t' c' p' pre' ∧
    ∀ k s₁ t₁, k < n → runNK M.den M.prog M.w k s ⟨t, c, p, pre ++ base⟩ = .running s₁ t₁ → Fine s₁ t₁ := by
  induction h with
  | here hx => exact ⟨0, _, _, _, _, rfl, hx, fun k _ _ h => absurd h (Nat.not_lt_zero k)⟩
  | @next s t c p pre s₁ t₁ c₁ p₁ pre₁ s' e hf hs _ ih =>
    obtain ⟨n, t', c', p', pre', hr, hx, hall⟩ := ih
    refine ⟨n + 1, t', c', p', pre', by simp only [runNK, hs]; exact hr, hx, fun k s₂ t₂ hk hr2 => ?_⟩
    cases k with
    | zero => injection hr2 with e1 e2; subst e1; subst e2; exact hf
    | succ k => simp only [runNK, hs] at hr2; exact hall k s₂ t₂ (Nat.lt_of_succ_lt_succ hk) hr2

theorem runNK_add {den : Code → Sem PySem.Fin} {prog : Program} {w : World} : ∀ (n k : Nat) {s s₁ : Shared} {t t₁ : Thread}, runNK den prog w n s t = .running s₁ t₁ → runNK den prog w (n + k) s t = runNK den prog w k s₁ t₁
  | 0, k, s, s₁, t, t₁, h => by injection h with e1 e2; subst e1; subst e2; rw [Nat.zero_add]
  | n + 1, k, s, s₁, t, t₁, h => by
    rw [Nat.add_right_comm]
    simp only [runNK] at h ⊢
    split at h
    · rename_i s2 t2 hs
      exact runNK_add n k h
    · cases h

theorem leaf_calm (r : Result) (c : Code) (p : Pos) (st : List Frame) : Thread.calm ⟨leafOf r, c, p, st⟩ = true := by cases r <;> rfl
theorem leaf_stepK (r : Result) (c : Code) (p : Pos) (s : Shared) : stepK M.den M.prog M.w s ⟨leafOf r, c, p, []⟩ = finish (outcomeOf r) s := by cases r <;> rfl

theorem splitAtGen_forget_some {st st' : List Frame} (h : forgetAll st = forgetAll st') {frames b r} (hs : splitAtGen st = some (frames, b, r)) (hg : frames.any Frame.guarded = false) :
    ∃ frames' b' r', splitAtGen st' = some (frames', b', r') ∧ frames'.any Frame.guarded = false := by
  have e1 := splitAtGen_forgetAll st
  have e2 := splitAtGen_forgetAll st'
  rw [h, e2, hs] at e1
  cases h' : splitAtGen st' with
  | none => rw [h'] at e1; cases e1
  | some x =>
    obtain ⟨f', b', r'⟩ := x
    rw [h'] at e1
    simp only [Option.map_some, Option.some.injEq, Prod.mk.injEq] at e1
    refine ⟨f', b', r', rfl, ?_⟩
    rw [← any_guarded_forgetAll f', e1.1, any_guarded_forgetAll]
    exact hg
theorem Fine.forget {s s' : Shared} {t t' : Thread} (hs : s.forget = s'.forget) (ht : t.forget = t'.forget) (h : Fine s t) : Fine s' t' := by
  rcases h with h | ⟨v, l, k, a, rest, kw, p, st, rfl, ⟨frames, b, r, hsp, hgd⟩, o, n, ho, hn⟩
  · left
    rw [← Thread.calm_forget, ← ht, Thread.calm_forget]; exact h
  · right
    obtain ⟨cur, code, pos, stack⟩ := t'
    simp only [Thread.forget, Thread.mk.injEq] at ht
    obtain ⟨rfl, rfl, rfl, h4⟩ := ht
    exact ⟨v, l, k, a, rest, kw, _, _, rfl, splitAtGen_forget_some h4 hsp hgd, o, n, by rw [← (Shared.forget_eq hs).1]; exact ho, hn⟩

/-- at such a yield the machine with lifetimes does what the plain one does -/
theorem sstep_soft {den : Code → Sem PySem.Fin} {prog : Program} {w : World} {s : Shared} {t : Thread} (h : Soft s t) (hz : s.asleep) : sstep den prog w (.single s t) = (PySem.step den prog w s t).lift := by
  obtain ⟨v, l, k, a, rest, kw, p, st, rfl, ⟨frames, b, r, hsp, hgd⟩, o, n, ho, hn⟩ := h
  obtain ⟨hr, hc⟩ := hz
  have h1 : (Config.single s ⟨.yield v true l k, .builtin "proto.yield_from" ⟨.ref a :: rest, kw⟩, p, st⟩).collect? w.params = none := by
    simp [Config.collect?, Config.single, (nothing_to_collect _ _ _ s _ hr).1]
  have h2 : (Config.single s ⟨.yield v true l k, .builtin "proto.yield_from" ⟨.ref a :: rest, kw⟩, p, st⟩).collectable = [] := by
    simp [Config.collectable, Config.single, (nothing_to_collect w.params _ _ s _ hr).2]
  have h3 : ∀ pr, (Config.single s ⟨.yield v true l k, .builtin "proto.yield_from" ⟨.ref a :: rest, kw⟩, p, st⟩).moves pr = [.run 0] := by
    intro pr
    simp [Config.moves, Config.single, movesFrom, Thread.moves]
  have h4 : (Config.single s ⟨.yield v true l k, .builtin "proto.yield_from" ⟨.ref a :: rest, kw⟩, p, st⟩).pick w = .ok (.run 0, .single s ⟨.yield v true l k, .builtin "proto.yield_from" ⟨.ref a :: rest, kw⟩, p, st⟩) := by
    simp only [Config.pick, h1, h2, Config.pickThread, h3]
    cases w.params.lifetimes <;> simp
  have hd : delegateShows s (.ref a) = false := by
    unfold delegateShows
    simp only [ho, hn, hr]
    rfl
  have hcs : closingShows s frames (.builtin "proto.yield_from" ⟨.ref a :: rest, kw⟩) true = false := by
    unfold closingShows
    simp only [hgd, hd, Bool.false_or, Bool.and_false]
  have h5 : ∀ others, lifeStep den prog w others s ⟨.yield v true l k, .builtin "proto.yield_from" ⟨.ref a :: rest, kw⟩, p, st⟩ = PySem.step den prog w s ⟨.yield v true l k, .builtin "proto.yield_from" ⟨.ref a :: rest, kw⟩, p, st⟩ := by
    intro others
    have hsp2 : Thread.special ⟨.yield v true l k, .builtin "proto.yield_from" ⟨.ref a :: rest, kw⟩, p, st⟩ = true := by
      simp [Thread.special, Thread.yieldsInsideHandler]
    have hct : collectorTurn? w.params others s ⟨.yield v true l k, .builtin "proto.yield_from" ⟨.ref a :: rest, kw⟩, p, st⟩ = none := rfl
    simp only [lifeStep, hsp2, if_true, hct, hsp, hcs]
    simp [Thread.atItsEnd, stepCounting, hc]
  simp only [sstep, h4, Config.move]
  simp only [Config.run, Config.single, entering_same]
  simp [h5, others_single, Thread.finalizes]
  cases hs : PySem.step den prog w s ⟨.yield v true l k, .builtin "proto.yield_from" ⟨.ref a :: rest, kw⟩, p, st⟩ with
  | go s' t' => simp [Step.lift, Config.single]
  | halt o s' => simp [Step.lift]

theorem sched_fine {den : Code → Sem PySem.Fin} {prog : Program} {w : World} : ∀ (n : Nat) (s : Shared) (t : Thread) (o : Outcome) (s' : Shared), s.asleep → (∀ k s₁ t₁, runN den prog w k s t = .running s₁ t₁ → Fine s₁ t₁) → o.ends = true →
    runN den prog w n s t = .halted o s' → schedN den prog w n (.single s t) = .halted o s'
  | 0, s, t, o, s', _, _, _, h => by cases h
  | n + 1, s, t, o, s', hz, hf, ho, h => by
    have f0 := hf 0 s t rfl
    have e : sstep den prog w (.single s t) = (PySem.step den prog w s t).lift := by
      rcases f0 with c | c
      · rcases sstep_single den prog w s t c hz with e | e
        · exact e
        · simp only [runN, e] at h
          injection h with h1 _
          subst h1
          exact absurd ho (by simp [Outcome.ends])
      · exact sstep_soft c hz
    simp only [schedN, e]
    simp only [runN] at h
    cases hs : PySem.step den prog w s t with
    | go s₁ t₁ =>
      simp only [hs] at h
      simp only [Step.lift]
      exact sched_fine n s₁ t₁ o s' (by simp only [Shared.asleep, step_life den prog w s s₁ t t₁ hs]; exact hz) (fun k s₂ t₂ hk => hf (k + 1) s₂ t₂ (by simp only [runN, hs]; exact hk)) ho h
    | halt o₁ s₁ =>
      simp only [hs] at h
      simp only [Step.lift]
      injection h with h1 h2
      rw [h1, h2]

/-- a run ends: the machine halts so -/
theorem halts2 {c : Code} {t : Sem PySem.Fin} {p : Pos} {s s' : Shared} {r : Result} (hz : s.asleep) (h : Run2 M ⟨c, none, none, [], none⟩ p t [] s (.ret r) s') (hl : leftWithCleanup s'.gens = false) :
    ∃ n s'', schedN M.den M.prog M.w n (.single s ⟨t, c, p, []⟩) = .halted (outcomeOf r) s'' ∧ PySem.runN M.den M.prog M.w n s ⟨t, c, p, []⟩ = .halted (outcomeOf r) s'' ∧ s''.forget = s'.forget := by
  obtain ⟨n, t', c', p', pre', hr, ⟨rfl, rfl⟩, hall⟩ := (way_of h [] ⟨rfl, rfl, rfl, rfl⟩).steps
  simp only [List.append_nil] at hr hall
  have hk : runNK M.den M.prog M.w (n + 1) s ⟨t, c, p, []⟩ = .halted (outcomeOf r) s' := by
    rw [runNK_add n 1 hr]
    simp only [runNK, leaf_stepK, finish, hl]
    rfl
  obtain ⟨s'', hN, hfo⟩ := runNK_halted M.den M.prog M.w hk
  have fK : ∀ k s₁ t₁, runNK M.den M.prog M.w k s ⟨t, c, p, []⟩ = .running s₁ t₁ → Fine s₁ t₁ := fun k s₁ t₁ hk1 => by
    rcases Nat.lt_trichotomy k n with hlt | rfl | hgt
    · exact hall k s₁ t₁ hlt hk1
    · rw [hr] at hk1
      injection hk1 with e1 e2
      rw [← e2]
      exact .inl (leaf_calm r c' p' [])
    · obtain ⟨d, rfl⟩ : ∃ d, k = (n + 1) + d := ⟨k - (n + 1), by omega⟩
      have mono : ∀ d, runNK M.den M.prog M.w (n + 1 + d) s ⟨t, c, p, []⟩ = .halted (outcomeOf r) s' := by
        intro d
        rw [show n + 1 + d = n + (1 + d) by omega, runNK_add n (1 + d) hr, Nat.add_comm 1 d]
        simp only [runNK, leaf_stepK, finish, hl]
        rfl
      rw [mono d] at hk1; cases hk1
  refine ⟨n + 1, s'', sched_fine (n + 1) s _ _ s'' hz (fun k s₁ t₁ hk1 => ?_) (outcomeOf_ends r) hN, hN, hfo⟩
  have e := runNK_same M.den M.prog M.w k (s₁ := s) (s₂ := s) (t₁ := ⟨t, c, p, []⟩) (t₂ := ⟨t, c, p, []⟩) rfl rfl
  rw [hk1] at e
  cases hq : runNK M.den M.prog M.w k s ⟨t, c, p, []⟩ with
  | halted o₂ s₂ => rw [hq] at e; cases e
  | running s₂ t₂ =>
    rw [hq] at e
    simp only [Run.forget] at e
    injection e with e1 e2
    exact (fK k s₂ t₂ hq).forget e1 e2
end
end Td
end

section
set_option maxHeartbeats 1000000
/-! TdA2: statements and expressions over any2, where nothing is raised. -/
namespace Td
open PySem PySem.Spec PyProof.Rows L2

abbrev F0 : Value → Shared → Prop := fun _ _ => False
section
variable {M : Model} {A : Around} {s : Shared} {env : Env}
theorem a2_run {c : Code} {Q : Flow → Shared → Prop} (h : code2 M A c (fun r s' => ∃ f, r = .ok f ∧ Q f s') s) : any2 M A (run c) Q F0 s := fun Γ p hΓ => by
  obtain ⟨r, s', hr, f, rfl, q⟩ := h (Γ.enter c none p) p rfl (hΓ.enter c none p (by intro x; cases x))
  exact ⟨_, s', hr, q⟩
theorem a2_runValue {c : Code} {Q : Value → Shared → Prop} (h : code2 M A c (fun r s' => ∃ v, r = .ok (.ret v) ∧ Q v s') s) : any2 M A (runValue c) Q F0 s := by
  unfold runValue
  refine a2_bind (a2_run (c2_mono h fun r s' ⟨v, e, q⟩ => ⟨_, e, ?_⟩))
  exact a2_pure q
theorem a2_call {f : Value} {vs : List Value} {kw : List (Str × Value)} {Q : Value → Shared → Prop} (h : code2 M A (.call f ⟨vs, kw⟩) (fun r s' => ∃ v, r = .ok (.ret v) ∧ Q v s') s) : any2 M A (call f vs kw) Q F0 s := a2_runValue h
theorem a2_runOwn {c : Code} {Q : Flow → Shared → Prop} (h : code2 M A c (fun r s' => ∃ f, r = .ok f ∧ Q f s') s) : any2 M A (runOwn c env) Q F0 s := by
  unfold runOwn
  exact a2_onRaise (a2_mono (a2_run h) (fun _ _ x => x) fun _ _ x => x.elim)
theorem a2_execs_nil {Q : Flow → Shared → Prop} (h : Q .next s) : any2 M A (execs [] env) Q F0 s := fun _ _ _ => h
theorem a2_execs {st rest} {Q : Flow → Shared → Prop} (h : any2 M A (exec st env) (fun f s' => match f with | .next => any2 M A (execs rest env) Q F0 s' | f => Q f s') F0 s) : any2 M A (execs (st :: rest) env) Q F0 s := by
  rw [execs_cons]
  refine a2_bind (a2_thn h fun f s' q => ?_)
  cases f with
  | next => exact q
  | _ => exact a2_pure q
theorem a2_If {test body orelse pos} {Q : Flow → Shared → Prop} (h : any2 M A (isTrue test env (eval test env)) (fun b s₂ => if b then any2 M A (execs body env) Q F0 s₂ else any2 M A (execs orelse env) Q F0 s₂) F0 s) :
    any2 M A (exec (.If test body orelse pos) env) Q F0 s := by
  rw [exec_If]
  refine a2_bind (a2_at (a2_bind (a2_thn h fun b s' q => ?_)))
  cases b <;> exact q
theorem a2_Return {e pos} {Q : Flow → Shared → Prop} (h : any2 M A (eval e env) (fun v => Q (.ret v)) F0 s) : any2 M A (exec (.Return (some e) pos) env) Q F0 s := by
  show any2 M A (do standAt pos; let v ← eval e env; pure (.ret v)) Q F0 s
  exact a2_bind (a2_at (a2_bind (a2_thn h fun v s' q => a2_pure q)))
theorem a2_AssignName {x pos' value pos} {Q : Flow → Shared → Prop} (h : any2 M A (eval value env) (fun v s₁ => any2 M A (storeName env x v) (fun _ => Q .next) F0 s₁) F0 s)
    (hs : swapsWith value (some (.Name x pos')) pos.line env = pure false := by rfl) : any2 M A (exec (.Assign [.Name x pos'] value pos) env) Q F0 s := by
  rw [exec_Assign_Name env x pos' value pos hs]
  refine a2_bind (a2_at (a2_bind (a2_thn h fun v s₁ q => ?_)))
  refine a2_bind (a2_at (a2_bind ?_))
  unfold bindName
  exact a2_bind (a2_holding (a2_point (a2_bind (a2_thn q fun _ s' q' => a2_point (a2_pure q')))))
theorem a2_AssignTo {targets : List Expr} {value : Expr} {pos : Pos} {Q : Flow → Shared → Prop}
    (h : any2 M A (eval value env) (fun v s₁ => any2 M A (assignAll v ((assignEach targets env).map (·.2))) (fun _ => Q .next) F0 s₁) F0 s)
    (hs : swapsWithSole targets value pos.line env = pure false) (hw : swappedStores targets value env = pure none) : any2 M A (exec (.Assign targets value pos) env) Q F0 s := by
  rw [exec_Assign_arm]
  refine a2_bind (a2_at ?_)
  rw [hs]
  refine a2_bind (a2_pure ?_)
  rw [if_neg (by decide)]
  refine a2_bind (a2_thn h fun v s₁ h₁ => ?_)
  rw [hw]
  refine a2_bind (a2_pure ?_)
  show any2 M A (do assignAll v ((assignEach targets env).map (·.2)); pure .next) Q F0 s₁
  exact a2_bind (a2_thn h₁ fun _ _ x => a2_pure x)
theorem a2_For {target iter body orelse pos} {Q : Flow → Shared → Prop}
    (h : any2 M A (eval iter env) (fun x s₁ => any2 M A (pyIter x) (fun it s₂ => code2 M A (.forLoop target it body orelse env) (fun r s' => ∃ f, r = .ok f ∧ Q f s') s₂) F0 s₁) F0 s)
    (hs : ∀ x, foldedSetIterable iter env x = pure x := by intro _; rfl) : any2 M A (exec (.For target iter body orelse pos) env) Q F0 s := by
  rw [exec_For]
  refine a2_bind (a2_at (a2_bind (a2_thn h fun x s₁ h₁ => a2_bind (a2_of_eq (hs x) (a2_bind (a2_at (a2_bind (a2_holding (a2_thn h₁ fun it s₂ h₂ => ?_)))))))))
  exact a2_runOwn h₂
/-! ### expressions -/
theorem a2_release_go {keep : List Value} {Q : Unit → Shared → Prop} (h : Q () s) : ∀ l : List Value, any2 M A (release.go keep l) Q F0 s
  | [] => a2_pure h
  | [_] => a2_pure h
  | _ :: y :: r => by
    unfold release.go
    exact a2_bind (a2_holding (a2_point (a2_release_go h (y :: r))))
theorem a2_release {vs keep : List Value} {Q : Unit → Shared → Prop} (h : Q () s) : any2 M A (release vs keep) Q F0 s := a2_release_go h _
theorem a2_operate {vs : List Value} {m : Sem Value} {Q : Value → Shared → Prop} (h : any2 M A m Q F0 s) : any2 M A (operate vs m) Q F0 s := by
  unfold operate
  exact a2_bind (a2_holding (a2_thn h fun r s' q => a2_bind (a2_release (a2_pure q))))
theorem a2_Compare {l op r pos} {Q : Value → Shared → Prop} (h : any2 M A (eval l env) (fun a s₁ => any2 M A (eval r env) (fun b s₂ => any2 M A (compareOp op a b) Q F0 s₂) F0 s₁) F0 s)
    (hm : behindInMarks op r = false) : any2 M A (eval (.Compare l [op] [r] pos) env) Q F0 s := by
  rw [eval_Compare1, markedBehindIn_of_false hm]
  exact a2_bind (a2_thn h fun a s₁ h₁ => a2_bind (a2_holding (a2_thn h₁ fun b s₂ h₂ => a2_bind (a2_at (a2_operate h₂)))))
theorem t2_Compare {l op r pos whole} {Q : Bool → Shared → Prop} (h : any2 M A (eval l env) (fun a s₁ => any2 M A (eval r env) (fun b s₂ => any2 M A (compareOp op a b) (fun c s₃ => any2 M A (truthy c) Q F0 s₃) F0 s₂) F0 s₁) F0 s)
    (hm : behindInMarks op r = false) : any2 M A (isTrue (.Compare l [op] [r] pos) env whole) Q F0 s := by
  rw [isTrue_Compare1, markedBehindIn_of_false hm]
  refine a2_bind (a2_thn h fun a s₁ h₁ => a2_bind (a2_holding (a2_thn h₁ fun b s₂ h₂ => ?_)))
  first
    | exact a2_bind (a2_at (a2_bind (a2_operate (a2_thn h₂ fun c s₃ h₃ => a2_holding h₃))))
    | exact a2_bind (a2_at (a2_bind (a2_holding (a2_thn h₂ fun c s₃ h₃ => a2_bind (a2_release (a2_holding h₃))))))
    | exact a2_bind (a2_at (a2_bind (a2_operate (a2_thn h₂ fun c s₃ h₃ => h₃))))
theorem t2_plain {e : Expr} {whole : Sem Value} {Q : Bool → Shared → Prop} (h : any2 M A whole (fun v s₁ => any2 M A (truthy v) Q F0 s₁) F0 s)
    (he : isTrue e env whole = (do let v ← whole; standAt e.pos; holding [v] (truthy v)) := by rfl) : any2 M A (isTrue e env whole) Q F0 s := by
  rw [he]
  exact a2_bind (a2_thn h fun v s₁ h₁ => a2_bind (a2_at (a2_holding h₁)))
theorem t2_not {x : Expr} {pos : Pos} {whole : Sem Value} {Q : Bool → Shared → Prop} (h : any2 M A (isTrue x env (eval x env)) (fun b s₁ => Q (!b) s₁) F0 s) : any2 M A (isTrue (.UnaryOp .Not x pos) env whole) Q F0 s := by
  rw [arm_isTrue_UnaryOp]
  exact a2_bind (a2_thn h fun b s₁ h₁ => a2_pure h₁)
theorem t2_and {x rest pos whole} {Q : Bool → Shared → Prop} (h : any2 M A (isTrue x env (eval x env)) (fun c s' => if c then any2 M A (isTrue (.BoolOp .And rest pos) env whole) Q F0 s' else Q false s') F0 s) :
    any2 M A (isTrue (.BoolOp .And (x :: rest) pos) env whole) Q F0 s := by
  refine a2_bind (a2_thn h fun c s' h' => ?_)
  cases c with
  | false => exact a2_pure h'
  | true => exact h'
theorem t2_or {x rest pos whole} {Q : Bool → Shared → Prop} (h : any2 M A (isTrue x env (eval x env)) (fun c s' => if c then Q true s' else any2 M A (isTrue (.BoolOp .Or rest pos) env whole) Q F0 s') F0 s) :
    any2 M A (isTrue (.BoolOp .Or (x :: rest) pos) env whole) Q F0 s := by
  refine a2_bind (a2_thn h fun c s' h' => ?_)
  cases c with
  | false => exact h'
  | true => exact a2_pure h'
theorem t2_and_nil {pos whole} {Q : Bool → Shared → Prop} (h : Q true s) : any2 M A (isTrue (.BoolOp .And [] pos) env whole) Q F0 s := a2_pure (a := true) h
theorem t2_or_nil {pos whole} {Q : Bool → Shared → Prop} (h : Q false s) : any2 M A (isTrue (.BoolOp .Or [] pos) env whole) Q F0 s := a2_pure (a := false) h
theorem a2_CallName {id : Str} {p pos : Pos} {args : List Expr} {keywords : List Keyword} {Q : Value → Shared → Prop}
    (h : any2 M A (eval (.Name id p) env) (fun f s₁ => any2 M A (callWith pos f [] (backTo pos (starEach args env)) (backToKw pos (keywordEach keywords env))) Q F0 s₁) F0 s) : any2 M A (eval (.Call (.Name id p) args keywords pos) env) Q F0 s := by
  rw [arm_eval_Call_Name']
  exact a2_bind h
theorem a2_spliced_nil {Q : List Value → Shared → Prop} (h : Q [] s) : any2 M A (spliced []) Q F0 s := a2_pure h
theorem a2_spliced {x : Sem Value} {rest : List (Bool × Sem Value)} {Q : List Value → Shared → Prop} (h : any2 M A x (fun v s₁ => any2 M A (spliced rest) (fun vs s₂ => Q (v :: vs) s₂) F0 s₁) F0 s) : any2 M A (spliced ((false, x) :: rest)) Q F0 s := by
  show any2 M A (do let v ← x; let here ← (pure [v] : Sem (List Value)); return here ++ (← holding here (spliced rest))) Q F0 s
  exact a2_bind (a2_thn h fun v s₁ h₁ => a2_bind (a2_pure (a2_bind (a2_holding (a2_thn h₁ fun vs s₂ h₂ => a2_pure h₂)))))
theorem a2_evalAll_nil {Q : List Value → Shared → Prop} (h : Q [] s) : any2 M A (evalAll []) Q F0 s := a2_pure h
theorem a2_evalAll {x : Sem Value} {rest : List (Sem Value)} {Q : List Value → Shared → Prop} (h : any2 M A x (fun v s₁ => any2 M A (evalAll rest) (fun vs s₂ => Q (v :: vs) s₂) F0 s₁) F0 s) : any2 M A (evalAll (x :: rest)) Q F0 s := by
  unfold evalAll
  exact a2_bind (a2_thn h fun v s₁ h₁ => a2_bind (a2_holding (a2_thn h₁ fun vs s₂ h₂ => a2_pure h₂)))
/-- plain arguments by position and by name -/
theorem a2_evalArgs {f : Value} {args : List (Bool × Sem Value)} {kws : List (Option Str × Sem Value)} {Q : Args → Shared → Prop} (hl : args.any (·.1) = false) (hk : kws.all (·.1.isSome) = true)
    (h : any2 M A (spliced args) (fun vs s₁ => any2 M A (evalAll (kws.map (·.2))) (fun us s₂ => Q ⟨vs, (kws.filterMap (·.1)).zip us⟩ s₂) F0 s₁) F0 s) : any2 M A (evalArgs f true args kws) Q F0 s := by
  unfold evalArgs
  dsimp only
  split
  · simp at hl
  · refine a2_bind (a2_thn h fun vs s₁ h₁ => a2_bind (a2_pure (a2_holding ?_)))
    rw [if_pos hk]
    exact a2_bind (a2_thn h₁ fun us s₂ h₂ => a2_bind (a2_pure (a2_pure h₂)))
/-- what a read gives -/
def Reads (M : Model) {α : Type} (t : Sem α) (h : Heap) (a : α) : Prop := ∀ (A : Around) (s : Shared) (Q : α → Shared → Prop), s.heap = h → Q a s → any2 M A t Q F0 s
theorem a2_callWith {pos : Pos} {f : Value} {first : List Value} {args : List (Bool × Sem Value)} {kws : List (Option Str × Sem Value)} {P : Heap → Prop} {Q : Value → Shared → Prop} (hplain : (args.any (·.1) || kws.any (·.1.isNone)) = false)
    (hk : ∀ h, P h → ∃ k, (k = Keeper.frame ∨ k = Keeper.machine ∨ k = Keeper.boundFrame) ∧ Reads M (keeperOf f) h k)
    (h : any2 M A (evalArgs f true args kws) (fun a s₁ => P s₁.heap ∧ any2 M A (call f (first ++ a.pos) a.kw) Q F0 s₁) F0 s) : any2 M A (callWith pos f first args kws) Q F0 s := by
  unfold callWith
  refine a2_bind (a2_holding (a2_thn h fun a s₁ h₁ => a2_bind (a2_at ?_)))
  obtain ⟨k, hk', L⟩ := hk _ h₁.1
  simp only [hplain]
  refine a2_bind (L A s₁ _ rfl ?_)
  have tail : ∀ {t : Sem Value}, any2 M A t Q F0 s₁ → any2 M A (t >>= fun r => holding [r] point >>= fun _ => pure r) Q F0 s₁ :=
    fun ht => a2_bind (a2_thn ht fun r s₂ hr => a2_bind (a2_holding (a2_point (a2_pure hr))))
  have marked (mk : Value) : any2 M A (callMarked mk f (first ++ a.pos) a.kw) Q F0 s₁ := by
    unfold callMarked
    exact fun Γ p hΓ => by rw [wp2_keep]; exact h₁.2 Γ p hΓ
  rcases hk' with rfl | rfl | rfl <;> dsimp only <;> first | exact tail h₁.2 | (split <;> first | exact tail h₁.2 | exact tail (marked _))
end
end Td
end

section
set_option maxHeartbeats 1000000
/-! TdSeg: a stretch of a generator's run over Run2, to any end. -/
namespace Td
open PySem PySem.Spec PyProof.Rows L2

theorem setGen_sz (s : Shared) (g : Nat) (x : GenState) : (s.setGen g x).gens.size = s.gens.size := by
  show (s.gens.setIfInBounds g x).size = _
  exact Array.size_setIfInBounds
theorem run2_gsz {M : Model} {Γ : PySem.Ctx} {p : Pos} {t : Sem PySem.Fin} {fs : List Frame} {s s' : Shared} {e : End} (h : Run2 M Γ p t fs s e s') : s.gens.size ≤ s'.gens.size := by
  induction h with
  | fin | exc | out => exact Nat.le_refl _
  | more _ _ ih | rule _ ih | place _ ih | load _ _ ih | upd _ _ ih | alive _ ih | point _ ih | alloc _ ih | fresh _ ih | ask _ ih | choose _ _ ih | os _ ih | hand _ ih | gstate _ _ ih | stack _ ih | thread _ ih => exact ih
  | gnew _ ih => exact Nat.le_trans (by show _ ≤ (Array.push _ _).size; rw [Array.size_push]; omega) ih
  | call _ _ ih1 ih2 => exact Nat.le_trans ih1 ih2
  | callOut _ ih => exact ih
  | wakeNew _ _ _ _ ih1 ih2 | wakeOld _ _ _ _ ih1 ih2 =>
    rw [setGen_sz] at ih1 ih2
    exact Nat.le_trans ih1 ih2
  | wakeSent _ _ _ ih | wakeBusy _ _ ih | wakeDone _ _ ih => exact ih
  | wakeThrow _ _ ih =>
    rw [setGen_sz] at ih
    exact ih
  | back _ _ ih1 ih2 => exact Nat.le_trans ih1 ih2
  | backOut _ _ ih => exact ih

theorem run2_leaf {M : Model} {Γ : PySem.Ctx} {p : Pos} (r : Result) {s : Shared} : Run2 M Γ p (leafOf r) [] s (.ret r) s := by
  cases r with
  | ok f => exact .fin
  | error e => exact .exc
theorem run2_call_seg {M : Model} {Γ : PySem.Ctx} {c' : Code} {h : Option Value} {g : Bool} {l : List Value} {k : Result → Sem PySem.Fin} {p : Pos} {pre : List Frame} {s s' : Shared} {e : End}
    (hr : Run2 M (Γ.goto c') p (M.den c') (.ret k h g l Γ.code p [] :: pre) s e s') : Run2 M Γ p (.call c' h g l k) pre s e s' := by
  generalize ht : M.den c' = t at hr
  cases hr with
  | back a b =>
    subst ht
    rw [Ctx.over_ret] at a
    exact Run2.lift (fun _ _ hk => .call a hk) b
  | backOut hsp a =>
    subst ht
    rw [Ctx.over_ret] at a
    rw [splitAtGen_ret] at hsp
    cases pre with
    | nil => exact .callOut a
    | cons F fs =>
      have hsp' : splitAtGen (F :: fs) = none := by cases hh : splitAtGen (F :: fs) <;> simp_all
      have := Run2.backOut (Γ := Γ) hsp' (Run2.callOut (Γ := Γ.over (F :: fs)) (g := g) (l := l) (k := k) a)
      rw [List.append_assoc] at this
      exact this

def Seg2 (M : Model) (A : Around) (Φ : End → Shared → Prop) (c : Code) (t : Sem PySem.Fin) (fs : List Frame) (s : Shared) : Prop :=
  ∀ (Γ : PySem.Ctx) p, Γ.code = c → Γ.Woken A → ∃ e s', Run2 M Γ p t fs s e s' ∧ Φ e s'
section
variable {M : Model} {A : Around} {Φ : End → Shared → Prop} {c : Code} {fs : List Frame} {s : Shared} {env : Env} {K : Flow → Sem PySem.Fin} {J : Value → Sem PySem.Fin} {gd : Bool → Bool} {lv : List Value → List Value}
theorem Seg2.mono {t : Sem PySem.Fin} {Φ' : End → Shared → Prop} (x : Seg2 M A Φ c t fs s) (h : ∀ e s', Φ e s' → Φ' e s') : Seg2 M A Φ' c t fs s := fun Γ p hc hΓ => by
  obtain ⟨e, s', hr, hp⟩ := x Γ p hc hΓ
  exact ⟨e, s', hr, h _ _ hp⟩
theorem g_wrap {α : Type} {m : Sem α} {K : α → Sem PySem.Fin} {J : Value → Sem PySem.Fin} {gd : Bool → Bool} {lv : List Value → List Value}
    (h : any2 M (A.over c fs) m (fun a s' => Seg2 M A Φ c (K a) fs s') (fun x s' => Seg2 M A Φ c (J x) fs s') s) : Seg2 M A Φ c (m.wrap K J gd lv) fs s := by
  rintro Γ p rfl hΓ
  exact run2_wrap K J gd lv m (h (Γ.over fs) p (hΓ.over fs)) (fun a p' s' h' => h' Γ p' rfl hΓ) (fun x p' s' h' => h' Γ p' rfl hΓ)
theorem g_bind {α : Type} {m : Sem α} {K : α → Sem PySem.Fin} (h : any2 M (A.over c fs) m (fun a s' => Seg2 M A Φ c (K a) fs s') F0 s) : Seg2 M A Φ c (m >>= K) fs s := by
  rw [Sem.bind_eq_wrap']
  exact g_wrap (a2_mono h (fun _ _ x => x) fun _ _ x => x.elim)
/-- the head of a bind under a wrap -/
theorem g_bindw {α β : Type} {m : Sem α} {f : α → Sem β} {K : β → Sem PySem.Fin} {J : Value → Sem PySem.Fin} {gd : Bool → Bool} {lv : List Value → List Value}
    (h : any2 M (A.over c fs) m (fun a s' => Seg2 M A Φ c ((f a).wrap K J gd lv) fs s') F0 s) : Seg2 M A Φ c ((m >>= f).wrap K J gd lv) fs s := by
  rw [Sem.bind_eq_wrap' m f, Sem.wrap_wrap]
  exact g_wrap (a2_mono h (fun _ _ x => x) fun _ _ x => x.elim)
theorem g_bindw2 {α β γ : Type} {m : Sem α} {f : α → Sem β} {f2 : β → Sem γ} {K : γ → Sem PySem.Fin} {J : Value → Sem PySem.Fin} {gd : Bool → Bool} {lv : List Value → List Value}
    (h : any2 M (A.over c fs) m (fun a s' => Seg2 M A Φ c ((f a).wrap (fun b => (f2 b).wrap K J gd lv) J gd lv) fs s') F0 s) : Seg2 M A Φ c (((m >>= f) >>= f2).wrap K J gd lv) fs s := by
  rw [Sem.bind_eq_wrap' (m >>= f) f2, Sem.wrap_wrap]
  exact g_bindw h
theorem g_at {p' : Pos} {k : Unit → Sem PySem.Fin} (h : Seg2 M A Φ c (k ()) fs s) : Seg2 M A Φ c (.at p' k) fs s :=
  g_wrap (m := standAt p') (K := k) (J := .raise) (gd := id) (lv := id) (a2_at h)
theorem g_point {l : List Value} {k : Unit → Sem PySem.Fin} (h : Seg2 M A Φ c (k ()) fs s) : Seg2 M A Φ c (.point l k) fs s :=
  g_wrap (m := point) (K := k) (J := .raise) (gd := id) (lv := fun _ => l) (a2_point h)
theorem g_rule {tag : String} {k : Unit → Sem PySem.Fin} (h : Seg2 M A Φ c (k ()) fs s) : Seg2 M A Φ c (.rule tag k) fs s :=
  g_wrap (m := rule tag) (K := k) (J := .raise) (gd := id) (lv := id) (a2_rule h)
theorem g_call {c' : Code} {h : Option Value} {g : Bool} {l : List Value} {k : Result → Sem PySem.Fin} (hc : ∀ p, Seg2 M A Φ c' (M.den c') (.ret k h g l c p [] :: fs) s) : Seg2 M A Φ c (.call c' h g l k) fs s := by
  rintro Γ p rfl hΓ
  obtain ⟨e, s', hr, he⟩ := hc p (Γ.goto c') p rfl (hΓ.goto c')
  exact ⟨e, s', run2_call_seg hr, he⟩
theorem g_leaf {k h g l c₁ p₁ kp} (r : Result) (hk : Seg2 M A Φ c₁ (k r) fs s) : Seg2 M A Φ c (leafOf r) (.ret k h g l c₁ p₁ kp :: fs) s := by
  rintro Γ p rfl hΓ
  obtain ⟨e, s', hr, he⟩ := hk (Γ.goto c₁) p₁ rfl (hΓ.goto c₁)
  exact ⟨e, s', .back (run2_leaf r) hr, he⟩
theorem g_again {c' : Code} (hq : c'.quiet = true) (hc : Seg2 M A Φ c' (M.den c') fs s) : Seg2 M A Φ c (.pure (.again c')) fs s := by
  rintro Γ p rfl hΓ
  obtain ⟨e, s', hr, he⟩ := hc (Γ.goto c') p rfl (hΓ.goto c')
  refine ⟨e, s', ?_, he⟩
  have hd : ∀ t, M.den c' = t → Run2 M (Γ.goto c') p t fs s e s' → Run2 M Γ p (.pure (.again c')) fs s e s' := by
    intro t ht hr
    cases fs with
    | nil => subst ht; exact .more hq hr
    | cons F r =>
    cases hr with
    | back a b => subst ht; exact .back (.more hq a) b
    | backOut hs a => subst ht; exact .backOut hs (.more hq a)
  exact hd _ rfl hr
theorem g_end (r : Result) (h : Φ (.ret r) s) : Seg2 M A Φ c (leafOf r) [] s := by
  rintro Γ p rfl _
  exact ⟨.ret r, s, run2_leaf r, h⟩
theorem g_yield {v : Value} {g : Bool} {l : List Value} {k : Resume → Sem PySem.Fin} (hfs : splitAtGen fs = none) (h : ∀ p, Φ (.susp v g l k c p fs) s) : Seg2 M A Φ c (.yield v g l k) fs s := by
  rintro Γ p rfl _
  refine ⟨_, s, ?_, h p⟩
  cases fs with
  | nil => exact .out
  | cons F fs => exact .backOut hfs .out
theorem g_execs_nil (h : Seg2 M A Φ c (K .next) fs s) : Seg2 M A Φ c ((execs [] env).wrap K J gd lv) fs s := h
theorem g_execs_cons {st : Stmt} {rest : List Stmt} (h : Seg2 M A Φ c ((exec st env).wrap (fun f => match f with | .next => (execs rest env).wrap K J gd lv | f => K f) J gd lv) fs s) :
    Seg2 M A Φ c ((execs (st :: rest) env).wrap K J gd lv) fs s := by rw [execs_cons_wrap]; exact h
theorem g_If {test : Expr} {body orelse : List Stmt} {pos : Pos} (h : any2 M (A.over c fs) (isTrue test env (eval test env)) (fun b s' => Seg2 M A Φ c ((execs (if b then body else orelse) env).wrap K J gd lv) fs s') F0 s) :
    Seg2 M A Φ c ((exec (.If test body orelse pos) env).wrap K J gd lv) fs s := by
  rw [exec_If]
  refine g_bindw (a2_at (g_bindw (a2_thn h fun b s' q => ?_)))
  cases b <;> exact q
theorem g_Yield {e : Expr} {ypos pos : Pos} (hfs : splitAtGen fs = none)
    (h : any2 M (A.over c fs) (eval e env) (fun v s' => ∀ (k : Resume → Sem PySem.Fin) (l : List Value) (p : Pos), (∀ x s'', (∀ a, x ≠ Value.ref a) → ∀ Ψ A', Seg2 M A' Ψ c (K .next) fs s'' → Seg2 M A' Ψ c (k (.send x)) fs s'') → Φ (.susp v (gd false) l k c p fs) s') F0 s)
    (hco : env.scope.isCoroutine = false := by rfl) (hi : interactive env = false := by rfl) : Seg2 M A Φ c ((exec (.Expr (.Yield (some e) ypos) pos) env).wrap K J gd lv) fs s := by
  rw [exec_Expr env _ pos hi rfl]
  show Seg2 M A Φ c (.at pos fun _ => ((eval e env >>= fun v => (standAt ypos >>= fun _ => yieldOut env v)) >>= fun x => dropValue (.Yield (some e) ypos) pos x).wrap K J gd lv) fs s
  have hy : ∀ v, yieldOut env v = yieldValue v := fun v => by simp only [yieldOut, hco, Bool.false_eq_true, if_false]
  simp only [hy]
  refine g_at ?_
  rw [Sem.bind_eq_wrap', Sem.bind_eq_wrap', Sem.wrap_wrap, Sem.wrap_wrap]
  refine g_wrap (a2_mono h (fun v s' h' => ?_) fun _ _ x => x.elim)
  refine g_at (g_yield hfs fun p => ?_)
  refine h' _ _ p fun x s'' hx Ψ A' hk => ?_
  cases x <;> first | exact hk | exact absurd rfl (hx _)
end
section
variable {prog : Program} {w : World} {A : Around} {Φ : End → Shared → Prop} {fs : List Frame} {s : Shared} {env : Env}
theorem g_func {body : List Stmt}
    (h : Seg2 (model prog w) A Φ (.func body env) ((execs body env).wrap (fun f => .pure (.done (.ret (match f with | .ret v => v | _ => .none)))) (fun e => (leaving env e).wrap (fun _ => .raise e) .raise id id) id id) fs s) :
    Seg2 (model prog w) A Φ (.func body env) ((model prog w).den (.func body env)) fs s := by
  show Seg2 _ A Φ _ (.point [] fun _ => ((execs body env).onRaise (leaving env)) >>= _) fs s
  refine g_point ?_
  rw [Sem.onRaise_eq_wrap, Sem.bind_eq_wrap', Sem.wrap_wrap]
  rw [Sem.wrap_congr (execs body env) _ _ (K' := fun f => .pure (.done (.ret (match f with | .ret v => v | _ => .none))))
    (H' := fun e => (leaving env e).wrap (fun _ => .raise e) .raise id id) (fun f => by cases f <;> rfl)
    (fun e => by rw [Sem.bind_eq_wrap, Sem.wrap_wrap]; rfl)]
  exact h
end
end Td
end

section
set_option maxHeartbeats 1000000
/-! TdSeg2: for loops within a stretch, and over code2. -/
namespace Td
open PySem PySem.Spec PyProof.Rows L2

/-- what a loop's caller does when it comes back -/
def backK (env : Env) (K : Flow → Sem PySem.Fin) (J : Value → Sem PySem.Fin) (gd : Bool → Bool) (lv : List Value → List Value) (r : Result) : Sem PySem.Fin :=
  ((match r with | .ok f => (.pure f : Sem Flow) | .error e => .raise e).onRaise (L2.cameBack env)).wrap K J gd lv
/-- what a turn does behind its body -/
def turnK (target : Expr) (it : Value) (body : List Stmt) (env : Env) : Flow → Sem PySem.Fin
  | .next | .cont => .pure (.again (.forLoop target it body [] env))
  | .brk => .pure (.done .next)
  | .ret v => .pure (.done (.ret v))
def notedJ (env : Env) (e : Value) : Sem PySem.Fin := (do noteFrame e env; theTreesLotGoes e : Sem Unit).wrap (fun _ => .raise e) .raise id id
theorem a2_onR0 {α : Type} {M : Model} {A : Around} {s : Shared} {m : Sem α} {k : Value → Sem Unit} {Q : α → Shared → Prop} {E : Value → Shared → Prop} (h : any2 M A m Q F0 s) : any2 M A (m.onRaise k) Q E s :=
  a2_onRaise (a2_mono h (fun _ _ x => x) fun _ _ x => x.elim)
/-- the iterator that a for walks -/
def forIter (iter : Expr) (env : Env) : Sem Value := do let x ← eval iter env; standAt iter.pos; holding [x] (pyIter x)
theorem exec_For_one {target iter : Expr} {body orelse : List Stmt} {pos : Pos} {env : Env} (hs : ∀ x, foldedSetIterable iter env x = pure x) :
    exec (.For target iter body orelse pos) env = (do standAt pos; let it ← forIter iter env; runOwn (.forLoop target it body orelse env) env) := by
  rw [exec_For]
  simp [hs, forIter]
theorem a2_For1 {M : Model} {A : Around} {s : Shared} {target iter : Expr} {body orelse : List Stmt} {pos : Pos} {env : Env} {Q : Flow → Shared → Prop}
    (h : any2 M A (forIter iter env) (fun it s₂ => code2 M A (.forLoop target it body orelse env) (fun r s' => ∃ f, r = .ok f ∧ Q f s') s₂) F0 s)
    (hs : ∀ x, foldedSetIterable iter env x = pure x := by intro _; rfl) : any2 M A (exec (.For target iter body orelse pos) env) Q F0 s := by
  rw [exec_For_one hs]
  exact a2_bind (a2_at (a2_bind (a2_thn h fun it s₂ h₂ => a2_runOwn h₂)))
theorem wp_forIter {M : Model} {A : Around} {E : Value → Shared → Prop} {s : Shared} {iter : Expr} {env : Env} {Q : Value → Shared → Prop} (h : wpAny M A (eval iter env) (fun v s₁ => wpAny M A (pyIter v) Q E s₁) E s) : wpAny M A (forIter iter env) Q E s := by
  unfold forIter
  exact wpAny_bind (wpAny_mono h (fun v s₁ h₁ => wpAny_bind (wpAny_standAt (wpAny_holding h₁))) fun _ _ x => x)
section
variable {M : Model} {A : Around} {Φ : End → Shared → Prop} {c : Code} {fs : List Frame} {s : Shared} {env : Env} {K : Flow → Sem PySem.Fin} {J : Value → Sem PySem.Fin} {gd : Bool → Bool} {lv : List Value → List Value}
theorem g_For {target iter : Expr} {body : List Stmt} {pos : Pos}
    (h : any2 M (A.over c fs) (eval iter env) (fun x s₁ => any2 M (A.over c fs) (pyIter x) (fun it s₂ => ∀ p, Seg2 M A Φ (.forLoop target it body [] env) (M.den (.forLoop target it body [] env)) (.ret (backK env K J gd lv) none (gd false) (lv []) c p [] :: fs) s₂) F0 s₁) F0 s)
    (hs : ∀ x, foldedSetIterable iter env x = pure x := by intro _; rfl) : Seg2 M A Φ c ((exec (.For target iter body [] pos) env).wrap K J gd lv) fs s := by
  rw [exec_For]
  refine g_bindw (a2_at (g_bindw (a2_thn h fun x s₁ h₁ => g_bindw (a2_of_eq (hs x) (g_bindw (a2_at (g_bindw (a2_holding (a2_thn h₁ fun it s₂ h₂ => ?_)))))))))
  exact g_call h₂
end
theorem g_For1 {M : Model} {A : Around} {Φ : End → Shared → Prop} {c : Code} {fs : List Frame} {s : Shared} {env : Env} {K : Flow → Sem PySem.Fin} {J : Value → Sem PySem.Fin} {gd : Bool → Bool} {lv : List Value → List Value} {target iter : Expr} {body : List Stmt} {pos : Pos}
    (h : any2 M (A.over c fs) (forIter iter env) (fun it s₂ => ∀ p, Seg2 M A Φ (.forLoop target it body [] env) (M.den (.forLoop target it body [] env)) (.ret (backK env K J gd lv) none (gd false) (lv []) c p [] :: fs) s₂) F0 s)
    (hs : ∀ x, foldedSetIterable iter env x = pure x := by intro _; rfl) : Seg2 M A Φ c ((exec (.For target iter body [] pos) env).wrap K J gd lv) fs s := by
  rw [exec_For_one hs]
  refine g_bindw (a2_at (g_bindw (a2_thn h fun it s₂ h₂ => ?_)))
  exact g_call h₂
/-- the next item that a for takes -/
def nextFor (target : Expr) (it : Value) : Sem (Option Value) := do
  let r ← (pyNext it).onRaise (fun _ => standAt { target.pos with line := 0 })
  match r with
  | none => pure none
  | some v => do letOwnedTupleGo target it v; pure (some v)
theorem forTurn_eq (target : Expr) (it : Value) (body orelse : List Stmt) (env : Env) : forTurn target it body orelse env = (do
    standAt target.pos
    let r ← nextFor target it
    match r with
    | none => again (.block orelse env)
    | some v => do
      assign target env v
      match ← execs body env with
      | .next | .cont => again (.forLoop target it body orelse env)
      | .brk => pure (.done .next)
      | .ret v => pure (.done (.ret v))) := by
  unfold forTurn nextFor
  simp only [bind_assoc]
  congr 1
  funext _
  congr 1
  funext r
  cases r with
  | none => simp
  | some v =>
    simp
    first
      | rfl
      | (congr 1; funext _; congr 1; funext _; congr 1; funext f; cases f <;> rfl)
theorem wp_nextFor {M : Model} {A : Around} {s : Shared} {target : Expr} {it : Value} {Q : Option Value → Shared → Prop} {E : Value → Shared → Prop} (hE : ∀ e s, E e s → False)
    (h : wpAny M A (pyNext it) (fun r s₁ => match r with | none => Q none s₁ | some v => wpAny M A (letOwnedTupleGo target it v) (fun _ s₂ => Q (some v) s₂) E s₁) E s) : wpAny M A (nextFor target it) Q E s := by
  unfold nextFor
  refine wpAny_bind (wpAny_onRaise (wpAny_mono h (fun r s₁ h₁ => ?_) fun e s₁ z => (hE e s₁ z).elim))
  cases r with
  | none => exact wpAny_pure h₁
  | some v => exact wpAny_bind (wpAny_mono h₁ (fun _ s₂ h₂ => wpAny_pure h₂) fun _ _ x => x)
/-- an item of a generator -/
theorem a2_nextFor {M : Model} {A : Around} {s : Shared} {target : Expr} {it : Value} {Q : Option Value → Shared → Prop}
    (h : any2 M A (pyNext it) (fun r s₁ => match r with | none => Q none s₁ | some v => any2 M A (letOwnedTupleGo target it v) (fun _ s₂ => Q (some v) s₂) F0 s₁) F0 s) : any2 M A (nextFor target it) Q F0 s := by
  unfold nextFor
  refine a2_bind (a2_onR0 (a2_thn h fun r s₁ h₁ => ?_))
  cases r with
  | none => exact a2_pure h₁
  | some v => exact a2_bind (a2_thn h₁ fun _ s₂ h₂ => a2_pure h₂)
section
variable {prog : Program} {w : World} {A : Around} {Φ : End → Shared → Prop} {fs : List Frame} {s : Shared} {env : Env}
theorem g_forTurn {target : Expr} {it : Value} {body : List Stmt}
    (h : any2 (model prog w) (A.over (.forLoop target it body [] env) fs) (nextFor target it) (fun r s₁ => match r with
      | none => Seg2 (model prog w) A Φ (.block [] env) (.pure (.done .next)) fs s₁
      | some v => any2 (model prog w) (A.over (.forLoop target it body [] env) fs) (assign target env v) (fun _ s₃ =>
          Seg2 (model prog w) A Φ (.forLoop target it body [] env) ((execs body env).wrap (turnK target it body env) (notedJ env) id id) fs s₃) F0 s₁) F0 s) :
    Seg2 (model prog w) A Φ (.forLoop target it body [] env) ((model prog w).den (.forLoop target it body [] env)) fs s := by
  show Seg2 _ A Φ _ ((forTurn target it body [] env).onRaise (fun x => do noteFrame x env; theTreesLotGoes x)) fs s
  rw [forTurn_eq, Sem.onRaise_eq_wrap]
  refine g_bindw (a2_at (g_bindw (a2_thn h fun r s₁ h₁ => ?_)))
  cases r with
  | none => exact g_again rfl h₁
  | some v =>
    refine g_bindw (a2_thn h₁ fun _ s₃ h₃ => ?_)
    rw [Sem.bind_eq_wrap', Sem.wrap_wrap]
    rw [Sem.wrap_congr (execs body env) _ _ (K' := turnK target it body env) (H' := notedJ env) (fun f => by cases f <;> rfl)
      (fun e => by first | exact Sem.bind_eq_wrap _ _ | (show (do noteFrame e env; theTreesLotGoes e : Sem Unit).bind (fun _ => .raise e) = _; rw [Sem.bind_eq_wrap]; rfl))]
    exact h₃
/-! ### the same over code2 -/
theorem c2_block_nil {R : Result → Shared → Prop} (h : R (.ok .next) s) : code2 (model prog w) A (.block [] env) R s := by
  refine c2_tree ?_
  show any2 _ _ (do return PySem.Fin.done (← (execs [] env).onRaise (fun x => do noteFrame x env; theTreesLotGoes x))) _ _ s
  exact a2_bind (a2_onR0 (a2_execs_nil (a2_pure h)))
theorem c2_forLoop {R : Result → Shared → Prop} {target : Expr} {it : Value} {body : List Stmt} (I : Nat → Shared → Prop)
    (turn : ∀ n s, I n s → any2 (model prog w) (A.under (.forLoop target it body [] env)) (nextFor target it) (fun r s₁ => match r with
      | none => R (.ok .next) s₁
      | some v => any2 (model prog w) (A.under (.forLoop target it body [] env)) (assign target env v) (fun _ s₂ => any2 (model prog w) (A.under (.forLoop target it body [] env)) (execs body env) (fun f s₃ => match f with
            | .next | .cont => ∃ m, m < n ∧ I m s₃
            | .brk => R (.ok .next) s₃
            | .ret v => R (.ok (.ret v)) s₃) F0 s₂) F0 s₁) F0 s)
    (n : Nat) (h : I n s) : code2 (model prog w) A (.forLoop target it body [] env) R s := by
  induction n using Nat.strongRecOn generalizing s with
  | ind n ih =>
    refine c2_tree ?_
    show any2 _ _ ((forTurn target it body [] env).onRaise (fun x => do noteFrame x env; theTreesLotGoes x)) _ _ s
    refine a2_onR0 ?_
    rw [forTurn_eq]
    refine a2_bind (a2_at (a2_bind (a2_thn (turn n s h) fun r s₁ h₁ => ?_)))
    cases r with
    | none => exact a2_pure ⟨rfl, c2_block_nil h₁⟩
    | some v =>
      refine a2_bind (a2_thn h₁ fun _ s₂ h₂ => a2_bind (a2_thn h₂ fun f s₃ h₃ => ?_))
      cases f with
      | next => obtain ⟨m, hm, q⟩ := h₃; exact a2_pure ⟨rfl, ih m hm q⟩
      | cont => obtain ⟨m, hm, q⟩ := h₃; exact a2_pure ⟨rfl, ih m hm q⟩
      | brk => exact a2_pure h₃
      | ret v => exact a2_pure h₃
end
end Td
end

section
set_option maxHeartbeats 1000000
/-! TdJ2: the hand layer's judgements over any2; what is imported from PE, PT, PS. -/
namespace Td
open PySem PySem.Spec PyProof.Rows L2

def Grow (s s' : Shared) : Prop := s.heap.objs.size ≤ s'.heap.objs.size ∧ s.gens.size ≤ s'.gens.size
theorem Grow.refl (s : Shared) : Grow s s := ⟨Nat.le_refl _, Nat.le_refl _⟩
theorem Grow.trans {a b c : Shared} (x : Grow a b) (y : Grow b c) : Grow a c := ⟨Nat.le_trans x.1 y.1, Nat.le_trans x.2 y.2⟩
theorem grow_push (s : Shared) (o : Obj) : Grow s { s with heap := s.heap.push o } := ⟨by show _ ≤ (s.heap.push o).objs.size; rw [Heap.size_push]; omega, Nat.le_refl _⟩
theorem grow_upd (s : Shared) (a : Addr) (f : Obj → Obj) : Grow s { s with heap := s.heap.update a f } := ⟨by show _ ≤ (s.heap.objs.modify a f).size; rw [Array.size_modify]; exact Nat.le_refl _, Nat.le_refl _⟩
theorem grow_gen (s : Shared) (c : Code) : Grow s { s with gens := s.gens.push (.fresh c) } := ⟨Nat.le_refl _, by show _ ≤ (s.gens.push _).size; rw [Array.size_push]; omega⟩
theorem grow_set (s : Shared) (g : Nat) (x : GenState) : Grow s (s.setGen g x) := ⟨Nat.le_refl _, by rw [setGen_sz]; exact Nat.le_refl _⟩
theorem run2_grow {M : Model} {Γ : PySem.Ctx} {p : Pos} {t : Sem PySem.Fin} {fs : List Frame} {s s' : Shared} {e : End} (h : Run2 M Γ p t fs s e s') : Grow s s' := by
  induction h with
  | fin | exc | out => exact Grow.refl _
  | more _ _ ih | rule _ ih | place _ ih | load _ _ ih | alive _ ih | point _ ih | fresh _ ih | ask _ ih | choose _ _ ih | os _ ih | hand _ ih | gstate _ _ ih | stack _ ih | thread _ ih => exact ih
  | upd _ _ ih => exact (grow_upd _ _ _).trans ih
  | alloc _ ih => exact (grow_push _ _).trans ih
  | gnew _ ih => exact (grow_gen _ _).trans ih
  | call _ _ ih1 ih2 => exact ih1.trans ih2
  | callOut _ ih => exact ih
  | wakeNew _ _ _ _ ih1 ih2 | wakeOld _ _ _ _ ih1 ih2 => exact (grow_set _ _ _).trans (ih1.trans ((grow_set _ _ _).trans ih2))
  | wakeSent _ _ _ ih | wakeBusy _ _ ih | wakeDone _ _ ih => exact ih
  | wakeThrow _ _ ih => exact (grow_set _ _ _).trans ih
  | back _ _ ih1 ih2 => exact ih1.trans ih2
  | backOut _ _ ih => exact ih
theorem wake2_grow {M : Model} {Γ : PySem.Ctx} {p : Pos} {g : Nat} {r : Resume} {s s' : Shared} {res : GenResult} (w : Wake2 M Γ p g r s res s') : Grow s s' := by
  cases w with
  | new _ h _ | old _ h _ => exact (grow_set _ _ _).trans ((run2_grow h).trans (grow_set _ _ _))
  | sent | busy | over => exact Grow.refl _
  | thrown => exact grow_set _ _ _
theorem wp2_grow {α : Type} {M : Model} {Γ : PySem.Ctx} (T : Sem α) : ∀ (s0 : Shared) (Q : α → Pos → Shared → Prop) (E : Value → Pos → Shared → Prop) (p : Pos) (s : Shared), Grow s0 s → wp2 M Γ T Q E p s →
    wp2 M Γ T (fun a p' s' => Grow s0 s' ∧ Q a p' s') (fun e p' s' => Grow s0 s' ∧ E e p' s') p s := by
  induction T with
  | pure a | raise e => intro s0 Q E p s g h; exact ⟨g, h⟩
  | unsupported | finish | yield | fork | await | register => intro s0 Q E p s g h; exact h.elim
  | rule _ k ih | loadIfAlive _ k ih | point _ k ih | ask k ih | handled _ k ih | stack k ih | thread k ih => intro s0 Q E p s g h; exact ih _ s0 Q E p s g h
  | «at» q k ih => intro s0 Q E p s g h; exact ih _ s0 Q E q s g h
  | fresh k ih => intro s0 Q E p s g h; exact ih _ s0 Q E p { s with toks := s.toks + 1 } g h
  | os q _ k ih => intro s0 Q E p s g h; exact ih _ s0 Q E p { s with os := (Os.step s.os q).1 } g h
  | alloc o k ih => intro s0 Q E p s g h; exact ih _ s0 Q E p _ (g.trans (grow_push s o)) h
  | newGen c k ih => intro s0 Q E p s g h; exact ih _ s0 Q E p _ (g.trans (grow_gen s c)) h
  | load a _ k ih | genState a k ih => intro s0 Q E p s g ⟨o, ho, h⟩; exact ⟨o, ho, ih _ s0 Q E p s g h⟩
  | update a _ f k ih => intro s0 Q E p s g ⟨ha, h⟩; exact ⟨ha, ih _ s0 Q E p _ (g.trans (grow_upd s a f)) h⟩
  | choose src n k ih => intro s0 Q E p s g ⟨ha, h⟩; exact ⟨ha, ih _ s0 Q E p { s with drawn := s.drawn.bump src } g h⟩
  | call c h g l k ih => intro s0 Q E p s g ⟨r, s', hr, h⟩; exact ⟨r, s', hr, ih r s0 Q E p s' (g.trans (run2_grow hr)) h⟩
  | resume g r l k ih => intro s0 Q E p s g ⟨res, s', hw, h⟩; exact ⟨res, s', hw, ih res s0 Q E p s' (g.trans (wake2_grow hw)) h⟩
theorem a2_grow {α : Type} {M : Model} {A : Around} {T : Sem α} {Q : α → Shared → Prop} {E : Value → Shared → Prop} {s : Shared} (h : any2 M A T Q E s) : any2 M A T (fun a s' => Grow s s' ∧ Q a s') (fun e s' => Grow s s' ∧ E e s') s :=
  fun Γ p hΓ => wp2_grow T s _ _ p s (Grow.refl s) (h Γ p hΓ)
theorem c2_grow {M : Model} {A : Around} {c : Code} {R : Result → Shared → Prop} {s : Shared} (h : code2 M A c R s) : code2 M A c (fun r s' => Grow s s' ∧ R r s') s := fun Γ p hc hΓ => by
  obtain ⟨r, s', hr, q⟩ := h Γ p hc hΓ
  exact ⟨r, s', hr, run2_grow hr, q⟩

/-- sleepers sleep on; no new loud one -/
structure GKeep (s s' : Shared) : Prop where
  keep : GenKeep s s'
  loud : ∀ (n : Nat) x, s'.gens[n]? = some x → x.bare = false → s.gens[n]? = some x
  grow : Grow s s'
theorem GKeep.refl (s : Shared) : GKeep s s := ⟨fun _ _ h _ => h, fun _ _ h _ => h, Grow.refl s⟩
theorem GKeep.trans {a b c : Shared} (x : GKeep a b) (y : GKeep b c) : GKeep a c :=
  ⟨fun g z h hs => y.keep g z (x.keep g z h hs) hs, fun n z h hz => x.loud n z (y.loud n z h hz) hz, x.grow.trans y.grow⟩
theorem Sw.gkeep {s t' s' : Shared} (w : Sw (sleepers s) t' s') (hb : AllBare t'.gens) (g : Grow s s') : GKeep s s' where
  keep := w.keep
  loud := fun n x e hx => by
    cases q : sleepers s n with
    | none =>
      have e1 := (w.other n q).symm.trans e
      have := hb x (Array.mem_of_getElem? e1)
      rw [this] at hx; cases hx
    | some y =>
      have e2 := (w.here n y q).2.1
      rw [e2] at e
      cases e
      unfold sleepers at q
      split at q
      · rename_i z hz
        split at q
        · cases q; exact hz
        · cases q
      · cases q
  grow := g
/-- what holds over all states of the sleepers -/
theorem imp {α : Type} {M : Model} {A : Around} {T : Sem α} {Q : α → Shared → Prop} {E : Value → Shared → Prop} {s : Shared} (h : wpAny M A T Q E (stuck s)) (hb : ∀ a t, Q a t → AllBare t.gens) (hE : ∀ e t, E e t → False) :
    any2 M A T (fun a s' => GKeep s s' ∧ ∃ t', Q a t' ∧ s'.heap = t'.heap ∧ s'.os = t'.os) F0 s :=
  a2_mono (a2_grow (a2_of h)) (fun a s' ⟨g, t', w, q⟩ => ⟨w.gkeep (hb _ _ q) g, t', q, w.heap, w.os⟩) fun e s' ⟨_, t', _, q⟩ => hE _ _ q
theorem cimp {M : Model} {A : Around} {c : Code} {R : Result → Shared → Prop} {s : Shared} (h : codeAny M A c R (stuck s)) (hb : ∀ a t, R a t → AllBare t.gens) :
    code2 M A c (fun a s' => GKeep s s' ∧ ∃ t', R a t' ∧ s'.heap = t'.heap ∧ s'.os = t'.os) s :=
  c2_mono (c2_grow (c2_of h)) fun a s' ⟨g, t', w, q⟩ => ⟨w.gkeep (hb _ _ q) g, t', q, w.heap, w.os⟩
/-- what is only looked at -/
theorem sw_self {s s' : Shared} (w : Sw (sleepers s) (stuck s) s') : s' = s := by
  obtain ⟨h1, h2, h3, h4, h5, h6, h7⟩ := w
  obtain ⟨h', g', d', t', o'⟩ := s'
  obtain ⟨h, g, d, t, o⟩ := s
  have e1 : h' = h := h1
  have e2 : d' = d := h2
  have e3 : t' = t := h3
  have e4 : o' = o := h4
  subst e1 e2 e3 e4
  have e5 : g' = g := by
    apply Array.ext_getElem?
    intro i
    cases q : sleepers ⟨h', g, d', t', o'⟩ i with
    | some x =>
      have a := (h6 i x q).2.1
      have b := ((stuck_sw ⟨h', g, d', t', o'⟩).here i x q).2.1
      exact Eq.trans a (Eq.symm b)
    | none =>
      have a := h7 i q
      have b := (stuck_sw ⟨h', g, d', t', o'⟩).other i q
      exact Eq.trans a (Eq.symm b)
  subst e5
  rfl
theorem a2_looks {α : Type} {M : Model} {A : Around} {t : Sem α} {a : α} {Q : α → Shared → Prop} {s : Shared} (L : PySem.W.Looks M s.heap t a) (q : Q a s) : any2 M A t Q F0 s := by
  have h : wpAny M A t (fun b s' => b = a ∧ s' = stuck s) (fun _ _ => False) (stuck s) := L A _ _ (stuck s) (fun _ _ e => e) ⟨rfl, rfl⟩
  refine a2_mono (a2_of h) (fun b s' ⟨t', w, e1, e2⟩ => ?_) fun e s' ⟨_, _, z⟩ => z
  subst e1 e2
  rw [sw_self w]; exact q
/-- the same read in wpAny's own words -/
theorem a2_same {α : Type} {M : Model} {A : Around} {t : Sem α} {a : α} {Q : α → Shared → Prop} {s : Shared} (h : ∀ R : α → Shared → Prop, R a (stuck s) → wpAny M A t R (fun _ _ => False) (stuck s)) (q : Q a s) : any2 M A t Q F0 s := by
  refine a2_mono (a2_of (h (fun b s' => b = a ∧ s' = stuck s) ⟨rfl, rfl⟩)) (fun b s' ⟨t', w, e1, e2⟩ => ?_) fun e s' ⟨_, _, z⟩ => z
  subst e1 e2
  rw [sw_self w]; exact q

/-! ### the invariant over sleepers -/
theorem inv_any {X : Cx} {pins : List (Addr × Obj)} {σ : L2.St} {H : Hp} {t s : Shared} (I : Inv X pins σ H t) (h : s.heap = t.heap) (o : s.os = t.os) (b : AllBare s.gens) : Inv X pins σ H s := by
  obtain ⟨hp, g, d, k, os⟩ := s
  obtain ⟨hp', g', d', k', os'⟩ := t
  have e1 : hp = hp' := h
  have e2 : os = os' := o
  subst e1 e2
  exact ⟨I.ok, I.os, b, I.base, I.loc, I.cell, I.free, I.freeC, I.pin, I.hok, I.len⟩
abbrev Inv2 (X : Cx) (pins : List (Addr × Obj)) (σ : L2.St) (H : Hp) (s : Shared) : Prop := Inv X pins σ H (stuck s)
theorem inv2_of {X : Cx} {pins : List (Addr × Obj)} {σ : L2.St} {H : Hp} {t s : Shared} (I : Inv X pins σ H t) (h : s.heap = t.heap) (o : s.os = t.os) : Inv2 X pins σ H s := inv_any I h o (stuck_bare s)

def EP2 (X : Cx) (pins : List (Addr × Obj)) (σ : L2.St) (s : Shared) (Q : VK) (u : Value) (s' : Shared) : Prop := GKeep s s' ∧ ∃ v H', Inv2 X pins σ H' s' ∧ RelV v u ∧ Q v H'
def TP2 (X : Cx) (pins : List (Addr × Obj)) (σ : L2.St) (s : Shared) (Q : Bool → Hp → Prop) (b : Bool) (s' : Shared) : Prop := GKeep s s' ∧ ∃ H', Inv2 X pins σ H' s' ∧ Q b H'
def AP2 (X : Cx) (pins : List (Addr × Obj)) (σ : L2.St) (s : Shared) (Q : List V → Hp → Prop) (us : List Value) (s' : Shared) : Prop := GKeep s s' ∧ ∃ vs H', Inv2 X pins σ H' s' ∧ Vals vs us ∧ Q vs H'
def SP2 (X : Cx) (pins : List (Addr × Obj)) (s : Shared) (D : Ends) (f : Flow) (s' : Shared) : Prop := GKeep s s' ∧
  match f with
  | .next => ∃ σ' H', Inv2 X pins σ' H' s' ∧ D.nx σ' H'
  | .brk => ∃ σ' H', Inv2 X pins σ' H' s' ∧ D.bk σ' H'
  | .cont => ∃ σ' H', Inv2 X pins σ' H' s' ∧ D.ct σ' H'
  | .ret u => ∃ v σ' H', Inv2 X pins σ' H' s' ∧ RelV v u ∧ D.rt v H'
structure PE2 (X : Cx) (e : Expr) (t : TE) : Prop where
  run : ∀ (pins : List (Addr × Obj)) (s : Shared) (σ : L2.St) (H : Hp) (Q : VK), Inv2 X pins σ H s → t σ H Q → any2 (model X.prog X.w) X.A (eval e X.env) (EP2 X pins σ s Q) F0 s
structure PT2 (X : Cx) (e : Expr) (t : TT) : Prop where
  run : ∀ (pins : List (Addr × Obj)) (s : Shared) (σ : L2.St) (H : Hp) (Q : Bool → Hp → Prop), Inv2 X pins σ H s → t σ H Q → any2 (model X.prog X.w) X.A (isTrue e X.env (eval e X.env)) (TP2 X pins σ s Q) F0 s
structure PW2 (X : Cx) (e : Expr) (t : TT) : Prop where
  run : ∀ (whole : Sem Value) (pins : List (Addr × Obj)) (s : Shared) (σ : L2.St) (H : Hp) (Q : Bool → Hp → Prop), Inv2 X pins σ H s → t σ H Q → any2 (model X.prog X.w) X.A (isTrue e X.env whole) (TP2 X pins σ s Q) F0 s
theorem PW2.pt {X : Cx} {e : Expr} {t : TT} (h : PW2 X e t) : PT2 X e t := ⟨h.run _⟩
structure PA2 (X : Cx) (es : List Expr) (t : TA) : Prop where
  run : ∀ (pos : Pos) (pins : List (Addr × Obj)) (s : Shared) (σ : L2.St) (H : Hp) (Q : List V → Hp → Prop), Inv2 X pins σ H s → t σ H Q → any2 (model X.prog X.w) X.A (spliced (backTo pos (starEach es X.env))) (AP2 X pins σ s Q) F0 s
structure PK2 (X : Cx) (kws : List Keyword) (t : TA) : Prop where
  run : ∀ (pos : Pos) (pins : List (Addr × Obj)) (s : Shared) (σ : L2.St) (H : Hp) (Q : List V → Hp → Prop), Inv2 X pins σ H s → t σ H Q → any2 (model X.prog X.w) X.A (evalAll ((backToKw pos (keywordEach kws X.env)).map (·.2))) (AP2 X pins σ s Q) F0 s
structure PS2 (X : Cx) (st : Stmt) (t : TS) : Prop where
  run : ∀ (pins : List (Addr × Obj)) (s : Shared) (σ : L2.St) (H : Hp) (D : Ends), Inv2 X pins σ H s → t D σ H → any2 (model X.prog X.w) X.A (exec st X.env) (SP2 X pins s D) F0 s
structure PSs2 (X : Cx) (st : List Stmt) (t : TS) : Prop where
  run : ∀ (pins : List (Addr × Obj)) (s : Shared) (σ : L2.St) (H : Hp) (D : Ends), Inv2 X pins σ H s → t D σ H → any2 (model X.prog X.w) X.A (execs st X.env) (SP2 X pins s D) F0 s
/-- no exception is wanted here -/
abbrev Calm (X : Cx) : Prop := ∀ e s, X.xe e s → False
section
variable {X : Cx} {e : Expr} {st : Stmt} {rest : List Stmt} {pos : Pos}
theorem EP2.trans {pins : List (Addr × Obj)} {σ : L2.St} {s s1 : Shared} {Q : VK} {u : Value} {s' : Shared} (g : GKeep s s1) (h : EP2 X pins σ s1 Q u s') : EP2 X pins σ s Q u s' := ⟨g.trans h.1, h.2⟩
theorem TP2.trans {pins : List (Addr × Obj)} {σ : L2.St} {s s1 : Shared} {Q : Bool → Hp → Prop} {u : Bool} {s' : Shared} (g : GKeep s s1) (h : TP2 X pins σ s1 Q u s') : TP2 X pins σ s Q u s' := ⟨g.trans h.1, h.2⟩
theorem AP2.trans {pins : List (Addr × Obj)} {σ : L2.St} {s s1 : Shared} {Q : List V → Hp → Prop} {u : List Value} {s' : Shared} (g : GKeep s s1) (h : AP2 X pins σ s1 Q u s') : AP2 X pins σ s Q u s' := ⟨g.trans h.1, h.2⟩
theorem SP2.trans {pins : List (Addr × Obj)} {s s1 : Shared} {D : Ends} {f : Flow} {s' : Shared} (g : GKeep s s1) (h : SP2 X pins s1 D f s') : SP2 X pins s D f s' := ⟨g.trans h.1, h.2⟩
/-- the import of a value's reading -/
theorem imp_ep {α : Type} {T : Sem Value} {pins : List (Addr × Obj)} {σ : L2.St} {A : Around} {s : Shared} {Q : VK} (hx : Calm X) (h : wpAny (model X.prog X.w) A T (EP X pins σ Q) X.xe (stuck s)) : any2 (model X.prog X.w) A T (EP2 X pins σ s Q) F0 s :=
  a2_thn (imp h (fun _ _ ⟨_, _, I, _⟩ => I.bare) hx) fun u s' ⟨g, t', ⟨v, H', I, r, q⟩, h1, h2⟩ => ⟨g, v, H', inv2_of I h1 h2, r, q⟩
theorem pe2_of {t : TE} (hx : Calm X) (h : PE X e t) : PE2 X e t := ⟨fun pins s σ H Q I q => imp_ep (α := Unit) hx (h.run pins (stuck s) σ H Q I q)⟩
theorem pt2_of {t : TT} (hx : Calm X) (h : PT X e t) : PT2 X e t := ⟨fun pins s σ H Q I q =>
  a2_thn (imp (h.run pins (stuck s) σ H Q I q) (fun _ _ ⟨_, I, _⟩ => I.bare) hx) fun u s' ⟨g, t', ⟨H', I, q⟩, h1, h2⟩ => ⟨g, H', inv2_of I h1 h2, q⟩⟩
theorem ps2_of {t : TS} (hx : Calm X) (h : PS X st t) : PS2 X st t := ⟨fun pins s σ H D I q =>
  a2_thn (imp (h.run pins (stuck s) σ H D I q) (fun f t hs => by
    cases f with
    | next => obtain ⟨_, _, I, _⟩ := hs; exact I.bare
    | brk => obtain ⟨_, _, I, _⟩ := hs; exact I.bare
    | cont => obtain ⟨_, _, I, _⟩ := hs; exact I.bare
    | ret u => obtain ⟨_, _, _, I, _⟩ := hs; exact I.bare) hx) fun f s' ⟨g, t', hs, h1, h2⟩ => ⟨g, by
    cases f with
    | next => obtain ⟨σ', H', I, q⟩ := hs; exact ⟨σ', H', inv2_of I h1 h2, q⟩
    | brk => obtain ⟨σ', H', I, q⟩ := hs; exact ⟨σ', H', inv2_of I h1 h2, q⟩
    | cont => obtain ⟨σ', H', I, q⟩ := hs; exact ⟨σ', H', inv2_of I h1 h2, q⟩
    | ret u => obtain ⟨v, σ', H', I, r, q⟩ := hs; exact ⟨v, σ', H', inv2_of I h1 h2, r, q⟩⟩⟩
/-! ### arguments -/
theorem pa2_nil : PA2 X [] tNil := ⟨fun _ _ s _ H Q I h => a2_spliced_nil ⟨GKeep.refl s, [], H, I, .nil, h⟩⟩
theorem pa2_cons {es : List Expr} {te : TE} {t : TA} (ha : PE2 X e te) (hr : PA2 X es t) (hs : starEach (e :: es) X.env = (false, eval e X.env) :: starEach es X.env := by rfl) : PA2 X (e :: es) (tCons te t) := by
  refine ⟨fun pos pins s σ H Q I h => ?_⟩
  rw [hs]
  show any2 _ _ (spliced ((false, eval e X.env) :: backTo pos (starEach es X.env))) _ _ s
  refine a2_spliced (a2_thn (ha.run pins s σ H _ I h) fun u s1 ⟨g1, x, H1, I1, r1, q1⟩ => ?_)
  exact a2_thn (hr.run pos pins s1 σ H1 _ I1 q1) fun us s2 ⟨g2, xs, H2, I2, r2, q2⟩ => ⟨g1.trans g2, x :: xs, H2, I2, .cons r1 r2, q2⟩
theorem pk2_nil : PK2 X [] tNil := ⟨fun _ _ s _ H Q I h => a2_evalAll_nil ⟨GKeep.refl s, [], H, I, .nil, h⟩⟩
theorem pk2_cons {nm : Option Str} {kpos : Pos} {kws : List Keyword} {te : TE} {t : TA} (ha : PE2 X e te) (hr : PK2 X kws t) : PK2 X (⟨nm, e, kpos⟩ :: kws) (tCons te t) := by
  refine ⟨fun pos pins s σ H Q I h => ?_⟩
  show any2 _ _ (evalAll ((do let v ← eval e X.env; standAt pos; pure v) :: (backToKw pos (keywordEach kws X.env)).map (·.2))) _ _ s
  refine a2_evalAll (a2_bind (a2_thn (ha.run pins s σ H _ I h) fun u s1 ⟨g1, x, H1, I1, r1, q1⟩ => a2_bind (a2_at (a2_pure ?_))))
  exact a2_thn (hr.run pos pins s1 σ H1 _ I1 q1) fun us s2 ⟨g2, xs, H2, I2, r2, q2⟩ => ⟨g1.trans g2, x :: xs, H2, I2, .cons r1 r2, q2⟩
/-! ### comparisons, tests -/
theorem pe2_cmpR {a b : Expr} {op : CmpOp} {r : R2} {ta tb : TE} (hx : Calm X) (ho : OpR X (compareOp op) r) (ha : PE2 X a ta) (hb : PE2 X b tb) (hm : behindInMarks op b = false) : PE2 X (.Compare a [op] [b] pos) (tOp r ta tb) := by
  refine ⟨fun pins s σ H Q I h => ?_⟩
  refine a2_Compare (a2_thn (ha.run pins s σ H _ I h) fun v s1 ⟨g1, x, H1, I1, r1, q1⟩ => a2_thn (hb.run pins s1 σ H1 _ I1 q1) fun u s2 ⟨g2, y, H2, I2, r2, q2⟩ => ?_) hm
  exact a2_thn (imp_ep (α := Unit) hx (ho pins (stuck s2) σ H2 x y v u _ I2 r1 r2 q2)) fun c s3 h3 => h3.trans (g1.trans g2)
theorem a2_truthy_bool {M : Model} {A : Around} {b : Bool} {Q : Bool → Shared → Prop} {s : Shared} (q : Q b s) : any2 M A (truthy (.bool b)) Q F0 s := a2_same (fun R h => wpAny_truthy_bool h) q
theorem pt2_cmpR {a b : Expr} {op : CmpOp} {r : R2} {ta tb : TE} (hx : Calm X) (ho : OpR X (compareOp op) r) (ha : PE2 X a ta) (hb : PE2 X b tb) (hm : behindInMarks op b = false) : PW2 X (.Compare a [op] [b] pos) (tTest (tOp r ta tb)) := by
  refine ⟨fun whole pins s σ H Q I h => ?_⟩
  refine t2_Compare (a2_thn (ha.run pins s σ H _ I h) fun v s1 ⟨g1, x, H1, I1, r1, q1⟩ => a2_thn (hb.run pins s1 σ H1 _ I1 q1) fun u s2 ⟨g2, y, H2, I2, r2, q2⟩ => ?_) hm
  refine a2_thn (imp_ep (α := Unit) hx (ho pins (stuck s2) σ H2 x y v u _ I2 r1 r2 q2)) fun c s3 ⟨g3, z, H3, I3, r3, k, e3, q3⟩ => ?_
  subst e3
  cases r3
  exact a2_truthy_bool ⟨(g1.trans g2).trans g3, H3, I3, q3⟩
theorem pt2_val {t : TE} (h : PE2 X e t) (he : ∀ whole, isTrue e X.env whole = (do let v ← whole; standAt e.pos; holding [v] (truthy v)) := by intro _; rfl) : PT2 X e (tB t) := by
  refine ⟨fun pins s σ H Q I hq => ?_⟩
  refine t2_plain (a2_thn (h.run pins s σ H _ I hq) fun v s1 ⟨g1, x, H1, I1, r1, c, ec, q⟩ => ?_) (he _)
  subst ec
  cases r1
  exact a2_truthy_bool ⟨g1, H1, I1, q⟩
theorem pw2_and1 {a : Expr} {tA : TT} (ha : PT2 X a tA) : PW2 X (.BoolOp .And [a] pos) tA := by
  refine ⟨fun whole pins s σ H Q I h => ?_⟩
  refine t2_and (a2_thn (ha.run pins s σ H _ I h) fun c s1 ⟨g1, H1, I1, q⟩ => ?_)
  cases c with
  | true => exact t2_and_nil ⟨g1, H1, I1, q⟩
  | false => exact ⟨g1, H1, I1, q⟩
theorem pw2_or1 {a : Expr} {tA : TT} (ha : PT2 X a tA) : PW2 X (.BoolOp .Or [a] pos) tA := by
  refine ⟨fun whole pins s σ H Q I h => ?_⟩
  refine t2_or (a2_thn (ha.run pins s σ H _ I h) fun c s1 ⟨g1, H1, I1, q⟩ => ?_)
  cases c with
  | false => exact t2_or_nil ⟨g1, H1, I1, q⟩
  | true => exact ⟨g1, H1, I1, q⟩
theorem pw2_and {a b : Expr} {rs : List Expr} {tA tB' : TT} (ha : PT2 X a tA) (hb : PW2 X (.BoolOp .And (b :: rs) pos) tB') : PW2 X (.BoolOp .And (a :: b :: rs) pos) (tAnd tA tB') := by
  refine ⟨fun whole pins s σ H Q I h => ?_⟩
  refine t2_and (a2_thn (ha.run pins s σ H _ I h) fun c s1 ⟨g1, H1, I1, q⟩ => ?_)
  cases c with
  | true => exact a2_thn (hb.run whole pins s1 σ H1 Q I1 q) fun c s2 h2 => h2.trans g1
  | false => exact ⟨g1, H1, I1, q⟩
theorem pw2_or {a b : Expr} {rs : List Expr} {tA tB' : TT} (ha : PT2 X a tA) (hb : PW2 X (.BoolOp .Or (b :: rs) pos) tB') : PW2 X (.BoolOp .Or (a :: b :: rs) pos) (tOr tA tB') := by
  refine ⟨fun whole pins s σ H Q I h => ?_⟩
  refine t2_or (a2_thn (ha.run pins s σ H _ I h) fun c s1 ⟨g1, H1, I1, q⟩ => ?_)
  cases c with
  | false => exact a2_thn (hb.run whole pins s1 σ H1 Q I1 q) fun c s2 h2 => h2.trans g1
  | true => exact ⟨g1, H1, I1, q⟩
theorem pt2_not {a : Expr} {tA : TT} (ha : PT2 X a tA) : PT2 X (.UnaryOp .Not a pos) (tNot tA) := by
  refine ⟨fun pins s σ H Q I h => ?_⟩
  exact t2_not (a2_thn (ha.run pins s σ H _ I h) fun c s1 ⟨g1, H1, I1, q⟩ => ⟨g1, H1, I1, q⟩)
/-! ### statements -/
theorem pss2_nil : PSs2 X [] tNext := ⟨fun _ s σ H _ I h => a2_execs_nil ⟨GKeep.refl s, σ, H, I, h⟩⟩
theorem pss2_cons {t u : TS} (h1 : PS2 X st t) (h2 : PSs2 X rest u) : PSs2 X (st :: rest) (tSeq t u) := by
  refine ⟨fun pins s σ H D I h => ?_⟩
  refine a2_execs (a2_thn (h1.run pins s σ H _ I h) fun f s1 q => ?_)
  obtain ⟨g1, q⟩ := q
  cases f with
  | next =>
    obtain ⟨σ1, H1, I1, q1⟩ := q
    exact a2_thn (h2.run pins s1 σ1 H1 D I1 q1) fun f s2 h => h.trans g1
  | brk => exact ⟨g1, q⟩
  | cont => exact ⟨g1, q⟩
  | ret v => exact ⟨g1, q⟩
theorem pss2_one {t : TS} (h1 : PS2 X st t) : PSs2 X [st] t := by
  refine ⟨fun pins s σ H D I h => ?_⟩
  refine a2_execs (a2_thn (h1.run pins s σ H D I h) fun f s1 q => ?_)
  cases f with
  | next => exact a2_execs_nil q
  | brk => exact q
  | cont => exact q
  | ret v => exact q
theorem ps2_if {c : Expr} {a b : List Stmt} {tc : TT} {t u : TS} (hc : PT2 X c tc) (ha : PSs2 X a t) (hb : PSs2 X b u) : PS2 X (.If c a b pos) (tIfS tc t u) := by
  refine ⟨fun pins s σ H D I h => ?_⟩
  refine a2_If (a2_thn (hc.run pins s σ H _ I h) fun k s1 ⟨g1, H1, I1, q⟩ => ?_)
  cases k with
  | true => exact a2_thn (ha.run pins s1 σ H1 D I1 q) fun f s2 h => h.trans g1
  | false => exact a2_thn (hb.run pins s1 σ H1 D I1 q) fun f s2 h => h.trans g1
theorem ps2_ret {te : TE} (he : PE2 X e te) : PS2 X (.Return (some e) pos) (tRet te) := by
  refine ⟨fun pins s σ H D I h => ?_⟩
  exact a2_Return (a2_thn (he.run pins s σ H _ I h) fun v s1 ⟨g1, x, H1, I1, r1, q⟩ => ⟨g1, x, σ, H1, I1, r1, q⟩)
theorem ps2_set {i : Nat} {x : Str} {te : TE} {pos' : Pos} (hN : X.N.Nodup) (hi : X.N[i]? = some x) (hxl : Loc X.env.scope x) (he : PE2 X e te) (hs : swapsWith e (some (.Name x pos')) pos.line X.env = pure false := by rfl)
    (hf : X.fn x = true ∨ X.env.scope.names.lookup x = some .local := by first | exact .inl rfl | exact .inr rfl | assumption) : PS2 X (.Assign [.Name x pos'] e pos) (tAsg te (gName i)) := by
  refine ⟨fun pins s σ H D I h => ?_⟩
  refine a2_AssignName (a2_thn (he.run pins s σ H _ I h) fun v s1 ⟨g1, y, H1, I1, r1, q⟩ => ?_) hs
  have st : wpAny (model X.prog X.w) X.A (storeName X.env x v) (fun _ s' => Inv X pins (σ.set i (some y)) H1 s') (fun _ _ => False) (stuck s1) := store_ok I1 hN hi hxl r1 (fun s' I' => I') hf
  exact a2_thn (imp st (fun _ _ I => I.bare) fun _ _ z => z) fun _ s2 ⟨g2, t', I2, h1, h2⟩ => ⟨g1.trans g2, _, H1, inv2_of I2 h1 h2, q⟩
/-! ### for, over what the hand layer walks -/
theorem ps2_for {tg iter : Expr} {body : List Stmt} {wi : TI} {g : TG} {tb : TS} (hx : Calm X) (hc : X.calm = true) (hi : PI X tg iter wi) (hg : PG X tg g) (hb : PSs2 X body tb)
    (hs : ∀ x, foldedSetIterable iter X.env x = pure x := by intro _; rfl) : PS2 X (.For tg iter body [] pos) (tFor wi g tb) := by
  refine ⟨fun pins s σ H D I h => ?_⟩
  refine a2_For1 (a2_thn (imp (wp_forIter (hi.run pins (stuck s) σ H _ I h)) (fun _ _ ⟨_, _, _, _, _, _, I, _⟩ => I.bare) hx) fun itv s2 ⟨g2, t2, h2, hh2, ho2⟩ => ?_) hs
  obtain ⟨it, fp, tn, J, H2, e, I2, T, st2, f2, W, ⟨m0, w0⟩, turn⟩ := h2
  subst e
  rw [← hh2] at st2
  replace I2 : Inv2 X pins σ H2 s2 := inv2_of I2 hh2 ho2
  have stat : ∀ {H' : Hp}, (∀ b ∈ fp, H' b = none) → ∀ b ∈ fp, FpOk X pins H' b := fun hn b hb => ⟨hn b hb, (f2 b hb).2⟩
  refine c2_forLoop (fun n s' => GKeep s s' ∧ ∃ i σ' H', Inv2 X pins σ' H' s' ∧ tn i s'.heap ∧ (∀ b ∈ fp, H' b = none) ∧ W i n σ' H') ?_ m0 ⟨g2, 0, σ, H2, I2, st2, fun b hb => (f2 b hb).1, w0⟩
  rintro n s3 ⟨g3, i, σ3, H3, I3, st3, fr3, w3⟩
  rcases turn i n σ3 H3 w3 with ⟨stop, qn⟩ | ⟨go, N, hN, step⟩
  · have T0 : wpAny (model X.prog X.w) X.A (nextFor tg (.ref it)) (fun r s1 => r = none ∧ Inv X pins σ3 H3 s1) (fun _ _ => False) (stuck s3) :=
      wp_nextFor (fun _ _ z => z) (thn (T.done X rfl rfl rfl hc i pins (stuck s3) σ3 H3 (fun _ _ => False) I3 (stat fr3) st3 stop) fun r s1 ⟨hr, I⟩ => by subst hr; exact ⟨rfl, I⟩)
    refine a2_thn (imp T0 (fun _ _ ⟨_, I⟩ => I.bare) fun _ _ z => z) fun r s4 ⟨g4, t4, ⟨hr, I4⟩, h4, o4⟩ => ?_
    subst hr
    exact ⟨_, rfl, g3.trans g4, σ3, H3, inv2_of I4 h4 o4, qn⟩
  · have T1 : wpAny (model X.prog X.w) X.A (nextFor tg (.ref it)) (fun r s2 => ∃ u x H', r = some u ∧ Inv X pins σ3 H' s2 ∧ RelV x u ∧ J.yld i H3 x H' ∧ tn (i + 1) s2.heap ∧ ∀ b ∈ fp, H' b = none) (fun _ _ => False) (stuck s3) :=
      wp_nextFor (fun _ _ z => z) (thn (T.item X rfl rfl rfl hc i pins (stuck s3) σ3 H3 (fun _ _ => False) I3 (stat fr3) st3 go) fun r s1 ⟨u, hr, h1⟩ => by
        subst hr
        exact thn h1 fun _ s2 ⟨x, H', z⟩ => ⟨u, x, H', rfl, z⟩)
    refine a2_thn (imp T1 (fun _ _ ⟨_, _, _, _, I, _⟩ => I.bare) fun _ _ z => z) fun r s5 ⟨g5, t5, ⟨u, x, H5, hr, I5, r5, y5, st5, fr5⟩, h5, o5⟩ => ?_
    subst hr
    rw [← h5] at st5
    replace I5 : Inv2 X pins σ3 H5 s5 := inv2_of I5 h5 o5
    have I5' := I5.pinned (stat fr5) (T.obj _ _ st5)
    refine a2_thn (imp (hg.run _ (stuck s5) σ3 H5 x u _ I5' r5 (step x H5 y5)) (fun _ _ ⟨_, _, I, _⟩ => I.bare) hx) fun _ s6 ⟨g6, t6, ⟨σ6, H6, I6, q6⟩, h6, o6⟩ => ?_
    replace I6 : Inv2 X _ σ6 H6 s6 := inv2_of I6 h6 o6
    have g36 := ((g3.trans g5).trans g6)
    refine a2_thn (hb.run _ s6 σ6 H6 _ I6 q6) fun f s7 ⟨g7, q7⟩ => ?_
    have again : ∀ {σ7 : L2.St} {H7 : Hp}, Inv2 X (pins ++ pinsAt fp s5.heap) σ7 H7 s7 → N σ7 H7 → ∃ m, m < n ∧ (GKeep s s7 ∧ ∃ i σ' H', Inv2 X pins σ' H' s7 ∧ tn i s7.heap ∧ (∀ b ∈ fp, H' b = none) ∧ W i m σ' H') := fun {σ7 H7} I7 n7 => by
      obtain ⟨m', hm, w7⟩ := hN σ7 H7 n7
      refine ⟨m', hm, g36.trans g7, i + 1, σ7, H7, I7.unpinned, T.keep _ _ _ st5 fun b hb o e => (I7.pin (b, o) (List.mem_append_right _ (List.mem_append_right _ (mem_pinsAt hb e)))).1, fun b hb => ?_, w7⟩
      obtain ⟨o, e, d⟩ := T.obj _ _ st5 b hb
      exact (I7.pin (b, o) (List.mem_append_right _ (List.mem_append_right _ (mem_pinsAt hb e)))).2.1
    cases f with
    | next => obtain ⟨σ7, H7, I7, n7⟩ := q7; exact again I7 n7
    | cont => obtain ⟨σ7, H7, I7, n7⟩ := q7; exact again I7 n7
    | brk => obtain ⟨σ7, H7, I7, q7⟩ := q7; exact ⟨_, rfl, g36.trans g7, σ7, H7, I7.unpinned, q7⟩
    | ret v => obtain ⟨x7, σ7, H7, I7, r7, q7⟩ := q7; exact ⟨_, rfl, g36.trans g7, x7, σ7, H7, I7.unpinned, r7, q7⟩
end
end Td
end

section
set_option maxHeartbeats 1000000
/-! TdEnum: enumerate over a tuple. -/
namespace Td
open PySem PySem.Spec PyProof.Rows L2

theorem meets_enumerate_newT (l : Addr) (items : Array Value) :
    Meets (Builtin.«enumerate.__new__» ⟨[.type "enumerate", .ref l], []⟩) (fun _ R s => s.heap.IsTuple l items ∧
      R (.ok (.ret (.ref (s.heap.push { cls := .type "tuple_iterator", data := .fields #[.ref l, .int 0 0] }).objs.size)))
        { s with heap := (s.heap.push { cls := .type "tuple_iterator", data := .fields #[.ref l, .int 0 0] }).push { cls := .type "enumerate", data := .fields #[.none, .bool false, .ref s.heap.objs.size, rawInt 0, .none, .none] } }) :=
  .of_wp fun prog w A R s h => by
    obtain ⟨hp, g, d, tk, os⟩ := s; obtain ⟨hl, h⟩ := h
    have hsub := sub_enumerate
    have q1 : ∀ {A' : Around} {E : Value → Shared → Prop} {Q : Value → Shared → Prop}, Q (.ref hp.objs.size) ⟨hp.push { cls := .type "tuple_iterator", data := .fields #[.ref l, .int 0 0] }, g, d, tk, os⟩ → wpAny (model prog w) A' (pyIter (.ref l)) Q E ⟨hp, g, d, tk, os⟩ :=
      fun q => wpAny_pyIter_tuple hl q
    wp_walk using q1
    refine wpAny_stack_any fun st => wpAny_pure ?_
    split
    · rename_i c _ _ _ _ _
      cases (c == Value.type "enumerate")
      · wp_walk using q1
        exact ⟨_, rfl, h⟩
      · wp_walk using q1
        exact ⟨_, rfl, h⟩
    · wp_walk using q1
      exact ⟨_, rfl, h⟩
section
variable {prog : Program} {w : World} {A : Around} {E : Value → Shared → Prop} {s : Shared}
theorem call_enumerate_tuple {l : Addr} {items : Array Value} {Q : Value → Shared → Prop} (hL : s.heap.IsTuple l items)
    (h : ∀ h', IsEnum h' (s.heap.objs.size + 1) s.heap.objs.size 0 .none → h'.IsTupleIter s.heap.objs.size l 0 → h'.objs.size = s.heap.objs.size + 2 →
      (∀ b o, s.heap.get? b = some o → h'.get? b = some o) → Q (.ref (s.heap.objs.size + 1)) { s with heap := h' }) :
    wpAny (model prog w) A (call (.type "enumerate") [.ref l]) Q E s := by
  refine callType_new F.called_enumerate (by decide) (F.typeCall_enumerate_1 _) (F.newCall_enumerate_1 _) (fun obj => F.args_object_init_2 obj _) F.entry_enumerate_new
    (meets_enumerate_newT l items) ⟨hL, ?_⟩
  have hz : (s.heap.push { cls := .type "tuple_iterator", data := .fields #[.ref l, .int 0 0] }).objs.size = s.heap.objs.size + 1 := Heap.size_push ..
  show _ ∧ _
  rw [hz]
  have he : IsEnum ((s.heap.push { cls := .type "tuple_iterator", data := .fields #[.ref l, .int 0 0] }).push
      { cls := .type "enumerate", data := .fields #[.none, .bool false, .ref s.heap.objs.size, rawInt 0, .none, .none] }) (s.heap.objs.size + 1) s.heap.objs.size 0 .none := by
    have := Heap.get?_push_size (s.heap.push { cls := .type "tuple_iterator", data := .fields #[.ref l, .int 0 0] })
      (o := { cls := .type "enumerate", data := .fields #[.none, .bool false, .ref s.heap.objs.size, rawInt 0, .none, .none] }) rfl
    rw [hz] at this; exact this
  refine ⟨⟨_, he, rfl⟩, h _ he ⟨_, Heap.get?_push_of_some _ (Heap.get?_push_size _ rfl), rfl, rfl⟩ (by rw [Heap.size_push, hz]) fun b o x => Heap.get?_push_of_some _ (Heap.get?_push_of_some _ x)⟩
end
/-- the tuple at a, each item in a new pair -/
def Itet (K : PySem.W.Frag) (a : Addr) : It :=
  ⟨fun i H => ∃ (xs : List V) (x : V), SqT K H a xs ∧ xs[i]? = some x, fun i H v H' => ∃ T x, v = .ref T ∧ H T = none ∧ H' = upd H T (.tup [.int (i : Nat), x]) ∧ ∀ xs, SqT K H a xs → xs[i]? = some x, fun i H => ∃ xs : List V, SqT K H a xs ∧ xs.length = i⟩
def EnumT (a e it : Addr) (i : Nat) (h : Heap) : Prop := (∃ old, IsEnum h e it ((i : Nat) : Int) old) ∧ h.IsTupleIter it a i ∧ e ≠ it
theorem EnumT.keep {a e it : Addr} {i : Nat} {h h' : Heap} (st : EnumT a e it i h) (k : ∀ b, b = e ∨ b = it → ∀ o, h.get? b = some o → h'.get? b = some o) : EnumT a e it i h' :=
  let ⟨⟨old, he⟩, hi, hne⟩ := st; ⟨⟨old, k e (.inl rfl) _ he⟩, hi.at fun o q => k it (.inr rfl) o q, hne⟩
theorem EnumT.obj {a e it : Addr} {i : Nat} {h : Heap} (st : EnumT a e it i h) {b : Addr} (hb : b = e ∨ b = it) : ∃ o, h.get? b = some o ∧ (∀ v n, o.data ≠ .seq v n) ∧ ∀ v, o.data ≠ .cell v := by
  obtain ⟨⟨old, he⟩, ⟨o, ho, hc, hd⟩, _⟩ := st
  rcases hb with z | z
  · rw [z]; exact ⟨_, he, (fun v n q => nomatch q), fun v q => nomatch q⟩
  · rw [z]; exact ⟨o, ho, (fun v n q => by rw [hd] at q; cases q), fun v q => by rw [hd] at q; cases q⟩
theorem turn_enumT {P : Program} {w : World} {K : PySem.W.Frag} {elts : List Expr} {kk : Nat} {tpos : Pos} (a e it : Addr) :
    Turn P w K (.Tuple elts kk tpos) (Itet K a) [e, it] e (EnumT a e it) where
  mem := by simp
  obj := fun i h st b hb => by
    obtain ⟨o, h1, _, h2⟩ := st.obj (by simpa using hb)
    exact ⟨o, h1, h2⟩
  keep := fun i h h' st k => st.keep fun b hb o q => k b (by rcases hb with z | z <;> simp [z]) o q
  item := by
    intro X hP hw hK hc i pins s σ H E I hf st hg
    subst hP hw hK
    obtain ⟨⟨old, he⟩, hit, hne⟩ := st
    obtain ⟨xs, x, hq, hx⟩ := hg
    obtain ⟨its, rv, p, hz⟩ := I.tuple hq
    obtain ⟨u, hu, ru⟩ := rv.get hx
    have pT : s.heap.IsTuple a its.toArray := p
    have hel : e < s.heap.objs.size := Heap.lt_size he
    have hil : it < s.heap.objs.size := by obtain ⟨_, q, _⟩ := hit; exact Heap.lt_size q
    have hae : a ≠ it := by
      intro z
      obtain ⟨o1, e1, c1, _⟩ := hit
      obtain ⟨o2, e2, c2, _⟩ := pT
      rw [z] at e2; rw [e1] at e2; cases e2; rw [c1] at c2; injection c2 with q; exact absurd q (by decide)
    have hea : e ∉ [it, a] := by
      intro z
      have z' : e = it ∨ e = a := by simpa using z
      rcases z' with z | z
      · exact hne z
      · obtain ⟨o2, e2, c2, _⟩ := pT
        rw [← z] at e2
        have he' : s.heap.get? e = some _ := he
        rw [he'] at e2; cases e2; injection c2 with q; exact absurd q (by decide)
    have hxl : its.toArray[i]? = some u := by simpa using hu
    have hlt : i < its.toArray.size := (Array.getElem?_eq_some_iff.mp hxl).1
    refine wpAny_pyNext_enum_itemD (Draws.tuple (A := X.A.in1) (I.ok.hd hc) it a hae its.toArray) he ⟨hit, pT⟩ hlt hne hea fun x' h' tk hP ho hst hT hsz hk => ?_
    rw [hxl] at hP
    obtain rfl : u = x' := Option.some.inj hP
    obtain ⟨hit', _⟩ := hst
    refine ⟨_, rfl, wpAny_letOwnedTupleGo_enum (s := { s with heap := h', toks := tk + 1 }) ho fun h'' he' sb => ?_⟩
    have hT2 : h''.get? s.heap.objs.size = some { cls := .type "tuple", data := .seq #[.int i tk, u] } := (sb.2 _ (Nat.ne_of_gt hel)).trans hT
    have new : ObjOk X.prog X.w (upd H s.heap.objs.size (.tup [.int (i : Nat), x])) h'' s.heap.objs.size (.tup [.int (i : Nat), x]) :=
      ⟨by show 2 ≤ sizeLine; decide, [.int i tk, u], .cons ⟨_, rfl⟩ (.cons ru .nil), ⟨_, hT2, rfl, _, rfl⟩⟩
    have I1 : Inv X pins σ (upd H s.heap.objs.size (.tup [.int (i : Nat), x])) { s with heap := h'', toks := tk + 1 } :=
      I.turnedNew (ch := [e, it]) (fun b ob hb q => (sb.2 b (fun z => hb (by simp [z]))).trans (hk b ob (fun z => hb (by simp [z])) (fun z => hb (by simp [z])) q)) hf (Nat.le_refl _) new
    refine ⟨.ref s.heap.objs.size, _, I1, rfl, ⟨_, x, rfl, I.hok.fresh (Nat.le_refl _), rfl, fun ys hy => by rw [I.tuple_inj hy hq]; exact hx⟩, ⟨⟨u, ?_⟩, hit'.at fun o q => (sb.2 it (Ne.symm hne)).trans q, hne⟩, fun b hb => ?_⟩
    · have e1 : ((i + 1 : Nat) : Int) = (i : Int) + 1 := by omega
      rw [e1]; exact he'
    · have hb' : b < s.heap.objs.size := by
        have e' : b = e ∨ b = it := by simpa using hb
        rcases e' with z | z
        · rw [z]; exact hel
        · rw [z]; exact hil
      rw [upd_ne (Nat.ne_of_lt hb')]
      exact (hf b hb).1
  done := by
    intro X hP hw hK hc i pins s σ H E I hf st hg
    subst hP hw hK
    obtain ⟨⟨old, he⟩, hit, hne⟩ := st
    obtain ⟨xs, hq, hx⟩ := hg
    obtain ⟨its, rv, p, hz⟩ := I.tuple hq
    have pT : s.heap.IsTuple a its.toArray := p
    obtain ⟨f0, f1, f2, f3, f4, f5⟩ := hf it (by simp)
    have hl := rv.length
    have hae : a ≠ it := by
      intro z
      obtain ⟨o1, e1, c1, _⟩ := hit
      obtain ⟨o2, e2, c2, _⟩ := pT
      rw [z] at e2; rw [e1] at e2; cases e2; rw [c1] at c2; injection c2 with q; exact absurd q (by decide)
    have hsz : its.toArray.size = i := by simp; omega
    exact wpAny_pyNext_enum_endD (Draws.tuple (A := X.A.in1) (I.ok.hd hc) it a hae its.toArray) he (by rw [hsz]; exact ⟨hit, pT⟩) fun h' eb => ⟨rfl, I.turned (t' := s.toks) (fun b o hb q => eb b o hb q) f0 f1 f3 f4 f5⟩
  self := fun A i s Q E st h => let ⟨⟨_, he⟩, _⟩ := st; wpAny_pyIter_enum he h
def iEnumT (K : PySem.W.Frag) (ta : TA) : TI := fun σ H R => ta σ H fun vs H1 => ∃ a xs, vs = [.ref a] ∧ SqT K H1 a xs ∧ R (Itet K a) H1
theorem enumT_run {X : Cx} {pins : List (Addr × Obj)} {σ : L2.St} {H : Hp} {s : Shared} {a : Addr} {xs : List V} {Q : Value → Shared → Prop} {E : Value → Shared → Prop} {A : Around} (I : Inv X pins σ H s) (hq : SqT X.K H a xs)
    (h : ∀ h', Inv X pins σ H { s with heap := h' } → EnumT a (s.heap.objs.size + 1) s.heap.objs.size 0 h' → (∀ b, b = s.heap.objs.size + 1 ∨ b = s.heap.objs.size → FpOk X pins H b) → Q (.ref (s.heap.objs.size + 1)) { s with heap := h' }) :
    wpAny (model X.prog X.w) A (call (.type "enumerate") [.ref a]) (fun v s1 => wpAny (model X.prog X.w) A (pyIter v) Q E s1) E s := by
  obtain ⟨its, rv, p', hz⟩ := I.tuple hq
  refine call_enumerate_tuple (show s.heap.IsTuple a its.toArray from p') fun h' he hit hsz hk => wpAny_pyIter_enum he ?_
  refine h h' (I.kept (t' := s.toks) hk) ⟨⟨.none, he⟩, hit, Nat.succ_ne_self _⟩ fun b hb => ?_
  have hle : s.heap.objs.size ≤ b := by
    rcases hb with z | z
    · rw [z]; exact Nat.le_add_right _ _
    · rw [z]; exact Nat.le_refl _
  exact I.fpOk hle (I.hok.fresh hle)
theorem pi_enumT {X : Cx} {e : Expr} {ta : TA} {p pos tpos : Pos} {elts : List Expr} {kk : Nat} (hg : Gl X "enumerate") (hm : X.mg "enumerate" = none) (ha : PA X [e] ta) (hs : starEach [e] X.env = [(false, eval e X.env)] := by rfl) :
    PI X (.Tuple elts kk tpos) (.Call (.Name "enumerate" p) [e] [] pos) (iEnumT X.K ta) := by
  refine ⟨fun pins s σ H R I h => ?_⟩
  refine Call_ (ld_blt I hg hm boot_enumerate (PyProof.Rows.callWith_type1 (thn (ha.run pos pins s σ H _ I h) fun us s1 ⟨vs, H1, I1, r1, q1⟩ => ?_) hs rfl))
  obtain ⟨a, xs, ex, hq, q⟩ := q1
  subst ex
  cases r1 with
  | cons r rr =>
    cases rr
    cases r
    refine enumT_run I1 hq fun h' I2 st hf => ?_
    exact ⟨s1.heap.objs.size + 1, [s1.heap.objs.size + 1, s1.heap.objs.size], _, _, H1, rfl, I2, turn_enumT a (s1.heap.objs.size + 1) s1.heap.objs.size, st, fun b hb => hf b (by simpa using hb), q⟩
theorem walk_enumT {K : PySem.W.Frag} {a : Addr} {xs : List V} : Walk (Itet K a) xs.length (fun H => SqT K H a xs) (YPair (fun i => some (.int (i : Nat))) (fun i => xs[i]?)) := by
  refine ⟨fun i _ hi q => ⟨xs, xs[i], q, by simp [hi]⟩, fun _ q => ⟨xs, q, rfl⟩, fun i H v H' _ q y => ?_⟩
  obtain ⟨T, x, h1, h2, h3, h4⟩ := y
  exact ⟨T, .int (i : Nat), x, h1, h2, h3, rfl, h4 xs q⟩
end Td
end

section
set_option maxHeartbeats 1000000
/-! TdGen: a generator's own frame, made anew at each waking; what a waking changes. -/
namespace Td
open PySem PySem.Spec PyProof.Rows L2

/-- the heap as far as L -/
def cutH (h : Heap) (L : Nat) : Heap := { h with objs := h.objs.extract 0 L }
theorem cutH_lt {h : Heap} {L b : Nat} (hb : b < L) : (cutH h L).get? b = h.get? b := by
  have e : (h.objs.extract 0 L)[b]? = h.objs[b]? := by
    rw [Array.getElem?_extract]
    by_cases hs : b < h.objs.size
    · rw [if_pos (by omega)]; simp
    · rw [if_neg (by omega)]
      exact (Array.getElem?_eq_none_iff.mpr (by omega)).symm
  have e' : (cutH h L).objs[b]? = h.objs[b]? := e
  unfold Heap.get?
  rw [e']
theorem cutH_size {h : Heap} {L : Nat} : (cutH h L).objs.size ≤ L := by
  show (h.objs.extract 0 L).size ≤ L
  rw [Array.size_extract]; omega
theorem cutH_of {h : Heap} {L b : Nat} {o : Obj} (e : (cutH h L).get? b = some o) : b < L ∧ h.get? b = some o := by
  have h1 : b < L := Nat.lt_of_lt_of_le (Heap.lt_size e) cutH_size
  exact ⟨h1, by rw [← cutH_lt h1]; exact e⟩

/-- the constants of a generator def -/
structure GD where
  P : Program
  w : World
  K : PySem.W.Frag
  mg : Str → Option Value
  base : Heap
  N : List Str
  qual : Str
  scope : Scope
  f : Addr
  cd : Value
abbrev GD.env (G : GD) (L : Addr) : Env := envOfC G.qual G.scope L G.f G.cd
abbrev GD.M (G : GD) : Model := model G.P G.w
structure GD.Ok (G : GD) : Prop where
  mod : Mod G.K G.mg G.base
  kind : G.scope.kind = .function
  nocell : ∀ n, cellsFrom n G.scope.names [] = []
  noc : ∀ y, G.scope.names.lookup y ≠ some .cell ∧ G.scope.names.lookup y ≠ some .free
/-- what the waker brings -/
structure OutOk (G : GD) (L : Nat) (Hg : Hp) (A : Around) (outer : List Env) (s : Shared) : Prop where
  frames : A.frames = some outer
  bs : ∀ b o, G.base.get? b = some o → s.heap.get? b = some o
  bsz : G.base.objs.size ≤ L
  sz : L ≤ s.heap.objs.size
  funs : s.heap.FunFrames G.base outer
  frlo : ∀ b ∈ frs outer, b < L
  tups : ∀ b xs, Hg b = some (.tup xs) → b < L ∧ xs.length ≤ sizeLine ∧ ∃ its, Vals xs its ∧ IsTup s.heap b its.toArray
  only : ∀ b o, Hg b = some o → ∃ xs, o = .tup xs
  hgb : ∀ b o, G.base.get? b = some o → Hg b = none
  hgf : ∀ b ∈ frs outer, Hg b = none
/-- the known tuples and all that stands beyond the frame, but for own: frozen -/
def frzH (Hg : Hp) (h : Heap) (own : List Addr) (L : Nat) : Hp := fun b => match h.get? b with
  | some o => match Hg b with
    | some u => some (.frz o u)
    | none => if L < b ∧ b ∉ own then some (.frz o (.own b)) else none
  | none => none
theorem frzH_none {Hg : Hp} {h : Heap} {own : List Addr} {L : Nat} {b : Addr} (e : Hg b = none) (n : ¬ (L < b ∧ b ∉ own)) : frzH Hg h own L b = none := by
  unfold frzH
  split
  · rw [e]; exact if_neg n
  · rfl
theorem frzH_of {Hg : Hp} {h : Heap} {own : List Addr} {L : Nat} {b : Addr} {u : HO} (e : frzH Hg h own L b = some u) : ∃ v o, (Hg b = some v ∨ v = .own b) ∧ h.get? b = some o ∧ u = .frz o v := by
  unfold frzH at e
  split at e
  · rename_i o ho
    split at e
    · rename_i v hv
      exact ⟨v, o, .inl hv, ho, (Option.some.inj e).symm⟩
    · split at e
      · exact ⟨_, o, .inr rfl, ho, (Option.some.inj e).symm⟩
      · cases e
  · cases e
theorem frzH_some {Hg : Hp} {h : Heap} {own : List Addr} {L : Nat} {b : Addr} {u : HO} {o : Obj} (e : Hg b = some u) (eo : h.get? b = some o) : frzH Hg h own L b = some (.frz o u) := by
  unfold frzH; rw [eo, e]
theorem frzH_out {Hg : Hp} {h : Heap} {own : List Addr} {L : Nat} {b : Addr} {o : Obj} (e : Hg b = none) (eo : h.get? b = some o) (h1 : L < b) (h2 : b ∉ own) : frzH Hg h own L b = some (.frz o (.own b)) := by
  unfold frzH; rw [eo, e]; exact if_pos ⟨h1, h2⟩
/-- the names of the generator's frame -/
def FrameAt (G : GD) (L : Addr) (σ : L2.St) (h : Heap) : Prop :=
  (∃ m, h.Ns L m ∧ ∀ (i : Nat) (x : Str) (v : V), G.N[i]? = some x → σ[i]? = some (some v) → Vis G.scope x → ∃ u, RelV v u ∧ Look (G.env L) h m x u) ∧ σ.length = G.N.length
/-- the context of a stretch -/
def segX (G : GD) (L : Addr) (Hg : Hp) (own : List Addr) (A : Around) (outer : List Env) (s : Shared) : Cx where
  prog := G.P
  w := G.w
  K := G.K
  mg := G.mg
  base := G.base
  A := A
  N := G.N
  s_0 := { s with heap := cutH s.heap L }
  H_0 := frzH Hg s.heap own L
  env := G.env L
  outer := outer
  stack := G.env L :: outer
  ex := []
  fn := fun _ => true
  calm := true
  pn := []
  xe := F0
section
variable {G : GD} {L : Addr} {Hg : Hp} {A : Around} {outer : List Env} {s : Shared} {σ : L2.St} {own : List Addr}
theorem seg_ok (g : G.Ok) {A' : Around} (hh : A'.handled = none) (hf : A'.frames = some (G.env L :: outer)) (O : OutOk G L Hg A outer s) : (segX G L Hg own A' outer s).Ok where
  mod := g.mod
  kind := g.kind
  glob := rfl
  blt := rfl
  above := cutH_size
  inj := fun x y c h1 _ => by
    have e : (G.env L).cells = [] := g.nocell _
    have h1' : (G.env L).cells.lookup x = some c := h1
    rw [e] at h1'; cases h1'
  has := fun y hy => by
    have hy' : G.scope.names.lookup y = some .cell ∨ G.scope.names.lookup y = some .free := hy
    exact absurd hy' (by rintro (z | z); exact (g.noc y).1 z; exact (g.noc y).2 z)
  cab := fun x c _ h1 => by
    have e : (G.env L).cells = [] := g.nocell _
    have h1' : (G.env L).cells.lookup x = some c := h1
    rw [e] at h1'; cases h1'
  hd := fun _ => hh
  frames := hf
  stk := .inr ⟨rfl, rfl⟩
  exf := fun b hb => by cases hb
  bs := fun b o e => ⟨(cutH_lt (Nat.lt_of_lt_of_le (Heap.lt_size e) O.bsz)).trans (O.bs b o e), frzH_none (O.hgb b o e) fun z => absurd (Nat.lt_trans z.1 (Nat.lt_of_lt_of_le (Heap.lt_size e) O.bsz)) (Nat.lt_irrefl _)⟩
  bsz := by
    show G.base.objs.size ≤ (s.heap.objs.extract 0 L).size
    rw [Array.size_extract]
    have := O.bsz
    have := O.sz
    omega
  noex := fun _ _ _ hb => by cases hb
  exfs := fun _ hb => by cases hb
  funs := by
    have all : ∀ l : List Env, (∀ b ∈ frs l, b < L) → s.heap.FunFrames G.base l → (cutH s.heap L).FunFrames G.base l := by
      intro l
      induction l with
      | nil => intro _ _; trivial
      | cons env r ih =>
        intro hs hl
        obtain ⟨hk, ⟨L', o, hf, hn, ho, hd⟩, hr⟩ := hl
        have hL : L' < L := hs L' (by unfold frs; rw [List.filterMap_cons, hf]; exact List.mem_cons_self)
        exact ⟨hk, ⟨L', o, hf, hn, (cutH_lt hL).trans ho, hd⟩, ih (fun b hb => hs b (by unfold frs; rw [List.filterMap_cons, hf]; exact List.mem_cons_of_mem _ hb)) hr⟩
    exact all outer O.frlo O.funs
  frf := fun b hb => frzH_none (O.hgf b hb) fun z => absurd (Nat.lt_trans z.1 (O.frlo b hb)) (Nat.lt_irrefl _)
theorem seg_inv (g : G.Ok) {A' : Around} (hh : A'.handled = none) (hf : A'.frames = some (G.env L :: outer)) (O : OutOk G L Hg A outer s) (F : FrameAt G L σ s.heap) :
    Inv (segX G L Hg own A' outer s) [] σ (frzH Hg s.heap own L) (stuck s) where
  ok := seg_ok g hh hf O
  os := rfl
  bare := stuck_bare s
  base := Un.kept fun b o e => (cutH_of e).2
  loc := F.1
  cell := fun x c h1 => by
    have e : (G.env L).cells = [] := g.nocell _
    have h1' : (G.env L).cells.lookup x = some c := h1
    rw [e] at h1'; cases h1'
  free := by
    show frzH Hg s.heap own L L = none
    cases e : Hg L with
    | none => exact frzH_none e fun z => absurd z.1 (Nat.lt_irrefl _)
    | some u =>
      obtain ⟨xs, rfl⟩ := O.only L u e
      exact absurd (O.tups L xs e).1 (Nat.lt_irrefl _)
  freeC := fun x c h1 => by
    have e : (G.env L).cells = [] := g.nocell _
    have h1' : (G.env L).cells.lookup x = some c := h1
    rw [e] at h1'; cases h1'
  pin := fun p hp => by cases (show p ∈ ([] : List (Addr × Obj)) from hp)
  hok := fun b u e => by
    obtain ⟨v, o, h1, h2, rfl⟩ := frzH_of e
    rcases h1 with h1 | rfl
    · obtain ⟨xs, rfl⟩ := O.only b v h1
      obtain ⟨_, h3, its, h4, h5⟩ := O.tups b xs h1
      exact ⟨h2, h3, its, h4, h5⟩
    · exact ⟨h2, o, h2⟩
  len := F.2
/-- the loud sleepers are old ones, or of gw -/
def Loud (gw : List Nat) (s s' : Shared) : Prop := ∀ (n : Nat) x, s'.gens[n]? = some x → x.bare = false → n ∈ gw ∨ s.gens[n]? = some x
theorem Sw.loud {s t' s' : Shared} (w : Sw (sleepers s) t' s') (hb : AllBare t'.gens) : Loud [] s s' := fun n x e hx => by
  cases q : sleepers s n with
  | none =>
    have e1 := (w.other n q).symm.trans e
    have := hb x (Array.mem_of_getElem? e1)
    rw [this] at hx; cases hx
  | some y =>
    have e2 := (w.here n y q).2.1
    rw [e2] at e
    cases e
    unfold sleepers at q
    split at q
    · rename_i z hz
      split at q
      · cases q; exact .inr hz
      · cases q
    · cases q
theorem Sw.gsz {s t' s' : Shared} (w : Sw (sleepers s) t' s') : s'.gens.size = t'.gens.size := w.size
end
end Td
end

section
set_option maxHeartbeats 1000000
/-! TdNext: a generator's next item, over any2. -/
namespace Td
open PySem PySem.Spec PyProof.Rows L2 GenW

/-- a heap that has grown -/
def Onto (h h' : Heap) : Prop := (∀ b o, h.get? b = some o → h'.get? b = some o) ∧ h.objs.size ≤ h'.objs.size
/-- a generator's own object -/
def IsG (h : Heap) (a : Addr) (g : Nat) : Prop :=
  ∃ o nm qn, h.get? a = some o ∧ o.cls = .type "generator" ∧ o.data = .fields #[.int g 0, nm, qn] ∧ (o.slots = #[] ∨ ∃ t, o.slots = #[some (.int 0 t)])
theorem IsG.of {h : Heap} {a : Addr} {g : Nat} (x : h.IsGen a g) : IsG h a g := let ⟨o, nm, qn, e, c, d, sl⟩ := x; ⟨o, nm, qn, e, c, d, .inl sl⟩
theorem IsG.at {h h' : Heap} {a : Addr} {g : Nat} (x : IsG h a g) (k : ∀ o, h.get? a = some o → h'.get? a = some o) : IsG h' a g := let ⟨o, nm, qn, e, r⟩ := x; ⟨o, nm, qn, k _ e, r⟩
theorem IsG.typeIs {s : Shared} {a : Addr} {g : Nat} (x : IsG s.heap a g) : s.TypeIs (.ref a) "generator" := let ⟨o, _, _, e, c, _⟩ := x; ⟨o, e, c⟩
theorem IsG.obj {h : Heap} {a : Addr} {g : Nat} (x : IsG h a g) : ∃ o, h.get? a = some o ∧ (∀ v n, o.data ≠ .seq v n) ∧ ∀ v, o.data ≠ .cell v := by
  obtain ⟨o, nm, qn, e, c, d, _⟩ := x
  exact ⟨o, e, (fun v n q => by rw [d] at q; cases q), fun v q => by rw [d] at q; cases q⟩
section
variable {prog : Program} {w : World} {A : Around} {E : Value → Shared → Prop} {s : Shared}
theorem wpAny_genNumberG {M : Model} {a : Addr} {g : Nat} {Q : Nat → Shared → Prop} (hg : IsG s.heap a g) (h : Q g s) : wpAny M A (Builtin.Generator.genNumber (.ref a)) Q E s := by
  obtain ⟨o, nm, qn, ho, _, hd, hsl⟩ := hg
  unfold Builtin.Generator.genNumber
  refine wpAny_bind (wpAny_load ho ?_)
  rcases hsl with hsl | ⟨t, hsl⟩
  · rw [hsl, hd]
    show wpAny M A (pure ((g : Int).toNat)) Q E s
    rw [Int.toNat_natCast]; exact wpAny_pure h
  · rw [hsl, hd]
    have e0 : ¬ ((0 : Int) > 0) := by decide
    simp only [List.getElem?_toArray, List.getElem?_cons_zero, e0, if_false, pure_bind]
    rw [Int.toNat_natCast]; exact wpAny_pure h
/-- a code that is a builtin's -/
theorem c2_builtin {id : String} {args : Args} {b : Builtin} {R : Result → Shared → Prop} (hb : entryFor table id = some b)
    (h : any2 (model prog w) (A.under (.builtin id args)) (b args) (goOn (model prog w) A R) (fun e s' => R (.error e) s') s) : code2 (model prog w) A (.builtin id args) R s := by
  refine c2_tree ?_
  show any2 _ _ (match entryFor table id with | some b => b args | none => unsupported ((withoutEnding? id "#data").getD id)) _ _ s
  rw [hb]; exact h
theorem a2_callE {f : Value} {vs : List Value} {Q : Value → Shared → Prop} (h : code2 (model prog w) A (.call f ⟨vs, []⟩) (fun r s' => match r with | .ok (.ret v) => Q v s' | .ok _ => False | .error e => E e s') s) : any2 (model prog w) A (call f vs) Q E s := by
  show any2 _ _ (runValue (.call f ⟨vs, []⟩)) Q E s
  unfold runValue
  refine a2_bind (fun Γ p hΓ => ?_)
  obtain ⟨r, s', hr, q⟩ := h (Γ.enter _ none p) p rfl (hΓ.enter _ none p (by intro x; cases x))
  refine ⟨r, s', hr, ?_⟩
  cases r with
  | error e => exact q
  | ok fl =>
    cases fl with
    | ret v => exact fun Γ p hΓ => q
    | next => exact q.elim
    | brk => exact q.elim
    | cont => exact q.elim
/-- the generator's own step, at its builtin -/
theorem a2_genNext {a : Addr} {Q : Value → Shared → Prop} (hg : s.TypeIs (.ref a) "generator")
    (h : any2 (model prog w) A.in1 (Builtin.Generator.genWake (.ref a) (.send .none)) (fun fin s' => ∃ v, fin = .done (.ret v) ∧ Q v s') E s) : any2 (model prog w) A (callSpecial? (.ref a) "__next__") (fun r s' => ∃ v, r = some v ∧ Q v s') E s := by
  have sl : Slot "generator" (Str.ofString "__next__") "generator.__next__" := slot_gen_next
  show any2 _ _ (callSpecial? (.ref a) (Str.ofString "__next__") [] []) _ _ s
  simp only [callSpecial?]
  refine a2_bind (a2_mono (a2_same (a := some (.builtin "generator.__next__")) (fun R hR => wpAny_specialOf (s := stuck s) hg sl.lookup hR) ?_) (fun _ _ x => x) fun _ _ x => x.elim)
  simp only [sl.bind]
  refine a2_holding (a2_bind (a2_pure (a2_bind ?_)))
  refine a2_mono (E := E) (Q := Q) (a2_callE ?_) (fun v s' q => a2_pure ⟨v, rfl, q⟩) fun _ _ x => x
  refine c2_tree ?_
  show any2 _ A.in1 (do checkBuiltinCall "generator.__next__" ⟨[.ref a], []⟩; again (.builtin "generator.__next__" ⟨[.ref a], []⟩)) _ _ s
  refine a2_bind (a2_mono (a2_same (a := ()) (fun R hR => sl.check _ _ _ (stuck s) (.ref a) [] [] R hg (args_gen_next _) hR) ?_) (fun _ _ x => x) fun _ _ x => x.elim)
  refine a2_pure ⟨plainId_quiet sl.plain _, c2_builtin entry_gen_next ?_⟩
  rw [Around.under_plainId sl.plain]
  show any2 _ A.in1 (Builtin.Generator.genWake (.ref a) (.send .none)) _ _ s
  refine a2_mono h (fun fin s' ⟨v, e, q⟩ => ?_) fun _ _ x => x
  subst e
  exact q
/-- how a generator's state is before it is woken -/
def Awake (gs : GenState) : Prop := (∃ c, gs = .fresh c) ∨ ∃ k l c p fs cl, gs = .suspended k l c p fs cl
theorem a2_genState {M : Model} {g : Nat} {gs : GenState} {Q : GenStatus → Shared → Prop} (hgs : s.gens[g]? = some gs) (q : Q gs.seen.1 s) : any2 M A (genState g) Q E s := fun _ _ _ => ⟨gs, hgs, q⟩
theorem a2_resume {M : Model} {α : Type} {g : Nat} {r : Resume} {k : GenResult → Sem α} {Q : α → Shared → Prop} (h : ∀ (Γ : PySem.Ctx) p, Γ.In A → ∃ res s', Wake2 M Γ p g r s res s' ∧ any2 M A (k res) Q E s') : any2 M A (resume g r >>= k) Q E s := fun Γ p hΓ => by
  obtain ⟨res, s', hw, hk⟩ := h Γ p hΓ
  exact ⟨res, s', hw, hk Γ p hΓ⟩
/-- the exception at a generator's end -/
theorem a2_stop {Q : Unit → Shared → Prop} (hh : A.handled = none) (h : ∀ e h' tk, StopX e h' → Onto s.heap h' → E e { s with heap := h', toks := tk }) :
    any2 (model prog w) A (newExc (.type "StopIteration") [] >>= fun e => (raiseNew e : Sem Unit)) Q E s := by
  have w0 : wpAny (model prog w) A (newExc (.type "StopIteration") [] >>= fun e => (raiseNew e : Sem Unit)) (fun _ _ => False) (fun e t => ∃ h' tk, StopX e h' ∧ Onto s.heap h' ∧ t = { stuck s with heap := h', toks := tk }) (stuck s) := by
    refine wpAny_bind ?_
    simp only [newExc, newTuple]
    refine wpAny_bind (wpAny_newObj_type ?_ (by size_fits))
    refine wpAny_bind (m := firstArgMember _ _) (wpAny_of_eq (a := Value.none) (by first | rfl | (simp only [firstArgMember]; rfl)) ?_)
    refine wpAny_newObj_type ?_ (by size_fits)
    simp only [raiseNew]
    refine wpAny_bind (wpAny_handled ?_)
    rw [hh]
    refine wpAny_bind (wpAny_pure (wpAny_throw ?_))
    refine ⟨_, _, ⟨_, _, _, rfl, Heap.get?_push_size _ rfl, rfl, rfl, ?_⟩, ⟨fun b o e => Heap.get?_push_of_some _ (Heap.get?_push_of_some _ e), by rw [Heap.size_push, Heap.size_push]; exact Nat.le_trans (Nat.le_succ _) (Nat.le_succ _)⟩, rfl⟩
    first
      | rfl
      | (rw [Array.getElem?_append_left (by decide)]; rfl)
      | kernel_rfl
  refine a2_mono (a2_of w0) (fun _ _ ⟨_, _, z⟩ => z.elim) fun e s' ⟨t', wsw, h', tk, hS, hk, et⟩ => ?_
  subst et
  have e1 : s' = { s with heap := h', toks := tk } := by
    have w2 : Sw (sleepers { s with heap := h', toks := tk }) (stuck { s with heap := h', toks := tk }) s' := wsw
    exact sw_self w2
  rw [e1]
  exact h e h' tk hS hk
theorem a2_stopThen {α : Type} {f : Unit → Sem α} {Q : α → Shared → Prop} (hh : A.handled = none) (h : ∀ e h' tk, StopX e h' → Onto s.heap h' → E e { s with heap := h', toks := tk }) :
    any2 (model prog w) A (newExc (.type "StopIteration") [] >>= fun e => (raiseNew e : Sem Unit) >>= f) Q E s := by
  rw [← bind_assoc]
  exact a2_bind (a2_mono (a2_stop (Q := fun _ _ => False) hh h) (fun _ _ z => z.elim) fun _ _ z => z)
theorem a2_genWake {a : Addr} {g : Nat} {gs : GenState} {Q : PySem.Fin → Shared → Prop} (hh : A.handled = none) (hl : s.heap.NoLimit) (hroom : A.depth < recursionLimit) (hg : IsG s.heap a g) (hgs : s.gens[g]? = some gs) (ha : Awake gs)
    (hw : ∀ (Γ : PySem.Ctx) p, Γ.In A → ∃ res s', Wake2 (model prog w) Γ p g (.send .none) s res s' ∧ ((∃ v, res = .yielded v ∧ Q (.done (.ret v)) s') ∨
      (res = .returned .none ∧ ∀ e h' tk, StopX e h' → Onto s'.heap h' → E e { s' with heap := h', toks := tk }))) : any2 (model prog w) A (Builtin.Generator.genWake (.ref a) (.send .none)) Q E s := by
  unfold Builtin.Generator.genWake
  refine a2_bind (a2_holding (a2_mono (a2_same (a := g) (fun R hR => wpAny_genNumberG (s := stuck s) hg hR) ?_) (fun _ _ x => x) fun _ _ x => x.elim))
  refine a2_bind (a2_genState hgs ?_)
  have room : ∀ {R : Unit → Shared → Prop}, R () s → any2 (model prog w) A roomToWake R E s := fun hR => a2_mono (a2_same (a := ()) (fun R' hR' => wpAny_roomToWake (s := stuck s) hl hroom hR') hR) (fun _ _ x => x) fun _ _ x => x.elim
  have fin : ∀ (res : GenResult) s', ((∃ v, res = .yielded v ∧ Q (.done (.ret v)) s') ∨ (res = .returned .none ∧ ∀ e h' tk, StopX e h' → Onto s'.heap h' → E e { s' with heap := h', toks := tk })) →
      any2 (model prog w) A (match res with
        | .yielded v => ret v
        | .returned v => do
          if v == .none then raiseNew (← newExc (.type "StopIteration") [])
          rule "generator.return-value"; throw (← newExc (.type "StopIteration") [v])
        | _ => throw .none) Q E s' := by
    intro res s' hr
    rcases hr with ⟨v, rfl, q⟩ | ⟨rfl, q⟩
    · exact a2_pure q
    · exact a2_stopThen hh q
  rcases ha with ⟨c, rfl⟩ | ⟨k, l, c, p, fs, cl, rfl⟩
  all_goals
    refine a2_bind (room (a2_resume fun Γ p hΓ => ?_))
    obtain ⟨res, s', hwk, hr⟩ := hw Γ p hΓ
    refine ⟨res, s', hwk, ?_⟩
    have hf := fin res s' hr
    rcases hr with ⟨v, rfl, q⟩ | ⟨rfl, q⟩
    · exact hf
    · exact hf
/-- the next item, or the end -/
theorem a2_special {a : Addr} {g : Nat} {gs : GenState} {Q : Option Value → Shared → Prop} (hh : A.handled = none) (hl : s.heap.NoLimit) (hroom : A.depth < recursionLimit) (hg : IsG s.heap a g) (hgs : s.gens[g]? = some gs) (ha : Awake gs)
    (hw : ∀ (Γ : PySem.Ctx) p, Γ.In A.in1 → ∃ res s', Wake2 (model prog w) Γ p g (.send .none) s res s' ∧ ((∃ v, res = .yielded v ∧ Q (some v) s') ∨
      (res = .returned .none ∧ ∀ e h' tk, StopX e h' → Onto s'.heap h' → E e { s' with heap := h', toks := tk }))) : any2 (model prog w) A (callSpecial? (.ref a) "__next__") Q E s := by
  refine a2_mono (a2_genNext (Q := fun v s' => Q (some v) s') hg.typeIs (a2_genWake (A := A.in1) hh hl hroom hg hgs ha fun Γ p hΓ => ?_)) (fun r s' ⟨v, e, q⟩ => by subst e; exact q) fun _ _ x => x
  obtain ⟨res, s', h1, h2⟩ := hw Γ p hΓ
  refine ⟨res, s', h1, ?_⟩
  rcases h2 with ⟨v, e, q⟩ | h2
  · exact .inl ⟨v, e, v, rfl, q⟩
  · exact .inr h2
theorem a2_isStop {e : Value} {Q : Bool → Shared → Prop} (hS : StopX e s.heap) (q : Q true s) : any2 (model prog w) A (isInstance e (.type "StopIteration")) Q F0 s := by
  obtain ⟨a, o, vs, rfl, ho, hc, _⟩ := hS
  exact a2_same (fun R hR => wpAny_isInstance (s := stuck s) (T := "StopIteration") (b := true) ⟨o, ho, hc⟩ isSubtype_stop hR) q
theorem a2_pyNext {a : Addr} {g : Nat} {gs : GenState} {Q : Option Value → Shared → Prop} (hh : A.handled = none) (hl : s.heap.NoLimit) (hroom : A.depth < recursionLimit) (hg : IsG s.heap a g) (hgs : s.gens[g]? = some gs) (ha : Awake gs)
    (hw : ∀ (Γ : PySem.Ctx) p, Γ.In A.in1 → ∃ res s', Wake2 (model prog w) Γ p g (.send .none) s res s' ∧ ((∃ v, res = .yielded v ∧ Q (some v) s') ∨
      (res = .returned .none ∧ ∀ h' tk, Onto s'.heap h' → Q none { s' with heap := h', toks := tk }))) : any2 (model prog w) A (pyNext (.ref a)) Q F0 s := by
  unfold pyNext
  refine a2_bind (a2_attempt (a2_special hh hl hroom hg hgs ha fun Γ p hΓ => ?_))
  obtain ⟨res, s', h1, h2⟩ := hw Γ p hΓ
  refine ⟨res, s', h1, ?_⟩
  rcases h2 with ⟨v, e, q⟩ | ⟨e, q⟩
  · exact .inl ⟨v, e, a2_pure q⟩
  · refine .inr ⟨e, fun x h' tk hS hk => ?_⟩
    exact a2_bind (a2_isStop (s := { s' with heap := h', toks := tk }) hS (a2_pure (q h' tk hk)))
end
end Td
end

section
set_option maxHeartbeats 1000000
/-! TdYf: «yield from» over a generator, as a stretch. -/
namespace Td
open PySem PySem.Spec PyProof.Rows L2 GenW

/-- a generator's own object while another sleeps over it -/
def IsG1 (h : Heap) (a : Addr) (g : Nat) : Prop :=
  ∃ o nm qn t, h.get? a = some o ∧ o.cls = .type "generator" ∧ o.data = .fields #[.int g 0, nm, qn] ∧ o.slots = #[some (.int 1 t)]
theorem IsG1.at {h h' : Heap} {a : Addr} {g : Nat} (x : IsG1 h a g) (k : ∀ o, h.get? a = some o → h'.get? a = some o) : IsG1 h' a g := let ⟨o, nm, qn, t, e, r⟩ := x; ⟨o, nm, qn, t, k _ e, r⟩
theorem IsG1.obj {h : Heap} {a : Addr} {g : Nat} (x : IsG1 h a g) : ∃ o, h.get? a = some o ∧ (∀ v n, o.data ≠ .seq v n) ∧ ∀ v, o.data ≠ .cell v := by
  obtain ⟨o, nm, qn, t, e, c, d, _⟩ := x
  exact ⟨o, e, (fun v n q => by rw [d] at q; cases q), fun v q => by rw [d] at q; cases q⟩
theorem IsG1.num {h : Heap} {a : Addr} {g : Nat} (x : IsG1 h a g) : ∃ o n, h.get? a = some o ∧ o.genNumber? = some n := by
  obtain ⟨o, nm, qn, t, e, c, d, _⟩ := x
  refine ⟨o, g, e, ?_⟩
  obtain ⟨cl, dc, dt, sl⟩ := o
  have c' : cl = .type "generator" := c
  have d' : dt = .fields #[.int g 0, nm, qn] := d
  subst c' d'
  first
    | rfl
    | (simp [Obj.genNumber?])
abbrev yfCode (a : Addr) : Code := .builtin "proto.yield_from" ⟨[.ref a, .bool false, .none], []⟩
theorem close_gen : ∃ f, typeLookup (.type "generator") "close" = pure (some f) := by
  refine ⟨.builtin "generator.close", ?_⟩
  rw [typeLookup_type, builtinLookup_eq_fast]; kernel_rfl
section
variable {prog : Program} {w : World} {A : Around} {E : Value → Shared → Prop} {s : Shared}
theorem den_yf2 {it : Value} : (model prog w).den (.builtin "proto.yield_from" ⟨[it, .bool false, .none], []⟩) = Builtin.«proto.yield_from» ⟨[it, .bool false, .none], []⟩ := by
  show (match entryFor table "proto.yield_from" with | some b => b ⟨[it, .bool false, .none], []⟩ | none => unsupported ((withoutEnding? "proto.yield_from" "#data").getD "proto.yield_from")) = _
  rw [entry_yf]
def slotF (n : Int) (o : Obj) : Obj := { o with slots := (o.slots ++ Array.replicate (0 + 1 - o.slots.size) none).setIfInBounds 0 (some (rawInt n)) }
theorem slotF_free {n : Int} {o : Obj} {vs : Array Value} (hd : o.data = .fields vs) : (slotF n o).isFreed = false := Obj.isFreed_of_fields (o := slotF n o) hd
theorem slotF_get {h : Heap} {a : Addr} {n : Int} {o : Obj} {vs : Array Value} (ho : h.get? a = some o) (hd : o.data = .fields vs) : (h.update a (slotF n)).get? a = some (slotF n o) := Heap.get?_update_self _ ho (slotF_free hd)
theorem slotF_slots {n : Int} {o : Obj} (h : o.slots = #[] ∨ ∃ x, o.slots = #[x]) : (slotF n o).slots = #[some (.int n 0)] := by
  show (o.slots ++ Array.replicate (0 + 1 - o.slots.size) none).setIfInBounds 0 (some (rawInt n)) = _
  rcases h with z | ⟨x, z⟩ <;> rw [z] <;> rfl
theorem a2_sleptOn {M : Model} {a : Addr} {g : Nat} {Q : Unit → Shared → Prop} (hg : IsG s.heap a g) (h : ∀ h1, IsG1 h1 a g → (∀ b o, b ≠ a → s.heap.get? b = some o → h1.get? b = some o) → h1.objs.size = s.heap.objs.size → Q () { s with heap := h1 }) :
    any2 M A (Builtin.Generator.sleptOver (.ref a) true) Q E s := by
  obtain ⟨o, nm, qn, ho, hc, hd, hsl⟩ := hg
  have hne : ¬ ((Value.type "generator" != Value.type "generator") = true) := by decide
  have upd1 : Q () { s with heap := s.heap.update a (slotF 1) } :=
    h _ ⟨_, nm, qn, 0, slotF_get ho hd, hc, hd, slotF_slots (hsl.elim .inl fun ⟨t, z⟩ => .inr ⟨_, z⟩)⟩ (fun b ob hb eb => (Heap.get?_update_other _ _ (Ne.symm hb)).trans eb) (Array.size_modify ..)
  intro Γ p hΓ
  unfold Builtin.Generator.sleptOver
  refine ⟨o, ho, ?_⟩
  show wp2 M Γ (if (o.cls != Value.type "generator") = true then _ else _) _ _ p s
  rw [hc, if_neg hne]
  rcases hsl with z | ⟨t, z⟩
  · rw [z]
    exact ⟨by rw [ho]; rfl, upd1⟩
  · rw [z]
    exact ⟨by rw [ho]; rfl, upd1⟩
theorem a2_sleptOff {M : Model} {a : Addr} {g : Nat} {Q : Unit → Shared → Prop} (hg : IsG1 s.heap a g) (h : ∀ h1, IsG h1 a g → (∀ b o, b ≠ a → s.heap.get? b = some o → h1.get? b = some o) → h1.objs.size = s.heap.objs.size → Q () { s with heap := h1 }) :
    any2 M A (Builtin.Generator.sleptOver (.ref a) false) Q E s := by
  obtain ⟨o, nm, qn, t, ho, hc, hd, hsl⟩ := hg
  have hne : ¬ ((Value.type "generator" != Value.type "generator") = true) := by decide
  have upd1 : Q () { s with heap := s.heap.update a (slotF 0) } :=
    h _ ⟨_, nm, qn, slotF_get ho hd, hc, hd, .inr ⟨0, slotF_slots (.inr ⟨_, hsl⟩)⟩⟩ (fun b ob hb eb => (Heap.get?_update_other _ _ (Ne.symm hb)).trans eb) (Array.size_modify ..)
  intro Γ p hΓ
  unfold Builtin.Generator.sleptOver
  refine ⟨o, ho, ?_⟩
  show wp2 M Γ (if (o.cls != Value.type "generator") = true then _ else _) _ _ p s
  rw [hc, if_neg hne, hsl]
  exact ⟨by rw [ho]; rfl, upd1⟩
theorem g_yf {Φ : End → Shared → Prop} {fs : List Frame} {a : Addr} {g : Nat} {gs : GenState} (hsp : splitAtGen fs = none) (hh : (A.over (yfCode a) fs).handled = none) (hl : s.heap.NoLimit) (hroom : (A.over (yfCode a) fs).depth < recursionLimit)
    (hg : IsG s.heap a g) (hgs : s.gens[g]? = some gs) (ha : Awake gs)
    (hw : ∀ (Γ : PySem.Ctx) p, Γ.In (A.over (yfCode a) fs).in1 → ∃ res s', Wake2 (model prog w) Γ p g (.send .none) s res s' ∧
      ((∃ v, res = .yielded v ∧ IsG s'.heap a g ∧ ∀ (kk : Resume → Sem PySem.Fin) l p h1, IsG1 h1 a g → (∀ b o, b ≠ a → s'.heap.get? b = some o → h1.get? b = some o) → h1.objs.size = s'.heap.objs.size →
          (∀ A' Ψ (s3 : Shared), IsG1 s3.heap a g → (∀ h3, IsG h3 a g → (∀ b o, b ≠ a → s3.heap.get? b = some o → h3.get? b = some o) → h3.objs.size = s3.heap.objs.size → Seg2 (model prog w) A' Ψ (yfCode a) ((model prog w).den (yfCode a)) fs { s3 with heap := h3 }) →
            Seg2 (model prog w) A' Ψ (yfCode a) (kk (.send .none)) fs s3) →
          Φ (.susp v true l kk (yfCode a) p fs) { s' with heap := h1 }) ∨
       (res = .returned .none ∧ ∀ h' tk, Onto s'.heap h' → Seg2 (model prog w) A Φ (yfCode a) (.pure (.done (.ret .none))) fs { s' with heap := h', toks := tk }))) :
    Seg2 (model prog w) A Φ (yfCode a) ((model prog w).den (yfCode a)) fs s := by
  obtain ⟨cf, hcl⟩ := close_gen
  rw [den_yf2]
  unfold Builtin.«proto.yield_from»
  try dsimp only
  refine g_bind (a2_pure ?_)
  try dsimp only
  refine g_bind (a2_attempt (a2_holding ?_))
  rw [if_neg Bool.false_ne_true, if_pos (show (Value.none == Value.none) = true from rfl)]
  refine a2_bind (a2_rule (a2_bind ?_))
  refine a2_special hh hl hroom hg hgs ha fun Γ p hΓ => ?_
  obtain ⟨res, s', h1, h2⟩ := hw Γ p hΓ
  refine ⟨res, s', h1, ?_⟩
  rcases h2 with ⟨v, e, hg', hv⟩ | ⟨e, hq⟩
  · refine .inl ⟨v, e, a2_pure ?_⟩
    try dsimp only
    refine g_bind (a2_same (fun R hR => wpAny_typeOf (s := stuck s') (T := "generator") hg'.typeIs hR) ?_)
    try dsimp only
    first
      | (refine g_bind (a2_of_eq hcl ?_); refine g_bind (a2_pure ?_))
      | refine g_bind (a2_bind (a2_of_eq hcl (a2_pure ?_)))
      | refine g_bind (a2_of_eq hcl ?_)
    try dsimp only
    refine g_bind (a2_sleptOn hg' fun h1 i1 k1 z1 => ?_)
    refine g_yield hsp fun p => ?_
    refine hv _ _ p h1 i1 k1 z1 fun A' Ψ s3 i3 next => ?_
    show Seg2 _ _ _ _ (Builtin.Generator.sleptOver (.ref a) false >>= fun _ => _) fs s3
    refine g_bind (a2_sleptOff i3 fun h3 i4 k3 z3 => ?_)
    try dsimp only
    refine g_bind (a2_pure ?_)
    exact g_again (plainId_quiet plain_yf _) (next h3 i4 k3 z3)
  · refine .inr ⟨e, fun x h' tk hS hk => ?_⟩
    have hS0 := hS
    obtain ⟨ax, o, vs, rfl, hoa, hcls, hdat, h5⟩ := hS
    try dsimp only
    refine g_bind (a2_same (fun R hR => wpAny_endsTurn (s := stuck { s' with heap := h', toks := tk }) hoa hcls hR) ?_)
    try dsimp only
    rw [if_pos rfl]
    first
      | refine g_bind (a2_rule ?_)
      | (rw [if_neg Bool.false_ne_true]; refine g_bind (a2_rule ?_))
      | (rw [if_neg Bool.false_ne_true]; refine g_bind (a2_pure ?_); refine g_bind (a2_rule ?_))
    refine g_bind (a2_same (fun R hR => wpAny_field (s := stuck { s' with heap := h', toks := tk }) hoa hdat h5 hR) ?_)
    exact hq h' tk hk
end
end Td
end

section
set_option maxHeartbeats 1000000
/-! TdGen2: what a generator will hand out (GDo); effects put together. -/
namespace Td
open PySem PySem.Spec PyProof.Rows L2 GenW

/-- what a stretch may change: F the frames whose slots may change -/
structure EffF (L : Nat) (F own : List Addr) (gw : List Nat) (s s' : Shared) : Prop where
  os : s'.os = s.os
  grow : Grow s s'
  keep : ∀ b o, s.heap.get? b = some o → b ∉ own → b ∉ F → s'.heap.get? b = some o
  slot : ∀ b o, s.heap.get? b = some o → b ∈ F → ∃ sl, s'.heap.get? b = some { o with slots := sl }
  gens : ∀ (n : Nat) x, s.gens[n]? = some x → n ∉ gw → isSusp x = true → s'.gens[n]? = some x
def LoudF (gw gw' : List Nat) (s s' : Shared) : Prop := ∀ (n : Nat) x, s'.gens[n]? = some x → x.bare = false → n ∈ gw' ∨ (n ∉ gw ∧ s.gens[n]? = some x)
theorem EffF.refl (L : Nat) (F own : List Addr) (gw : List Nat) (s : Shared) : EffF L F own gw s s := ⟨rfl, Grow.refl s, fun _ _ h _ _ => h, fun b o h _ => ⟨o.slots, h⟩, fun _ _ h _ _ => h⟩
theorem EffF.trans {L L' : Nat} {F F' own own' : List Addr} {gw gw' : List Nat} {s s1 s2 : Shared} (x : EffF L F own gw s s1) (y : EffF L' F' own' gw' s1 s2) (hL : L ≤ L') (hF : ∀ b ∈ F, b ∈ F' ∧ b < L) (hF' : ∀ b ∈ F', b ∈ F ∨ b ∈ own ∨ s.heap.objs.size ≤ b)
    (ho : ∀ b ∈ own', b ∈ own ∨ s.heap.objs.size ≤ b) (hg : ∀ n ∈ gw', n ∈ gw ∨ s.gens.size ≤ n) : EffF L F own gw s s2 where
  os := y.os.trans x.os
  grow := x.grow.trans y.grow
  keep := fun b o e h1 h3 => by
    have e1 := x.keep b o e h1 h3
    refine y.keep b o e1 (fun z => ?_) fun z => ?_
    · rcases ho b z with q | q
      · exact h1 q
      · exact absurd (Heap.lt_size e) (Nat.not_lt.mpr q)
    · rcases hF' b z with q | q | q
      · exact h3 q
      · exact h1 q
      · exact absurd (Heap.lt_size e) (Nat.not_lt.mpr q)
  slot := fun b o e h => by
    obtain ⟨sl, e1⟩ := x.slot b o e h
    obtain ⟨sl', e2⟩ := y.slot b _ e1 (hF b h).1
    exact ⟨sl', e2⟩
  gens := fun n z e h hs => by
    refine y.gens n z (x.gens n z e h hs) (fun q => ?_) hs
    rcases hg n q with r | r
    · exact h r
    · exact absurd (Array.getElem?_eq_some_iff.mp e).1 (Nat.not_lt.mpr r)
theorem LoudF.trans {gw gw1 gw2 : List Nat} {s s1 s2 : Shared} (x : LoudF gw gw1 s s1) (y : LoudF gw1 gw2 s1 s2) : LoudF gw gw2 s s2 := fun n z e h => by
  rcases y n z e h with q | ⟨q1, q2⟩
  · exact .inl q
  · rcases x n z q2 h with r | r
    · exact absurd r q1
    · exact .inr r
theorem LoudF.of_keep {gw : List Nat} {s s' : Shared} (g : GKeep s s') : LoudF gw gw s s' := fun n x e h => by
  by_cases hn : n ∈ gw
  · exact .inl hn
  · exact .inr ⟨hn, g.loud n x e h⟩
section
variable {G : GD} {L : Addr} {Hg : Hp} {A : Around} {outer : List Env} {s : Shared} {σ : L2.St} {own : List Addr}
/-- the effect of a stretch of plain code in the frame -/
theorem seg_eff {A' : Around} {σ' : L2.St} {H' : Hp} {s' : Shared} {pins : List (Addr × Obj)} (O : OutOk G L Hg A outer s) (I : Inv2 (segX G L Hg own A' outer s) pins σ' H' s') (g : GKeep s s') : EffF L (frs outer) (L :: own) [] s s' where
  os := I.os
  grow := g.grow
  keep := fun b o e h1 h3 => by
    have hbL : b ≠ L := fun z => h1 (by rw [z]; exact List.mem_cons_self)
    have hbo : b ∉ own := fun z => h1 (List.mem_cons_of_mem _ z)
    by_cases hb : b < L
    · have e1 : (segX G L Hg own A' outer s).s_0.heap.get? b = some o := (cutH_lt hb).trans e
      cases q : Hg b with
      | none => exact I.base.keep b o e1 (frzH_none q fun z => absurd (Nat.lt_trans z.1 hb) (Nat.lt_irrefl _)) h3 (by intro z; cases z)
      | some u =>
        have q1 : (segX G L Hg own A' outer s).H_0 b = some (.frz o u) := frzH_some q e
        exact (I.hok b _ (I.base.frzs b o u q1)).1
    · have hb' : L < b := by
        rcases Nat.lt_or_ge L b with z | z
        · exact z
        · exact absurd (Nat.le_antisymm z (Nat.not_lt.mp hb)) hbL
      have hn : Hg b = none := by
        cases q : Hg b with
        | none => rfl
        | some u =>
          obtain ⟨xs, rfl⟩ := O.only b u q
          exact absurd (O.tups b xs q).1 hb
      have q1 : (segX G L Hg own A' outer s).H_0 b = some (.frz o (.own b)) := frzH_out hn e hb' hbo
      exact (I.hok b _ (I.base.frzs b o _ q1)).1
  slot := fun b o e h => by
    have hb := O.frlo b h
    exact I.base.slot b o ((cutH_lt hb).trans e) (frzH_none (O.hgf b h) fun z => absurd (Nat.lt_trans z.1 hb) (Nat.lt_irrefl _)) h (by intro z; cases z)
  gens := fun n x e _ hs => g.keep n x e hs
end

/-! ### what a generator will hand out -/
section
variable (G : GD) {R : Type} (rel : R → Heap → Value → Prop) (ND : List Addr → Prop) (L : Addr) (Hg : Hp) (k : Nat) (g : Nat)
def OwnOk (own : List Addr) (s : Shared) : Prop := ∀ b ∈ own, L ≤ b ∧ ∃ o, s.heap.get? b = some o ∧ (∀ v n, o.data ≠ .seq v n) ∧ ∀ v, o.data ≠ .cell v
def NdOk (nd : List Addr) (s : Shared) : Prop := ∀ b ∈ nd, L ≤ b ∧ ∃ o, s.heap.get? b = some o ∧ o.cls = .type "tuple" ∧ ∃ v n, o.data = .seq v n
structure GPre (own nd : List Addr) (gw : List Nat) (s : Shared) : Prop where
  ownOk : OwnOk L own s
  ndOk : NdOk L nd s
  NDok : ND nd
  gin : g ∈ gw
  awake : ∃ gs, s.gens[g]? = some gs ∧ Awake gs
  lt : ∀ n ∈ gw, n < s.gens.size
/-- later, nothing that it needs is changed -/
structure Fut (own nd : List Addr) (gw : List Nat) (s s2 : Shared) : Prop where
  grow : Grow s s2
  ownK : ∀ b ∈ own, ∀ o, s.heap.get? b = some o → s2.heap.get? b = some o
  ndK : ∀ b ∈ nd, ∀ o, s.heap.get? b = some o → s2.heap.get? b = some o
  gens : ∀ n ∈ gw, ∀ x, s.gens[n]? = some x → s2.gens[n]? = some x
/-- at a yield -/
structure GOut (v : Value) (own nd : List Addr) (gw : List Nat) (own' nd' : List Addr) (gw' : List Nat) (s2 s' : Shared) : Prop where
  vnew : ∀ T, v = .ref T → s2.heap.objs.size ≤ T
  loud : LoudF gw gw' s2 s'
  ownN : ∀ b ∈ own', b ∈ own ∨ s2.heap.objs.size ≤ b
  gens : ∀ n ∈ gw', n ∈ gw ∨ s2.gens.size ≤ n
  susp : ∀ n ∈ gw', ∃ x, s'.gens[n]? = some x ∧ isSusp x = true
def GDo : List R → List Addr → List Addr → List Nat → Shared → Prop
  | [], own, nd, gw, s => GPre ND L g own nd gw s ∧ ∀ A outer (Γ : PySem.Ctx) p s2, Γ.In A → Room k A → OutOk G L Hg A outer s2 → Fut own nd gw s s2 →
      ∃ s', Wake2 G.M Γ p g (.send .none) s2 (.returned .none) s' ∧ EffF L (frs outer) own gw s2 s' ∧ LoudF gw [] s2 s'
  | r :: rs, own, nd, gw, s => GPre ND L g own nd gw s ∧ ∀ A outer (Γ : PySem.Ctx) p s2, Γ.In A → Room k A → OutOk G L Hg A outer s2 → Fut own nd gw s s2 →
      ∃ v s' own' nd' gw', Wake2 G.M Γ p g (.send .none) s2 (.yielded v) s' ∧ EffF L (frs outer) own gw s2 s' ∧ GOut v own nd gw own' nd' gw' s2 s' ∧ rel r s'.heap v ∧ GDo rs own' nd' gw' s'
/-- where a woken stretch ends -/
def SegTo (rs : List R) (F own nd : List Addr) (gw : List Nat) (s2 : Shared) (e : End) (s1 : Shared) : Prop :=
  EndOk e s1 ∧ EffF L F own gw s2 (s1.setGen g e.genState) ∧ match rs with
  | [] => e.result = .returned .none ∧ LoudF gw [] s2 (s1.setGen g e.genState)
  | r :: rs => ∃ v own' nd' gw', e.result = .yielded v ∧ GOut v own nd gw own' nd' gw' s2 (s1.setGen g e.genState) ∧ rel r s1.heap v ∧ GDo G rel ND L Hg k g rs own' nd' gw' (s1.setGen g e.genState)
end
section
variable {G : GD} {R : Type} {rel : R → Heap → Value → Prop} {ND : List Addr → Prop} {L : Addr} {Hg : Hp} {k : Nat} {g : Nat}
theorem GDo.pre : ∀ {rs : List R} {own nd : List Addr} {gw : List Nat} {s : Shared}, GDo G rel ND L Hg k g rs own nd gw s → GPre ND L g own nd gw s
  | [], _, _, _, _, h => h.1
  | _ :: _, _, _, _, _, h => h.1
theorem Fut.refl (own nd : List Addr) (gw : List Nat) (s : Shared) : Fut own nd gw s s := ⟨Grow.refl s, fun _ _ _ h => h, fun _ _ _ h => h, fun _ _ _ h => h⟩
theorem Fut.trans {own nd : List Addr} {gw : List Nat} {s s1 s2 : Shared} (x : Fut own nd gw s s1) (y : Fut own nd gw s1 s2) : Fut own nd gw s s2 :=
  ⟨x.grow.trans y.grow, fun b hb o e => y.ownK b hb o (x.ownK b hb o e), fun b hb o e => y.ndK b hb o (x.ndK b hb o e), fun n hn z e => y.gens n hn z (x.gens n hn z e)⟩
theorem GPre.fut {own nd : List Addr} {gw : List Nat} {s s2 : Shared} (x : GPre ND L g own nd gw s) (y : Fut own nd gw s s2) : GPre ND L g own nd gw s2 where
  ownOk := fun b hb => let ⟨h1, o, e, c, d⟩ := x.ownOk b hb; ⟨h1, o, y.ownK b hb o e, c, d⟩
  ndOk := fun b hb => let ⟨h1, o, e, c⟩ := x.ndOk b hb; ⟨h1, o, y.ndK b hb o e, c⟩
  NDok := x.NDok
  gin := x.gin
  awake := let ⟨gs, e, a⟩ := x.awake; ⟨gs, y.gens g x.gin gs e, a⟩
  lt := fun n hn => Nat.lt_of_lt_of_le (x.lt n hn) y.grow.2
theorem GDo.fut : ∀ {rs : List R} {own nd : List Addr} {gw : List Nat} {s s2 : Shared}, GDo G rel ND L Hg k g rs own nd gw s → Fut own nd gw s s2 → GDo G rel ND L Hg k g rs own nd gw s2
  | [], _, _, _, _, _, h, y => ⟨h.1.fut y, fun A outer Γ p s3 h1 h2 h3 h4 => h.2 A outer Γ p s3 h1 h2 h3 (y.trans h4)⟩
  | _ :: _, _, _, _, _, _, h, y => ⟨h.1.fut y, fun A outer Γ p s3 h1 h2 h3 h4 => h.2 A outer Γ p s3 h1 h2 h3 (y.trans h4)⟩
/-- from a stretch to a waking -/
theorem wake_seg {rs : List R} {F own nd : List Addr} {gw : List Nat} {s2 : Shared} {A : Around} {gs : GenState} {c : Code} {t : Sem PySem.Fin} {fs : List Frame} (hgs : s2.gens[g]? = some gs)
    (hc : (gs = .fresh c ∧ t = G.M.den c ∧ fs = []) ∨ ∃ kk l q cl, gs = .suspended kk l c q fs cl ∧ t = kk (.send .none))
    (h : Seg2 G.M A (SegTo G rel ND L Hg k g rs F own nd gw s2) c t fs (s2.setGen g .running)) : ∀ (Γ : PySem.Ctx) p, Γ.In A → ∃ e s1, Wake2 G.M Γ p g (.send .none) s2 e.result (s1.setGen g e.genState) ∧ SegTo G rel ND L Hg k g rs F own nd gw s2 e s1 := by
  intro Γ p hΓ
  rcases hc with ⟨rfl, rfl, rfl⟩ | ⟨kk, l, q, cl, rfl, rfl⟩
  · obtain ⟨e, s1, hr, hφ⟩ := h (Γ.wake c p) p rfl (hΓ.wake c p)
    exact ⟨e, s1, .new hgs hr hφ.1, hφ⟩
  · obtain ⟨e, s1, hr, hφ⟩ := h (Γ.wake c p) q rfl (hΓ.wake c p)
    exact ⟨e, s1, .old hgs hr hφ.1, hφ⟩
/-- from stretches to what it will hand out -/
theorem gdo_of {rs : List R} {own nd : List Addr} {gw : List Nat} {s : Shared} {gs : GenState} {c : Code} {t : Sem PySem.Fin} {fs : List Frame} (hp : GPre ND L g own nd gw s) (hgs : s.gens[g]? = some gs)
    (hc : (gs = .fresh c ∧ t = G.M.den c ∧ fs = []) ∨ ∃ kk l q cl, gs = .suspended kk l c q fs cl ∧ t = kk (.send .none))
    (h : ∀ A outer s2, Room k A → OutOk G L Hg A outer s2 → Fut own nd gw s s2 → Seg2 G.M A (SegTo G rel ND L Hg k g rs (frs outer) own nd gw s2) c t fs (s2.setGen g .running)) : GDo G rel ND L Hg k g rs own nd gw s := by
  cases rs with
  | nil =>
    refine ⟨hp, fun A outer Γ p s2 h1 h2 h3 h4 => ?_⟩
    obtain ⟨e, s1, hw, _, he, hr, hl⟩ := wake_seg (h4.gens g hp.gin gs hgs) hc (h A outer s2 h2 h3 h4) Γ p h1
    rw [hr] at hw
    exact ⟨_, hw, he, hl⟩
  | cons r rs =>
    refine ⟨hp, fun A outer Γ p s2 h1 h2 h3 h4 => ?_⟩
    obtain ⟨e, s1, hw, _, he, v, own', nd', gw', hr, ho, hrel, hd⟩ := wake_seg (h4.gens g hp.gin gs hgs) hc (h A outer s2 h2 h3 h4) Γ p h1
    rw [hr] at hw
    exact ⟨v, _, own', nd', gw', hw, he, ho, hrel, hd⟩
end
end Td
end

section
set_option maxHeartbeats 1000000
/-! TdCall: calls over any2; defs that wake generators (FnOk2). -/
namespace Td
open PySem PySem.Spec PyProof.Rows L2

theorem pa2_of {X : Cx} {es : List Expr} {t : TA} (hx : Calm X) (h : PA X es t) : PA2 X es t := ⟨fun pos pins s σ H Q I q =>
  a2_thn (imp (h.run pos pins (stuck s) σ H Q I q) (fun _ _ ⟨_, _, I, _⟩ => I.bare) hx) fun us s' ⟨g, t', ⟨vs, H', I, r, q⟩, h1, h2⟩ => ⟨g, vs, H', inv2_of I h1 h2, r, q⟩⟩
theorem pss2_of {X : Cx} {st : List Stmt} {t : TS} (hx : Calm X) (h : PSs X st t) : PSs2 X st t := ⟨fun pins s σ H D I q =>
  a2_thn (imp (h.run pins (stuck s) σ H D I q) (fun f t hs => by
    cases f with
    | next => obtain ⟨_, _, I, _⟩ := hs; exact I.bare
    | brk => obtain ⟨_, _, I, _⟩ := hs; exact I.bare
    | cont => obtain ⟨_, _, I, _⟩ := hs; exact I.bare
    | ret u => obtain ⟨_, _, _, I, _⟩ := hs; exact I.bare) hx) fun f s' ⟨g, t', hs, h1, h2⟩ => ⟨g, by
    cases f with
    | next => obtain ⟨σ', H', I, q⟩ := hs; exact ⟨σ', H', inv2_of I h1 h2, q⟩
    | brk => obtain ⟨σ', H', I, q⟩ := hs; exact ⟨σ', H', inv2_of I h1 h2, q⟩
    | cont => obtain ⟨σ', H', I, q⟩ := hs; exact ⟨σ', H', inv2_of I h1 h2, q⟩
    | ret u => obtain ⟨v, σ', H', I, r, q⟩ := hs; exact ⟨v, σ', H', inv2_of I h1 h2, r, q⟩⟩⟩
theorem reads_of {M : Model} {α : Type} {t : Sem α} {a : α} {h : Heap} (L : PySem.W.Looks M h t a) : Reads M t h a := fun A s Q e q => a2_looks (by rw [e]; exact L) q
section
variable {X : Cx} {e : Expr} {es : List Expr} {x : Str} {p pos : Pos} {pins : List (Addr × Obj)} {σ : L2.St} {H : Hp} {s : Shared} {t tk : TA} {f : Addr} {Q : Value → Shared → Prop} {kws : List Keyword}
theorem a2_name {u : Value} (I : Inv2 X pins σ H s) (hg : Gl X x) (hm : X.mg x = some u) {Q : Value → Shared → Prop} (q : Q u s) (hdb : (x == ("__debug__" : Str)) = false := by decide) : any2 (model X.prog X.w) X.A (eval (.Name x p) X.env) Q F0 s :=
  a2_same (fun R hR => ld_glob (E := fun _ _ => False) I hg hm hR hdb) q
theorem a2_bname {u : Value} (I : Inv2 X pins σ H s) (hg : Gl X x) (hm : X.mg x = none) (hv : bootBuiltins x = some u) {Q : Value → Shared → Prop} (q : Q u s) (hn : x ≠ "__name__" := by decide) (hdb : (x == ("__debug__" : Str)) = false := by decide) : any2 (model X.prog X.w) X.A (eval (.Name x p) X.env) Q F0 s :=
  a2_same (fun R hR => ld_blt (E := fun _ _ => False) I hg hm hv hR hn hdb) q
/-- f(e, ..): the arguments, then the call -/
theorem a2_callK {W : List V → List V → Hp → Prop} (hg : Gl X x) (hm : X.mg x = some (.ref f)) (hk : PySem.W.keepIn X.K (.ref f) = true) (ha : PA2 X es t) (hkw : PK2 X kws tk) (I : Inv2 X pins σ H s)
    (q : t σ H fun vs H1 => tk σ H1 fun zs H2 => W vs zs H2)
    (h : ∀ us ws vs zs H1 s1, GKeep s s1 → Inv2 X pins σ H1 s1 → Vals vs us → Vals zs ws → W vs zs H1 → any2 (model X.prog X.w) X.A (call (.ref f) us (((backToKw pos (keywordEach kws X.env)).filterMap (·.1)).zip ws)) Q F0 s1)
    (hall : (backToKw pos (keywordEach kws X.env)).all (·.1.isSome) = true := by rfl) (hpl : ((backTo pos (starEach es X.env)).any (·.1) || (backToKw pos (keywordEach kws X.env)).any (·.1.isNone)) = false := by rfl)
    (hl : (backTo pos (starEach es X.env)).any (·.1) = false := by rfl) (hdb : (x == ("__debug__" : Str)) = false := by decide) : any2 (model X.prog X.w) X.A (eval (.Call (.Name x p) es kws pos) X.env) Q F0 s := by
  refine a2_CallName (a2_name I hg hm ?_ hdb)
  refine a2_callWith (P := fun h => X.K.In h) hpl (fun h hK => ?_) (a2_evalArgs hl hall (a2_thn (ha.run pos pins s σ H _ I q) fun us s1 ⟨g1, vs, H1, I1, r1, q1⟩ => a2_thn (hkw.run pos pins s1 σ H1 _ I1 q1) fun ws s2 ⟨g2, zs, H2, I2, r2, q2⟩ => ⟨I2.kIn, ?_⟩))
  · obtain ⟨k, a, b⟩ := PySem.W.keeps_K (M := model X.prog X.w) hk h hK
    exact ⟨k, a, reads_of b⟩
  · exact h us ws vs zs H2 s2 (g1.trans g2) I2 r1 r2 q2
theorem a2_callP {W : List V → Hp → Prop} (hg : Gl X x) (hm : X.mg x = some (.ref f)) (hk : PySem.W.keepIn X.K (.ref f) = true) (ha : PA2 X es t) (I : Inv2 X pins σ H s)
    (q : t σ H fun vs H1 => W vs H1)
    (h : ∀ us vs H1 s1, GKeep s s1 → Inv2 X pins σ H1 s1 → Vals vs us → W vs H1 → any2 (model X.prog X.w) X.A (call (.ref f) us) Q F0 s1)
    (hl : (backTo pos (starEach es X.env)).any (·.1) = false := by rfl) (hdb : (x == ("__debug__" : Str)) = false := by decide) : any2 (model X.prog X.w) X.A (eval (.Call (.Name x p) es [] pos) X.env) Q F0 s := by
  refine a2_callK (kws := []) (tk := tNil) (W := fun vs zs H1 => zs = [] ∧ W vs H1) hg hm hk ha pk2_nil I ?_ (fun us ws vs zs H1 s1 g I1 r1 r2 ⟨ez, q1⟩ => ?_) rfl (by show (_ || _) = false; rw [hl]; rfl) hl hdb
  · have q' : t σ H (fun vs H1 => tNil σ H1 fun zs H2 => zs = [] ∧ W vs H2) := by
      have e : (fun (vs : List V) (H1 : Hp) => tNil σ H1 fun zs H2 => zs = [] ∧ W vs H2) = W := by
        funext vs H1
        show ((([] : List V) = []) ∧ W vs H1) = W vs H1
        simp
      rw [e]; exact q
    exact q'
  · subst ez
    cases r2
    exact h us vs H1 s1 g I1 r1 q1
/-- a built-in -/
theorem pe2_callB {id : String} {r : List V → Hp → VK → Prop} (hx : Calm X) (hc : CallR X (.builtin id) r) (hg : Gl X x) (hm : X.mg x = none) (hv : bootBuiltins x = some (.builtin id)) (ha : PA2 X es t) (hn : x ≠ "__name__" := by decide) (hdb : (x == ("__debug__" : Str)) = false := by decide)
    (hl : (backTo pos (starEach es X.env)).any (·.1) = false := by rfl) : PE2 X (.Call (.Name x p) es [] pos) (tCB r t) := by
  refine ⟨fun pins s σ H Q I h => ?_⟩
  refine a2_CallName (a2_bname I hg hm hv ?_ hn hdb)
  refine a2_callWith (P := fun _ => True) (by show (_ || _) = false; rw [hl]; rfl) (fun h _ => ⟨.machine, .inr (.inl rfl), fun A s Q _ q => a2_pure q⟩) (a2_evalArgs hl rfl (a2_thn (ha.run pos pins s σ H _ I h) fun us s1 ⟨g1, vs, H1, I1, r1, q1⟩ => a2_evalAll_nil ⟨trivial, ?_⟩))
  exact a2_thn (imp_ep (α := Unit) hx (hc pins (stuck s1) σ H1 vs us Q I1 r1 q1)) fun u s2 h2 => h2.trans g1
/-- a built-in class -/
theorem pe2_callTy {T : String} {r : List V → Hp → VK → Prop} (hx : Calm X) (hc : CallR X (.type T) r) (hg : Gl X x) (hm : X.mg x = none) (hv : bootBuiltins x = some (.type T)) (ha : PA2 X es t) (hn : x ≠ "__name__" := by decide) (hdb : (x == ("__debug__" : Str)) = false := by decide)
    (hl : (backTo pos (starEach es X.env)).any (·.1) = false := by rfl) : PE2 X (.Call (.Name x p) es [] pos) (tCB r t) := by
  refine ⟨fun pins s σ H Q I h => ?_⟩
  refine a2_CallName (a2_bname I hg hm hv ?_ hn hdb)
  refine a2_callWith (P := fun _ => True) (by show (_ || _) = false; rw [hl]; rfl) (fun h _ => ⟨.machine, .inr (.inl rfl), fun A s Q _ q => a2_pure q⟩) (a2_evalArgs hl rfl (a2_thn (ha.run pos pins s σ H _ I h) fun us s1 ⟨g1, vs, H1, I1, r1, q1⟩ => a2_evalAll_nil ⟨trivial, ?_⟩))
  exact a2_thn (imp_ep (α := Unit) hx (hc pins (stuck s1) σ H1 vs us Q I1 r1 q1)) fun u s2 h2 => h2.trans g1
/-- a tuple, a list of such items -/
theorem pe2_tup {x1 : Nat} (h : PA2 X es t) : PE2 X (.Tuple es x1 pos) (tTup t) := by
  refine ⟨fun pins s σ H Q I hq => ?_⟩
  rw [arm_eval_Tuple]
  refine a2_bind (a2_at (a2_bind (a2_thn (h.run pos pins s σ H _ I hq) fun us s1 ⟨g1, xs, H1, I1, r, z, q⟩ => ?_)))
  have w0 : wpAny (model X.prog X.w) X.A (newTuple us) (EP X pins σ Q) (fun _ _ => False) (stuck s1) := by
    have hf : H1 s1.heap.objs.size = none := I1.hok.fresh (Nat.le_refl _)
    refine wpAny_newTuple ⟨.ref s1.heap.objs.size, upd H1 s1.heap.objs.size (.tup xs), I1.laid (t' := s1.toks) (fun b u e => Heap.get?_push_of_some _ e) (Nat.le_refl _) ?_, rfl, q _ hf⟩ (by rw [← r.length]; exact z)
    exact ⟨z, us, r, ⟨_, Heap.get?_push_size _ rfl, rfl, _, rfl⟩⟩
  exact a2_thn (imp w0 (fun _ _ ⟨_, _, I, _⟩ => I.bare) fun _ _ z => z) fun u s' ⟨g, t', ⟨v, H', I, r, q⟩, h1, h2⟩ => ⟨g1.trans g, v, H', inv2_of I h1 h2, r, q⟩
end

/-! ### defs -/
structure FnOk2 (P : Program) (w : World) (K : PySem.W.Frag) (mg : Str → Option Value) (base : Heap) (k : Nat) (f : Addr) (fd : FuncData) (ps : List Str) (sp : Sp) : Prop where
  len : ∀ vs H Q E, sp vs H Q E → vs.length = ps.length
  run : ∀ (A : Around) (outer : List Env) (s : Shared) (H : Hp) (args : Args) (us : List Value) (vs : List V) (Q : VK), Room k A → Env0 P w K mg base A outer (stuck s) H → BindsTo (stuck s) fd args (ps.zip us) → Vals vs us → sp vs H Q (fun _ _ _ => False) →
    code2 (model P w) A (.call (.ref f) args) (fun r s' => ∃ u v H', r = .ok (.ret u) ∧ GKeep s s' ∧ s'.os = s.os ∧ Un (frs outer) [] H H' s.heap s'.heap ∧ HOk P w H' s'.heap ∧ RelV v u ∧ Q v H') s
theorem FnOk.two {P : Program} {w : World} {K : PySem.W.Frag} {mg : Str → Option Value} {base : Heap} {k : Nat} {f : Addr} {fd : FuncData} {ps : List Str} {sp : Sp} (F : FnOk P w K mg base CX0 k f fd ps sp) : FnOk2 P w K mg base k f fd ps sp where
  len := F.len
  run := fun A outer s H args us vs Q hr e0 hb r h => by
    refine c2_mono (cimp (F.run A outer (stuck s) H args us vs Q _ hr e0 hb r h) fun r t hq => ?_) fun r s' ⟨g, t', hq, hh, ho⟩ => ?_
    · cases r with
      | error e => exact False.elim hq
      | ok fl =>
        cases fl with
        | ret u => obtain ⟨_, _, _, b, _⟩ := hq; exact b
        | next => exact False.elim hq
        | brk => exact False.elim hq
        | cont => exact False.elim hq
    · cases r with
      | error e => exact False.elim hq
      | ok fl =>
        cases fl with
        | ret u =>
          obtain ⟨v, H', os, b, un, hok, rv, q⟩ := hq
          exact ⟨u, v, H', rfl, g, ho.trans os, by rw [hh]; exact un, by rw [hh]; exact hok, rv, q⟩
        | next => exact False.elim hq
        | brk => exact False.elim hq
        | cont => exact False.elim hq
section
variable {X : Cx} {k : Nat} {f : Addr} {fd : FuncData} {ps ks : List Str} {sp : Sp} {dvs : List V} {ds : List Value} {x : Str} {p pos : Pos} {es : List Expr} {t tk : TA} {kws : List Keyword}
theorem Inv2.after {pins : List (Addr × Obj)} {σ : L2.St} {H H' : Hp} {s s' : Shared} (I : Inv2 X pins σ H s) (os : s'.os = s.os) (un : Un (frs X.stack) [] H H' s.heap s'.heap) (hok : HOk X.prog X.w H' s'.heap) : Inv2 X pins σ H' s' :=
  I.call' (s' := stuck s') (ch := []) os un hok (stuck_bare s') fun b z => absurd z (by simp)
theorem run_fn2 {pins : List (Addr × Obj)} {σ : L2.St} {H : Hp} {s : Shared} {Q : VK} {args : Args} {us : List Value} {vs : List V} (F : FnOk2 X.prog X.w X.K X.mg X.base k f fd ps sp) (hr : Room k X.A) (I : Inv2 X pins σ H s) (hb : BindsTo (stuck s) fd args (ps.zip us)) (r : Vals vs us)
    (h : sp vs H Q (fun _ _ _ => False)) : any2 (model X.prog X.w) X.A (call (.ref f) args.pos args.kw) (EP2 X pins σ s Q) F0 s := by
  refine a2_call (c2_mono (F.run X.A X.stack s H args us vs Q hr I.env0 hb r h) fun r s' ⟨u, v, H', e, g, os, un, hok, rv, q⟩ => ⟨u, e, g, v, H', ?_, rv, q⟩)
  exact I.after os un hok
theorem pe2_call (F : FnOk2 X.prog X.w X.K X.mg X.base k f fd ps sp) (hr : Room k X.A) (hg : Gl X x) (hm : X.mg x = some (.ref f)) (hk : PySem.W.keepIn X.K (.ref f) = true) (hb : Binds X.K fd ps ds) (hd : Vals dvs ds)
    (ha : PA2 X es t) (hl : (backTo pos (starEach es X.env)).any (·.1) = false := by rfl) (hdb : (x == ("__debug__" : Str)) = false := by decide) : PE2 X (.Call (.Name x p) es [] pos) (tCall sp dvs (fun _ _ _ => False) t) := by
  refine ⟨fun pins s σ H Q I h => ?_⟩
  refine a2_callP hg hm hk ha I h (fun us vs H1 s1 g1 I1 r1 q1 => ?_) hl hdb
  have r2 : Vals (vs ++ dvs) (us ++ ds) := r1.append hd
  have hl2 : (us ++ ds).length = ps.length := by rw [← r2.length]; exact F.len _ _ _ _ q1
  exact a2_thn (run_fn2 (args := ⟨us, []⟩) F hr I1 (hb (stuck s1) us I1.kIn hl2) r2 q1) fun u s2 h2 => h2.trans g1
theorem pe2_callK {g : List Value → List Value → List Value} {gV : List V → List V → List V} (F : FnOk2 X.prog X.w X.K X.mg X.base k f fd ps sp) (hr : Room k X.A) (hg : Gl X x) (hm : X.mg x = some (.ref f)) (hk : PySem.W.keepIn X.K (.ref f) = true) (hb : KBinds X.K fd ps ks g gV)
    (ha : PA2 X es t) (hkw : PK2 X kws tk) (hks : (backToKw pos (keywordEach kws X.env)).filterMap (·.1) = ks := by rfl) (hall : (backToKw pos (keywordEach kws X.env)).all (·.1.isSome) = true := by rfl)
    (hpl : ((backTo pos (starEach es X.env)).any (·.1) || (backToKw pos (keywordEach kws X.env)).any (·.1.isNone)) = false := by rfl) (hl : (backTo pos (starEach es X.env)).any (·.1) = false := by rfl) (hdb : (x == ("__debug__" : Str)) = false := by decide) :
    PE2 X (.Call (.Name x p) es kws pos) (tCallK sp gV (fun _ _ _ => False) t tk) := by
  refine ⟨fun pins s σ H Q I h => ?_⟩
  refine a2_callK (W := fun vs zs H2 => sp (gV vs zs) H2 Q (fun _ _ _ => False)) hg hm hk ha hkw I h (fun us ws vs zs H1 s1 g1 I1 r1 r2 q1 => ?_) hall hpl hl hdb
  rw [hks]
  have r3 := hb.rel r1 r2
  have hl2 : (g us ws).length = ps.length := by rw [← r3.length]; exact F.len _ _ _ _ q1
  exact a2_thn (run_fn2 (args := ⟨us, ks.zip ws⟩) F hr I1 (hb.to (stuck s1) us ws I1.kIn hl2) r3 q1) fun u s2 h2 => h2.trans g1
end
/-- THE RULE: a def whose body wakes generators -/
theorem fn2_of {P : Program} {w : World} {K : PySem.W.Frag} {mg : Str → Option Value} {base : Heap} {k : Nat} {f : Addr} {name qual : Str} {params : Arguments} {body : List Stmt} {scope : Scope} {dV kV doc pm cdv ct oc : Value} {an od : Option Addr}
    {osl : Array (Option Value)} {N ps : List Str} {sp : Sp} (lk : K.lookup f = some ⟨oc, od, .func (PySem.W.fnOf name qual params body scope dV kV doc pm an cdv ct), osl⟩) (hcd : PySem.W.codeIn K cdv qual = true) (S : FnScope N ps scope)
    (len : ∀ vs H Q E, sp vs H Q E → vs.length = ps.length)
    (hbody : ∀ (A : Around) (outer : List Env) (s : Shared) (H : Hp) (vs : List V) (Q : VK), Room k (A.deeper (envOfC qual scope s.heap.objs.size f cdv)) → sp vs H Q (fun _ _ _ => False) →
      ∃ t, PSs2 (cxOf CX0 P w K mg base N qual scope f cdv A outer (stuck s) H (fun _ _ _ => False)).nox body t ∧ t { nx := fun _ H' => Q .non H', rt := Q } (L2.start N vs) H) :
    FnOk2 P w K mg base (k + 1) f (PySem.W.fnOf name qual params body scope dV kV doc pm an cdv ct) ps sp := by
  refine ⟨len, fun A outer s H args us vs Q hr e0 hb r hsp => ?_⟩
  have hl := len _ _ _ _ hsp
  have KX : K.In s.heap := e0.mod.kin.keeps fun b o e => (e0.bs b o e).1
  have lim : s.heap.NoLimit := e0.mod.nolimit.keeps fun b o e => (e0.bs b o e).1
  have hkind : ∀ y ∈ ps.zip us, scope.names.lookup y.1 = some .local ∨ (scope.names.lookup y.1 = some .cell ∧ ((cellsFrom (s.heap.objs.size + 1) scope.names []).lookup y.1).isSome = true) := fun ⟨n, v⟩ hy => by
    rcases S.par n (List.of_mem_zip hy).1 with q | q
    · exact .inl q
    · exact .inr ⟨q, PySem.W.cellsFrom_some _ _ _ (.inl q)⟩
  obtain ⟨t, ht, hq⟩ := hbody A outer s H vs Q (hr.deeper _) hsp
  -- the call's own tree
  have tree : wpAny (model P w) A.in1 (callAny (.ref f) args) (fun fin s1 => fin = .again (.func body (envOfC qual scope s.heap.objs.size f cdv)) ∧ Inv (cxOf CX0 P w K mg base N qual scope f cdv A outer (stuck s) H (fun _ _ _ => False)).nox [] (L2.start N vs) H s1) (fun _ _ => False) (stuck s) := by
    simp only [callAny]
    refine wpAny_bind (wpAny_load (KX _ _ lk) ?_)
    obtain ⟨c, oc', vs', tq, hc, hoc, hdc, hq'⟩ := PySem.W.codeRec_of KX hcd
    have hc' : cdv = .ref c := hc
    subst hc'
    simp only [callFunction, S.co, S.gen, PySem.W.fnOf]
    refine wpAny_bind (m := field (.ref c) 1) (wpAny_field (s := stuck s) hoc hdc hq' (wpAny_bind (wpAny_pure ?_)))
    refine wpAny_bind (hb _ _ _ _ (wpAny_bind ?_))
    refine wpAny_newFunctionEnv_cells S.kind hkind fun env he s1 x => ?_
    subst he
    exact wpAny_bind (wpAny_enterFrame (lim.keeps x.toInCall.keep) hr.depth (wpAny_pure ⟨rfl, (inv_start S hr.hd e0 hl r x).wish _⟩))
  refine c2_tree ?_
  show any2 _ A.in1 (callAny (.ref f) args) _ _ s
  refine a2_mono (imp tree (fun _ _ ⟨_, I⟩ => I.bare) fun _ _ z => z) (fun fin s1 ⟨g1, t1, ⟨ef, I1⟩, h1, o1⟩ => ?_) fun _ _ z => z.elim
  subst ef
  replace I1 : Inv2 (cxOf CX0 P w K mg base N qual scope f cdv A outer (stuck s) H (fun _ _ _ => False)).nox [] (L2.start N vs) H s1 := inv2_of I1 h1 o1
  refine ⟨rfl, c2_tree ?_⟩
  show any2 _ (A.deeper (envOfC qual scope s.heap.objs.size f cdv)) (do point; match ← (execs body (envOfC qual scope s.heap.objs.size f cdv)).onRaise (leaving (envOfC qual scope s.heap.objs.size f cdv)) with | .ret v => ret v | _ => ret .none) _ _ s1
  refine a2_bind (a2_point (a2_bind (a2_onR0 (a2_thn (ht.run [] s1 (L2.start N vs) H _ I1 hq) fun fl s' ⟨g2, hs⟩ => ?_))))
  cases fl with
  | ret u =>
    obtain ⟨v, σ', H', J, rv, q⟩ := hs
    exact a2_pure ⟨u, v, H', rfl, g1.trans g2, J.os, J.base, J.hok, rv, q⟩
  | next =>
    obtain ⟨σ', H', J, q⟩ := hs
    exact a2_pure ⟨.none, .non, H', rfl, g1.trans g2, J.os, J.base, J.hok, rfl, q⟩
  | brk => obtain ⟨_, _, _, q⟩ := hs; exact False.elim q
  | cont => obtain ⟨_, _, _, q⟩ := hs; exact False.elim q
end Td
end

section
set_option maxHeartbeats 1000000
/-! TdGen3: a call of a generator def. -/
namespace Td
open PySem PySem.Spec PyProof.Rows L2 GenW

/-- a generator that has not begun; Lc its frame, nc its number -/
structure GNew (G : GD) (body : List Stmt) (vs : List V) (H1 : Hp) (s : Shared) (u : Value) (s' : Shared) (ac Lc nc : Nat) : Prop where
  val : u = .ref ac
  lo : s.heap.objs.size ≤ Lc
  la : Lc < ac
  lt : ac < s'.heap.objs.size
  nlo : s.gens.size ≤ nc
  obj : s'.heap.IsGen ac nc
  st : s'.gens[nc]? = some (.fresh (.func body (G.env Lc)))
  fr : FrameAt G Lc (L2.start G.N vs) s'.heap
  old : ∀ b u, H1 b = some u → b < Lc
  fs : ∀ b o, s.heap.get? b = some o → b < Lc
section
variable {G : GD} {k : Nat} {fd : FuncData} {ps : List Str} {name : Str} {params : Arguments} {body : List Stmt} {dV kV doc pm ct oc : Value} {an od : Option Addr} {osl : Array (Option Value)}
/-- the def's text, as it stands in the fragment -/
structure GText (G : GD) (ps : List Str) (body : List Stmt) (fd : FuncData) : Prop where
  lk : ∃ (name : Str) (params : Arguments) (dV kV doc pm ct oc : Value) (an od : Option Addr) (osl : Array (Option Value)), fd = PySem.W.fnOf name G.qual params body G.scope dV kV doc pm an G.cd ct ∧ G.K.lookup G.f = some ⟨oc, od, .func (PySem.W.fnOf name G.qual params body G.scope dV kV doc pm an G.cd ct), osl⟩
  cd : PySem.W.codeIn G.K G.cd G.qual = true
  sc : GScope G.N ps G.scope
theorem run_gen {X : Cx} {pins : List (Addr × Obj)} {σ : L2.St} {H : Hp} {s : Shared} {us ds : List Value} {vs dvs : List V} {E : Value → Shared → Prop} (T : GText G ps body fd) (hP : X.prog = G.P) (hw : X.w = G.w) (hK : X.K = G.K) (hd : X.A.depth < recursionLimit)
    (hb : Binds G.K fd ps ds) (hds : Vals dvs ds) (hl : (vs ++ dvs).length = ps.length) (I : Inv X pins σ H s) (r : Vals vs us) :
    wpAny (model X.prog X.w) X.A (call (.ref G.f) us) (fun u s' => Inv X pins σ H s' ∧ (∀ b o, s.heap.get? b = some o → s'.heap.get? b = some o) ∧ ∃ ac Lc nc, GNew G body (vs ++ dvs) H s u s' ac Lc nc) E s := by
  obtain ⟨⟨name, params, dV, kV, doc, pm, ct, oc, an, od, osl, rfl, lk⟩, hcd, S⟩ := T
  have r2 : Vals (vs ++ dvs) (us ++ ds) := r.append hds
  have hl2 : (us ++ ds).length = ps.length := by rw [← r2.length]; exact hl
  have KX : G.K.In s.heap := by rw [← hK]; exact I.kIn
  have lim : s.heap.NoLimit := I.nolimit
  have hkind : ∀ y ∈ ps.zip (us ++ ds), G.scope.names.lookup y.1 = some .local ∨ (G.scope.names.lookup y.1 = some .cell ∧ ((cellsFrom (s.heap.objs.size + 1) G.scope.names []).lookup y.1).isSome = true) := fun ⟨n, v⟩ hy => by
    rcases S.par n (List.of_mem_zip hy).1 with q | q
    · exact .inl q
    · exact .inr ⟨q, PySem.W.cellsFrom_some _ _ _ (.inl q)⟩
  refine wpAny_call (codeAny_mono (R := fun r s' => ∃ u, r = .ok (.ret u) ∧ Inv X pins σ H s' ∧ (∀ b o, s.heap.get? b = some o → s'.heap.get? b = some o) ∧ ∃ ac Lc nc, GNew G body (vs ++ dvs) H s u s' ac Lc nc) ?_ fun r s' ⟨u, e, q⟩ => by subst e; exact q)
  refine codeAny_call_generator hd (KX _ _ lk) rfl S.co S.gen rfl (PySem.W.codeRec_of KX hcd) (hb s us KX hl2 _ _ _ _ ?_)
  refine wpAny_newFunctionEnv_cells S.kind hkind fun env he s1 x => ?_
  subst he
  have lim1 : s1.heap.NoLimit := lim.keeps x.toInCall.keep
  refine ⟨lim1, ?_⟩
  obtain ⟨h1, tk, es1, hk1⟩ := x.done
  have os1 : s1.os = s.os := by rw [es1]
  have gen1 : s1.gens = s.gens := by rw [es1]
  have lt1 : s.heap.objs.size < s1.heap.objs.size := x.toInCall.ns.lt
  have kp1 : ∀ b o, s.heap.get? b = some o → s1.heap.get? b = some o := x.toInCall.keep
  have main : ∀ (go : Obj) (nm qn : Value) (tk2 : Nat), go.cls = .type "generator" → go.data = .fields #[.int s1.gens.size 0, nm, qn] → go.slots = #[] → (∀ h : Heap, (h.push go).get? h.objs.size = some go) →
      Inv X pins σ H { s1 with gens := s1.gens.push (.fresh (.func body (G.env s.heap.objs.size))), toks := tk2, heap := s1.heap.push go } ∧ (∀ b o, s.heap.get? b = some o → (s1.heap.push go).get? b = some o) ∧
      ∃ ac Lc nc, GNew G body (vs ++ dvs) H s (.ref s1.heap.objs.size) { s1 with gens := s1.gens.push (.fresh (.func body (G.env s.heap.objs.size))), toks := tk2, heap := s1.heap.push go } ac Lc nc := by
    intro go nm qn tk2 hgc hgd0 hgs hgp
    have kp2 : ∀ b o, s.heap.get? b = some o → (s1.heap.push go).get? b = some o := fun b o e => Heap.get?_push_of_some _ (kp1 b o e)
    refine ⟨I.call' (ch := []) os1 (Un.kept kp2) (I.hok.kept kp2) (AllBare.push (by rw [gen1]; exact I.bare) rfl) fun b z => by simp at z, kp2, s1.heap.objs.size, s.heap.objs.size, s1.gens.size, ?_⟩
    refine ⟨rfl, Nat.le_refl _, lt1, ?_, by rw [gen1]; exact Nat.le_refl _, ⟨go, nm, qn, hgp _, hgc, hgd0, hgs⟩, Array.getElem?_push_size .., ?_, fun b u e => I.hok.lt e, fun b o e => Heap.lt_size e⟩
    · show _ < (s1.heap.push go).objs.size
      rw [Heap.size_push]; exact Nat.lt_succ_self _
    · refine ⟨⟨_, x.toInCall.ns.keeps fun b o e => Heap.get?_push_of_some _ e, fun i y v h1 h2 h3 => ?_⟩, ?_⟩
      · have hi : i < (vs ++ dvs).length := by
          unfold L2.start at h2
          by_cases hi : i < (vs ++ dvs).length
          · exact hi
          · rw [List.getElem?_append_right (by simpa using hi)] at h2
            rw [List.getElem?_replicate] at h2
            split at h2 <;> cases h2
        have ha : (vs ++ dvs)[i]? = some v := by
          unfold L2.start at h2
          rw [List.getElem?_append_left (by simpa using hi), List.getElem?_map] at h2
          cases e : (vs ++ dvs)[i]? with
          | none => rw [e] at h2; cases h2
          | some a => rw [e] at h2; cases h2; rfl
        obtain ⟨u, hu, rv⟩ := r2.get ha
        have hp : ps[i]? = some y := by
          rw [← S.pre, List.getElem?_take_of_lt (by omega)]; exact h1
        have ndP : ps.Nodup := by rw [← S.pre]; exact S.nd.sublist (List.take_sublist _ _)
        refine ⟨u, rv, ?_⟩
        rcases S.par y (List.mem_of_getElem? hp) with k | k
        · exact .inl ⟨k, bindL_get ndP hp hu k⟩
        · obtain ⟨c, e⟩ := cell_has (n := s.heap.objs.size + 1) k
          refine .inr ⟨.inl k, c, e, ?_⟩
          have q := x.cell y c e
          rw [bindC_get ndP hp hu (by show G.scope.names.lookup y ≠ _; rw [k]; decide)] at q
          obtain ⟨o, ho, hd⟩ := q
          exact ⟨o, Heap.get?_push_of_some _ ho, hd⟩
      · have hpl : ps.length ≤ G.N.length := by have := congrArg List.length S.pre; rw [List.length_take] at this; omega
        unfold L2.start
        rw [List.length_append, List.length_map, List.length_replicate]
        omega
  exact ⟨_, rfl, main _ _ _ _ rfl rfl rfl fun h => Heap.get?_push_size _ rfl⟩
/-- f(e, ..) of a generator def, as an expression, over any2 -/
theorem eval_gen {X : Cx} {pins : List (Addr × Obj)} {σ : L2.St} {H : Hp} {s : Shared} {dvs : List V} {ds : List Value} {x : Str} {p pos : Pos} {es : List Expr} {t : TA} {Q : List V → Hp → Prop} (T : GText G ps body fd) (hP : X.prog = G.P) (hw : X.w = G.w) (hK : X.K = G.K) (hd : X.A.depth < recursionLimit)
    (hb : Binds G.K fd ps ds) (hds : Vals dvs ds) (hg : Gl X x) (hm : X.mg x = some (.ref G.f)) (hk : PySem.W.keepIn X.K (.ref G.f) = true) (ha : PA2 X es t) (I : Inv2 X pins σ H s) (hq : t σ H fun vs H1 => (vs ++ dvs).length = ps.length ∧ Q vs H1)
    (hl : (backTo pos (starEach es X.env)).any (·.1) = false := by rfl) (hdb : (x == ("__debug__" : Str)) = false := by decide) :
    any2 (model X.prog X.w) X.A (eval (.Call (.Name x p) es [] pos) X.env) (fun u s' => GKeep s s' ∧ ∃ vs H1 ac Lc nc, Inv2 X pins σ H1 s' ∧ Q vs H1 ∧ GNew G body (vs ++ dvs) H1 s u s' ac Lc nc) F0 s := by
  refine a2_callP hg hm hk ha I hq (fun us vs H1 s1 g1 I1 r1 ⟨hlen, q⟩ => ?_) hl hdb
  have h0 := run_gen (E := fun _ _ => False) T hP hw hK hd hb hds hlen I1 r1
  refine a2_mono (a2_grow (a2_of h0)) (fun u s' ⟨gr, t', wsw, I2, kp, ac, Lc, nc, gn⟩ => ?_) fun e s' ⟨_, t', _, z⟩ => z
  refine ⟨g1.trans (wsw.gkeep I2.bare gr), vs, H1, ac, Lc, nc, inv2_of I2 wsw.heap wsw.os, q, ?_⟩
  have hh : s'.heap = t'.heap := wsw.heap
  have s1z : (stuck s1).gens.size = s1.gens.size := by show (s1.gens.map stuckOf).size = _; rw [Array.size_map]
  have nsz : s1.gens.size ≤ nc := by have := gn.nlo; rw [s1z] at this; exact this
  have noS : sleepers s1 nc = none := by
    unfold sleepers
    rw [Array.getElem?_eq_none_iff.mpr nsz]
  refine ⟨gn.val, Nat.le_trans g1.grow.1 gn.lo, gn.la, by rw [hh]; exact gn.lt, Nat.le_trans g1.grow.2 nsz, by rw [hh]; exact gn.obj, (wsw.other nc noS).trans gn.st, by rw [hh]; exact gn.fr, gn.old, fun b o e => ?_⟩
  exact Nat.lt_of_lt_of_le (Heap.lt_size e) (Nat.le_trans g1.grow.1 gn.lo)
end
end Td
end

section
set_option maxHeartbeats 1000000
/-! TdGen4: recursive generators that yield from themselves over a tree. -/
namespace Td
open PySem PySem.Spec PyProof.Rows L2 GenW

/-- the body's shape -/
structure GBody where
  test : Expr
  res : List Expr
  rk : Nat
  rpos : Pos
  pre : List Stmt
  elts : List Expr
  kk : Nat
  tp : Pos
  te : Expr
  fn : Str
  ces : List Expr
  (q1 q3 cp cpos yp p1 p2 yp2 p3 p0 : Pos)
abbrev GBody.row (B : GBody) : Expr := .Tuple B.res B.rk B.rpos
abbrev GBody.call (B : GBody) : Expr := .Call (.Name B.fn B.cp) B.ces [] B.cpos
abbrev GBody.it (B : GBody) : Expr := .Call (.Name "enumerate" B.q1) [B.te] [] B.q3
abbrev GBody.tgt (B : GBody) : Expr := .Tuple B.elts B.kk B.tp
abbrev GBody.inner (B : GBody) : List Stmt := [.Expr (.YieldFrom B.call B.yp2) B.p2]
abbrev GBody.stmts (B : GBody) : List Stmt := [.If B.test [.Expr (.Yield (some B.row) B.yp) B.p1] (B.pre ++ [.For B.tgt B.it B.inner [] B.p3]) B.p0]
/-- what is known of tuples stays known -/
def TupLe (Hg H : Hp) : Prop := ∀ b xs, Hg b = some (.tup xs) → Rd H b (.tup xs)
def addT (Hg : Hp) (news : List (Addr × List V)) : Hp := fun b => match news.lookup b with
  | some xs => some (.tup xs)
  | none => Hg b
/-- a family of generators -/
structure Fam (G : GD) (B : GBody) (ps : List Str) (fd : FuncData) (ι R : Type) where
  k : ι → Nat
  μ : ι → Nat
  leaf : ι → Bool
  len : ι → Nat
  child : ι → Nat → ι
  row1 : ι → R
  Row : ι → Hp → List V → Prop
  Args : ι → List V → Hp → Prop
  Loop : ι → L2.St → Hp → Prop
  LoopJ : ι → Nat → L2.St → Hp → Prop
  tree : ι → Addr
  items : ι → List V
  rel : Nat → Hp → R → Heap → Value → Prop
  ND : List Addr → Prop
  ok : G.Ok
  text : GText G ps B.stmts fd
  binds : Binds G.K fd ps []
  mgf : G.mg B.fn = some (.ref G.f)
  kp : PySem.W.keepIn G.K (.ref G.f) = true
  gl : ∀ L, (G.env L).kindOf B.fn = some .globalImplicit
  nd0 : ND []
  room : ∀ i, 2 ≤ k i
  dec : ∀ i j, leaf i = false → j < len i → μ (child i j) < μ i ∧ k (child i j) + 4 ≤ k i
  o_len : ∀ i vs Hg, Args i vs Hg → vs.length = ps.length
  o_test : ∀ i vs Hg L own A outer s, Args i vs Hg → ∃ t, PT (segX G L Hg own A outer s) B.test t ∧ ∀ H Q, TupLe Hg H → Q (leaf i) H → t (L2.start G.N vs) H Q
  o_row : ∀ i vs Hg L own A outer s, leaf i = true → Args i vs Hg → ∃ t, PA (segX G L Hg own A outer s) B.res t ∧ ∀ H Q, TupLe Hg H → (∀ xs, xs.length ≤ sizeLine → Row i Hg xs → Q xs H) → t (L2.start G.N vs) H Q
  o_rel : ∀ i vs Hg L (h : Heap) T xs its, leaf i = true → Args i vs Hg → Row i Hg xs → Vals xs its → IsTup h T its.toArray → (∀ b ys, Hg b = some (.tup ys) → ∃ js, Vals ys js ∧ IsTup h b js.toArray) → xs.length ≤ sizeLine → rel L Hg (row1 i) h (.ref T)
  relS : ∀ L Hg r (h h' : Heap) v, (∀ b o, h.get? b = some o → o.cls = .type "tuple" → (∃ v n, o.data = .seq v n) → ∃ sl, h'.get? b = some { o with slots := sl }) → rel L Hg r h v → rel L Hg r h' v
  relUp : ∀ L Lc Hg (news : List (Addr × List V)) r h v, L < Lc → (∀ p ∈ news, L < p.1) → rel Lc (addT Hg news) r h v → rel L Hg r h v
  o_pre : ∀ i vs Hg L own A outer s, leaf i = false → Room 1 A → Args i vs Hg → ∃ t, PSs (segX G L Hg own A outer s) B.pre t ∧ ∀ H (D : Ends), TupLe Hg H → (∀ σ', Loop i σ' Hg → D.nx σ' H) → t D (L2.start G.N vs) H
  o_te : ∀ i σ Hg L own A outer s, Loop i σ Hg → ∃ t, PA (segX G L Hg own A outer s) [B.te] t ∧ ∀ H Q, TupLe Hg H → Q [.ref (tree i)] H → t σ H Q
  o_items : ∀ i σ Hg H, Loop i σ Hg → TupLe Hg H → SqT G.K H (tree i) (items i) ∧ (items i).length = len i
  o_tgt : ∀ i j σ Hg L own A outer s x, leaf i = false → Loop i σ Hg → (items i)[j]? = some x → ∃ g, PG (segX G L Hg own A outer s) B.tgt g ∧ ∀ H T Q, H T = some (.tup [.int (j : Nat), x]) → (∀ σ', Loop i σ' Hg → LoopJ i j σ' Hg → Q σ' H) → g (.ref T) σ H Q
  o_call : ∀ i j σ Hg L own A outer s, leaf i = false → j < len i → Loop i σ Hg → LoopJ i j σ Hg → ∃ t, PA (segX G L Hg own A outer s) B.ces t ∧
    ∀ H Q, TupLe Hg H → (∀ vs H1 news, (∀ p ∈ news, H1 p.1 = some (.tup p.2) ∧ L < p.1) → (∀ nd, ND nd → ND (news.map (·.1) ++ nd)) → Args (child i j) vs (addT Hg news) → Q vs H1) → t σ H Q
  blt : G.mg "enumerate" = none
  glE : ∀ L, (G.env L).kindOf "enumerate" = some .globalImplicit
  c_arg : ∀ L pos, (backTo pos (starEach B.ces (G.env L))).any (·.1) = false
  c_dbg : (B.fn == ("__debug__" : Str)) = false
  c_te : ∀ L, starEach [B.te] (G.env L) = [(false, eval B.te (G.env L))]
  c_co : G.scope.isCoroutine = false
section
variable {G : GD} {B : GBody} {ps : List Str} {fd : FuncData} {ι R : Type} (F : Fam G B ps fd ι R)
/-- the rows from the j-th child on -/
def Fam.rowsN : Nat → ι → List R
  | 0, i => if F.leaf i then [F.row1 i] else []
  | n + 1, i => if F.leaf i then [F.row1 i] else (List.range (F.len i)).flatMap fun j => Fam.rowsN n (F.child i j)
def Fam.rows (i : ι) : List R := F.rowsN (F.μ i) i
theorem Fam.rowsN_eq : ∀ n m i, F.μ i ≤ n → F.μ i ≤ m → F.rowsN n i = F.rowsN m i
  | n, m, i, hn, hm => by
    by_cases hl : F.leaf i = true
    · cases n <;> cases m <;> simp [Fam.rowsN, hl]
    · have hl' : F.leaf i = false := by simpa using hl
      by_cases hz : F.len i = 0
      · cases n <;> cases m <;> simp [Fam.rowsN, hl', hz]
      · have hd := (F.dec i 0 hl' (by omega)).1
        obtain ⟨n, rfl⟩ : ∃ x, n = x + 1 := ⟨n - 1, by omega⟩
        obtain ⟨m, rfl⟩ : ∃ x, m = x + 1 := ⟨m - 1, by omega⟩
        simp only [Fam.rowsN, hl', Bool.false_eq_true, if_false]
        have key : ∀ j ∈ List.range (F.len i), F.rowsN n (F.child i j) = F.rowsN m (F.child i j) := fun j hj => by
          have h1 := (F.dec i j hl' (List.mem_range.mp hj)).1
          exact Fam.rowsN_eq n m (F.child i j) (by omega) (by omega)
        rw [List.flatMap_def, List.flatMap_def, List.map_congr_left key]
def Fam.from_ (i : ι) (j : Nat) : List R := (List.range' j (F.len i - j)).flatMap fun a => F.rows (F.child i a)
theorem Fam.from_last (i : ι) : F.from_ i (F.len i) = [] := by unfold Fam.from_; rw [Nat.sub_self]; rfl
theorem Fam.from_step (i : ι) (j : Nat) (h : j < F.len i) : F.from_ i j = F.rows (F.child i j) ++ F.from_ i (j + 1) := by
  unfold Fam.from_
  have e : F.len i - j = (F.len i - (j + 1)) + 1 := by omega
  rw [e, List.range'_succ, List.flatMap_cons]
theorem Fam.rows_leaf (i : ι) (h : F.leaf i = true) : F.rows i = [F.row1 i] := by
  unfold Fam.rows
  cases F.μ i <;> simp [Fam.rowsN, h]
theorem Fam.rows_node (i : ι) (h : F.leaf i = false) : F.rows i = F.from_ i 0 := by
  unfold Fam.from_ Fam.rows
  rw [Nat.sub_zero, ← List.range_eq_range']
  cases e : F.μ i with
  | zero =>
    by_cases hz : F.len i = 0
    · simp [Fam.rowsN, h, hz]
    · have := (F.dec i 0 h (by omega)).1; omega
  | succ n =>
    simp only [Fam.rowsN, h, Bool.false_eq_true, if_false]
    have key : ∀ j ∈ List.range (F.len i), F.rowsN n (F.child i j) = F.rowsN (F.μ (F.child i j)) (F.child i j) := fun j hj => by
      have h1 := (F.dec i j h (List.mem_range.mp hj)).1
      exact F.rowsN_eq n _ (F.child i j) (by omega) (Nat.le_refl _)
    rw [List.flatMap_def, List.flatMap_def, List.map_congr_left key]
end

/-! ### what persists -/
section
variable {G : GD} {L : Addr} {Hg : Hp} {A : Around} {outer : List Env} {s s' : Shared} {σ : L2.St}
theorem OutOk.heap (O : OutOk G L Hg A outer s) (e : s'.heap = s.heap) : OutOk G L Hg A outer s' :=
  ⟨O.frames, by rw [e]; exact O.bs, O.bsz, by rw [e]; exact O.sz, by rw [e]; exact O.funs, O.frlo, by rw [e]; exact O.tups, O.only, O.hgb, O.hgf⟩
theorem FrameAt.heap (F : FrameAt G L σ s.heap) (e : s'.heap = s.heap) : FrameAt G L σ s'.heap := by rw [e]; exact F
theorem FrameAt.slot (g : G.Ok) {h h' : Heap} (F : FrameAt G L σ h) (k : ∀ o, h.get? L = some o → ∃ sl, h'.get? L = some { o with slots := sl }) : FrameAt G L σ h' := by
  obtain ⟨⟨m, ⟨o, es, ep, e, d, r⟩, hl⟩, hz⟩ := F
  obtain ⟨sl, e'⟩ := k o e
  refine ⟨⟨m, ⟨_, es, ep, e', d, r⟩, fun i x v h1 h2 h3 => ?_⟩, hz⟩
  obtain ⟨u, ru, l⟩ := hl i x v h1 h2 h3
  refine ⟨u, ru, ?_⟩
  rcases l with l | ⟨_, c, ec, _⟩
  · exact .inl l
  · have e0 : (G.env L).cells = [] := g.nocell _
    rw [e0] at ec; cases ec
theorem FrameAt.lt {h : Heap} (F : FrameAt G L σ h) : L < h.objs.size := let ⟨⟨_, hn, _⟩, _⟩ := F; hn.lt
theorem FrameAt.obj {h : Heap} (F : FrameAt G L σ h) : ∃ o, h.get? L = some o ∧ (∀ v n, o.data ≠ .seq v n) ∧ (∀ v, o.data ≠ .cell v) ∧ ∀ vs, o.data ≠ .fields vs := by
  obtain ⟨⟨m, ⟨o, es, ep, e, d, r⟩, hl⟩, hz⟩ := F
  exact ⟨o, e, (fun v n q => by rw [d] at q; cases q), (fun v q => by rw [d] at q; cases q), fun v q => by rw [d] at q; cases q⟩
/-- behind an effect that spares all old things but own -/
theorem OutOk.eff {L' : Nat} {F own : List Addr} {gw : List Nat} (O : OutOk G L Hg A outer s) (x : EffF L' F own gw s s') (hL : L ≤ L') (ho : ∀ b ∈ own, L ≤ b) (hF : ∀ b, b < L → b ∈ F → b ∈ frs outer) : OutOk G L Hg A outer s' where
  frames := O.frames
  bs := fun b o e => by
    have hb : b < L := Nat.lt_of_lt_of_le (Heap.lt_size e) O.bsz
    refine x.keep b o (O.bs b o e) (fun z => absurd hb (Nat.not_lt.mpr (ho b z))) fun z => ?_
    have := (O.funs.mem (hF b hb z)).1
    rw [e] at this; cases this
  bsz := O.bsz
  sz := Nat.le_trans O.sz x.grow.1
  funs := by
    have all : ∀ l : List Env, (∀ b ∈ frs l, b ∈ frs outer) → s.heap.FunFrames G.base l → s'.heap.FunFrames G.base l := by
      intro l
      induction l with
      | nil => intro _ _; trivial
      | cons env r ih =>
        intro hs hl
        obtain ⟨hk, ⟨L1, o, hf, hn, ho', hd⟩, hr⟩ := hl
        have hm : L1 ∈ frs outer := hs L1 (by unfold frs; rw [List.filterMap_cons, hf]; exact List.mem_cons_self)
        have hlo := O.frlo L1 hm
        have : ∃ sl, s'.heap.get? L1 = some { o with slots := sl } := by
          by_cases hm2 : L1 ∈ F
          · exact x.slot L1 o ho' hm2
          · exact ⟨o.slots, x.keep L1 o ho' (fun z => absurd hlo (Nat.not_lt.mpr (ho L1 z))) hm2⟩
        obtain ⟨sl, e⟩ := this
        exact ⟨hk, ⟨L1, _, hf, hn, e, hd⟩, ih (fun b hb => hs b (by unfold frs; rw [List.filterMap_cons, hf]; exact List.mem_cons_of_mem _ hb)) hr⟩
    exact all outer (fun _ h => h) O.funs
  frlo := O.frlo
  tups := fun b xs e => by
    obtain ⟨h1, h2, its, h3, o, h4, h5⟩ := O.tups b xs e
    refine ⟨h1, h2, its, h3, o, x.keep b o h4 (fun z => absurd h1 (Nat.not_lt.mpr (ho b z))) fun z => ?_, h5⟩
    have := O.hgf b (hF b h1 z)
    rw [e] at this; cases this
  only := O.only
  hgb := O.hgb
  hgf := O.hgf
theorem tupLe_frz {s : Shared} {own : List Addr} (O : OutOk G L Hg A outer s) : TupLe Hg (frzH Hg s.heap own L) := fun b xs e => by
  obtain ⟨_, _, its, _, o, ho, _⟩ := O.tups b xs e
  exact .inr ⟨o, frzH_some e ho⟩
/-- a segment's own tuples on top -/
theorem TupLe.upd {H : Hp} {T : Addr} {o : HO} (h : TupLe Hg H) (n : H T = none) : TupLe Hg (upd H T o) := fun b xs e => by
  have hb : b ≠ T := fun z => by
    rcases h b xs e with q | ⟨_, q⟩ <;> rw [z, n] at q <;> cases q
  rcases h b xs e with q | ⟨o', q⟩
  · exact .inl (by rw [upd_ne hb]; exact q)
  · exact .inr ⟨o', by rw [upd_ne hb]; exact q⟩
end
theorem EffF.set {L : Nat} {F own : List Addr} {gw : List Nat} {s s' : Shared} {g : Nat} {x : GenState} (h : EffF L F own gw s s') (hg : g ∈ gw) : EffF L F own gw s (s'.setGen g x) where
  os := h.os
  grow := h.grow.trans (grow_set s' g x)
  keep := h.keep
  slot := h.slot
  gens := fun n z e hn hs => by
    have hne : g ≠ n := fun q => hn (by rw [← q]; exact hg)
    show (s'.gens.setIfInBounds g x)[n]? = some z
    rw [Array.getElem?_setIfInBounds_ne hne]
    exact h.gens n z e hn hs
theorem LoudF.set {gw gw' : List Nat} {s s' : Shared} {g : Nat} {x : GenState} (h : LoudF gw gw' s s') (hx : x.bare = true ∨ g ∈ gw') (hg : ∀ n ∈ gw', n ∈ gw') : LoudF gw gw' s (s'.setGen g x) := fun n z e hz => by
  by_cases hn : g = n
  · subst hn
    rcases hx with hx | hx
    · have e' : (s'.gens.setIfInBounds g x)[g]? = some z := e
      rw [Array.getElem?_setIfInBounds] at e'
      simp only [if_true] at e'
      split at e'
      · cases e'; rw [hx] at hz; cases hz
      · cases e'
    · exact .inl hx
  · have e' : (s'.gens.setIfInBounds g x)[n]? = some z := e
    rw [Array.getElem?_setIfInBounds_ne hn] at e'
    exact h n z e' hz
theorem LoudF.weak {gw g1 g2 : List Nat} {s s' : Shared} (h : LoudF gw g1 s s') (hg : ∀ n ∈ g1, n ∈ g2) : LoudF gw g2 s s' := fun n z e hz => (h n z e hz).imp (hg n) fun q => q
theorem setGen_get {s : Shared} {g : Nat} {x : GenState} (h : g < s.gens.size) : (s.setGen g x).gens[g]? = some x := by
  show (s.gens.setIfInBounds g x)[g]? = some x
  simp [h]
theorem setGen_ne {s : Shared} {g n : Nat} {x : GenState} (h : g ≠ n) : (s.setGen g x).gens[n]? = s.gens[n]? := by
  show (s.gens.setIfInBounds g x)[n]? = _
  rw [Array.getElem?_setIfInBounds_ne h]
/-- at the beginning of a waking -/
theorem LoudF.begin {gw gI : List Nat} {s : Shared} {g : Nat} (hg : ∀ n ∈ gw, n = g ∨ n ∈ gI) : LoudF gw gI s (s.setGen g .running) := fun n z e hz => by
  by_cases hn : g = n
  · subst hn
    have e' : (s.gens.setIfInBounds g GenState.running)[g]? = some z := e
    rw [Array.getElem?_setIfInBounds] at e'
    simp only [if_true] at e'
    split at e'
    · cases e'; cases hz
    · cases e'
  · have e' : s.gens[n]? = some z := by rw [setGen_ne hn] at e; exact e
    by_cases hm : n ∈ gw
    · rcases hg n hm with q | q
      · exact absurd q.symm hn
      · exact .inl q
    · exact .inr ⟨hm, e'⟩
end Td
end

section
set_option maxHeartbeats 1000000
/-! TdGen5: the turns of such a generator. -/
namespace Td
open PySem PySem.Spec PyProof.Rows L2 GenW

theorem over_yf {A : Around} {c : Code} {fs : List Frame} {k : Result → Sem PySem.Fin} {g : Bool} {l kp : List Value} {p : Pos} {a : Addr} : A.over (yfCode a) (.ret k none g l c p kp :: fs) = (A.over c fs).in1 := by
  have hw : (yfCode a).weight = 0 := plainId_weight plain_yf _
  have hu : (yfCode a).cUnits = 1 := plainId_units plain_yf _
  have e2 : A.depth + frameCount ((Frame.ret k none g l c p kp :: fs).map Frame.where_) + (yfCode a).weight = A.depth + frameCount (fs.map Frame.where_) + c.weight := by
    show A.depth + frameCount ((c, p) :: fs.map Frame.where_) + (yfCode a).weight = _
    rw [frameCount_cons, hw]; omega
  have e3 : pushEnvs (yfCode a).envs (pushEnvs (envsOf ((Frame.ret k none g l c p kp :: fs).map Frame.where_)) A.frames) = pushEnvs c.envs (pushEnvs (envsOf (fs.map Frame.where_)) A.frames) := by
    show pushEnvs (yfCode a).envs (pushEnvs (envsOf ((c, p) :: fs.map Frame.where_)) A.frames) = _
    rw [Code.envs_of_weight hw, envsOf_cons]
    simp only [pushEnvs_eq]
    cases A.frames <;> simp [List.append_assoc]
  have e4 : pushGuards (yfCode a).guards (pushGuards (guardsOf ((Frame.ret k none g l c p kp :: fs).map Frame.where_)) A.guards) = pushGuards c.guards (pushGuards (guardsOf (fs.map Frame.where_)) A.guards) := by
    show pushGuards (yfCode a).guards (pushGuards (guardsOf ((c, p) :: fs.map Frame.where_)) A.guards) = _
    rw [Code.guards_of_weight hw, guardsOf_cons]
    simp only [pushGuards_eq]
    cases A.guards <;> simp [List.append_assoc]
  have e5 : A.units + unitsOf ((Frame.ret k none g l c p kp :: fs).map Frame.where_) + (yfCode a).cUnits = A.units + unitsOf (fs.map Frame.where_) + c.cUnits + 1 := by
    show A.units + unitsOf ((c, p) :: fs.map Frame.where_) + (yfCode a).cUnits = _
    rw [unitsOf_cons, hu]; omega
  have e1 : (marksOver (Frame.ret k none g l c p kp :: fs) (A.handled, A.handled)).1 = (marksOver fs (A.handled, A.handled)).1 := rfl
  show (⟨(marksOver (Frame.ret k none g l c p kp :: fs) (A.handled, A.handled)).1, A.depth + frameCount ((Frame.ret k none g l c p kp :: fs).map Frame.where_) + (yfCode a).weight,
    pushEnvs (yfCode a).envs (pushEnvs (envsOf ((Frame.ret k none g l c p kp :: fs).map Frame.where_)) A.frames), pushGuards (yfCode a).guards (pushGuards (guardsOf ((Frame.ret k none g l c p kp :: fs).map Frame.where_)) A.guards),
    A.units + unitsOf ((Frame.ret k none g l c p kp :: fs).map Frame.where_) + (yfCode a).cUnits⟩ : Around) = _
  rw [e1, e2, e3, e4, e5]
  rfl

section
variable {G : GD} {B : GBody} {ps : List Str} {fd : FuncData} {ι R : Type} (F : Fam G B ps fd ι R) (i : ι) (L : Addr) (Hg : Hp) (g : Nat) (e it : Addr)
abbrev loopC : Code := .forLoop B.tgt (.ref e) B.inner [] (G.env L)
structure LoopSt (j : Nat) (A : Around) (outer : List Env) (own2 : List Addr) (gw2 gI : List Nat) (s2 s : Shared) : Prop where
  room : Room (F.k i) A
  out : OutOk G L Hg A outer s
  fr : ∃ σ, F.Loop i σ Hg ∧ FrameAt G L σ s.heap
  en : EnumT (F.tree i) e it j s.heap
  le : ∀ b, b = e ∨ b = it → L < b
  eff : EffF L (frs outer) own2 gw2 s2 s
  loud : LoudF gw2 gI s2 s
  glt : g < s2.gens.size
  gin : g ∈ gw2
  oL : L ∈ own2
  oe : ∀ b, b = e ∨ b = it → b ∈ own2 ∨ s2.heap.objs.size ≤ b
/-- the child over which it sleeps, and the tuples made for it -/
structure ChildSt (own2 : List Addr) (gw2 : List Nat) (s2 s : Shared) (news : List (Addr × List V)) (ac Lc : Addr) (ownI : List Addr) (gwI : List Nat) : Prop where
  lo : L < Lc
  le : ∀ b, b = e ∨ b = it → b < Lc
  sz : Lc ≤ s.heap.objs.size
  la : Lc < ac
  aI : ac ∉ ownI
  oa : ac ∈ own2 ∨ s2.heap.objs.size ≤ ac
  oI : ∀ b ∈ ownI, b ∈ own2 ∨ s2.heap.objs.size ≤ b
  gI : ∀ n ∈ gwI, n ∈ gw2 ∨ s2.gens.size ≤ n
  gn : g ∉ gwI
  nw : ∀ p ∈ news, L < p.1 ∧ p.1 < Lc ∧ p.2.length ≤ sizeLine ∧ ∃ its, Vals p.2 its ∧ IsTup s.heap p.1 its.toArray
  nd : ∀ nd, F.ND nd → F.ND (news.map (·.1) ++ nd)
end
section
variable {G : GD} {B : GBody} {ps : List Str} {fd : FuncData} {ι R : Type} {F : Fam G B ps fd ι R} {i : ι} {L : Addr} {Hg : Hp} {g : Nat} {e it : Addr}
theorem lookup_mem {b : Addr} {xs : List V} : ∀ {news : List (Addr × List V)}, news.lookup b = some xs → (b, xs) ∈ news
  | [], h => by cases h
  | (a, ys) :: r, h => by
    rw [List.lookup_cons] at h
    split at h
    · rename_i hb
      have hb' : b = a := by simpa using hb
      cases h
      rw [hb']; exact List.mem_cons_self
    · exact List.mem_cons_of_mem _ (lookup_mem h)
theorem childOut {j : Nat} {A A' : Around} {outer : List Env} {own2 : List Addr} {gw2 gI : List Nat} {s2 s : Shared} {news : List (Addr × List V)} {ac Lc : Addr} {ownI : List Addr} {gwI : List Nat}
    (S : LoopSt F i L Hg g e it j A outer own2 gw2 gI s2 s) (C : ChildSt F L g e it own2 gw2 s2 s news ac Lc ownI gwI) (hf : A'.frames = some (G.env L :: outer)) : OutOk G Lc (addT Hg news) A' (G.env L :: outer) s where
  frames := hf
  bs := S.out.bs
  bsz := Nat.le_trans S.out.bsz (Nat.le_of_lt C.lo)
  sz := C.sz
  funs := by
    obtain ⟨σ, _, fr⟩ := S.fr
    obtain ⟨o, ho, _, _, hd⟩ := fr.obj
    exact ⟨by show G.scope.kind ≠ _; rw [F.ok.kind]; decide, ⟨L, o, rfl, Heap.get?_none_of_le S.out.bsz, ho, hd⟩, S.out.funs⟩
  frlo := fun b hb => by
    rcases List.mem_cons.mp (show b ∈ L :: frs outer from hb) with z | z
    · rw [z]; exact C.lo
    · exact Nat.lt_trans (S.out.frlo b z) C.lo
  tups := fun b xs h => by
    unfold addT at h
    cases q : news.lookup b with
    | some ys =>
      rw [q] at h
      cases h
      obtain ⟨h1, h2, h3, h4⟩ := C.nw _ (lookup_mem q)
      exact ⟨h2, h3, h4⟩
    | none =>
      rw [q] at h
      obtain ⟨h1, h2⟩ := S.out.tups b xs h
      exact ⟨Nat.lt_trans h1 C.lo, h2⟩
  only := fun b o h => by
    unfold addT at h
    cases q : news.lookup b with
    | some ys => rw [q] at h; cases h; exact ⟨_, rfl⟩
    | none => rw [q] at h; exact S.out.only b o h
  hgb := fun b o h => by
    unfold addT
    cases q : news.lookup b with
    | some ys =>
      have h1 := (C.nw _ (lookup_mem q)).1
      exact absurd (Nat.lt_of_lt_of_le (Heap.lt_size h) S.out.bsz) (Nat.not_lt.mpr (Nat.le_of_lt h1))
    | none => exact S.out.hgb b o h
  hgf := fun b hb => by
    have hb' : b ≤ L := by
      rcases List.mem_cons.mp (show b ∈ L :: frs outer from hb) with z | z
      · rw [z]; exact Nat.le_refl _
      · exact Nat.le_of_lt (S.out.frlo b z)
    unfold addT
    cases q : news.lookup b with
    | some ys => exact absurd (Nat.lt_of_lt_of_le (C.nw _ (lookup_mem q)).1 hb') (Nat.lt_irrefl _)
    | none =>
      show Hg b = none
      cases q2 : Hg b with
      | none => rfl
      | some u =>
        obtain ⟨xs, rfl⟩ := S.out.only b u q2
        rcases List.mem_cons.mp (show b ∈ L :: frs outer from hb) with z | z
        · exact absurd (S.out.tups b xs q2).1 (by rw [z]; exact Nat.lt_irrefl _)
        · rw [S.out.hgf b z] at q2; cases q2
theorem roomI {k kc : Nat} {A : Around} {env : Env} (r : Room k A) (h : kc + 4 ≤ k) : Room kc ((A.deeper env).in1).in1 := by
  have r1 : Room (kc + 3) A := r.mono (by omega)
  exact ((r1.deeper env).in1).in1
theorem nolimit_out {A : Around} {outer : List Env} {s : Shared} (F : Fam G B ps fd ι R) (O : OutOk G L Hg A outer s) : s.heap.NoLimit := F.ok.mod.nolimit.keeps O.bs
/-- the loop's facts behind a child's effect -/
theorem LoopSt.after {j : Nat} {A : Around} {outer : List Env} {own2 : List Addr} {gw2 : List Nat} {s2 s s' : Shared} {news : List (Addr × List V)} {ac Lc : Addr} {ownI : List Addr} {gwI gw3 : List Nat}
    (S : LoopSt F i L Hg g e it j A outer own2 gw2 gwI s2 s) (C : ChildSt F L g e it own2 gw2 s2 s news ac Lc ownI gwI) {ownX : List Addr} (hI : ∀ b ∈ ownX, Lc ≤ b) (hoX : ∀ b ∈ ownX, b ∈ own2 ∨ s2.heap.objs.size ≤ b) (x : EffF Lc (frs (G.env L :: outer)) ownX gwI s s') (l : LoudF gwI gw3 s s') :
    LoopSt F i L Hg g e it j A outer own2 gw2 gw3 s2 s' where
  room := S.room
  out := S.out.eff x (Nat.le_of_lt C.lo) (fun b hb => Nat.le_trans (Nat.le_of_lt C.lo) (hI b hb)) fun b h1 h2 => by
    rcases List.mem_cons.mp (show b ∈ L :: frs outer from h2) with z | z
    · rw [z] at h1; exact absurd h1 (Nat.lt_irrefl _)
    · exact z
  fr := by
    obtain ⟨σ, h1, fr⟩ := S.fr
    exact ⟨σ, h1, fr.slot F.ok fun o ho => x.slot L o ho List.mem_cons_self⟩
  en := S.en.keep fun b hb o ho => by
    obtain ⟨o', ho', _, hd⟩ := S.en.obj hb
    rw [ho] at ho'; cases ho'
    refine x.keep b o ho (fun z => absurd (C.le b hb) (Nat.not_lt.mpr (hI b z))) fun z => ?_
    rcases List.mem_cons.mp (show b ∈ L :: frs outer from z) with q | q
    · exact absurd (S.le b hb) (by rw [q]; exact Nat.lt_irrefl _)
    · exact absurd (Nat.lt_trans (S.out.frlo b q) (S.le b hb)) (Nat.lt_irrefl _)
  le := S.le
  eff := S.eff.trans x (Nat.le_of_lt C.lo) (fun b hb => ⟨List.mem_cons_of_mem _ hb, S.out.frlo b hb⟩) (fun b hb => by
    rcases List.mem_cons.mp (show b ∈ L :: frs outer from hb) with z | z
    · rw [z]; exact .inr (.inl S.oL)
    · exact .inl z) hoX C.gI
  loud := S.loud.trans l
  glt := S.glt
  gin := S.gin
  oL := S.oL
  oe := S.oe
/-- the heap may grow, tokens be drawn -/
theorem LoopSt.kept {j : Nat} {A : Around} {outer : List Env} {own2 : List Addr} {gw2 gI : List Nat} {s2 s : Shared} {h' : Heap} {tk : Nat} (S : LoopSt F i L Hg g e it j A outer own2 gw2 gI s2 s) (k : ∀ b o, s.heap.get? b = some o → h'.get? b = some o) (hz : s.heap.objs.size ≤ h'.objs.size) :
    LoopSt F i L Hg g e it j A outer own2 gw2 gI s2 { s with heap := h', toks := tk } where
  room := S.room
  out := S.out.eff (L' := L) (F := []) (own := []) (gw := []) ⟨rfl, ⟨hz, Nat.le_refl _⟩, fun b o q _ _ => k b o q, (fun b o q z => by cases z), fun n x q _ _ => q⟩ (Nat.le_refl _) (fun b hb => by cases hb) fun b _ hb => by cases hb
  fr := by
    obtain ⟨σ, h1, fr⟩ := S.fr
    exact ⟨σ, h1, fr.slot F.ok fun o ho => ⟨o.slots, k L o ho⟩⟩
  en := S.en.keep fun b hb o ho => k b o ho
  le := S.le
  eff := S.eff.trans (L' := L) (F' := frs outer) (own' := []) (gw' := []) ⟨rfl, ⟨hz, Nat.le_refl _⟩, fun b o q _ _ => k b o q, fun b o q z => ⟨o.slots, k b o q⟩, fun n x q _ _ => q⟩ (Nat.le_refl _) (fun b hb => ⟨hb, S.out.frlo b hb⟩) (fun b hb => .inl hb) (fun b hb => by cases hb) fun n hn => by cases hn
  loud := S.loud
  glt := S.glt
  gin := S.gin
  oL := S.oL
  oe := S.oe
end
end Td
end

section
set_option maxHeartbeats 1000000
/-! TdGen6: «yield from» over a child, through all its rows. -/
namespace Td
open PySem PySem.Spec PyProof.Rows L2 GenW

section
variable {G : GD} {B : GBody} {ps : List Str} {fd : FuncData} {ι R : Type} {F : Fam G B ps fd ι R} {i : ι} {L : Addr} {Hg : Hp} {g : Nat} {e it : Addr}
theorem isTup_seq {h : Heap} {a : Addr} {items : Array Value} (x : IsTup h a items) : ∃ o, h.get? a = some o ∧ ∃ v n, o.data = .seq v n := let ⟨o, ho, _, n, hd⟩ := x; ⟨o, ho, _, n, hd⟩
theorem yf_seg {j kc nc : Nat} {ac Lc : Addr} {news : List (Addr × List V)} {kont kont2 : Result → Sem PySem.Fin} {l1 l2 : List Value} {p1 p2 : Pos} {rest : List R}
    (hk2 : kont2 (.ok (.ret .none)) = .pure (.again (loopC (G := G) (B := B) L e))) (hkc : kc + 4 ≤ F.k i)
    (turn : ∀ A outer own2 nd2 gw2 s2 s, LoopSt F i L Hg g e it (j + 1) A outer own2 gw2 [] s2 s →
      Seg2 G.M A (SegTo G (F.rel L Hg) F.ND L Hg (F.k i) g rest (frs outer) own2 nd2 gw2 s2) (loopC (G := G) (B := B) L e) (G.M.den (loopC (G := G) (B := B) L e)) [.ret kont none false l1 (.func B.stmts (G.env L)) p1 []] s) :
    ∀ (rowsI : List R) A outer own2 nd2 gw2 s2 s ownI ndI gwI, LoopSt F i L Hg g e it (j + 1) A outer own2 gw2 gwI s2 s → ChildSt F L g e it own2 gw2 s2 s news ac Lc ownI gwI →
      GDo G (F.rel Lc (addT Hg news)) F.ND Lc (addT Hg news) kc nc rowsI ownI ndI gwI s → IsG s.heap ac nc →
      Seg2 G.M A (SegTo G (F.rel L Hg) F.ND L Hg (F.k i) g (rowsI ++ rest) (frs outer) own2 nd2 gw2 s2) (yfCode ac) (G.M.den (yfCode ac))
        [.ret kont2 none false l2 (loopC (G := G) (B := B) L e) p2 [], .ret kont none false l1 (.func B.stmts (G.env L)) p1 []] s := by
  intro rowsI
  induction rowsI with
  | nil =>
    intro A outer own2 nd2 gw2 s2 s ownI ndI gwI S C D hg
    have hA : A.over (yfCode ac) [.ret kont2 none false l2 (loopC (G := G) (B := B) L e) p2 [], .ret kont none false l1 (.func B.stmts (G.env L)) p1 []] = (A.deeper (G.env L)).in1 := by rw [over_yf, over_loop rfl rfl, over_func]
    obtain ⟨gs, hgs, haw⟩ := D.pre.awake
    have rm := roomI (env := G.env L) S.room hkc
    refine g_yf rfl (by rw [hA]; exact rm.hd) (nolimit_out F S.out) (by rw [hA]; have := rm.dp; show A.depth + 1 < _; exact Nat.lt_of_le_of_lt (by show A.depth + 1 ≤ A.depth + 1 + 3 * kc + 5; omega) this) hg hgs haw fun Γ p hΓ => ?_
    rw [hA] at hΓ
    obtain ⟨s', hw, x, l⟩ := D.2 _ (G.env L :: outer) Γ p s hΓ rm (childOut S C (Around.frames_deeper S.out.frames)) (Fut.refl _ _ _ _)
    refine ⟨_, s', hw, .inr ⟨rfl, fun h' tk hk => ?_⟩⟩
    refine g_leaf (.ok (.ret .none)) ?_
    rw [hk2]
    refine g_again rfl (turn A outer own2 nd2 gw2 s2 _ ?_)
    exact (S.after C (fun b hb => (D.pre.ownOk b hb).1) C.oI x l).kept hk.1 hk.2
  | cons r rs ih =>
    intro A outer own2 nd2 gw2 s2 s ownI ndI gwI S C D hg
    have hA : A.over (yfCode ac) [.ret kont2 none false l2 (loopC (G := G) (B := B) L e) p2 [], .ret kont none false l1 (.func B.stmts (G.env L)) p1 []] = (A.deeper (G.env L)).in1 := by rw [over_yf, over_loop rfl rfl, over_func]
    obtain ⟨gs, hgs, haw⟩ := D.pre.awake
    have rm := roomI (env := G.env L) S.room hkc
    refine g_yf rfl (by rw [hA]; exact rm.hd) (nolimit_out F S.out) (by rw [hA]; have := rm.dp; show A.depth + 1 < _; exact Nat.lt_of_le_of_lt (by show A.depth + 1 ≤ A.depth + 1 + 3 * kc + 5; omega) this) hg hgs haw fun Γ p hΓ => ?_
    rw [hA] at hΓ
    obtain ⟨v, s', ownI', ndI', gwI', hw, x, go, hrel, D'⟩ := D.2 _ (G.env L :: outer) Γ p s hΓ rm (childOut S C (Around.frames_deeper S.out.frames)) (Fut.refl _ _ _ _)
    have hacL : L < ac := Nat.lt_trans C.lo C.la
    have hacF : ac ∉ frs (G.env L :: outer) := fun z => by
      rcases List.mem_cons.mp (show ac ∈ L :: frs outer from z) with q | q
      · exact absurd hacL (by rw [q]; exact Nat.lt_irrefl _)
      · exact absurd (Nat.lt_trans (S.out.frlo ac q) hacL) (Nat.lt_irrefl _)
    have hg' : IsG s'.heap ac nc := hg.at fun o ho => by
      obtain ⟨o', ho', _, hd⟩ := hg.obj
      rw [ho] at ho'; cases ho'
      exact x.keep ac o ho C.aI hacF
    have hsz2 : s2.heap.objs.size ≤ s.heap.objs.size := S.eff.grow.1
    have hgz2 : s2.gens.size ≤ s.gens.size := S.eff.grow.2
    have hacS : ac < s.heap.objs.size := by obtain ⟨o, ho, _⟩ := hg.obj; exact Heap.lt_size ho
    have haI' : ac ∉ ownI' := fun z => by
      rcases go.ownN ac z with q | q
      · exact C.aI q
      · exact absurd hacS (Nat.not_lt.mpr q)
    have hgn' : g ∉ gwI' := fun z => by
      rcases go.gens g z with q | q
      · exact C.gn q
      · exact absurd (Nat.lt_of_lt_of_le S.glt hgz2) (Nat.not_lt.mpr q)
    refine ⟨_, s', hw, .inl ⟨v, rfl, hg', fun kk l p h1 i1 k1 z1 next => ?_⟩⟩
    -- the effect as far as here
    have x2 : EffF Lc (frs (G.env L :: outer)) (ac :: ownI) gwI s { s' with heap := h1 } :=
      ⟨x.os, ⟨by show s.heap.objs.size ≤ h1.objs.size; rw [z1]; exact x.grow.1, x.grow.2⟩, fun b o q h2 h4 => k1 b o (fun z => h2 (by rw [z]; exact List.mem_cons_self)) (x.keep b o q (fun z => h2 (List.mem_cons_of_mem _ z)) h4), fun b o q h2 => by
        obtain ⟨sl, q2⟩ := x.slot b o q h2
        exact ⟨sl, k1 b _ (fun z => hacF (by rw [← z]; exact h2)) q2⟩, x.gens⟩
    have hLcac : ∀ b ∈ ac :: ownI, Lc ≤ b := fun b hb => by
      rcases List.mem_cons.mp hb with z | z
      · rw [z]; exact Nat.le_of_lt C.la
      · exact (D.pre.ownOk b z).1
    have hoac : ∀ b ∈ ac :: ownI, b ∈ own2 ∨ s2.heap.objs.size ≤ b := fun b hb => by
      rcases List.mem_cons.mp hb with z | z
      · rw [z]; exact C.oa
      · exact C.oI b z
    have S1 : LoopSt F i L Hg g e it (j + 1) A outer own2 gw2 gwI' s2 { s' with heap := h1 } := S.after C hLcac hoac x2 go.loud
    have hglt : g < s'.gens.size := Nat.lt_of_lt_of_le S.glt (Nat.le_trans hgz2 x.grow.2)
    have noSeq : ∀ {h : Heap} {b : Addr} {o : Obj}, IsG h ac nc → h.get? b = some o → (∃ v n, o.data = .seq v n) → b ≠ ac := fun {h b o} hgg hb ⟨v, n, hd⟩ z => by
      obtain ⟨o', ho', hn, _⟩ := hgg.obj
      rw [z, ho'] at hb; cases hb
      exact hn v n hd
    have noSeq1 : ∀ {h : Heap} {b : Addr} {o : Obj}, IsG1 h ac nc → h.get? b = some o → (∃ v n, o.data = .seq v n) → b ≠ ac := fun {h b o} hgg hb ⟨v, n, hd⟩ z => by
      obtain ⟨o', ho', hn, _⟩ := hgg.obj
      rw [z, ho'] at hb; cases hb
      exact hn v n hd
    have noCls : ∀ {h : Heap} {b : Addr} {o : Obj}, IsG h ac nc → h.get? b = some o → o.cls = .type "tuple" → b ≠ ac := fun {h b o} ⟨o', _, _, ho', hc', _⟩ hb hc z => by
      rw [z, ho'] at hb; cases hb
      rw [hc'] at hc; injection hc with q; exact absurd q (by decide)
    have ownL : ∀ b ∈ L :: e :: it :: ac :: ownI', b ∈ own2 ∨ s2.heap.objs.size ≤ b := fun b hb => by
      rcases List.mem_cons.mp hb with z | hb
      · rw [z]; exact .inl S.oL
      rcases List.mem_cons.mp hb with z | hb
      · exact S.oe b (.inl z)
      rcases List.mem_cons.mp hb with z | hb
      · exact S.oe b (.inr z)
      rcases List.mem_cons.mp hb with z | hb
      · rw [z]; exact C.oa
      rcases go.ownN b hb with z | z
      · exact C.oI b z
      · exact .inr (Nat.le_trans hsz2 z)
    refine ⟨.inr ⟨v, l, kk, ac, [.bool false, .none], [], p, _, rfl, trivial, rfl, i1.num⟩, S1.eff.set S.gin, v, L :: e :: it :: ac :: ownI', news.map (·.1) ++ ndI', g :: gwI', rfl,
      ⟨fun T hT => Nat.le_trans hsz2 (go.vnew T hT), (S1.loud.weak fun n hn => List.mem_cons_of_mem _ hn).set (.inr List.mem_cons_self) fun _ h => h, ownL, fun n hn => ?_, fun n hn => ?_⟩, F.relS L Hg r s'.heap h1 v (fun b o hb hs _ => ⟨o.slots, k1 b o (noCls hg' hb hs) hb⟩) (F.relUp L Lc Hg news r _ _ C.lo (fun q hq => (C.nw q hq).1) hrel), ?_⟩
    · rcases List.mem_cons.mp hn with z | z
      · rw [z]; exact .inl S.gin
      · rcases go.gens n z with q | q
        · exact C.gI n q
        · exact .inr (Nat.le_trans hgz2 q)
    · rcases List.mem_cons.mp hn with z | z
      · rw [z]; exact ⟨_, setGen_get (s := { s' with heap := h1 }) hglt, rfl⟩
      · obtain ⟨y, hy, hs⟩ := go.susp n z
        refine ⟨y, ?_, hs⟩
        rw [setGen_ne (s := { s' with heap := h1 }) (fun q => hgn' (by rw [q]; exact z))]
        exact hy
    · -- what it will hand out from here
      have nwK : ∀ q ∈ news, ∃ its, Vals q.2 its ∧ IsTup h1 q.1 its.toArray := fun q hq => by
        obtain ⟨n1, n2, n3, its, n4, o, n5, n6⟩ := C.nw q hq
        refine ⟨its, n4, o, ?_, n6⟩
        refine x2.keep q.1 o n5 (fun z => absurd n2 (Nat.not_lt.mpr (hLcac q.1 z))) fun z => ?_
        rcases List.mem_cons.mp (show q.1 ∈ L :: frs outer from z) with y | y
        · exact absurd n1 (by rw [y]; exact Nat.lt_irrefl _)
        · exact absurd (Nat.lt_trans (S.out.frlo _ y) n1) (Nat.lt_irrefl _)
      refine gdo_of (gs := .suspended kk l (yfCode ac) p _ true) (c := yfCode ac) ⟨fun b hb => ?_, fun b hb => ?_, C.nd ndI' D'.pre.NDok, List.mem_cons_self, ⟨_, setGen_get (s := { s' with heap := h1 }) hglt, .inr ⟨_, _, _, _, _, _, rfl⟩⟩, fun n hn => ?_⟩ (setGen_get (s := { s' with heap := h1 }) hglt) (.inr ⟨kk, l, p, true, rfl, rfl⟩) fun A3 outer3 s3 room3 out3 fut3 => ?_
      · rcases List.mem_cons.mp hb with z | hb
        · rw [z]
          obtain ⟨σ, _, fr⟩ := S1.fr
          obtain ⟨o, ho, h2, h3, _⟩ := fr.obj
          exact ⟨Nat.le_refl _, o, ho, h2, h3⟩
        rcases List.mem_cons.mp hb with z | hb
        · obtain ⟨o, ho, h2, h3⟩ := S1.en.obj (.inl z)
          exact ⟨Nat.le_of_lt (S.le b (.inl z)), o, ho, h2, h3⟩
        rcases List.mem_cons.mp hb with z | hb
        · obtain ⟨o, ho, h2, h3⟩ := S1.en.obj (.inr z)
          exact ⟨Nat.le_of_lt (S.le b (.inr z)), o, ho, h2, h3⟩
        rcases List.mem_cons.mp hb with z | hb
        · rw [z]
          obtain ⟨o, ho, h2, h3⟩ := i1.obj
          exact ⟨Nat.le_of_lt hacL, o, ho, h2, h3⟩
        · obtain ⟨h2, o, ho, h3, h4⟩ := D'.pre.ownOk b hb
          exact ⟨Nat.le_trans (Nat.le_of_lt C.lo) h2, o, k1 b o (fun z => haI' (by rw [← z]; exact hb)) ho, h3, h4⟩
      · rcases List.mem_append.mp hb with z | z
        · obtain ⟨q, hq, rfl⟩ := List.mem_map.mp z
          obtain ⟨its, _, ht⟩ := nwK q hq
          obtain ⟨o, ho, hc, n, hd⟩ := ht
          exact ⟨Nat.le_of_lt (C.nw q hq).1, o, ho, hc, _, n, hd⟩
        · obtain ⟨h2, o, ho, hc, hs⟩ := D'.pre.ndOk b z
          exact ⟨Nat.le_trans (Nat.le_of_lt C.lo) h2, o, k1 b o (noSeq hg' ho hs) ho, hc, hs⟩
      · rw [setGen_sz]
        rcases List.mem_cons.mp hn with z | z
        · rw [z]; exact hglt
        · exact D'.pre.lt n z
      · have mL : L ∈ L :: e :: it :: ac :: ownI' := List.mem_cons_self
        have me : ∀ b, b = e ∨ b = it → b ∈ L :: e :: it :: ac :: ownI' := fun b hb => by rcases hb with z | z <;> simp [z]
        have ma : ac ∈ L :: e :: it :: ac :: ownI' := by simp
        have mI : ∀ b ∈ ownI', b ∈ L :: e :: it :: ac :: ownI' := fun b hb => by simp [hb]
        have i3 : IsG1 (s3.setGen g .running).heap ac nc := i1.at fun o ho => fut3.ownK ac ma o ho
        refine next A3 _ (s3.setGen g .running) i3 fun h3 i4 k3 z3 => ?_
        have ea : EffF L (frs outer3) (L :: e :: it :: ac :: ownI') (g :: gwI') s3 { (s3.setGen g .running) with heap := h3 } :=
          ⟨rfl, ⟨by show _ ≤ h3.objs.size; rw [z3]; exact Nat.le_refl _, by show _ ≤ (s3.setGen g .running).gens.size; rw [setGen_sz]; exact Nat.le_refl _⟩, fun b o q h2 _ => k3 b o (fun z => h2 (by rw [z]; exact ma)) q, fun b o q h2 => ⟨o.slots, k3 b o (fun z => absurd (Nat.lt_trans (out3.frlo b h2) hacL) (by rw [z]; exact Nat.lt_irrefl _)) q⟩,
            fun n y q hn hs => (setGen_ne (fun z => hn (by rw [← z]; exact List.mem_cons_self))).trans q⟩
        have out4 : OutOk G L Hg A3 outer3 { (s3.setGen g .running) with heap := h3 } := out3.eff ea (Nat.le_refl _) (fun b hb => ?_) fun b _ h2 => h2
        · refine ih A3 outer3 _ _ _ s3 _ ownI' ndI' gwI' ⟨room3, out4, ?_, ?_, S.le, ea, ?_, ?_, List.mem_cons_self, mL, fun b hb => .inl (me b hb)⟩ ⟨C.lo, C.le, ?_, C.la, haI', .inl ma, fun b hb => .inl (mI b hb), fun n hn => .inl (List.mem_cons_of_mem _ hn), hgn', fun q hq => ?_, C.nd⟩ (D'.fut ?_) i4
          · obtain ⟨σ, hL, fr⟩ := S1.fr
            refine ⟨σ, hL, fr.slot F.ok fun o ho => ⟨o.slots, k3 L o (Nat.ne_of_lt hacL) (fut3.ownK L mL o ho)⟩⟩
          · refine S1.en.keep fun b hb o ho => k3 b o (Nat.ne_of_lt (Nat.lt_trans (C.le b hb) C.la)) (fut3.ownK b (me b hb) o ho)
          · exact LoudF.begin fun n hn => by
              rcases List.mem_cons.mp hn with z | z
              · exact .inl z
              · exact .inr z
          · refine Nat.lt_of_lt_of_le ?_ fut3.grow.2
            rw [setGen_sz]; exact hglt
          · show Lc ≤ h3.objs.size
            have q1 : s'.heap.objs.size ≤ s3.heap.objs.size := by
              have := fut3.grow.1
              have q2 : h1.objs.size ≤ s3.heap.objs.size := this
              rw [z1] at q2; exact q2
            have z3' : h3.objs.size = s3.heap.objs.size := z3
            rw [z3']
            exact Nat.le_trans C.sz (Nat.le_trans x.grow.1 q1)
          · obtain ⟨n1, n2, n3, _⟩ := C.nw q hq
            obtain ⟨its, n4, o, ho, hc⟩ := nwK q hq
            refine ⟨n1, n2, n3, its, n4, o, k3 q.1 o (Nat.ne_of_lt (Nat.lt_trans n2 C.la)) (fut3.ndK q.1 (List.mem_append_left _ (List.mem_map_of_mem hq)) o ho), hc⟩
          · refine ⟨⟨?_, ?_⟩, fun b hb o ho => ?_, fun b hb o ho => ?_, fun n hn y hy => ?_⟩
            · show s'.heap.objs.size ≤ h3.objs.size
              have q2 : h1.objs.size ≤ s3.heap.objs.size := fut3.grow.1
              have z3' : h3.objs.size = s3.heap.objs.size := z3
              rw [z1] at q2
              rw [z3']; exact q2
            · show s'.gens.size ≤ (s3.setGen g .running).gens.size
              have q2 := fut3.grow.2
              rw [setGen_sz] at q2 ⊢
              exact q2
            · have hne : b ≠ ac := fun z => haI' (by rw [← z]; exact hb)
              exact k3 b o hne (fut3.ownK b (mI b hb) o (k1 b o hne ho))
            · obtain ⟨_, o', ho', _, hs⟩ := D'.pre.ndOk b hb
              rw [ho] at ho'; cases ho'
              have hne := noSeq hg' ho hs
              exact k3 b o hne (fut3.ndK b (List.mem_append_right _ hb) o (k1 b o hne ho))
            · have hne : g ≠ n := fun z => hgn' (by rw [z]; exact hn)
              show (s3.setGen g .running).gens[n]? = some y
              rw [setGen_ne hne]
              refine fut3.gens n (List.mem_cons_of_mem _ hn) y ?_
              rw [setGen_ne (s := { s' with heap := h1 }) hne]
              exact hy
        · rcases List.mem_cons.mp hb with z | hb
          · rw [z]; exact Nat.le_refl _
          rcases List.mem_cons.mp hb with z | hb
          · exact Nat.le_of_lt (S.le b (.inl z))
          rcases List.mem_cons.mp hb with z | hb
          · exact Nat.le_of_lt (S.le b (.inr z))
          rcases List.mem_cons.mp hb with z | hb
          · rw [z]; exact Nat.le_of_lt hacL
          · exact Nat.le_trans (Nat.le_of_lt C.lo) (D'.pre.ownOk b hb).1
end
end Td
end

section
set_option maxHeartbeats 1000000
/-! TdGen7: the turns over the children; such a generator from its beginning. -/
namespace Td
open PySem PySem.Spec PyProof.Rows L2 GenW

section
variable {G : GD} {B : GBody} {ps : List Str} {fd : FuncData} {ι R : Type} {F : Fam G B ps fd ι R} {i : ι} {L : Addr} {Hg : Hp} {g : Nat} {e it : Addr}
/-- what is to be shown of children -/
abbrev KidsOk (F : Fam G B ps fd ι R) (i : ι) : Prop := ∀ j, j < F.len i → ∀ Lc Hgc nc vs s, F.Args (F.child i j) vs Hgc → FrameAt G Lc (L2.start G.N vs) s.heap → s.gens[nc]? = some (.fresh (.func B.stmts (G.env Lc))) →
  GDo G (F.rel Lc Hgc) F.ND Lc Hgc (F.k (F.child i j)) nc (F.rows (F.child i j)) [Lc] [] [nc] s
theorem seg_fp {A' : Around} {outer : List Env} {s : Shared} {own : List Addr} {b : Addr} (O : OutOk G L Hg A' outer s) (A : Around) (hb : L < b) (ho : b ∈ own) (g0 : G.Ok) : FpOk (segX G L Hg own A outer s) [] (frzH Hg s.heap own L) b := by
  refine ⟨?_, Nat.ne_of_gt hb, fun z => absurd (Nat.lt_trans (O.frlo b z) hb) (Nat.lt_irrefl _), .inr (Nat.le_trans cutH_size (Nat.le_of_lt hb)), fun x c h1 => ?_, fun p hp z => ?_⟩
  · cases q : Hg b with
    | none => exact frzH_none q fun z => z.2 ho
    | some u =>
      obtain ⟨xs, rfl⟩ := O.only b u q
      exact absurd (Nat.lt_trans (O.tups b xs q).1 hb) (Nat.lt_irrefl _)
  · have e : (G.env L).cells = [] := g0.nocell _
    have h1' : (G.env L).cells.lookup x = some c := h1
    rw [e] at h1'; cases h1'
  · cases (show p ∈ ([] : List (Addr × Obj)) from hp)
theorem turn_seg (hl : F.leaf i = false) (ih : KidsOk F i) {kont : Result → Sem PySem.Fin} {l1 : List Value} {p1 : Pos} (hk : kont (.ok .next) = .pure (.done (.ret .none))) :
    ∀ n j, j + n = F.len i → ∀ A outer own2 nd2 gw2 s2 s, LoopSt F i L Hg g e it j A outer own2 gw2 [] s2 s →
      Seg2 G.M A (SegTo G (F.rel L Hg) F.ND L Hg (F.k i) g (F.from_ i j) (frs outer) own2 nd2 gw2 s2) (loopC (G := G) (B := B) L e) (G.M.den (loopC (G := G) (B := B) L e)) [.ret kont none false l1 (.func B.stmts (G.env L)) p1 []] s := by
  intro n
  induction n with
  | zero =>
    intro j hj A outer own2 nd2 gw2 s2 s S
    have hj' : j = F.len i := by omega
    obtain ⟨σ, hL, fr⟩ := S.fr
    have hA : A.over (loopC (G := G) (B := B) L e) [.ret kont none false l1 (.func B.stmts (G.env L)) p1 []] = A.deeper (G.env L) := by rw [over_loop rfl rfl, over_func]
    have I0 := seg_inv (own := [e, it]) F.ok (A' := A.deeper (G.env L)) S.room.hd (Around.frames_deeper S.out.frames) S.out fr
    have hfp : ∀ b ∈ [e, it], FpOk (segX G L Hg [e, it] (A.deeper (G.env L)) outer s) [] (frzH Hg s.heap [e, it] L) b := fun b hb => seg_fp S.out _ (S.le b (by simpa using hb)) hb F.ok
    have T := turn_enumT (P := G.P) (w := G.w) (K := G.K) (elts := B.elts) (kk := B.kk) (tpos := B.tp) (F.tree i) e it
    obtain ⟨hsq, hlen⟩ := F.o_items i σ Hg _ hL (tupLe_frz S.out)
    have T0 : wpAny (model G.P G.w) (A.deeper (G.env L)) (nextFor B.tgt (.ref e)) (fun r s1 => r = none ∧ Inv (segX G L Hg [e, it] (A.deeper (G.env L)) outer s) [] σ (frzH Hg s.heap [e, it] L) s1) (fun _ _ => False) (stuck s) :=
      wp_nextFor (fun _ _ z => z) (thn (T.done (segX G L Hg [e, it] (A.deeper (G.env L)) outer s) rfl rfl rfl rfl j [] (stuck s) σ (frzH Hg s.heap [e, it] L) (fun _ _ => False) I0 hfp S.en ⟨_, hsq, by omega⟩) fun r s1 ⟨hr, I⟩ => by subst hr; exact ⟨rfl, I⟩)
    refine g_forTurn ?_
    rw [hA]
    refine a2_thn (imp T0 (fun _ _ ⟨_, I⟩ => I.bare) fun _ _ z => z) fun r s4 ⟨g4, t4, ⟨hr, I4⟩, h4, o4⟩ => ?_
    subst hr
    refine g_leaf (.ok .next) ?_
    rw [hk]
    refine g_end (.ok (.ret .none)) ?_
    have ef : EffF L (frs outer) own2 gw2 s2 s4 := S.eff.trans (seg_eff S.out (inv2_of I4 h4 o4) g4) (Nat.le_refl _) (fun b hb => ⟨hb, S.out.frlo b hb⟩) (fun b hb => .inl hb) (fun b hb => by
      rcases List.mem_cons.mp hb with z | z
      · rw [z]; exact .inl S.oL
      · exact S.oe b (by simpa using z)) fun n hn => by cases hn
    rw [hj', F.from_last]
    exact ⟨.inl rfl, ef.set S.gin, rfl, (S.loud.trans (LoudF.of_keep g4)).set (.inl rfl) fun _ h => h⟩
  | succ n ihn =>
    intro j hj A outer own2 nd2 gw2 s2 s S
    have hjl : j < F.len i := by omega
    obtain ⟨σ, hL, fr⟩ := S.fr
    have hA : A.over (loopC (G := G) (B := B) L e) [.ret kont none false l1 (.func B.stmts (G.env L)) p1 []] = A.deeper (G.env L) := by rw [over_loop rfl rfl, over_func]
    have I0 := seg_inv (own := [e, it]) F.ok (A' := A.deeper (G.env L)) S.room.hd (Around.frames_deeper S.out.frames) S.out fr
    have hfp : ∀ b ∈ [e, it], FpOk (segX G L Hg [e, it] (A.deeper (G.env L)) outer s) [] (frzH Hg s.heap [e, it] L) b := fun b hb => seg_fp S.out _ (S.le b (by simpa using hb)) hb F.ok
    have T := turn_enumT (P := G.P) (w := G.w) (K := G.K) (elts := B.elts) (kk := B.kk) (tpos := B.tp) (F.tree i) e it
    have tl0 := tupLe_frz (own := [e, it]) S.out
    obtain ⟨hsq, hlen⟩ := F.o_items i σ Hg _ hL tl0
    obtain ⟨xj, hxj⟩ : ∃ x, (F.items i)[j]? = some x := ⟨(F.items i)[j]'(by omega), List.getElem?_eq_getElem (by omega)⟩
    have T1 : wpAny (model G.P G.w) (A.deeper (G.env L)) (nextFor B.tgt (.ref e)) (fun r s2 => ∃ u x H', r = some u ∧ Inv (segX G L Hg [e, it] (A.deeper (G.env L)) outer s) [] σ H' s2 ∧ RelV x u ∧ (Itet G.K (F.tree i)).yld j (frzH Hg s.heap [e, it] L) x H' ∧ EnumT (F.tree i) e it (j + 1) s2.heap ∧ ∀ b ∈ [e, it], H' b = none) (fun _ _ => False) (stuck s) :=
      wp_nextFor (fun _ _ z => z) (thn (T.item (segX G L Hg [e, it] (A.deeper (G.env L)) outer s) rfl rfl rfl rfl j [] (stuck s) σ (frzH Hg s.heap [e, it] L) (fun _ _ => False) I0 hfp S.en ⟨_, _, hsq, hxj⟩) fun r s1 ⟨u, hr, h1⟩ => by
        subst hr
        exact thn h1 fun _ s2 ⟨x, H', z⟩ => ⟨u, x, H', rfl, z⟩)
    refine g_forTurn ?_
    rw [hA]
    refine a2_thn (imp T1 (fun _ _ ⟨_, _, _, _, I, _⟩ => I.bare) fun _ _ z => z) fun r s5 ⟨g5, t5, ⟨u, x, H5, hr, I5, r5, ⟨Tp, x', ex, hT, hH5, hx'⟩, st5, fr5⟩, h5, o5⟩ => ?_
    subst hr
    have exj : x' = xj := Option.some.inj ((hx' _ hsq).symm.trans hxj)
    subst exj ex
    rw [← h5] at st5
    replace I5 : Inv2 (segX G L Hg [e, it] (A.deeper (G.env L)) outer s) [] σ H5 s5 := inv2_of I5 h5 o5
    have I5' := I5.pinned (fp := [e, it]) (fun b hb => ⟨fr5 b hb, (hfp b hb).2⟩) (T.obj _ _ st5)
    obtain ⟨gT, hg, hgq⟩ := F.o_tgt i j σ Hg L [e, it] (A.deeper (G.env L)) outer s x' hl hL hxj
    refine a2_thn (imp (hg.run _ (stuck s5) σ H5 (.ref Tp) u (fun σ6 H6 => H6 = H5 ∧ F.Loop i σ6 Hg ∧ F.LoopJ i j σ6 Hg) I5' r5 (hgq H5 Tp _ (by rw [hH5]; exact upd_same) fun σ' a b => ⟨rfl, a, b⟩)) (fun _ _ ⟨_, _, I, _⟩ => I.bare) fun _ _ z => z) fun _ s6 ⟨g6, t6, ⟨σ6, H6, I6, eH6, hL6, hJ6⟩, h6, o6⟩ => ?_
    subst eH6
    replace I6 : Inv2 (segX G L Hg [e, it] (A.deeper (G.env L)) outer s) _ σ6 H6 s6 := inv2_of I6 h6 o6
    refine g_execs_cons ?_
    rw [exec_Expr (G.env L) _ B.p2 I0.quiet rfl]
    show Seg2 _ _ _ _ (.at B.p2 fun _ => ((eval B.call (G.env L) >>= fun v => (standAt B.yp2 >>= fun _ => yieldFrom (G.env L) v)) >>= fun x => dropValue (.YieldFrom B.call B.yp2) B.p2 x).wrap _ _ _ _) _ s6
    refine g_at (g_bindw2 ?_)
    rw [hA]
    obtain ⟨t, hPA, hq⟩ := F.o_call i j σ6 Hg L [e, it] (A.deeper (G.env L)) outer s hl hjl hL6 hJ6
    have hcalm : Calm (segX G L Hg [e, it] (A.deeper (G.env L)) outer s) := fun _ _ z => z
    have hdep : (A.deeper (G.env L)).depth < recursionLimit := by
      have r1 : Room 1 A := S.room.mono (by have := F.room i; omega)
      exact (r1.deeper (G.env L)).depth
    refine a2_thn (eval_gen (X := segX G L Hg [e, it] (A.deeper (G.env L)) outer s) (dvs := []) (ds := []) (Q := fun vs H1 => ∃ news, (∀ p ∈ news, H1 p.1 = some (.tup p.2) ∧ L < p.1) ∧ (∀ nd, F.ND nd → F.ND (news.map (·.1) ++ nd)) ∧ F.Args (F.child i j) vs (addT Hg news)) F.text rfl rfl rfl hdep F.binds .nil (F.gl L) F.mgf F.kp (pa2_of hcalm hPA) I6
      (hq H6 _ (by rw [hH5]; exact tl0.upd hT) fun vs H1 news a b c => ⟨by rw [List.append_nil]; exact F.o_len _ _ _ c, news, a, b, c⟩) (F.c_arg L B.cpos) F.c_dbg) fun v s7 ⟨g7, vs, H1, ac, Lc, nc, I7, ⟨news, hnews, hND, hargs⟩, gn⟩ => ?_
    rw [List.append_nil] at gn
    have ev := gn.val
    subst ev
    have g57 := (g5.trans g6).trans g7
    have hgenT : s7.TypeIs (.ref ac) "generator" := gn.obj.typeIs
    refine g_at ?_
    show Seg2 _ _ _ _ ((yieldFrom (G.env L) (.ref ac)).wrap (fun b => (dropValue (.YieldFrom B.call B.yp2) B.p2 b).wrap _ _ _ _) _ _ _) _ s7
    unfold yieldFrom
    refine g_bindw (a2_same (fun R hR => wpAny_typeOf (s := stuck s7) (T := "generator") hgenT hR) ?_)
    rw [if_neg (show ¬ ((Value.type "generator" == Value.type "coroutine") = true) from by decide)]
    refine g_bindw (a2_holding (a2_same (a := .ref ac) (fun R hR => wpAny_pyIter_gen (s := stuck s7) gn.obj hR) ?_))
    refine g_call fun p => ?_
    rw [F.from_step i j hjl]
    -- what stands now
    have I7' := I7.unpinned
    have eff7 := seg_eff (own := [e, it]) S.out I7' g57
    have out7 : OutOk G L Hg A outer s7 := S.out.eff eff7 (Nat.le_refl _) (fun b hb => by
      rcases List.mem_cons.mp hb with z | z
      · rw [z]; exact Nat.le_refl _
      · exact Nat.le_of_lt (S.le b (by simpa using z))) fun b _ h => h
    have en7 : EnumT (F.tree i) e it (j + 1) s7.heap := st5.keep fun b hb o ho => (I7.pin (b, o) (List.mem_append_right _ (List.mem_append_right _ (mem_pinsAt (by simpa using hb) ho)))).1
    have gz : s2.gens.size ≤ s6.gens.size := Nat.le_trans S.eff.grow.2 (Nat.le_trans g5.grow.2 g6.grow.2)
    have hz6 : s2.heap.objs.size ≤ s6.heap.objs.size := Nat.le_trans S.eff.grow.1 (Nat.le_trans g5.grow.1 g6.grow.1)
    have lt6 : ∀ {b : Addr} {o : Obj}, s5.heap.get? b = some o → b < s6.heap.objs.size := fun ho => Nat.lt_of_lt_of_le (Heap.lt_size ho) g6.grow.1
    have S7 : LoopSt F i L Hg g e it (j + 1) A outer own2 gw2 [nc] s2 s7 :=
      ⟨S.room, out7, ⟨σ6, hL6, I7.loc, I7.len⟩, en7, S.le, S.eff.trans eff7 (Nat.le_refl _) (fun b hb => ⟨hb, S.out.frlo b hb⟩) (fun b hb => .inl hb) (fun b hb => by
        rcases List.mem_cons.mp hb with z | z
        · rw [z]; exact .inl S.oL
        · exact S.oe b (by simpa using z)) (fun n hn => by cases hn), ((S.loud.trans (LoudF.of_keep g57)).weak fun n hn => by cases hn), S.glt, S.gin, S.oL, S.oe⟩
    have hLc : L < Lc := by
      have : L < s6.heap.objs.size := I6.lt
      exact Nat.lt_of_lt_of_le this gn.lo
    have C7 : ChildSt F L g e it own2 gw2 s2 s7 news ac Lc [Lc] [nc] := by
      refine ⟨hLc, fun b hb => ?_, Nat.le_of_lt (Nat.lt_trans gn.la gn.lt), gn.la, fun z => ?_, .inr (Nat.le_trans hz6 (Nat.le_trans gn.lo (Nat.le_of_lt gn.la))), fun b hb => ?_, fun n hn => ?_, fun z => ?_, fun q hq => ?_, hND⟩
      · obtain ⟨o, ho, _⟩ := st5.obj hb
        exact Nat.lt_of_lt_of_le (lt6 ho) gn.lo
      · have := gn.la
        rw [List.mem_singleton.mp z] at this
        exact absurd this (Nat.lt_irrefl _)
      · rw [List.mem_singleton.mp hb]; exact .inr (Nat.le_trans hz6 gn.lo)
      · rw [List.mem_singleton.mp hn]; exact .inr (Nat.le_trans gz gn.nlo)
      · have := List.mem_singleton.mp z
        have h2 := Nat.lt_of_lt_of_le S.glt (Nat.le_trans gz gn.nlo)
        rw [this] at h2; exact absurd h2 (Nat.lt_irrefl _)
      · obtain ⟨h1, h2⟩ := hnews q hq
        obtain ⟨h3, its, h4, h5⟩ := I7.hok _ _ h1
        exact ⟨h2, gn.old _ _ h1, h3, its, h4, h5⟩
    have D7 := ih j hjl Lc (addT Hg news) nc vs s7 hargs gn.fr gn.st
    refine yf_seg (j := j) (kc := F.k (F.child i j)) rfl (F.dec i j hl hjl).2 (fun A outer own2 nd2 gw2 s2 s S' => ihn (j + 1) (by omega) A outer own2 nd2 gw2 s2 s S') (F.rows (F.child i j)) A outer own2 nd2 gw2 s2 s7 [Lc] [] [nc] S7 C7 D7 (IsG.of gn.obj)
end
end Td
end

section
set_option maxHeartbeats 1000000
/-! TdGen8: such a generator from its beginning. -/
namespace Td
open PySem PySem.Spec PyProof.Rows L2 GenW

theorem execs_app {env : Env} (ys : List Stmt) : ∀ xs : List Stmt, execs (xs ++ ys) env = (execs xs env >>= fun f => match f with | .next => execs ys env | f => pure f)
  | [] => rfl
  | x :: xs => by
    rw [List.cons_append, execs_cons, execs_cons, execs_app ys xs, bind_assoc]
    congr 1
    funext f
    cases f <;> rfl
theorem g_execs_app {M : Model} {A : Around} {Φ : End → Shared → Prop} {c : Code} {fs : List Frame} {s : Shared} {env : Env} {K : Flow → Sem PySem.Fin} {J : Value → Sem PySem.Fin} {gd : Bool → Bool} {lv : List Value → List Value} {xs ys : List Stmt}
    (h : any2 M (A.over c fs) (execs xs env) (fun f s' => f = .next ∧ Seg2 M A Φ c ((execs ys env).wrap K J gd lv) fs s') F0 s) : Seg2 M A Φ c ((execs (xs ++ ys) env).wrap K J gd lv) fs s := by
  rw [execs_app]
  refine g_bindw (a2_thn h fun f s' ⟨e, q⟩ => ?_)
  subst e
  exact q
theorem enumT_call {X : Cx} {pins : List (Addr × Obj)} {σ : L2.St} {H : Hp} {s : Shared} {a : Addr} {xs : List V} {A : Around} {E : Value → Shared → Prop} (I : Inv X pins σ H s) (hq : SqT X.K H a xs) :
    wpAny (model X.prog X.w) A (call (.type "enumerate") [.ref a]) (fun v t => v = .ref (s.heap.objs.size + 1) ∧ Inv X pins σ H t ∧ EnumT a (s.heap.objs.size + 1) s.heap.objs.size 0 t.heap) E s := by
  obtain ⟨its, rv, p', hz⟩ := I.tuple hq
  refine call_enumerate_tuple (show s.heap.IsTuple a its.toArray from p') fun h' he hit hsz hk => ⟨rfl, I.kept (t' := s.toks) hk, ⟨⟨.none, he⟩, hit, Nat.succ_ne_self _⟩⟩
section
variable {G : GD} {B : GBody} {ps : List Str} {fd : FuncData} {ι R : Type} (F : Fam G B ps fd ι R)
theorem fam_gdo : ∀ m i, F.μ i < m → ∀ L Hg g vs s, F.Args i vs Hg → FrameAt G L (L2.start G.N vs) s.heap → s.gens[g]? = some (.fresh (.func B.stmts (G.env L))) → GDo G (F.rel L Hg) F.ND L Hg (F.k i) g (F.rows i) [L] [] [g] s := by
  intro m
  induction m with
  | zero => intro i hi; omega
  | succ m ihm =>
    intro i hi L Hg g vs s0 hargs fr0 hgs
    have hglt0 : g < s0.gens.size := (Array.getElem?_eq_some_iff.mp hgs).1
    refine gdo_of (gs := .fresh (.func B.stmts (G.env L))) (c := .func B.stmts (G.env L)) ⟨fun b hb => ?_, fun b hb => (by cases hb), F.nd0, List.mem_cons_self, ⟨_, hgs, .inl ⟨_, rfl⟩⟩, fun n hn => ?_⟩ hgs (.inl ⟨rfl, rfl, rfl⟩) fun A outer s2 room out2 fut => ?_
    · rw [List.mem_singleton.mp hb]
      obtain ⟨o, ho, h2, h3, _⟩ := fr0.obj
      exact ⟨Nat.le_refl _, o, ho, h2, h3⟩
    · rw [List.mem_singleton.mp hn]; exact hglt0
    have hglt : g < s2.gens.size := Nat.lt_of_lt_of_le hglt0 fut.grow.2
    have fr2 : FrameAt G L (L2.start G.N vs) s2.heap := fr0.slot F.ok fun o ho => ⟨o.slots, fut.ownK L List.mem_cons_self o ho⟩
    have out : OutOk G L Hg A outer (s2.setGen g .running) := out2.heap rfl
    have fr : FrameAt G L (L2.start G.N vs) (s2.setGen g .running).heap := fr2
    have hcalm : Calm (segX G L Hg [] (A.deeper (G.env L)) outer (s2.setGen g .running)) := fun _ _ z => z
    have I0 := seg_inv (own := []) F.ok (A' := A.deeper (G.env L)) room.hd (Around.frames_deeper out.frames) out fr
    have tl := tupLe_frz (own := []) out
    have ef0 : EffF L (frs outer) [L] [g] s2 (s2.setGen g .running) := (EffF.refl L (frs outer) [L] [g] s2).set List.mem_cons_self
    have ld0 : LoudF [g] [] s2 (s2.setGen g .running) := LoudF.begin fun n hn => .inl (List.mem_singleton.mp hn)
    have effs : ∀ {σ' : L2.St} {H' : Hp} {s' : Shared}, Inv2 (segX G L Hg [] (A.deeper (G.env L)) outer (s2.setGen g .running)) [] σ' H' s' → GKeep (s2.setGen g .running) s' → EffF L (frs outer) [L] [g] s2 s' := fun {σ' H' s'} I' gk =>
      ef0.trans (seg_eff out I' gk) (Nat.le_refl _) (fun b hb => ⟨hb, out.frlo b hb⟩) (fun b hb => .inl hb) (fun b hb => .inl hb) fun n hn => by cases hn
    refine g_func (g_execs_cons (g_If ?_))
    rw [over_func]
    obtain ⟨t, hPT, hq⟩ := F.o_test i vs Hg L [] (A.deeper (G.env L)) outer (s2.setGen g .running) hargs
    refine a2_thn ((pt2_of hcalm hPT).run _ (s2.setGen g .running) (L2.start G.N vs) _ (fun b H' => b = F.leaf i ∧ H' = frzH Hg (s2.setGen g .running).heap [] L) I0 (hq _ _ tl ⟨rfl, rfl⟩)) fun b s3 ⟨g3, H3, I3, eb, eH⟩ => ?_
    subst eb eH
    by_cases hl : F.leaf i = true
    · rw [F.rows_leaf i hl]
      simp only [hl, if_true]
      refine g_execs_cons (g_Yield rfl ?_ F.c_co I0.quiet)
      rw [over_func]
      obtain ⟨tr, hPA, hqr⟩ := F.o_row i vs Hg L [] (A.deeper (G.env L)) outer (s2.setGen g .running) hl hargs
      show any2 _ _ (eval (.Tuple B.res B.rk B.rpos) (G.env L)) _ _ s3
      rw [arm_eval_Tuple]
      refine a2_bind (a2_at (a2_bind (a2_thn ((pa2_of hcalm hPA).run B.rpos _ s3 (L2.start G.N vs) _ (fun xs H' => xs.length ≤ sizeLine ∧ F.Row i Hg xs ∧ H' = frzH Hg (s2.setGen g .running).heap [] L) I3 (hqr _ _ tl fun xs hz hR => ⟨hz, hR, rfl⟩)) fun us s4' ⟨g4', xs, H4', I4', rvs, hz, hR, eH⟩ => ?_)))
      subst eH
      have w0 : wpAny (model G.P G.w) (A.deeper (G.env L)) (newTuple us) (fun v t => v = .ref s4'.heap.objs.size ∧ Inv (segX G L Hg [] (A.deeper (G.env L)) outer (s2.setGen g .running)) [] (L2.start G.N vs) (upd (frzH Hg (s2.setGen g .running).heap [] L) s4'.heap.objs.size (.tup xs)) t) (fun _ _ => False) (stuck s4') := by
        refine wpAny_newTuple ⟨rfl, I4'.laid (t' := s4'.toks) (fun b u e => Heap.get?_push_of_some _ e) (Nat.le_refl _) ?_⟩ (by rw [← rvs.length]; exact hz)
        exact ⟨hz, us, rvs, ⟨_, Heap.get?_push_size _ rfl, rfl, _, rfl⟩⟩
      refine a2_thn (imp w0 (fun _ _ ⟨_, I⟩ => I.bare) fun _ _ z => z) fun u s4 ⟨g4'', t4, ⟨eu, I4⟩, hh4, ho4⟩ => ?_
      subst eu
      replace I4 : Inv2 (segX G L Hg [] (A.deeper (G.env L)) outer (s2.setGen g .running)) _ (L2.start G.N vs) _ s4 := inv2_of I4 hh4 ho4
      have g4 := g4'.trans g4''
      have hTn : s2.heap.objs.size ≤ s4'.heap.objs.size := (g3.trans g4').grow.1
      intro k l p hkk
      have g34 := g3.trans g4
      have e4 := effs I4 g34
      have l4 : LoudF [g] [] s2 s4 := ld0.trans (LoudF.of_keep g34)
      have hg4 : g < s4.gens.size := Nat.lt_of_lt_of_le hglt (Nat.le_trans (by rw [← setGen_sz s2 g .running]; exact Nat.le_refl _) g34.grow.2)
      have fr4 : FrameAt G L (L2.start G.N vs) s4.heap := ⟨I4.loc, I4.len⟩
      refine ⟨.inl rfl, e4.set List.mem_cons_self, .ref s4'.heap.objs.size, [L], [], [g], rfl, ⟨fun T hT => by cases hT; exact hTn, (l4.weak fun n hn => by cases hn).set (.inr List.mem_cons_self) fun _ h => h, fun b hb => .inl hb, fun n hn => .inl hn, fun n hn => ?_⟩, ?_, ?_⟩
      · rw [List.mem_singleton.mp hn]; exact ⟨_, setGen_get hg4, rfl⟩
      · obtain ⟨h1, its, h2, h3⟩ := I4.hok s4'.heap.objs.size (.tup xs) upd_same
        refine F.o_rel i vs Hg L s4.heap s4'.heap.objs.size xs its hl hargs hR h2 h3 (fun b ys hb => ?_) hz
        obtain ⟨_, _, js, h4, o, h5, h6⟩ := out.tups b ys hb
        refine ⟨js, h4, o, ?_, h6⟩
        exact e4.keep b o h5 (fun z => absurd (out.tups b ys hb).1 (by rw [List.mem_singleton.mp z]; exact Nat.lt_irrefl _)) fun z => by
          have := out.hgf b z
          rw [hb] at this; cases this
      · refine gdo_of (c := .func B.stmts (G.env L)) ⟨fun b hb => ?_, fun b hb => (by cases hb), F.nd0, List.mem_cons_self, ⟨_, setGen_get hg4, .inr ⟨_, _, _, _, _, _, rfl⟩⟩, fun n hn => ?_⟩ (setGen_get hg4) (.inr ⟨k, l, p, _, rfl, rfl⟩) fun A5 outer5 s5 room5 out5 fut5 => ?_
        · rw [List.mem_singleton.mp hb]
          obtain ⟨o, ho, h2, h3, _⟩ := fr4.obj
          exact ⟨Nat.le_refl _, o, ho, h2, h3⟩
        · rw [List.mem_singleton.mp hn, setGen_sz]; exact hg4
        · refine hkk .none _ (fun a h => by cases h) _ _ ?_
          show Seg2 _ _ _ _ (.pure (.done (.ret .none))) [] _
          refine g_end (.ok (.ret .none)) ⟨.inl rfl, ((EffF.refl L (frs outer5) [L] [g] s5).set List.mem_cons_self).set List.mem_cons_self, rfl, (LoudF.begin fun n hn => .inl (List.mem_singleton.mp hn)).set (.inl rfl) fun _ h => h⟩
    · have hl' : F.leaf i = false := by simpa using hl
      rw [F.rows_node i hl']
      simp only [hl', Bool.false_eq_true, if_false]
      refine g_execs_app ?_
      rw [over_func]
      have r1 : Room 1 (A.deeper (G.env L)) := by
        have : Room (1 + 1) A := room.mono (F.room i)
        exact this.deeper _
      obtain ⟨tp, hPS, hqp⟩ := F.o_pre i vs Hg L [] (A.deeper (G.env L)) outer (s2.setGen g .running) hl' r1 hargs
      refine a2_thn ((pss2_of hcalm hPS).run _ s3 (L2.start G.N vs) _ { nx := fun σ' H' => F.Loop i σ' Hg ∧ H' = frzH Hg (s2.setGen g .running).heap [] L, rt := fun _ _ => False } I3 (hqp _ _ tl fun σ' h => ⟨h, rfl⟩)) fun f s4 ⟨g4, h4⟩ => ?_
      cases f with
      | brk => obtain ⟨_, _, _, z⟩ := h4; exact z.elim
      | cont => obtain ⟨_, _, _, z⟩ := h4; exact z.elim
      | ret u => obtain ⟨_, _, _, _, _, z⟩ := h4; exact z.elim
      | next =>
        obtain ⟨σ4, H4, I4, hL4, eH⟩ := h4
        subst eH
        refine ⟨rfl, g_execs_cons (g_For1 ?_ ?_)⟩
        · rw [over_func]
          unfold forIter
          refine a2_bind ?_
          obtain ⟨ta, hPA, hqa⟩ := F.o_te i σ4 Hg L [] (A.deeper (G.env L)) outer (s2.setGen g .running) hL4
          obtain ⟨hsq, hlen⟩ := F.o_items i σ4 Hg _ hL4 tl
          refine a2_CallName (a2_bname (X := segX G L Hg [] (A.deeper (G.env L)) outer (s2.setGen g .running)) I4 (F.glE L) F.blt boot_enumerate ?_)
          refine a2_callWith (P := fun _ => True) (by show (_ || _) = false; rw [show starEach [B.te] (G.env L) = _ from F.c_te L]; rfl) (fun h _ => ⟨.machine, .inr (.inl rfl), fun A s Q _ q => a2_pure q⟩)
            (a2_evalArgs (by rw [show starEach [B.te] (G.env L) = _ from F.c_te L]; rfl) rfl (a2_thn ((pa2_of hcalm hPA).run B.q3 _ s4 σ4 _ (fun ws H' => ws = [.ref (F.tree i)] ∧ H' = frzH Hg (s2.setGen g .running).heap [] L) I4 (hqa _ _ tl ⟨rfl, rfl⟩)) fun us s5 ⟨g5, ws, H5, I5, rw5, ew, eH⟩ => a2_evalAll_nil ⟨trivial, ?_⟩))
          subst ew eH
          cases rw5 with
          | cons r0 rr =>
            cases rr
            cases r0
            refine a2_thn (imp (enumT_call (E := fun _ _ => False) I5 hsq) (fun _ _ ⟨_, I, _⟩ => I.bare) fun _ _ z => z) fun v s6 ⟨g6, t6, ⟨ev, I6, st6⟩, h6, o6⟩ => ?_
            subst ev
            rw [← h6] at st6
            replace I6 : Inv2 (segX G L Hg [] (A.deeper (G.env L)) outer (s2.setGen g .running)) _ σ4 _ s6 := inv2_of I6 h6 o6
            obtain ⟨⟨old, he⟩, hit, hne⟩ := id st6
            refine a2_bind (a2_at (a2_holding (a2_same (a := .ref (s5.heap.objs.size + 1)) (fun R hR => wpAny_pyIter_enum (s := stuck s6) he hR) fun p => ?_)))
            have gall := ((g3.trans g4).trans g5).trans g6
            have hz5 : s2.heap.objs.size ≤ s5.heap.objs.size := ((g3.trans g4).trans g5).grow.1
            have hLs : L < s5.heap.objs.size := I5.lt
            have e6 := effs I6 gall
            refine turn_seg (F := F) (i := i) (L := L) (Hg := Hg) (g := g) (e := s5.heap.objs.size + 1) (it := s5.heap.objs.size) hl' (fun j hj Lc Hgc nc vs s a b c => ihm (F.child i j) (Nat.lt_of_lt_of_le (F.dec i j hl' hj).1 (Nat.le_of_lt_succ hi)) Lc Hgc nc vs s a b c) rfl (F.len i) 0 (Nat.zero_add _) A outer [L] [] [g] s2 s6 ?_
            refine ⟨room, out2.eff e6 (Nat.le_refl _) (fun b hb => by rw [List.mem_singleton.mp hb]; exact Nat.le_refl _) fun b _ h => h, ⟨σ4, hL4, I6.loc, I6.len⟩, st6, fun b hb => ?_, e6, ld0.trans (LoudF.of_keep gall), hglt, List.mem_cons_self, List.mem_cons_self, fun b hb => .inr ?_⟩
            · rcases hb with z | z
              · rw [z]; exact Nat.lt_succ_of_lt hLs
              · rw [z]; exact hLs
            · rcases hb with z | z
              · rw [z]; exact Nat.le_succ_of_le hz5
              · rw [z]; exact hz5
        · intro x
          rfl
end
end Td
end

section
set_option maxHeartbeats 1000000
/-! TdUse: for over such a generator. -/
namespace Td
open PySem PySem.Spec PyProof.Rows L2 GenW

/-- a row that is handed out: a new tuple -/
def RowT {R : Type} (RowV : R → Heap → List V → Prop) (r : R) (h : Heap) (v : Value) : Prop :=
  ∃ T xs its, v = .ref T ∧ RowV r h xs ∧ xs.length ≤ sizeLine ∧ Vals xs its ∧ IsTup h T its.toArray
/-- sleepers sleep on, but for those of gw -/
structure GKeepG (gw : List Nat) (s s' : Shared) : Prop where
  keep : GenKeep s s'
  loud : ∀ (n : Nat) x, s'.gens[n]? = some x → x.bare = false → n ∈ gw ∨ s.gens[n]? = some x
  grow : Grow s s'
  new : ∀ n ∈ gw, s.gens.size ≤ n
theorem GKeepG.of {gw : List Nat} {s s' : Shared} (g : GKeep s s') (h : ∀ n ∈ gw, s.gens.size ≤ n) : GKeepG gw s s' := ⟨g.keep, fun n x a b => .inr (g.loud n x a b), g.grow, h⟩
theorem GKeepG.done {s s' : Shared} (g : GKeepG [] s s') : GKeep s s' := ⟨g.keep, fun n x a b => (g.loud n x a b).elim (fun z => by cases z) id, g.grow⟩
theorem GKeepG.thn {gw : List Nat} {s s1 s2 : Shared} (g : GKeepG gw s s1) (h : GKeep s1 s2) : GKeepG gw s s2 :=
  ⟨fun n z a b => h.keep n z (g.keep n z a b) b, fun n x a b => g.loud n x (h.loud n x a b) b, g.grow.trans h.grow, g.new⟩
theorem GKeepG.wake {gw gw' : List Nat} {s s1 s2 : Shared} {L : Nat} {F own : List Addr} (g : GKeepG gw s s1) (x : EffF L F own gw s1 s2) (l : LoudF gw gw' s1 s2) (n : ∀ n ∈ gw', n ∈ gw ∨ s1.gens.size ≤ n) : GKeepG gw' s s2 where
  keep := fun m z a b => x.gens m z (g.keep m z a b) (fun q => absurd (Array.getElem?_eq_some_iff.mp a).1 (Nat.not_lt.mpr (g.new m q))) b
  loud := fun m z a b => by
    rcases l m z a b with q | ⟨q1, q2⟩
    · exact .inl q
    · rcases g.loud m z q2 b with r | r
      · exact absurd r q1
      · exact .inr r
  grow := g.grow.trans x.grow
  new := fun m hm => by
    rcases n m hm with q | q
    · exact g.new m q
    · exact Nat.le_trans g.grow.2 q
/-- a generator as its consumer holds it -/
structure Held (X : Cx) (pins : List (Addr × Obj)) {R : Type} (rel : R → Heap → Value → Prop) (ND : List Addr → Prop) (G : GD) (L : Addr) (Hg : Hp) (k n : Nat) (ac : Addr) : Prop where
  P : G.P = X.prog
  w : G.w = X.w
  base : G.base = X.base
  bsz : X.base.objs.size ≤ L
  stklo : ∀ b ∈ frs X.stack, b < L
  fslo : ∀ b ∈ X.fs, b < L
  acne : ac ≠ X.env.locals
  la : L < ac
  only : ∀ b o, Hg b = some o → ∃ xs, o = .tup xs
  old : ∀ b o, Hg b = some o → b < L
section
variable {X : Cx} {pins : List (Addr × Obj)} {R : Type} {rel : R → Heap → Value → Prop} {ND : List Addr → Prop} {G : GD} {L : Addr} {Hg : Hp} {k n : Nat} {ac : Addr} {σ : L2.St} {H : Hp} {s s' : Shared} {own : List Addr} {gw : List Nat}
theorem Held.out (h : Held X pins rel ND G L Hg k n ac) (I : Inv2 X pins σ H s) (tl : TupLe Hg H) {A' : Around} (hf : A'.frames = some X.stack) (hz : L ≤ s.heap.objs.size) : OutOk G L Hg A' X.stack s where
  frames := hf
  bs := by rw [h.base]; exact I.bk
  bsz := by rw [h.base]; exact h.bsz
  sz := hz
  funs := by rw [h.base]; exact I.stack
  frlo := h.stklo
  tups := fun b xs e => by
    obtain ⟨h1, its, h2, h3⟩ := Rd.ok (tl b xs e) I.hok
    exact ⟨h.old b _ e, h1, its, h2, h3⟩
  only := h.only
  hgb := fun b o e => by
    rw [h.base] at e
    cases q : Hg b with
    | none => rfl
    | some u =>
      obtain ⟨xs, rfl⟩ := h.only b u q
      have := (I.bs b o e).2
      rcases tl b xs q with z | ⟨_, z⟩ <;> rw [this] at z <;> cases z
  hgf := fun b hb => by
    cases q : Hg b with
    | none => rfl
    | some u =>
      obtain ⟨xs, rfl⟩ := h.only b u q
      have := I.stkFree b hb
      rcases tl b xs q with z | ⟨_, z⟩ <;> rw [this] at z <;> cases z
/-- the consumer's invariant behind a waking; new things are tracked -/
theorem Held.inv (h : Held X pins rel ND G L Hg k n ac) (I : Inv2 X pins σ H s) (x : EffF L (frs X.stack) own gw s s') (hch : ∀ b ∈ own, (b ∈ X.ex ∨ X.s_0.heap.objs.size ≤ b) ∧ b ≠ X.env.locals ∧ (∀ x c, X.env.cells.lookup x = some c → c ≠ b) ∧ ∀ p ∈ X.pn ++ pins, p.1 ≠ b) (hu : ∀ b ∈ own, H b = none) {H' : Hp} (hs : ∀ b, b < s.heap.objs.size → H' b = H b)
    (hn : ∀ b u, s.heap.objs.size ≤ b → H' b = some u → ∃ xs, u = .tup xs ∧ ObjOk X.prog X.w H' s'.heap b (.tup xs)) : Inv2 X pins σ H' s' := by
  have lt : ∀ b u, H b = some u → b < s.heap.objs.size := fun b u q => I.hok.lt q
  have ltg : ∀ {b o}, s.heap.get? b = some o → b < s.heap.objs.size := fun q => Heap.lt_size q
  refine I.call' (s' := stuck s') (ch := own) x.os ⟨fun b o e q hb hx => x.keep b o e hx hb, fun b o e q hb hx => x.slot b o e hb, fun b o e q hx => ?_, fun b o e hx => ?_, fun b xs e => ?_, fun b o u e => ?_, fun b qs e => ⟨#[], ?_⟩⟩ (fun b u q => ?_) (stuck_bare s') hch
  · rw [hs b (ltg e)]; exact q
  · by_cases hb : b ∈ frs X.stack
    · obtain ⟨sl, e'⟩ := x.slot b o e hb
      exact ⟨_, e'⟩
    · exact ⟨o, x.keep b o e hx hb⟩
  · rw [hs b (lt b _ e)]; exact e
  · rw [hs b (lt b _ e)]; exact e
  · rw [hs b (lt b _ e), e]; simp
  · by_cases hb : b < s.heap.objs.size
    · rw [hs b hb] at q
      refine (I.hok b u q).stay (fun c v hc y => ?_) (fun c y => by rw [hs c (lt c _ y)]; exact y) fun c xs y => by rw [hs c (lt c _ y)]; exact y
      have hc' : ∃ w, H c = some w := by
        rcases hc with z | z
        · rw [z]; exact ⟨_, q⟩
        · exact ⟨_, z⟩
      obtain ⟨w, hw⟩ := hc'
      refine x.keep c v y (fun z => by rw [hu c z] at hw; cases hw) fun z => by rw [I.stkFree c z] at hw; cases hw
    · obtain ⟨xs, rfl, ok⟩ := hn b u (Nat.not_lt.mp hb) q
      exact ok
/-- the state at the head of a consumer's turn -/
structure Head (X : Cx) (pins : List (Addr × Obj)) (rel : R → Heap → Value → Prop) (ND : List Addr → Prop) (G : GD) (L : Addr) (Hg : Hp) (k n : Nat) (ac : Addr) (s0 : Shared) (rs : List R) (σ : L2.St) (H : Hp) (s : Shared) (own nd : List Addr) (gw : List Nat) : Prop where
  inv : Inv2 X pins σ H s
  d : GDo G rel ND L Hg k n rs own nd gw s
  un : ∀ b ∈ ac :: own, H b = none
  obj : s.heap.IsGen ac n
  aI : ac ∉ own
  tl : TupLe Hg H
  kp : GKeepG gw s0 s
  sz : L ≤ s.heap.objs.size
  ch : ∀ b ∈ own, (b ∈ X.ex ∨ X.s_0.heap.objs.size ≤ b) ∧ b ≠ X.env.locals ∧ (∀ x c, X.env.cells.lookup x = some c → c ≠ b) ∧ ∀ p ∈ X.pn ++ pins, p.1 ≠ b
theorem Held.wakeNil {s0 : Shared} {nd : List Addr} (h : Held X pins rel ND G L Hg k n ac) (hd : Head X pins rel ND G L Hg k n ac s0 [] σ H s own nd gw) {A' : Around} {Γ : PySem.Ctx} {p : Pos} (hΓ : Γ.In A') (hr : Room k A') (hf : A'.frames = some X.stack) :
    ∃ s', Wake2 (model X.prog X.w) Γ p n (.send .none) s (.returned .none) s' ∧ ∀ h' tk, Onto s'.heap h' → Inv2 X pins σ H { s' with heap := h', toks := tk } ∧ GKeep s0 { s' with heap := h', toks := tk } := by
  obtain ⟨s', hw, x, l⟩ := hd.d.2 A' X.stack Γ p s hΓ hr (h.out hd.inv hd.tl hf hd.sz) (Fut.refl _ _ _ _)
  have hw' : Wake2 (model X.prog X.w) Γ p n (.send .none) s (.returned .none) s' := by rw [← h.P, ← h.w]; exact hw
  refine ⟨s', hw', fun h' tk hk => ?_⟩
  have I' : Inv2 X pins σ H s' := h.inv hd.inv x hd.ch (fun b hb => hd.un b (List.mem_cons_of_mem _ hb)) (fun _ _ => rfl) fun b u hb q => by rw [hd.inv.hok.fresh hb] at q; cases q
  refine ⟨I'.kept (t' := tk) hk.1, ?_⟩
  have g' : GKeepG [] s0 s' := hd.kp.wake x l fun n hn => by cases hn
  have gd := g'.done
  exact ⟨gd.keep, gd.loud, gd.grow.trans ⟨hk.2, Nat.le_refl _⟩⟩
theorem Held.wakeCons {RowV : R → Heap → List V → Prop} {s0 : Shared} {nd : List Addr} {r : R} {rs : List R} (hrel : ∀ r h v, rel r h v → RowT RowV r h v) (h : Held X pins rel ND G L Hg k n ac) (hd : Head X pins rel ND G L Hg k n ac s0 (r :: rs) σ H s own nd gw) {A' : Around} {Γ : PySem.Ctx} {p : Pos} (hΓ : Γ.In A') (hr : Room k A') (hf : A'.frames = some X.stack) :
    ∃ T s' xs own' nd' gw', Wake2 (model X.prog X.w) Γ p n (.send .none) s (.yielded (.ref T)) s' ∧ RowV r s'.heap xs ∧ H T = none ∧ Head X pins rel ND G L Hg k n ac s0 rs σ (upd H T (.tup xs)) s' own' nd' gw' ∧ ∀ n ∈ gw', ∃ x, s'.gens[n]? = some x ∧ isSusp x = true := by
  obtain ⟨v, s', own', nd', gw', hw, x, go, hR, D'⟩ := hd.d.2 A' X.stack Γ p s hΓ hr (h.out hd.inv hd.tl hf hd.sz) (Fut.refl _ _ _ _)
  obtain ⟨T, xs, its, rfl, hrow, hz, hv, ht⟩ := hrel r _ _ hR
  have hw' : Wake2 (model X.prog X.w) Γ p n (.send .none) s (.yielded (.ref T)) s' := by rw [← h.P, ← h.w]; exact hw
  have hT : s.heap.objs.size ≤ T := go.vnew T rfl
  have hTn : H T = none := hd.inv.hok.fresh hT
  have ne : ∀ b, b < s.heap.objs.size → b ≠ T := fun b hb z => absurd hb (Nat.not_lt.mpr (by rw [z]; exact hT))
  have hac : ac < s.heap.objs.size := by obtain ⟨o, _, _, ho, _⟩ := hd.obj; exact Heap.lt_size ho
  have aF : ac ∉ frs X.stack := fun z => absurd (Nat.lt_trans (h.stklo ac z) h.la) (Nat.lt_irrefl _)
  have I' : Inv2 X pins σ (upd H T (.tup xs)) s' := h.inv hd.inv x hd.ch (fun b hb => hd.un b (List.mem_cons_of_mem _ hb)) (fun b hb => upd_ne (ne b hb)) fun b u hb q => by
    by_cases hbT : b = T
    · subst hbT
      rw [upd_same] at q
      cases q
      exact ⟨xs, rfl, hz, its, hv, ht⟩
    · rw [upd_ne hbT, hd.inv.hok.fresh hb] at q; cases q
  refine ⟨T, s', xs, own', nd', gw', hw', hrow, hTn, ⟨I', D', fun b hb => ?_, ?_, fun z => ?_, hd.tl.upd hTn, hd.kp.wake x go.loud go.gens, Nat.le_trans hd.sz x.grow.1, fun b hb => ?_⟩, go.susp⟩
  · rcases List.mem_cons.mp hb with z | z
    · rw [z, upd_ne (ne ac hac)]; exact hd.un ac List.mem_cons_self
    · have hbT : b ≠ T := fun q => by
        obtain ⟨_, o, ho, hns, _⟩ := D'.pre.ownOk b z
        obtain ⟨o', ho', _, m, hd'⟩ := ht
        rw [q, ho'] at ho; cases ho
        exact hns _ _ hd'
      rw [upd_ne hbT]
      rcases go.ownN b z with q | q
      · exact hd.un b (List.mem_cons_of_mem _ q)
      · exact hd.inv.hok.fresh q
  · obtain ⟨o, nm, qn, ho, hc, hdt, hsl⟩ := hd.obj
    exact ⟨o, nm, qn, x.keep ac o ho hd.aI aF, hc, hdt, hsl⟩
  · rcases go.ownN ac z with q | q
    · exact hd.aI q
    · exact absurd hac (Nat.not_lt.mpr q)
  · rcases go.ownN b hb with q | q
    · exact hd.ch b q
    · have fp := hd.inv.fpOk q (H' := H) (hd.inv.hok.fresh q)
      exact ⟨fp.2.2.2.1, fp.2.1, fp.2.2.2.2.1, fp.2.2.2.2.2⟩
/-- .. and when the consumer has gone on, keeping what is pinned -/
theorem Head.go {s0 s2 : Shared} {rs : List R} {nd : List Addr} {σ2 : L2.St} {H2 : Hp} (hND : ∀ nd, ND nd → nd = []) (h : Held X pins rel ND G L Hg k n ac) (hd : Head X pins rel ND G L Hg k n ac s0 rs σ H s own nd gw) (susp : ∀ n ∈ gw, ∃ x, s.gens[n]? = some x ∧ isSusp x = true)
    (I2 : Inv2 X (pins ++ pinsAt (ac :: own) s.heap) σ2 H2 s2) (g : GKeep s s2) (tl : TupLe Hg H2) : Head X pins rel ND G L Hg k n ac s0 rs σ2 H2 s2 own nd gw := by
  have ex : ∀ b ∈ ac :: own, ∃ o, s.heap.get? b = some o := fun b hb => by
    rcases List.mem_cons.mp hb with z | z
    · obtain ⟨o, _, _, ho, _⟩ := hd.obj; rw [z]; exact ⟨o, ho⟩
    · obtain ⟨_, o, ho, _⟩ := hd.d.pre.ownOk b z; exact ⟨o, ho⟩
  have pk : ∀ b ∈ ac :: own, ∀ o, s.heap.get? b = some o → s2.heap.get? b = some o ∧ H2 b = none := fun b hb o ho => by
    have := I2.pin (b, o) (List.mem_append_right _ (List.mem_append_right _ (mem_pinsAt hb ho)))
    exact ⟨this.1, this.2.1⟩
  have e0 : nd = [] := hND nd hd.d.pre.NDok
  refine ⟨I2.unpinned, hd.d.fut ⟨g.grow, fun b hb o ho => (pk b (List.mem_cons_of_mem _ hb) o ho).1, (fun b hb => by rw [e0] at hb; cases hb), fun m hm x hx => ?_⟩, fun b hb => ?_, ?_, hd.aI, tl, hd.kp.thn g, Nat.le_trans hd.sz g.grow.1, hd.ch⟩
  · obtain ⟨y, hy, hs⟩ := susp m hm
    rw [hx] at hy; cases hy
    exact g.keep m x hx hs
  · obtain ⟨o, ho⟩ := ex b hb
    exact (pk b hb o ho).2
  · obtain ⟨o, nm, qn, ho, r⟩ := hd.obj
    exact ⟨o, nm, qn, (pk ac List.mem_cons_self o ho).1, r⟩
theorem Head.pinned {s0 : Shared} {rs : List R} {nd : List Addr} (h : Held X pins rel ND G L Hg k n ac) (hd : Head X pins rel ND G L Hg k n ac s0 rs σ H s own nd gw) : Inv2 X (pins ++ pinsAt (ac :: own) s.heap) σ H s := by
  refine hd.inv.pins_of fun p hp => ?_
  rcases List.mem_append.mp hp with z | z
  · exact hd.inv.pin p (List.mem_append_right _ z)
  · obtain ⟨hb, e⟩ := of_pinsAt z
    have hL : L ≤ p.1 := by
      rcases List.mem_cons.mp hb with q | q
      · rw [q]; exact Nat.le_of_lt h.la
      · exact (hd.d.pre.ownOk _ q).1
    refine ⟨e, hd.un _ hb, fun q => ?_, fun q => absurd (h.fslo _ q) (Nat.not_lt.mpr hL), fun v q => ?_⟩
    · rcases List.mem_cons.mp hb with y | y
      · exact h.acne (by rw [← y]; exact q)
      · exact (hd.ch _ y).2.1 q
    · rcases List.mem_cons.mp hb with y | y
      · obtain ⟨o, nm, qn, ho, _, hdt, _⟩ := hd.obj
        rw [y, ho] at e; cases e
        rw [hdt] at q; cases q
      · obtain ⟨_, o, ho, _, hc⟩ := hd.d.pre.ownOk _ y
        rw [ho] at e; cases e
        exact hc v q
end
end Td
end

section
set_option maxHeartbeats 1000000
/-! TdUse2: a generator's call; for over it. -/
namespace Td
open PySem PySem.Spec PyProof.Rows L2 GenW

/-- the tuples that are known -/
def tupsOf (H : Hp) : Hp := fun b => match H b with
  | some (.tup xs) => some (.tup xs)
  | some (.frz _ (.tup xs)) => some (.tup xs)
  | _ => none
theorem tupsOf_le (H : Hp) : TupLe (tupsOf H) H := fun b xs e => by
  unfold tupsOf at e
  split at e
  · rename_i h; cases e; exact .inl h
  · rename_i o ys h; cases e; exact .inr ⟨o, h⟩
  · cases e
theorem tupsOf_only {H : Hp} : ∀ b o, tupsOf H b = some o → ∃ xs, o = .tup xs := fun b o e => by
  unfold tupsOf at e
  split at e <;> first | (cases e; exact ⟨_, rfl⟩) | cases e
theorem tupsOf_some {H : Hp} {b : Addr} {o : HO} (e : tupsOf H b = some o) : ∃ u, H b = some u := by
  obtain ⟨xs, rfl⟩ := tupsOf_only b o e
  rcases tupsOf_le H b xs e with h | ⟨o, h⟩ <;> exact ⟨_, h⟩
theorem tupsOf_rd {H : Hp} {b : Addr} {xs : List V} (h : Rd H b (.tup xs)) : tupsOf H b = some (.tup xs) := by
  unfold tupsOf
  rcases h with h | ⟨o, h⟩ <;> rw [h]
theorem TupLe.trans {H H1 H2 : Hp} (a : TupLe (tupsOf H) H1) (b : TupLe (tupsOf H1) H2) : TupLe (tupsOf H) H2 := fun c xs e => b c xs (tupsOf_rd (a c xs e))
theorem GDo.mono {G : GD} {R : Type} {rel : R → Heap → Value → Prop} {ND : List Addr → Prop} {L : Addr} {Hg : Hp} {k k' : Nat} {g : Nat} (hk : k ≤ k') : ∀ {rs : List R} {own nd : List Addr} {gw : List Nat} {s : Shared}, GDo G rel ND L Hg k g rs own nd gw s → GDo G rel ND L Hg k' g rs own nd gw s
  | [], _, _, _, _, h => ⟨h.1, fun A outer Γ p s2 h1 h2 h3 h4 => h.2 A outer Γ p s2 h1 (h2.mono hk) h3 h4⟩
  | r :: rs, _, _, _, _, h => ⟨h.1, fun A outer Γ p s2 h1 h2 h3 h4 => by
    obtain ⟨v, s', own', nd', gw', a, b, c, d, e⟩ := h.2 A outer Γ p s2 h1 (h2.mono hk) h3 h4
    exact ⟨v, s', own', nd', gw', a, b, c, d, GDo.mono hk e⟩⟩
abbrev TGen2 (R : Type) := L2.St → Hp → (List R → Hp → Prop) → Prop
/-- an expression whose value is such a generator, not begun -/
structure PGen2 (X : Cx) (k : Nat) (e : Expr) {R : Type} (rel : Nat → Hp → R → Heap → Value → Prop) (ND : List Addr → Prop) (tg : TGen2 R) : Prop where
  run : ∀ (pins : List (Addr × Obj)) (s : Shared) (σ : L2.St) (H : Hp) (Q : List R → Hp → Prop), Inv2 X pins σ H s → tg σ H Q → any2 (model X.prog X.w) X.A (eval e X.env)
    (fun u s' => GKeep s s' ∧ ∃ rows H1 G L Hg n ac, u = .ref ac ∧ Q rows H1 ∧ Held X pins (rel L Hg) ND G L Hg k n ac ∧ Head X pins (rel L Hg) ND G L Hg k n ac s rows σ H1 s' [L] [] [n] ∧ (∀ H, TupLe (tupsOf H1) H → TupLe Hg H) ∧ TupLe Hg H1 ∧ s.heap.objs.size ≤ L ∧ ∀ b u, H1 b = some u → b < L) F0 s
section
variable {X : Cx} {R : Type} {rel : Nat → Hp → R → Heap → Value → Prop} {ND : List Addr → Prop} {pos : Pos}
theorem pgen2_call {G : GD} {B : GBody} {ps : List Str} {fd : FuncData} {ι : Type} (F : Fam G B ps fd ι R) {k : Nat} {ds : List Value} {dvs : List V} {p pos : Pos} {es : List Expr} {x : Str} {t : TA} (hP : X.prog = G.P) (hw : X.w = G.w) (hK : X.K = G.K) (hB : X.base = G.base) (hr : Room 0 X.A) (hb : Binds G.K fd ps ds) (hds : Vals dvs ds) (hg : Gl X x) (hm : X.mg x = some (.ref G.f)) (ha : PA2 X es t)
    (hl : (backTo pos (starEach es X.env)).any (·.1) = false := by rfl) (hdb : (x == ("__debug__" : Str)) = false := by decide) :
    PGen2 X k (.Call (.Name x p) es [] pos) F.rel F.ND (fun σ H Q => t σ H fun vs H1 => ∃ i, F.Args i (vs ++ dvs) (tupsOf H1) ∧ F.k i ≤ k ∧ Q (F.rows i) H1) := by
  refine ⟨fun pins s σ H Q I hq => ?_⟩
  refine a2_thn (eval_gen (G := G) (Q := fun vs H1 => ∃ i, F.Args i (vs ++ dvs) (tupsOf H1) ∧ F.k i ≤ k ∧ Q (F.rows i) H1) F.text hP hw hK hr.depth hb hds hg hm (by rw [hK]; exact F.kp) ha I ?_ hl hdb) fun u s' ⟨g1, vs, H1, ac, L, n, I1, ⟨i, hargs, hki, q⟩, gn⟩ => ?_
  · have mono : ∀ (Q1 Q2 : List V → Hp → Prop), (∀ vs H1, Q1 vs H1 → Q2 vs H1) → Q1 = (fun vs H1 => Q1 vs H1 ∧ Q2 vs H1) := fun Q1 Q2 h => by funext vs H1; exact propext ⟨fun z => ⟨z, h _ _ z⟩, And.left⟩
    have e := mono (fun vs H1 => ∃ i, F.Args i (vs ++ dvs) (tupsOf H1) ∧ F.k i ≤ k ∧ Q (F.rows i) H1) (fun vs _ => (vs ++ dvs).length = ps.length) fun vs H1 ⟨i, a, _⟩ => F.o_len _ _ _ a
    have e2 : (fun (vs : List V) (H1 : Hp) => (vs ++ dvs).length = ps.length ∧ ∃ i, F.Args i (vs ++ dvs) (tupsOf H1) ∧ F.k i ≤ k ∧ Q (F.rows i) H1) = fun vs H1 => ∃ i, F.Args i (vs ++ dvs) (tupsOf H1) ∧ F.k i ≤ k ∧ Q (F.rows i) H1 := by
      funext vs H1
      exact propext ⟨And.right, fun z => ⟨let ⟨_, a, _⟩ := z; F.o_len _ _ _ a, z⟩⟩
    rw [e2]; exact hq
  · have ltL : ∀ b o, s.heap.get? b = some o → b < L := gn.fs
    obtain ⟨m, ⟨oL, es', ep, hoL, _⟩, _⟩ := I.loc
    have out : ∀ b, L ≤ b → H1 b = none := fun b hb => by
      cases e : H1 b with
      | none => rfl
      | some u => exact absurd (gn.old b u e) (Nat.not_lt.mpr hb)
    have hLoc : X.env.locals < L := ltL _ _ hoL
    have fslo : ∀ b ∈ X.fs, b < L := fun b hb => by
      obtain ⟨_, o, ho, _⟩ := I.ok.funs.mem hb
      exact Nat.lt_trans (Nat.lt_of_lt_of_le (Heap.lt_size ho) I.ok.above) hLoc
    refine ⟨g1, F.rows i, H1, G, L, tupsOf H1, n, ac, gn.val, q, ⟨hP.symm, hw.symm, hB.symm, Nat.le_trans (Nat.le_trans I.ok.bsz I.ok.above) (Nat.le_of_lt hLoc), fun b hb => ?_, fslo, fun z => absurd (Nat.lt_trans hLoc gn.la) (by rw [z]; exact Nat.lt_irrefl _), gn.la, tupsOf_only, fun b o e => ?_⟩,
      ⟨I1, (fam_gdo F (F.μ i + 1) i (Nat.lt_succ_self _) L (tupsOf H1) n _ s' hargs gn.fr gn.st).mono hki, fun b hb => ?_, gn.obj, fun z => ?_, tupsOf_le H1, .of g1 fun m hm => ?_, Nat.le_of_lt (Nat.lt_trans gn.la gn.lt), fun b hb => ?_⟩, fun _ h => h, tupsOf_le H1, gn.lo, gn.old⟩
    · rcases List.mem_cons.mp (I.stkSub b hb) with z | z
      · rw [z]; exact hLoc
      · exact fslo b z
    · obtain ⟨u, hu⟩ := tupsOf_some e
      exact gn.old b u hu
    · rcases List.mem_cons.mp hb with z | z
      · rw [z]; exact out ac (Nat.le_of_lt gn.la)
      · rw [List.mem_singleton.mp z]; exact out L (Nat.le_refl _)
    · have := gn.la
      rw [List.mem_singleton.mp z] at this
      exact absurd this (Nat.lt_irrefl _)
    · rw [List.mem_singleton.mp hm]; exact gn.nlo
    · rw [List.mem_singleton.mp hb]
      refine ⟨.inr (Nat.le_trans I.ok.above (Nat.le_of_lt hLoc)), Nat.ne_of_gt hLoc, fun y c hc z => ?_, fun p hp z => ?_⟩
      · obtain ⟨v, o, ho, _⟩ := I.cell y c hc
        exact absurd (ltL _ _ ho) (by rw [z]; exact Nat.lt_irrefl _)
      · exact absurd (ltL _ _ (I.pin p hp).1) (by rw [z]; exact Nat.lt_irrefl _)
/-- for over it -/
def tForGen (tg : TGen2 R) (RowP : R → List V → Prop) (g : TG) (tb : TS) : TS := fun D σ H => tg σ H fun rows H1 => ∃ Pv : Nat → L2.St → Hp → Prop, Pv 0 σ H1 ∧ (∀ i σ H, i ≤ rows.length → Pv i σ H → TupLe (tupsOf H1) H) ∧
  (∀ i r σ H, rows[i]? = some r → Pv i σ H → ∀ T xs, H T = none → RowP r xs → g (.ref T) σ (upd H T (.tup xs)) fun σ2 H2 => tb { nx := Pv (i + 1), rt := fun _ _ => False, ct := Pv (i + 1) } σ2 H2) ∧ ∀ σ H, Pv rows.length σ H → D.nx σ H
theorem a2_letGo {tg : Expr} {a : Addr} {n : Nat} {u : Value} {A : Around} {s : Shared} {Q : Unit → Shared → Prop} {M : Model} (hg : s.heap.IsGen a n) (q : Q () s) : any2 M A (letOwnedTupleGo tg (.ref a) u) Q F0 s := by
  obtain ⟨o, nm, qn, ho, hc, hd, _⟩ := hg
  exact a2_same (fun R hR => go_of (s := stuck s) ho hc hd (by decide) hR) q
theorem ps2_forGen {k : Nat} {RowP : R → List V → Prop} {tg iter : Expr} {body : List Stmt} {ti : TGen2 R} {g : TG} {tb : TS} (hx : Calm X) (hc : X.calm = true) (hr : Room (k + 2) X.A) (hrel : ∀ L Hg r h v, rel L Hg r h v → RowT (fun r _ xs => RowP r xs) r h v) (hND : ∀ nd, ND nd → nd = []) (hi : PGen2 X k iter rel ND ti) (hg : PG X tg g) (hb : PSs2 X body tb)
    (hs : ∀ x, foldedSetIterable iter X.env x = pure x := by intro _; rfl) : PS2 X (.For tg iter body [] pos) (tForGen ti RowP g tb) := by
  refine ⟨fun pins s σ H D I h => ?_⟩
  have hh : X.A.handled = none := I.ok.hd hc
  have hrk : Room k X.A.in1 := (hr.mono (by omega : k + 1 ≤ k + 2)).in1
  refine a2_For1 ?_ hs
  unfold forIter
  refine a2_bind (a2_thn (hi.run pins s σ H _ I h) fun u s1 ⟨g1, rows, H1, G, L, Hg, n, ac, eu, ⟨Pv, p0, ptl, pst, pend⟩, held, hd0, htl, _⟩ => a2_bind (a2_at (a2_holding ?_)))
  subst eu
  refine a2_same (a := .ref ac) (fun R hR => wpAny_pyIter_gen (s := stuck s1) hd0.obj hR) ?_
  refine c2_forLoop (fun m s3 => ∃ i σ3 H3 own nd gw, m = rows.length - i ∧ i ≤ rows.length ∧ Head X pins (rel L Hg) ND G L Hg k n ac s (rows.drop i) σ3 H3 s3 own nd gw ∧ Pv i σ3 H3) ?_ rows.length ⟨0, σ, H1, [L], [], [n], by simp, Nat.zero_le _, by rw [List.drop_zero]; exact hd0, p0⟩
  rintro m s3 ⟨i, σ3, H3, own, nd, gw, em, hile, hd, pv⟩
  obtain ⟨gs, hgs, haw⟩ := hd.d.pre.awake
  by_cases hlt : i < rows.length
  · have hdrop : rows.drop i = rows[i] :: rows.drop (i + 1) := List.drop_eq_getElem_cons hlt
    have hri : rows[i]? = some rows[i] := List.getElem?_eq_getElem hlt
    rw [hdrop] at hd
    refine a2_nextFor (a2_pyNext hh hd.inv.nolimit hr.depth (IsG.of hd.obj) hgs haw fun Γ p hΓ => ?_)
    obtain ⟨T, s4, xs, own', nd', gw', hw, hrow, hTn, hd', susp⟩ := held.wakeCons (hrel L Hg) hd hΓ hrk hd.inv.ok.frames
    refine ⟨_, s4, hw, .inl ⟨_, rfl, ?_⟩⟩
    refine a2_letGo hd'.obj ?_
    have I5 := Head.pinned held hd'
    refine a2_thn (imp (hg.run _ (stuck s4) σ3 _ (.ref T) (.ref T) _ I5 rfl (pst i _ σ3 H3 hri pv T xs hTn hrow)) (fun _ _ ⟨_, _, I, _⟩ => I.bare) hx) fun _ s6 ⟨g6, t6, ⟨σ6, H6, I6, q6⟩, h6, o6⟩ => ?_
    replace I6 : Inv2 X _ σ6 H6 s6 := inv2_of I6 h6 o6
    refine a2_thn (hb.run _ s6 σ6 H6 _ I6 q6) fun f s7 ⟨g7, q7⟩ => ?_
    have again : ∀ {σ7 : L2.St} {H7 : Hp}, Inv2 X (pins ++ pinsAt (ac :: own') s4.heap) σ7 H7 s7 → Pv (i + 1) σ7 H7 → ∃ m', m' < m ∧ ∃ i σ3 H3 own nd gw, m' = rows.length - i ∧ i ≤ rows.length ∧ Head X pins (rel L Hg) ND G L Hg k n ac s (rows.drop i) σ3 H3 s7 own nd gw ∧ Pv i σ3 H3 := fun {σ7 H7} I7 p7 =>
      ⟨rows.length - (i + 1), by omega, i + 1, σ7, H7, own', nd', gw', rfl, hlt, hd'.go hND held susp I7 (g6.trans g7) (htl H7 (ptl (i + 1) σ7 H7 hlt p7)), p7⟩
    cases f with
    | next => obtain ⟨σ7, H7, I7, n7⟩ := q7; exact again I7 n7
    | cont => obtain ⟨σ7, H7, I7, n7⟩ := q7; exact again I7 n7
    | brk => obtain ⟨σ7, H7, I7, z⟩ := q7; exact z.elim
    | ret v => obtain ⟨x7, σ7, H7, I7, r7, z⟩ := q7; exact z.elim
  · have hi' : i = rows.length := by omega
    subst hi'
    rw [List.drop_length] at hd
    refine a2_nextFor (a2_pyNext hh hd.inv.nolimit hr.depth (IsG.of hd.obj) hgs haw fun Γ p hΓ => ?_)
    obtain ⟨s4, hw, hfin⟩ := held.wakeNil hd hΓ hrk hd.inv.ok.frames
    refine ⟨_, s4, hw, .inr ⟨rfl, fun h' tk hk => ?_⟩⟩
    obtain ⟨I5, g5⟩ := hfin h' tk hk
    exact ⟨_, rfl, g5, σ3, H3, I5, pend σ3 H3 pv⟩
end
end Td
end

section
set_option maxHeartbeats 1000000
/-! TdComp: a list comprehension over such a generator. -/
namespace Td
open PySem PySem.Spec PyProof.Rows L2 GenW

theorem a2_heap {α : Type} {M : Model} {A : Around} {T : Sem α} {s : Shared} {P : α → Heap → Prop} (h : wpAny M A T (fun a t => ∃ h', P a h' ∧ t = { stuck s with heap := h' }) (fun _ _ => False) (stuck s)) : any2 M A T (fun a s' => ∃ h', P a h' ∧ s' = { s with heap := h' }) F0 s := by
  refine a2_mono (a2_of h) (fun a s' ⟨t', w, h', p, e⟩ => ⟨h', p, ?_⟩) fun _ _ ⟨_, _, z⟩ => z
  subst e
  have w2 : Sw (sleepers { s with heap := h' }) (stuck { s with heap := h' }) s' := w
  exact sw_self w2
theorem a2_ask {M : Model} {A : Around} {s : Shared} {E : Value → Shared → Prop} {Q : Setting → Shared → Prop} (h : Q ⟨M.prog, M.w.params⟩ s) : any2 M A ask Q E s := fun _ _ _ => h
theorem a2_standIf {α : Type} {M : Model} {A : Around} {s : Shared} {c : Prop} [Decidable c] {pos : Pos} {k : PUnit → Sem α} {Q : α → Shared → Prop} (h : any2 M A (k ()) Q F0 s) : any2 M A (if c then (standAt pos >>= k) else k ()) Q F0 s := by
  split
  · exact a2_bind (a2_at h)
  · exact h
theorem a2_comprehension {M : Model} {A : Around} {s : Shared} {env : Env} {e : Expr} {scope : Scope} {pos : Pos} {newAcc first : Sem Value} {g : Comprehension} {gs : List Comprehension} {cl : List (Str × Addr)} {Q : Value → Shared → Prop}
    (hcl : clausesOf e = g :: gs) (hs : ∀ x, foldedSetIterable g.iter env x = pure x) (hclos : closureFor scope env = pure cl) (hkind : scope.kind = .function) (hnames : ∀ x ∈ scope.names, x.2 = .local → scope.names.lookup x.1 = some .local)
    (h : any2 M A first (fun x s₁ => any2 M A (pyIter x) (fun it s₂ => any2 M A newAcc (fun acc s₃ =>
      any2 M A (newFunctionEnv scope env.globals cl [] env.qual none .none (some env)) (fun cenv s₄ =>
        code2 M A (.compStart e 0 it acc { cenv with scope := relabel scope env }) (fun r s' => ∃ f, r = .ok f ∧ ∃ m, s'.heap.Ns cenv.locals m ∧ ∀ h', Heap.SameBut cenv.locals s'.heap h' → Q acc { s' with heap := h' }) s₄) F0 s₃) F0 s₂) F0 s₁) F0 s) :
    any2 M A (comprehension e scope env pos newAcc false first none) Q F0 s := by
  unfold comprehension
  rw [hclos, hcl]
  refine a2_bind (a2_thn h fun x s₁ h₁ => a2_bind (a2_at (a2_bind (a2_of_eq (hs x) (a2_bind (a2_holding (a2_thn h₁ fun it s₂ h₂ =>
    a2_standIf (a2_bind (a2_thn h₂ fun acc s₃ h₃ => a2_bind (a2_pure (a2_bind (a2_thn h₃ fun cenv s₄ h₄ => ?_)))))))))))) 
  dsimp only
  have hv : ∀ x ∈ (scope.names.filter fun x => (x.2 == .local || x.2 == .cell) && x.1 != (".0" : Str)).reverse, x.2 = .local →
      Env.kindOf { cenv with scope := relabel scope env } x.1 = some .local := fun x hx hl => lookup_relabel_local (hnames x (List.mem_filter.mp (List.mem_reverse.mp hx)).1 hl)
  refine a2_holding (a2_bind (a2_attempt (a2_holding (a2_mono (a2_run (Q := fun f s' => ∃ m, s'.heap.Ns cenv.locals m ∧ ∀ h', Heap.SameBut cenv.locals s'.heap h' → Q acc { s' with heap := h' }) h₄) (fun f s' hr => ?_) fun _ _ z => z.elim))))
  obtain ⟨m, hn, hr⟩ := hr
  refine a2_bind (a2_holding (a2_thn (a2_heap (P := fun _ h' => Heap.SameBut cenv.locals s'.heap h') (wpAny_comp_letGo (cenv := { cenv with scope := relabel scope env }) hkind _ (stuck s') m hv hn fun h' m' _ hs' => ⟨h', hs', rfl⟩)) fun _ s'' ⟨h', hb, e2⟩ => ?_))
  subst e2
  exact a2_pure (hr h' hb)
section
variable {prog : Program} {w : World} {A : Around} {s : Shared} {R : Result → Shared → Prop}
theorem c2_compStart {elt target iter : Expr} {ifs : List Expr} {rest : List Comprehension} {scope : Scope} {pos : Pos} {it acc : Value} {env : Env}
    (hit : ∀ {Q : Value → Shared → Prop} {A' : Around}, Q it s → any2 (model prog w) A' (pyIter it) Q F0 s)
    (h0 : code2 (model prog w) A (.compLoop (.ListComp elt (⟨target, iter, ifs, 0⟩ :: rest) scope pos) 0 it acc env) R s) :
    code2 (model prog w) A (.compStart (.ListComp elt (⟨target, iter, ifs, 0⟩ :: rest) scope pos) 0 it acc env) R s := by
  refine c2_tree ?_
  show any2 _ _ ((compStart (.ListComp elt (⟨target, iter, ifs, 0⟩ :: rest) scope pos) 0 it acc env).onRaise (fun x => do noteFrame x env; standAt theWindowsPlace)) _ _ s
  refine a2_onR0 ?_
  unfold compStart
  show any2 _ _ (ask >>= _) _ _ s
  refine a2_bind (a2_ask ?_)
  split
  · first
      | exact a2_bind (a2_pure (a2_pure (And.intro rfl h0)))
      | exact a2_pure (And.intro rfl h0)
  · first
      | exact a2_bind (a2_rule (a2_bind (a2_at (a2_bind (hit (a2_pure (And.intro rfl h0)))))))
      | (refine a2_bind (a2_rule ?_)
         show any2 _ _ (standAt iter.pos >>= _) _ _ s
         exact a2_bind (a2_at (a2_bind (hit (a2_pure (And.intro rfl h0))))))
/-- the loop, no test -/
theorem c2_compLoop {elt target iter : Expr} {scope : Scope} {pos : Pos} {it acc : Value} {env : Env} (I : Nat → Shared → Prop)
    (turn : ∀ n s, I n s → any2 (model prog w) A (pyNext it) (fun r s₁ => match r with
      | none => R (.ok .next) s₁
      | some v => any2 (model prog w) A (letOwnedTupleGo target it v) (fun _ s₁' => any2 (model prog w) A (assign target env v) (fun _ s₂ =>
          any2 (model prog w) A (eval elt env) (fun x s₄ => any2 (model prog w) A (call (.builtin "list.append") [acc, x]) (fun _ s₅ => ∃ m, m < n ∧ I m s₅) F0 s₄) F0 s₂) F0 s₁') F0 s₁) F0 s)
    (n : Nat) (h : I n s) : code2 (model prog w) A (.compLoop (.ListComp elt [⟨target, iter, [], 0⟩] scope pos) 0 it acc env) R s := by
  induction n using Nat.strongRecOn generalizing s with
  | ind n ih =>
    refine c2_tree ?_
    show any2 _ A ((compTurn (.ListComp elt [⟨target, iter, [], 0⟩] scope pos) 0 it acc env).onRaise (fun x => do noteFrame x env; theTreesLotGoes x)) _ _ s
    refine a2_onR0 ?_
    rw [compTurn_list]
    refine a2_bind (a2_at (a2_bind (a2_thn (turn n s h) fun r s₁ h₁ => ?_)))
    cases r with
    | none => exact a2_pure h₁
    | some v =>
      refine a2_bind (a2_thn h₁ fun _ s₁' h₁' => a2_bind (a2_thn h₁' fun _ s₂ h₂ => ?_))
      refine a2_bind (m := forIn [] true _) (a2_pure ?_)
      dsimp only
      rw [if_pos rfl]
      exact a2_bind (a2_bind (a2_thn h₂ fun x s₄ h₄ => a2_bind (a2_thn h₄ fun _ s₅ ⟨m, hm, q⟩ => a2_pure (a2_pure ⟨rfl, ih m hm q⟩))))
end
end Td
end

section
set_option maxHeartbeats 1000000
/-! TdComp2: the rule for [elt for target in g()]. -/
namespace Td
open PySem PySem.Spec PyProof.Rows L2 GenW

section
variable {X : Cx} {R : Type} {rel : Nat → Hp → R → Heap → Value → Prop} {ND : List Addr → Prop}
def tLcGen (ti : TGen2 R) (RowP : R → List V → Prop) (g : TG) (te : TE) (vs : List Nat) : TE := fun σ H Q => ti σ H fun rows H1 => ∀ D, H1 D = none → ∃ Pv : Nat → Hp → Prop, Pv 0 (upd H1 D (.lst [])) ∧ (∀ i H, i ≤ rows.length → Pv i H → TupLe (tupsOf H1) H) ∧
  (∀ i r H, rows[i]? = some r → Pv i H → ∀ T xs, H T = none → RowP r xs → g (.ref T) (wipe σ vs) (upd H T (.tup xs)) fun σ2 H2 => wipe σ2 vs = wipe σ vs ∧ te σ2 H2 fun y H4 => ∃ acc, H4 D = some (.lst acc) ∧ acc.length < sizeLine ∧ Pv (i + 1) (upd H4 D (.lst (acc ++ [y])))) ∧
  ∀ H, Pv rows.length H → Q (.ref D) H
theorem pe2_lcGen {k : Nat} {RowP : R → List V → Prop} {elt tg iter : Expr} {scope : Scope} {own : List (Str × Nat)} {pos : Pos} {ti : TGen2 R} {g : TG} {te : TE} (hx : Calm X) (hc : X.calm = true) (hN : X.N.Nodup) (hr : Room (k + 2) X.A) (hrel : ∀ L Hg r h v, rel L Hg r h v → RowT (fun r _ xs => RowP r xs) r h v) (hND : ∀ nd, ND nd → nd = [])
    (hi : PGen2 X k iter rel ND ti) (ok : BlkOk X.N X.env.scope scope own)
    (hg : ∀ (s : Shared) (H : Hp) (C : Addr) (cl : List (Str × Addr)) (fp : List Addr), PG (X.blk s H scope (compEnvC scope cl C X.env) fp) tg g)
    (he : ∀ (s : Shared) (H : Hp) (C : Addr) (cl : List (Str × Addr)) (fp : List Addr), PE (X.blk s H scope (compEnvC scope cl C X.env) fp) elt te)
    (hs : ∀ x, foldedSetIterable iter X.env x = pure x := by intro _; rfl) : PE2 X (.ListComp elt [⟨tg, iter, [], 0⟩] scope pos) (tLcGen ti RowP g te (own.map (·.2))) := by
  refine ⟨fun pins s σ H Q I h => ?_⟩
  have hh : X.A.handled = none := I.ok.hd hc
  have hrk : Room k X.A.in1 := (hr.mono (by omega : k + 1 ≤ k + 2)).in1
  have hfree : ∀ y ∈ scope.names, y.2 = .free → ∃ c, X.env.cells.lookup y.1 = some c := fun y hy e => by
    rcases ok.free y hy e with k | k
    · exact I.ok.has _ (.inl k)
    · exact I.ok.has _ (.inr k)
  rw [eval_ListComp]
  refine a2_comprehension rfl hs (closure_ok hfree) ok.kind (fun y hy e => by rw [ok.uniq y hy, e]) (a2_thn (hi.run pins s σ H _ I h) fun u s1 ⟨g1, rows, H1, G, L, Hg, n, ac, eu, q, held, hd0, htl, _⟩ => ?_)
  subst eu
  refine a2_same (a := .ref ac) (fun R hR => wpAny_pyIter_gen (s := stuck s1) hd0.obj hR) ?_
  -- the new list
  have I1 := hd0.inv
  have hDn : H1 s1.heap.objs.size = none := I1.hok.fresh (Nat.le_refl _)
  obtain ⟨Pv, p0, ptl, pst, pend⟩ := q s1.heap.objs.size hDn
  refine a2_mono (a2_heap (P := fun a h' => a = Value.ref s1.heap.objs.size ∧ h' = s1.heap.push { cls := .type "list", data := .seq ([] : List Value).toArray }) ?_) (fun acc s3 ⟨h', ⟨ea, eh⟩, e3⟩ => ?_) fun _ _ z => z
  · refine wpAny_newObj_type ⟨_, ⟨rfl, rfl⟩, rfl⟩ (by show 0 ≤ sizeLine; decide)
  subst ea
  have h3 : s3.heap = s1.heap.push { cls := .type "list", data := .seq ([] : List Value).toArray } := by rw [e3]; exact eh
  have gens3 : s3.gens = s1.gens := by rw [e3]
  have os3 : s3.os = s1.os := by rw [e3]
  have k13 : ∀ b o, s1.heap.get? b = some o → s3.heap.get? b = some o := fun b o e => by rw [h3]; exact Heap.get?_push_of_some _ e
  have z13 : s3.heap.objs.size = s1.heap.objs.size + 1 := by rw [h3, Heap.size_push]
  have I3 : Inv2 X pins σ (upd H1 s1.heap.objs.size (.lst [])) s3 := by
    have I3' : Inv2 X pins σ (upd H1 s1.heap.objs.size (.lst [])) { s1 with heap := s3.heap } := by
      refine I1.laid (t' := s1.toks) (h' := s3.heap) k13 (Nat.le_refl _) ⟨Nat.zero_le _, [], 0, .nil, ?_⟩
      rw [h3]
      exact Heap.get?_push_size _ rfl
    exact inv_any I3' rfl os3 (stuck_bare s3)
  clear e3 eh
  refine a2_mono (a2_heap (P := fun (cenv : Env) h' => { cenv with scope := relabel scope X.env } = compEnvC scope (cellsFrom (s3.heap.objs.size + 1) scope.names (cloFrom X.env.cells scope.names [])) s3.heap.objs.size X.env ∧ cenv.locals = s3.heap.objs.size ∧ h' = pushCells (s3.heap.push { cls := .type "dict", data := .dict #[] }) scope.names) ?_) (fun cenv s4 ⟨h', ⟨ec, ecl, eh⟩, e4⟩ => ?_) fun _ _ z => z
  · exact newEnv_comp (s := stuck s3) ⟨_, ⟨rfl, rfl, rfl⟩, rfl⟩
  rw [ec, ecl]
  have h4 : s4.heap = pushCells (s3.heap.push { cls := .type "dict", data := .dict #[] }) scope.names := by rw [e4]; exact eh
  have gens4 : s4.gens = s1.gens := by rw [e4]; exact gens3
  have os4 : s4.os = s3.os := by rw [e4]
  have k34 : ∀ b o, s3.heap.get? b = some o → s4.heap.get? b = some o := fun b o e => by rw [h4]; exact pushCells_keeps _ _ _ _ (Heap.get?_push_of_some _ e)
  have z34 : s3.heap.objs.size ≤ s4.heap.objs.size := by
    rw [h4]
    refine Nat.le_trans ?_ (pushCells_size scope.names _)
    rw [Heap.size_push]; exact Nat.le_succ _
  have k14 : ∀ b o, s1.heap.get? b = some o → s4.heap.get? b = some o := fun b o e => k34 b o (k13 b o e)
  have z14 : s1.heap.objs.size ≤ s4.heap.objs.size := Nat.le_trans (by rw [z13]; exact Nat.le_succ _) z34
  clear e4 eh
  have lt1 : ∀ b ∈ ac :: [L], b < s1.heap.objs.size := fun b hb => by
    rcases List.mem_cons.mp hb with z | z
    · obtain ⟨o, _, _, ho, _⟩ := hd0.obj; rw [z]; exact Heap.lt_size ho
    · obtain ⟨_, o, ho, _⟩ := hd0.d.pre.ownOk b z; exact Heap.lt_size ho
  have f3 : ∀ b ∈ [L], FpOk X pins (upd H1 s1.heap.objs.size (.lst [])) b ∧ b < s3.heap.objs.size := fun b hb => by
    have hlt := lt1 b (List.mem_cons_of_mem _ hb)
    obtain ⟨c1, c2, c3, c4⟩ := hd0.ch b hb
    refine ⟨⟨?_, c2, fun z => ?_, c1, c3, c4⟩, by rw [z13]; exact Nat.lt_succ_of_lt hlt⟩
    · rw [upd_ne (Nat.ne_of_lt hlt)]; exact hd0.un b (List.mem_cons_of_mem _ hb)
    · rw [List.mem_singleton.mp hb] at z; exact absurd (held.fslo L z) (Nat.lt_irrefl _)
  have I4 := block_start (s := stuck s3) I3 ok hN f3
  generalize hce : compEnvC scope (cellsFrom (s3.heap.objs.size + 1) scope.names (cloFrom X.env.cells scope.names [])) s3.heap.objs.size X.env = ce
  have cL : ce.locals = s3.heap.objs.size := by rw [← hce]; rfl
  have pg := hg (stuck s3) (upd H1 s1.heap.objs.size (.lst [])) s3.heap.objs.size (cellsFrom (s3.heap.objs.size + 1) scope.names (cloFrom X.env.cells scope.names [])) [L]
  have pe := he (stuck s3) (upd H1 s1.heap.objs.size (.lst [])) s3.heap.objs.size (cellsFrom (s3.heap.objs.size + 1) scope.names (cloFrom X.env.cells scope.names [])) [L]
  rw [hce] at pg pe
  replace I4 : Inv2 (X.blk (stuck s3) (upd H1 s1.heap.objs.size (.lst [])) scope ce [L]) [] (wipe σ (own.map (·.2))) (upd H1 s1.heap.objs.size (.lst [])) s4 := by
    have I4' : Inv (X.blk (stuck s3) (upd H1 s1.heap.objs.size (.lst [])) scope (compEnvC scope (cellsFrom (s3.heap.objs.size + 1) scope.names (cloFrom X.env.cells scope.names [])) s3.heap.objs.size X.env) [L]) [] (wipe σ (own.map (·.2))) (upd H1 s1.heap.objs.size (.lst [])) (stuck s4) := inv_any I4 h4 os4 (stuck_bare s4)
    rw [hce] at I4'
    exact I4'
  generalize hH3 : upd H1 s1.heap.objs.size (.lst []) = H3 at I3 I4 pg pe p0 f3
  have hcalm : Calm (X.blk (stuck s3) H3 scope ce [L]) := fun _ _ z => z
  -- the generator, as the block holds it
  have heldB : Held (X.blk (stuck s3) H3 scope ce [L]) [] (rel L Hg) ND G L Hg k n ac := by
    refine ⟨held.P, held.w, held.base, held.bsz, held.stklo, held.stklo, ?_, held.la, held.only, held.old⟩
    show ac ≠ ce.locals
    rw [cL, z13]
    exact Nat.ne_of_lt (Nat.lt_succ_of_lt (lt1 ac List.mem_cons_self))
  have hdB : Head (X.blk (stuck s3) H3 scope ce [L]) [] (rel L Hg) ND G L Hg k n ac s rows (wipe σ (own.map (·.2))) H3 s4 [L] [] [n] := by
    refine ⟨I4, hd0.d.fut ⟨⟨z14, by rw [gens4]; exact Nat.le_refl _⟩, fun b hb o e => k14 b o e, (fun b hb => by cases hb), fun m hm x e => by rw [gens4]; exact e⟩, fun b hb => ?_, ?_, hd0.aI, ?_, ?_, Nat.le_trans hd0.sz z14, fun b hb => ⟨.inl hb, (I4.ok.exf b hb).1, (I4.ok.exf b hb).2, fun p hp => by cases hp⟩⟩
    · rw [← hH3, upd_ne (Nat.ne_of_lt (lt1 b hb))]; exact hd0.un b hb
    · obtain ⟨o, nm, qn, ho, r⟩ := hd0.obj; exact ⟨o, nm, qn, k14 ac o ho, r⟩
    · rw [← hH3]; exact hd0.tl.upd hDn
    · exact ⟨fun m x a b => by rw [gens4]; exact hd0.kp.keep m x a b, fun m x a b => by rw [gens4] at a; exact hd0.kp.loud m x a b, hd0.kp.grow.trans ⟨z14, by rw [gens4]; exact Nat.le_refl _⟩, hd0.kp.new⟩
  have isg : s4.heap.IsGen ac n := hdB.obj
  refine c2_compStart (fun {Q A'} q => a2_same (a := .ref ac) (fun R hR => wpAny_pyIter_gen (s := stuck s4) isg hR) q) ?_
  refine c2_compLoop (fun m s' => ∃ i H' ownG nd gw, m = rows.length - i ∧ i ≤ rows.length ∧ Head (X.blk (stuck s3) H3 scope ce [L]) [] (rel L Hg) ND G L Hg k n ac s (rows.drop i) (wipe σ (own.map (·.2))) H' s' ownG nd gw ∧ Pv i H') ?_ rows.length ⟨0, H3, [L], [], [n], by simp, Nat.zero_le _, by rw [List.drop_zero]; exact hdB, p0⟩
  rintro m s5 ⟨i, H5, ownG, nd, gw, em, hile, hd, pv⟩
  obtain ⟨gs, hgs, haw⟩ := hd.d.pre.awake
  by_cases hlt : i < rows.length
  · have hdrop : rows.drop i = rows[i] :: rows.drop (i + 1) := List.drop_eq_getElem_cons hlt
    have hri : rows[i]? = some rows[i] := List.getElem?_eq_getElem hlt
    rw [hdrop] at hd
    refine a2_pyNext hh hd.inv.nolimit hr.depth (IsG.of hd.obj) hgs haw fun Γ p hΓ => ?_
    obtain ⟨T, s6, xs, own', nd', gw', hw, hrow, hTn, hd', susp⟩ := heldB.wakeCons (hrel L Hg) hd hΓ hrk hd.inv.ok.frames
    refine ⟨_, s6, hw, .inl ⟨_, rfl, ?_⟩⟩
    refine a2_letGo hd'.obj ?_
    have I7 := Head.pinned heldB hd'
    refine a2_thn (imp (pg.run _ (stuck s6) _ _ (.ref T) (.ref T) _ I7 rfl (pst i _ H5 hri pv T xs hTn hrow)) (fun _ _ ⟨_, _, I, _⟩ => I.bare) hcalm) fun _ s8 ⟨g8, t8, ⟨σ8, H8, I8, hw8, q8⟩, h8, o8⟩ => ?_
    replace I8 : Inv2 (X.blk (stuck s3) H3 scope ce [L]) _ σ8 H8 s8 := inv2_of I8 h8 o8
    refine a2_thn ((pe2_of hcalm pe).run _ s8 σ8 H8 _ I8 q8) fun z s10 ⟨g10, yv, H10, I10, r10, acc, hD10, hz10, nx⟩ => ?_
    have w0 : wpAny (model X.prog X.w) X.A (call (.builtin "list.append") [.ref s1.heap.objs.size, z]) (fun _ t => Inv (X.blk (stuck s3) H3 scope ce [L]) ([] ++ pinsAt (ac :: own') s6.heap) σ8 (upd H10 s1.heap.objs.size (.lst (acc ++ [yv]))) t) (fun _ _ => False) (stuck s10) :=
      app_ok (X := X.blk (stuck s3) H3 scope ce [L]) I10 hD10 hz10 r10 fun s11 I11 => I11
    refine a2_thn (imp w0 (fun _ _ I => I.bare) fun _ _ z => z) fun _ s11 ⟨g11, t11, I11, h11, o11⟩ => ?_
    replace I11 : Inv2 (X.blk (stuck s3) H3 scope ce [L]) ([] ++ pinsAt (ac :: own') s6.heap) σ8 (upd H10 s1.heap.objs.size (.lst (acc ++ [yv]))) s11 := inv2_of I11 h11 o11
    have hl : (wipe σ (own.map (·.2))).length = σ8.length := by rw [← hw8, wipe_length]
    have I12 : Inv2 (X.blk (stuck s3) H3 scope ce [L]) ([] ++ pinsAt (ac :: own') s6.heap) (wipe σ (own.map (·.2))) (upd H10 s1.heap.objs.size (.lst (acc ++ [yv]))) s11 := I11.weak hl fun j v e => by
      rw [← hw8] at e
      exact (wipe_some e).1
    exact ⟨rows.length - (i + 1), by omega, i + 1, _, own', nd', gw', rfl, hlt, hd'.go hND heldB susp I12 ((g8.trans g10).trans g11) (htl _ (ptl (i + 1) _ hlt nx)), nx⟩
  · have hi' : i = rows.length := by omega
    subst hi'
    rw [List.drop_length] at hd
    refine a2_pyNext hh hd.inv.nolimit hr.depth (IsG.of hd.obj) hgs haw fun Γ p hΓ => ?_
    obtain ⟨s6, hw, hfin⟩ := heldB.wakeNil hd hΓ hrk hd.inv.ok.frames
    refine ⟨_, s6, hw, .inr ⟨rfl, fun h' tk hk => ?_⟩⟩
    obtain ⟨I6, g6⟩ := hfin h' tk hk
    obtain ⟨mm, hn, _⟩ := id I6.loc
    have hn : Heap.Ns h' ce.locals mm := hn
    rw [cL] at hn
    have I7 : Inv2 X pins σ H5 { s6 with heap := h', toks := tk } := I3.call' (s' := stuck { s6 with heap := h', toks := tk }) (ch := [L]) I6.os I6.base I6.hok (stuck_bare _) fun b hb => ⟨(f3 b hb).1.2.2.2.1, (f3 b hb).1.2.1, (f3 b hb).1.2.2.2.2.1, (f3 b hb).1.2.2.2.2.2⟩
    have nC : H5 s3.heap.objs.size = none := by
      have z : H5 ce.locals = none := I6.free
      rw [cL] at z
      exact z
    refine ⟨_, rfl, mm, hn, fun h'' sb => ⟨?_, .ref s1.heap.objs.size, H5, ?_, rfl, pend H5 pv⟩⟩
    · exact ⟨g6.keep, g6.loud, g6.grow.trans ⟨by show h'.objs.size ≤ h''.objs.size; rw [sb.1]; exact Nat.le_refl _, Nat.le_refl _⟩⟩
    · obtain ⟨f0, f1, f2, f3', f4, f5⟩ := I3.fpOk (b := s3.heap.objs.size) (Nat.le_refl _) nC
      exact I7.turned (t' := tk) (fun b o hb e => (sb.2 b hb).trans e) f0 f1 f3' f4 f5
end
end Td
end

section
set_option maxHeartbeats 1000000
/-! TdList: list(g) of such a generator. -/
namespace Td
open PySem PySem.Spec PyProof.Rows L2 GenW

section
variable {prog : Program} {w : World} {A : Around} {s : Shared} {E : Value → Shared → Prop}
theorem c2_heap {M : Model} {c : Code} {r0 : Result} {h' : Heap} (h : codeAny M A c (fun r t => r = r0 ∧ t = { stuck s with heap := h' }) (stuck s)) : code2 M A c (fun r s' => r = r0 ∧ s' = { s with heap := h' }) s := by
  refine c2_mono (c2_of h) fun r s' ⟨t', w, e1, e2⟩ => ⟨e1, ?_⟩
  subst e2
  have w2 : Sw (sleepers { s with heap := h' }) (stuck { s with heap := h' }) s' := w
  exact sw_self w2
/-- a special method that is a builtin's, called -/
theorem a2_slotCall {self : Value} {T : String} {name : Str} {id : String} {args : List Value} {b : Builtin} {Q : Option Value → Shared → Prop} (hT : s.TypeIs self T) (sl : Slot T name id) (hb : entryFor table id = some b) (ha : argsOk id ⟨self :: args, []⟩)
    (h : any2 (model prog w) A.in1 (b ⟨self :: args, []⟩) (goOn (model prog w) A (fun r s' => match r with | .ok (.ret v) => Q (some v) s' | .ok _ => False | .error e => E e s')) E s) : any2 (model prog w) A (callSpecial? self name args) Q E s := by
  show any2 _ _ (callSpecial? self name args []) _ _ s
  simp only [callSpecial?]
  refine a2_bind (a2_mono (a2_same (a := some (.builtin id)) (fun R hR => wpAny_specialOf (s := stuck s) hT sl.lookup hR) ?_) (fun _ _ x => x) fun _ _ x => x.elim)
  simp only [sl.bind]
  refine a2_holding (a2_bind (a2_pure (a2_bind ?_)))
  refine a2_mono (E := E) (Q := fun v s' => Q (some v) s') (a2_callE ?_) (fun v s' q => a2_pure q) fun _ _ x => x
  refine c2_tree ?_
  show any2 _ A.in1 (do checkBuiltinCall id ⟨self :: args, []⟩; again (.builtin id ⟨self :: args, []⟩)) _ _ s
  refine a2_bind (a2_mono (a2_same (a := ()) (fun R hR => sl.check _ _ _ (stuck s) self args [] R hT ha hR) ?_) (fun _ _ x => x) fun _ _ x => x.elim)
  refine a2_pure ⟨plainId_quiet sl.plain _, c2_builtin hb ?_⟩
  rw [Around.under_plainId sl.plain]
  exact h
/-- list(a): a new list, then its __init__ -/
theorem a2_callList {a : Addr} {Q : Value → Shared → Prop}
    (h : any2 (model prog w) A.in1.in1 (Builtin.«list.__init__» ⟨[.ref s.heap.objs.size, .ref a], []⟩) (goOn (model prog w) A.in1 (fun r s' => r = .ok (.ret .none) ∧ Q (.ref s.heap.objs.size) s')) F0 { s with heap := s.heap.push { cls := .type "list", data := .seq #[] } }) :
    any2 (model prog w) A (call (.type "list") [.ref a]) Q F0 s := by
  have ft := F.called_list
  obtain ⟨c, tl, hmro⟩ := ft.mro
  refine a2_call (c2_tree ?_)
  show any2 _ _ (callAny (.type "list") _) _ _ _
  refine a2_pure ⟨Code.quiet_builtin _ (by decide +kernel), c2_builtin F.entry_type_call ?_⟩
  rw [Around.under_plain (weight_type_call_type "list" [.ref a] []) rfl]
  refine a2_mono (E := F0) ?_ (fun _ _ z => z) fun _ _ z => z.elim
  unfold Builtin.«type.__call__»
  have h1 := ft.notType
  have hmade := ft.made
  have hsub := ft.sub
  dsimp only
  rw [if_neg (by rw [h1]; exact Bool.false_ne_true)]
  refine a2_bind (a2_pure ?_)
  refine a2_bind (a2_of_eq hmro ?_)
  rw [if_neg (by simp)]
  refine a2_bind (a2_of_eq hmade ?_)
  dsimp only
  refine a2_bind (a2_pure (a2_bind (a2_holding ?_)))
  refine a2_call (c2_mono (c2_heap (r0 := .ok (.ret (.ref s.heap.objs.size))) (h' := s.heap.push { cls := .type "list", data := .seq #[] }) (codeAny_mono (code_list_new (E := fun _ _ => False) (s := stuck s) (.ref a) (Q₁ := fun v t => v = .ref s.heap.objs.size ∧ t = { stuck s with heap := s.heap.push { cls := .type "list", data := .seq #[] } }) ⟨rfl, rfl⟩) fun r t hr => ?_)) fun r s' ⟨e1, e2⟩ => ⟨_, e1, ?_⟩)
  · cases r with
    | error e => exact False.elim hr
    | ok f =>
      cases f with
      | ret v => obtain ⟨rfl, e⟩ := hr; exact ⟨rfl, e⟩
      | next => exact False.elim hr
      | brk => exact False.elim hr
      | cont => exact False.elim hr
  subst e2
  have hS : (s.heap.push { cls := .type "list", data := .seq #[] }).get? s.heap.objs.size = some { cls := .type "list", data := .seq #[] } := Heap.get?_push_size _ rfl
  have hT : Shared.TypeIs { s with heap := s.heap.push { cls := .type "list", data := .seq #[] } } (.ref s.heap.objs.size) "list" := ⟨_, hS, rfl⟩
  refine a2_bind (a2_same (a := true) (fun R hR => wpAny_isInstance (s := stuck _) (T := "list") (b := true) ⟨_, hS, rfl⟩ hsub hR) ?_)
  rw [if_neg (by simp)]
  refine a2_bind (a2_holding (a2_slotCall (E := F0) hT ft.init F.entry_list_init (F.args_list_init_2 _ _) ?_))
  refine a2_mono h (fun fin s' q => ?_) fun _ _ z => z
  have k : ∀ r s', (r = Except.ok (Flow.ret Value.none) ∧ Q (.ref s.heap.objs.size) s') → (match r with
      | .ok (.ret v) => any2 (model prog w) A.in1 (match some v with
        | none => ret (Value.ref s.heap.objs.size)
        | some r => if (r != Value.none) = true then (do
            rule "type.call.init-returned-value"
            let __do_lift ← typeNameOf r
            raiseErrorMade "TypeError" (toString "__init__() should return None, not '" ++ toString __do_lift ++ toString "'")
            ret (.ref s.heap.objs.size)) else ret (.ref s.heap.objs.size)) (goOn (model prog w) A fun r s' => ∃ v, r = Except.ok (Flow.ret v) ∧ Q v s') F0 s'
      | .ok _ => False
      | .error e => F0 e s') := by
    rintro r s' ⟨rfl, q⟩
    exact a2_pure ⟨_, rfl, q⟩
  cases fin with
  | done f => exact k _ _ q
  | again c => exact ⟨q.1, c2_mono q.2 k⟩
end
end Td
end

section
set_option maxHeartbeats 1000000
/-! TdList2: list(g): the rows drawn into a new list. -/
namespace Td
open PySem PySem.Spec PyProof.Rows L2 GenW

abbrev extLoop (S a : Addr) : Code := .builtin "list.extend.loop" ⟨[.ref S, .ref a, .none], []⟩
abbrev lstO (acc : Array Value) (c : Nat) : Obj := { cls := .type "list", dict := none, data := .seq acc c, slots := #[] }
section
variable {G : GD} {R : Type} {rel : R → Heap → Value → Prop} {ND : List Addr → Prop} {L : Addr} {Hg : Hp} {k n : Nat} {outer : List Env} {A : Around} {S a : Addr} {own0 : List Addr} {gw0 : List Nat} {s1 : Shared}
theorem c2_drain (hS1 : s1.heap.objs.size ≤ S) (hA : A.handled = none) (hdep : A.depth < recursionLimit) (hfr : A.frames = some outer) (hrk : Room k A.in1.in1) (hLa : L < a) (hz1 : L ≤ s1.heap.objs.size) (hlim : ∀ s, OutOk G L Hg A outer s → s.heap.NoLimit) (hFlo : ∀ b ∈ frs outer, b < L)
    (relS : ∀ r (h h' : Heap) v, (∀ b o, h.get? b = some o → o.cls = .type "tuple" → (∃ v n, o.data = .seq v n) → ∃ sl, h'.get? b = some { o with slots := sl }) → rel r h v → rel r h' v) :
    ∀ (rs dn : List R) (s : Shared) (own nd : List Addr) (gw : List Nat) (acc : Array Value) (c : Nat), GDo G rel ND L Hg k n rs own nd gw s → OutOk G L Hg A outer s → IsG s.heap a n → a ∉ own → a < s.heap.objs.size → s.heap.get? S = some (lstO acc c) → dn.length = acc.size → (∀ (i : Nat) (r : R), dn[i]? = some r → ∃ v, acc[i]? = some v ∧ rel r s.heap v ∧ ∀ T, v = .ref T → s1.heap.objs.size ≤ T) → dn.length + rs.length ≤ sizeLine →
      EffF L (frs outer) (S :: own0) gw0 s1 s → LoudF gw0 gw s1 s → (∀ b ∈ own, b ∈ own0 ∨ s1.heap.objs.size ≤ b) → (∀ m ∈ gw, m ∈ gw0 ∨ s1.gens.size ≤ m) → (∀ m ∈ gw, ∃ x, s.gens[m]? = some x) →
      code2 G.M A (extLoop S a) (fun r s' => r = .ok (.ret .none) ∧ ∃ (acc' : Array Value) (c' : Nat), s'.heap.get? S = some (lstO acc' c') ∧ acc'.size = dn.length + rs.length ∧ (∀ (i : Nat) (r : R), (dn ++ rs)[i]? = some r → ∃ v, acc'[i]? = some v ∧ rel r s'.heap v ∧ ∀ T, v = .ref T → s1.heap.objs.size ≤ T) ∧ EffF L (frs outer) (S :: own0) gw0 s1 s' ∧ LoudF gw0 [] s1 s') s := by
  have hSL : L ≤ S := Nat.le_trans hz1 hS1
  have hSF : S ∉ frs outer := fun z => absurd (hFlo S z) (Nat.not_lt.mpr hSL)
  have haF : a ∉ frs outer := fun z => absurd (Nat.lt_trans (hFlo a z) hLa) (Nat.lt_irrefl _)
  have ef : ∀ {own : List Addr} {gw : List Nat} {s s' : Shared}, EffF L (frs outer) (S :: own0) gw0 s1 s → EffF L (frs outer) own gw s s' → (∀ b ∈ own, b ∈ S :: own0 ∨ s1.heap.objs.size ≤ b) → (∀ m ∈ gw, m ∈ gw0 ∨ s1.gens.size ≤ m) → EffF L (frs outer) (S :: own0) gw0 s1 s' := fun x y h1 h2 =>
    x.trans y (Nat.le_refl _) (fun b hb => ⟨hb, hFlo b hb⟩) (fun b hb => .inl hb) h1 h2
  -- tuples through an effect
  have tk : ∀ {own : List Addr} {gw : List Nat} {s s' : Shared}, OwnOk L own s → EffF L (frs outer) own gw s s' → ∀ b o, s.heap.get? b = some o → o.cls = .type "tuple" → (∃ v n, o.data = .seq v n) → ∃ sl, s'.heap.get? b = some { o with slots := sl } := fun {own gw s s'} h y b o hb _ ⟨v, m, hd⟩ => by
    have hbo : b ∉ own := fun z => by
      obtain ⟨_, o', ho', hn, _⟩ := h b z
      rw [hb] at ho'; cases ho'; exact hn _ _ hd
    by_cases hF : b ∈ frs outer
    · exact y.slot b o hb hF
    · exact ⟨o.slots, y.keep b o hb hbo hF⟩
  intro rs
  induction rs with
  | nil =>
    intro dn s own nd gw acc c D O hg ha haz hSo hdn hdv hlen x l ho hgw hgx
    obtain ⟨gs, hgs, haw⟩ := D.pre.awake
    have hSown : S ∉ own := fun z => by
      obtain ⟨_, o, ho', hn, _⟩ := D.pre.ownOk S z
      rw [hSo] at ho'; cases ho'; exact hn _ _ rfl
    refine c2_builtin F.entry_extend_loop ?_
    rw [Around.under_plainId F.plain_extend_loop _]
    show any2 _ A.in1 (pyNext (.ref a) >>= _) _ _ s
    refine a2_bind (a2_mono (E := F0) (a2_pyNext (A := A.in1) hA (hlim s O) hdep hg hgs haw fun Γ p hΓ => ?_) (fun _ _ z => z) fun _ _ z => z.elim)
    obtain ⟨s', hw, y, l'⟩ := D.2 _ outer Γ p s hΓ hrk ⟨hfr, O.bs, O.bsz, O.sz, O.funs, O.frlo, O.tups, O.only, O.hgb, O.hgf⟩ (Fut.refl _ _ _ _)
    refine ⟨_, s', hw, .inr ⟨rfl, fun h' tk' hk => ?_⟩⟩
    have x' := ef x y (fun b hb => (ho b hb).imp (List.mem_cons_of_mem _) id) hgw
    have kk : EffF L (frs outer) [] [] s' { s' with heap := h', toks := tk' } := ⟨rfl, ⟨hk.2, Nat.le_refl _⟩, fun b o q _ _ => hk.1 b o q, fun b o q z => ⟨o.slots, hk.1 b o q⟩, fun m z q _ _ => q⟩
    refine a2_pure ⟨rfl, acc, c, hk.1 _ _ (y.keep S _ hSo hSown hSF), by rw [← hdn]; simp, fun i r hi => ?_, ef x' kk (fun b hb => by cases hb) (fun m hm => by cases hm), l.trans l'⟩
    rw [List.append_nil] at hi
    obtain ⟨v, hv, hr, hT⟩ := hdv i r hi
    refine ⟨v, hv, relS r _ _ v (fun b o hb hc hs => ?_) hr, hT⟩
    obtain ⟨sl, e⟩ := tk D.pre.ownOk y b o hb hc hs
    exact ⟨sl, hk.1 _ _ e⟩
  | cons r rs ih =>
    intro dn s own nd gw acc c D O hg ha haz hSo hdn hdv hlen x l ho hgw hgx
    obtain ⟨gs, hgs, haw⟩ := D.pre.awake
    have hSown : S ∉ own := fun z => by
      obtain ⟨_, o, ho', hn, _⟩ := D.pre.ownOk S z
      rw [hSo] at ho'; cases ho'; exact hn _ _ rfl
    refine c2_builtin F.entry_extend_loop ?_
    rw [Around.under_plainId F.plain_extend_loop _]
    show any2 _ A.in1 (pyNext (.ref a) >>= _) _ _ s
    refine a2_bind (a2_mono (E := F0) (a2_pyNext (A := A.in1) hA (hlim s O) hdep hg hgs haw fun Γ p hΓ => ?_) (fun _ _ z => z) fun _ _ z => z.elim)
    obtain ⟨v, s', own', nd', gw', hw, y, go, hrel, D'⟩ := D.2 _ outer Γ p s hΓ hrk ⟨hfr, O.bs, O.bsz, O.sz, O.funs, O.frlo, O.tups, O.only, O.hgb, O.hgf⟩ (Fut.refl _ _ _ _)
    refine ⟨_, s', hw, .inl ⟨v, rfl, ?_⟩⟩
    have hSs : s'.heap.get? S = some (lstO acc c) := y.keep S _ hSo hSown hSF
    have hlen' : dn.length + (rs.length + 1) ≤ sizeLine := hlen
    have haz2 : acc.size < sizeLine := by omega
    show any2 _ A.in1 (updateSeq S (·.push v) >>= _) _ _ _
    refine a2_bind (a2_mono (a2_heap (P := fun _ h' => h' = s'.heap.update S (Obj.mapSeq (·.push v))) (wpAny_updateSeq (s := stuck s') hSs rfl ⟨_, rfl, rfl⟩ (Nat.le_of_lt haz2) (by show (acc.push v).size ≤ sizeLine + 1; rw [Array.size_push]; omega))) (fun _ s3 ⟨h', eh, e3⟩ => ?_) fun _ _ z => z.elim)
    subst eh e3
    have keep3 : ∀ b o, b ≠ S → s'.heap.get? b = some o → (s'.heap.update S (Obj.mapSeq (·.push v))).get? b = some o := fun b o hbS e => (Heap.get?_update_other _ _ (Ne.symm hbS)).trans e
    obtain ⟨c3, hS3⟩ : ∃ c3, (s'.heap.update S (Obj.mapSeq (·.push v))).get? S = some (lstO (acc.push v) c3) := ⟨_, Heap.get?_update_self _ hSs rfl⟩
    have z3 : (s'.heap.update S (Obj.mapSeq (·.push v))).objs.size = s'.heap.objs.size := Array.size_modify ..
    have y3 : EffF L (frs outer) [S] [] s' { s' with heap := s'.heap.update S (Obj.mapSeq (·.push v)) } := ⟨rfl, ⟨by show _ ≤ (s'.heap.update S (Obj.mapSeq (·.push v))).objs.size; rw [z3]; exact Nat.le_refl _, Nat.le_refl _⟩, fun b o q h2 _ => keep3 b o (fun z => h2 (by rw [z]; exact List.mem_cons_self)) q, fun b o q hb => ⟨o.slots, keep3 b o (fun z => hSF (by rw [← z]; exact hb)) q⟩, fun m z q _ _ => q⟩
    have noS : ∀ {b : Addr} {o : Obj}, s'.heap.get? b = some o → o.cls = .type "tuple" → b ≠ S := fun {b o} hb hc z => by
      rw [z, hSs] at hb; cases hb
      injection hc with q; exact absurd q (by decide)
    have haS : a ≠ S := fun z => by
      obtain ⟨o, _, _, ho', hc, _⟩ := hg
      rw [z, hSo] at ho'; cases ho'
      injection hc with q; exact absurd q (by decide)
    have x1 := ef x y (fun b hb => (ho b hb).imp (List.mem_cons_of_mem _) id) hgw
    have x3 := ef x1 y3 (fun b hb => .inl (by rw [List.mem_singleton.mp hb]; exact List.mem_cons_self)) fun m hm => by cases hm
    have O1 : OutOk G L Hg A outer s' := O.eff y (Nat.le_refl _) (fun b hb => (D.pre.ownOk b hb).1) fun b _ h => h
    have O3 : OutOk G L Hg A outer { s' with heap := s'.heap.update S (Obj.mapSeq (·.push v)) } := O1.eff y3 (Nat.le_refl _) (fun b hb => by rw [List.mem_singleton.mp hb]; exact hSL) fun b _ h => h
    have hSown' : S ∉ own' := fun z => by
      obtain ⟨_, o, ho', hn, _⟩ := D'.pre.ownOk S z
      rw [hSs] at ho'; cases ho'; exact hn _ _ rfl
    have ha' : IsG s'.heap a n := hg.at fun o ho' => y.keep a o ho' ha haF
    refine a2_pure ⟨plainId_quiet F.plain_extend_loop _, ?_⟩
    have fin := ih (dn ++ [r]) { s' with heap := s'.heap.update S (Obj.mapSeq (·.push v)) } own' nd' gw' (acc.push v) c3 (D'.fut ⟨y3.grow, fun b hb o q => keep3 b o (fun z => hSown' (by rw [← z]; exact hb)) q, fun b hb o q => ?_, fun m _ z q => q⟩) O3 (ha'.at fun o q => keep3 a o haS q) (fun z => ?_) ?_ hS3 (by simp [hdn]) (fun i r' hi => ?_) (by simp; omega) x3 (l.trans go.loud) (fun b hb => ?_) (fun m hm => ?_) fun m hm => ?_
    · refine c2_mono fin fun r' s4 ⟨e1, acc', c', e2, e3, e4, e5, e6⟩ => ⟨e1, acc', c', e2, ?_, ?_, e5, e6⟩
      · rw [e3]; simp; omega
      · intro i r' hi
        exact e4 i r' (by rw [List.append_assoc]; exact hi)
    · obtain ⟨_, o', ho', hc', _⟩ := D'.pre.ndOk b hb
      rw [q] at ho'; cases ho'
      exact keep3 b o (noS q hc') q
    · rcases go.ownN a z with q | q
      · exact ha q
      · exact absurd haz (Nat.not_lt.mpr q)
    · show a < (s'.heap.update S (Obj.mapSeq (·.push v))).objs.size
      rw [z3]; exact Nat.lt_of_lt_of_le haz y.grow.1
    · by_cases hlt : i < dn.length
      · rw [List.getElem?_append_left hlt] at hi
        obtain ⟨v', hv', hr', hT'⟩ := hdv i r' hi
        refine ⟨v', ?_, relS r' _ _ v' (fun b o hb hc hs => ?_) hr', hT'⟩
        · rw [Array.getElem?_push, if_neg (by omega)]; exact hv'
        · obtain ⟨sl, e⟩ := tk D.pre.ownOk y b o hb hc hs
          exact ⟨sl, keep3 b _ (noS e hc) e⟩
      · have hi0 : i = dn.length := by
          have := (List.getElem?_eq_some_iff.mp hi).1
          simp at this; omega
        subst hi0
        rw [List.getElem?_append_right (Nat.le_refl _)] at hi
        simp at hi
        subst hi
        refine ⟨v, by rw [Array.getElem?_push, if_pos hdn], relS r _ _ v (fun b o hb hc hs => ⟨o.slots, keep3 b o (noS hb hc) hb⟩) hrel, fun T hT => Nat.le_trans x.grow.1 (go.vnew T hT)⟩
    · rcases go.ownN b hb with q | q
      · exact ho b q
      · exact .inr (Nat.le_trans x.grow.1 q)
    · rcases go.gens m hm with q | q
      · exact hgw m q
      · exact .inr (Nat.le_trans x.grow.2 q)
    · obtain ⟨z, hz, _⟩ := go.susp m hm
      exact ⟨z, hz⟩
end
end Td
end

section
set_option maxHeartbeats 1000000
/-! TdList3: the rule for list(g). -/
namespace Td
open PySem PySem.Spec PyProof.Rows L2 GenW

def TupAt (h : Heap) (b : Addr) (xs : List V) : Prop := xs.length ≤ sizeLine ∧ ∃ its, Vals xs its ∧ IsTup h b its.toArray
theorem TupAt.inj {h : Heap} {b : Addr} {xs ys : List V} (x : TupAt h b xs) (y : TupAt h b ys) : xs = ys := by
  obtain ⟨_, its, v1, o, h1, _, n, d1⟩ := x
  obtain ⟨_, jts, v2, o', h2, _, m, d2⟩ := y
  rw [h1] at h2; cases h2
  rw [d1] at d2
  injection d2 with e _
  have e' : its = jts := by simpa using congrArg Array.toList e
  subst e'
  exact Vals.inj v1 v2
open Classical in
/-- all tuples beyond L, and the list at S -/
noncomputable def trackH (H : Hp) (h : Heap) (L S : Addr) (xs : List V) : Hp := fun b => if b ≤ L then H b else if b = S then some (.lst xs) else if q : ∃ ys, TupAt h b ys then some (.tup q.choose) else none
theorem trackH_old {H : Hp} {h : Heap} {L S : Addr} {xs : List V} {b : Addr} (hb : b ≤ L) : trackH H h L S xs b = H b := if_pos hb
theorem trackH_lst {H : Hp} {h : Heap} {L S : Addr} {xs : List V} (hS : L < S) : trackH H h L S xs S = some (.lst xs) := by
  unfold trackH
  rw [if_neg (Nat.not_le.mpr hS), if_pos rfl]
theorem trackH_tup {H : Hp} {h : Heap} {L S : Addr} {xs ys : List V} {b : Addr} (hb : L < b) (hS : b ≠ S) (t : TupAt h b ys) : trackH H h L S xs b = some (.tup ys) := by
  unfold trackH
  have q : ∃ ys, TupAt h b ys := ⟨ys, t⟩
  rw [if_neg (Nat.not_le.mpr hb), if_neg hS, dif_pos q, TupAt.inj q.choose_spec t]
theorem trackH_of {H : Hp} {h : Heap} {L S : Addr} {xs : List V} {b : Addr} {u : HO} (hb : L < b) (e : trackH H h L S xs b = some u) : (b = S ∧ u = .lst xs) ∨ ∃ ys, u = .tup ys ∧ TupAt h b ys := by
  unfold trackH at e
  rw [if_neg (Nat.not_le.mpr hb)] at e
  split at e
  · rename_i hS; cases e; exact .inl ⟨hS, rfl⟩
  · split at e
    · rename_i q; cases e; exact .inr ⟨_, rfl, q.choose_spec⟩
    · cases e
theorem Inv.track {X : Cx} {pins : List (Addr × Obj)} {σ : L2.St} {H H' : Hp} {s : Shared} {L : Addr} (I : Inv X pins σ H s) (h0 : X.env.locals < L) (hc : ∀ x c, X.env.cells.lookup x = some c → c < L) (hp : ∀ p ∈ X.pn ++ pins, p.1 < L) (ho : ∀ b u, H b = some u → b < L)
    (e : ∀ b, b < L → H' b = H b) (hok : HOk X.prog X.w H' s.heap) : Inv X pins σ H' s where
  ok := I.ok
  os := I.os
  bare := I.bare
  base := ⟨I.base.keep, I.base.slot, fun b o q n hx => by rw [e b (Nat.lt_trans (Nat.lt_of_lt_of_le (Heap.lt_size q) I.ok.above) h0)]; exact I.base.free b o q n hx, I.base.there,
    fun b xs q => by have z := I.base.tups b xs q; rw [e b (ho b _ z)]; exact z, fun b o u q => by have z := I.base.frzs b o u q; rw [e b (ho b _ z)]; exact z, fun b ps q => by obtain ⟨m, z⟩ := I.base.tbls b ps q; exact ⟨m, by rw [e b (ho b _ z)]; exact z⟩⟩
  loc := I.loc
  cell := I.cell
  free := by rw [e _ h0]; exact I.free
  freeC := fun x c q => by rw [e c (hc x c q)]; exact I.freeC x c q
  pin := fun p q => by
    obtain ⟨h1, h2, h3⟩ := I.pin p q
    exact ⟨h1, by rw [e p.1 (hp p q)]; exact h2, h3⟩
  hok := hok
  len := I.len
section
variable {prog : Program} {w : World} {A : Around} {s : Shared} {E : Value → Shared → Prop}
/-- list.__init__ as far as its loop -/
theorem wp_listInit {a S : Addr} {g : Nat} {c0 : Nat} (hS : s.heap.get? S = some (lstO #[] c0)) (hg : s.heap.IsGen a g) (hSa : S ≠ a) :
    wpAny (model prog w) A (Builtin.«list.__init__» ⟨[.ref S, .ref a], []⟩) (fun fin t => ∃ h', (fin = .again (extLoop S a) ∧ (∃ c, h'.get? S = some (lstO #[] c)) ∧ (∀ b o, b ≠ S → s.heap.get? b = some o → h'.get? b = some o) ∧ h'.objs.size = s.heap.objs.size) ∧ t = { s with heap := h' }) E s := by
  show wpAny _ A (do let old ← Builtin.List.listItems (.ref S); Builtin.List.listUpdate (.ref S) (fun _ => #[]); letGo old.toList.reverse; Builtin.List.listExtendWith (.ref S) (.ref a) .none) _ _ _
  refine wpAny_bind ?_
  unfold Builtin.List.listItems
  refine wpAny_bind (wpAny_seqItems hS rfl (wpAny_pure ?_))
  show wpAny _ A (updateSeq S (fun _ => #[]) >>= fun _ => letGo (#[] : Array Value).toList.reverse >>= fun _ => Builtin.List.listExtendWith (.ref S) (.ref a) .none) _ _ _
  refine wpAny_bind (wpAny_updateSeq hS rfl ?_)
  have hS2 := Heap.get?_update_self (Obj.mapSeq (fun _ => (#[] : Array Value))) hS rfl
  refine wpAny_bind (wpAny_letGo ?_)
  unfold Builtin.List.listExtendWith
  have up : ∀ (h : Heap) (f : Obj → Obj), (∀ b o, b ≠ S → s.heap.get? b = some o → h.get? b = some o) → ∀ b o, b ≠ S → s.heap.get? b = some o → (h.update S f).get? b = some o := fun h f q b o hb e => (Heap.get?_update_other _ _ (Ne.symm hb)).trans (q b o hb e)
  have k2 := up _ (Obj.mapSeq (fun _ => (#[] : Array Value))) (fun b o _ e => e)
  have gty : ∀ {h : Heap}, (∀ b o, b ≠ S → s.heap.get? b = some o → h.get? b = some o) → h.IsGen a g := fun {h} q => let ⟨o, nm, qn, ho, r⟩ := hg; ⟨o, nm, qn, q a o (Ne.symm hSa) ho, r⟩
  refine wpAny_bind (wpAny_typeOf (Heap.IsGen.typeIs (s := { s with heap := _ }) (gty k2)) ?_)
  have h1 : Builtin.List.listSameRef (.ref S) (.ref a) = false := by simp [Builtin.List.listSameRef, hSa]
  have h2 : (Value.type "generator" == Value.type "list") = false := by decide
  have h3 : (Value.type "generator" == Value.type "tuple") = false := by decide
  simp only [h1, h2, h3, Bool.or_false, Bool.false_eq_true, if_false]
  refine wpAny_bind (wpAny_pyIter_gen (s := { s with heap := _ }) (gty k2) ?_)
  refine wpAny_bind (wpAny_holding ?_)
  unfold Builtin.List.listLengthHint
  refine wpAny_bind (wpAny_specialOf (Heap.IsGen.typeIs (s := { s with heap := _ }) (gty k2)) F.gen_no_len ?_)
  show wpAny _ A (specialOf (Value.ref a) (Str.ofString "__length_hint__") >>= _) _ _ _
  refine wpAny_bind (wpAny_specialOf (Heap.IsGen.typeIs (s := { s with heap := _ }) (gty k2)) F.gen_no_hint ?_)
  refine wpAny_pure ?_
  show wpAny _ A (rule "list.extend.makes-room" >>= fun _ => Builtin.List.listTouch (.ref S) >>= fun _ => again (extLoop S a)) _ _ _
  refine wpAny_bind (wpAny_rule ?_)
  refine wpAny_bind ?_
  show wpAny _ A (updateSeq S (·.push .none) >>= fun _ => updateSeq S (·.pop)) _ _ _
  refine wpAny_bind (wpAny_updateSeq hS2 rfl ?_)
  have hS3 := Heap.get?_update_self (Obj.mapSeq (·.push Value.none)) hS2 rfl
  refine wpAny_updateSeq (hz := by seq_fits) hS3 rfl ?_
  have hS4 := Heap.get?_update_self (Obj.mapSeq (·.pop)) hS3 rfl
  have k4 := up _ (Obj.mapSeq (·.pop)) (up _ (Obj.mapSeq (·.push Value.none)) k2)
  refine wpAny_pure ⟨_, ⟨rfl, ⟨_, hS4⟩, k4, ?_⟩, rfl⟩
  have z : ∀ (h : Heap) (f : Obj → Obj), (h.update S f).objs.size = h.objs.size := fun h f => Array.size_modify ..
  rw [z, z, z]
end
section
variable {X : Cx} {R : Type} {rel : Nat → Hp → R → Heap → Value → Prop} {ND : List Addr → Prop}
def tListGen (ti : TGen2 R) (RowH : R → Addr → Hp → Prop) : TE := fun σ H Q => ti σ H fun rows H1 => rows.length ≤ sizeLine ∧ ∀ (S : Addr) (Ts : List Addr) (H' : Hp), H1 S = none → (∀ b u, H1 b = some u → H' b = some u) → H' S = some (.lst (Ts.map V.ref)) → Ts.length = rows.length →
  (∀ (i : Nat) (r : R) (T : Addr), rows[i]? = some r → Ts[i]? = some T → RowH r T H') → Q (.ref S) H'
theorem pe2_listGen {k : Nat} {RowH : R → Addr → Hp → Prop} {e : Expr} {ti : TGen2 R} {p pos : Pos} {nm : Str} (hx : Calm X) (hc : X.calm = true) (hr : Room (k + 6) X.A)
    (relS : ∀ L Hg r (h h' : Heap) v, (∀ b o, h.get? b = some o → o.cls = .type "tuple" → (∃ v n, o.data = .seq v n) → ∃ sl, h'.get? b = some { o with slots := sl }) → rel L Hg r h v → rel L Hg r h' v)
    (hrow : ∀ L Hg r h v, rel L Hg r h v → ∃ T, v = .ref T ∧ ∀ (H' : Hp), L < T → (∀ b xs, L < b → TupAt h b xs → H' b = some (.tup xs)) → (∀ b xs, Hg b = some (.tup xs) → Rd H' b (.tup xs)) → RowH r T H')
    (hi : PGen2 X k e rel ND ti) (hg : Gl X nm) (hmg : X.mg nm = none) (hv : bootBuiltins nm = some (.type "list")) (hnm : nm ≠ "__name__" := by decide) (hdb : (nm == ("__debug__" : Str)) = false := by decide)
    (he : starEach [e] X.env = [(false, eval e X.env)] := by rfl) : PE2 X (.Call (.Name nm p) [e] [] pos) (tListGen ti RowH) := by
  refine ⟨fun pins s σ H Q I h => ?_⟩
  have hh : X.A.handled = none := I.ok.hd hc
  refine a2_CallName (a2_bname I hg hmg hv ?_ hnm hdb)
  rw [he]
  refine a2_callWith (P := fun _ => True) rfl (fun h _ => ⟨.machine, .inr (.inl rfl), fun A s Q _ q => a2_pure q⟩) (a2_evalArgs rfl rfl ?_)
  show any2 _ _ (spliced [(false, eval e X.env)]) _ _ s
  refine a2_spliced (a2_thn (hi.run pins s σ H _ I h) fun u s1 ⟨g1, rows, H1, G, L, Hg, n, ac, eu, ⟨hlen, q⟩, held, hd0, _, htl1, hsL, old1⟩ => a2_spliced_nil (a2_evalAll_nil ⟨trivial, ?_⟩))
  subst eu
  have I1 := hd0.inv
  have hacS : ac < s1.heap.objs.size := by obtain ⟨o, _, _, ho, _⟩ := hd0.obj; exact Heap.lt_size ho
  have hLS : L < s1.heap.objs.size := Nat.lt_trans held.la hacS
  have H1S : H1 s1.heap.objs.size = none := I1.hok.fresh (Nat.le_refl _)
  -- what is older than the generator
  have ltL : ∀ b o, s.heap.get? b = some o → b < L := fun b o e => Nat.lt_of_lt_of_le (Heap.lt_size e) hsL
  refine a2_callList ?_
  have hS0 : (s1.heap.push { cls := .type "list", data := .seq #[] }).get? s1.heap.objs.size = some (lstO #[] 0) := Heap.get?_push_size _ rfl
  have kp0 : ∀ b o, s1.heap.get? b = some o → (s1.heap.push { cls := .type "list", data := .seq #[] }).get? b = some o := fun b o e => Heap.get?_push_of_some _ e
  have gen0 : (s1.heap.push { cls := .type "list", data := .seq #[] }).IsGen ac n := hd0.obj.keeps kp0
  refine a2_mono (a2_heap (P := fun fin h' => fin = .again (extLoop s1.heap.objs.size ac) ∧ (∃ c, h'.get? s1.heap.objs.size = some (lstO #[] c)) ∧ (∀ b o, b ≠ s1.heap.objs.size → (s1.heap.push { cls := .type "list", data := .seq #[] }).get? b = some o → h'.get? b = some o) ∧ h'.objs.size = (s1.heap.push { cls := .type "list", data := .seq #[] }).objs.size)
    (wp_listInit (s := stuck { s1 with heap := s1.heap.push { cls := .type "list", data := .seq #[] } }) hS0 gen0 (Nat.ne_of_gt hacS))) (fun fin s2 ⟨h2, ⟨ef, ⟨c2, hS2⟩, kp2, z2⟩, e2⟩ => ?_) fun _ _ z => z
  subst ef e2
  have kp : ∀ b o, s1.heap.get? b = some o → h2.get? b = some o := fun b o e => kp2 b o (Nat.ne_of_lt (Heap.lt_size e)) (kp0 b o e)
  have zz : s1.heap.objs.size ≤ h2.objs.size := by rw [z2, Heap.size_push]; exact Nat.le_succ _
  refine ⟨plainId_quiet F.plain_extend_loop _, ?_⟩
  have hstk : ∀ b ∈ frs X.stack, b < L := held.stklo
  have out1 : OutOk G L Hg X.A.in1 X.stack s1 := held.out I1 hd0.tl (A' := X.A.in1) I1.ok.frames hd0.sz
  have x0 : EffF L (frs X.stack) [] [] s1 { s1 with heap := h2 } := ⟨rfl, ⟨zz, Nat.le_refl _⟩, fun b o q _ _ => kp b o q, fun b o q _ => ⟨o.slots, kp b o q⟩, fun m z q _ _ => q⟩
  have out2 : OutOk G L Hg X.A.in1 X.stack { s1 with heap := h2 } := out1.eff x0 (Nat.le_refl _) (fun b hb => by cases hb) fun b _ h => h
  have hrk : Room k X.A.in1.in1.in1 := (((hr.mono (by omega : k + 1 + 1 + 1 ≤ k + 6)).in1).in1).in1
  have d2 := hd0.d.fut (s2 := { s1 with heap := h2 }) ⟨⟨zz, Nat.le_refl _⟩, fun b hb o e => kp b o e, (fun b hb => by cases hb), fun m hm x e => e⟩
  have x1 : EffF L (frs X.stack) (s1.heap.objs.size :: [L]) [n] s1 { s1 with heap := h2 } := ⟨rfl, ⟨zz, Nat.le_refl _⟩, fun b o q _ _ => kp b o q, fun b o q _ => ⟨o.slots, kp b o q⟩, fun m z q _ _ => q⟩
  rw [held.P.symm, held.w.symm]
  refine c2_mono (c2_drain (G := G) (rel := rel L Hg) (k := k) (n := n) (outer := X.stack) (A := X.A.in1) (own0 := [L]) (gw0 := [n]) (s1 := s1) (Nat.le_refl _) hh hr.depth I1.ok.frames hrk held.la hd0.sz (fun s' O => ?_) hstk (relS L Hg) rows [] { s1 with heap := h2 } [L] [] [n] #[] c2 d2 out2 (IsG.of (hd0.obj.keeps kp)) hd0.aI (Nat.lt_of_lt_of_le hacS zz) hS2 rfl (fun i r hi => by simp at hi) (by simpa using hlen) x1 (fun m z hz hb => ?_) (fun b hb => .inl hb) (fun m hm => .inl hm) (fun m hm => ?_))
    fun r s' ⟨er, acc', c', hSo, hsz, hrows, xe, le⟩ => ⟨er, ?_⟩
  · have : Mod X.K X.mg X.base := I1.ok.mod
    exact this.nolimit.keeps fun b o e => O.bs b o (by rw [held.base]; exact e)
  · by_cases hm : m ∈ [n]
    · exact .inl hm
    · exact .inr ⟨hm, hz⟩
  · rw [List.mem_singleton.mp hm]
    obtain ⟨gs, hgs, _⟩ := hd0.d.pre.awake
    exact ⟨gs, hgs⟩
  · -- the end
    have gk : GKeep s s' := (hd0.kp.wake xe le fun m hm => by cases hm).done
    have I2 : Inv2 X pins σ H1 s' := held.inv I1 xe (fun b hb => by
      rcases List.mem_cons.mp hb with z | z
      · have fp := I1.fpOk (b := b) (by rw [z]; exact Nat.le_refl _) (H' := H1) (by rw [z]; exact H1S)
        exact ⟨fp.2.2.2.1, fp.2.1, fp.2.2.2.2.1, fp.2.2.2.2.2⟩
      · exact hd0.ch b z) (fun b hb => by
      rcases List.mem_cons.mp hb with z | z
      · rw [z]; exact H1S
      · exact hd0.un b (List.mem_cons_of_mem _ z)) (fun _ _ => rfl) fun b u hb q => by rw [I1.hok.fresh hb] at q; cases q
    have hTs : ∀ i, i < rows.length → ∃ T, acc'[i]? = some (.ref T) ∧ L < T ∧ ∀ r, rows[i]? = some r → rel L Hg r s'.heap (.ref T) := fun i hi => by
      obtain ⟨v, hv, hr', hT⟩ := hrows i rows[i] (by simpa using List.getElem?_eq_getElem hi)
      obtain ⟨T, eT, _⟩ := hrow _ _ _ _ _ hr'
      subst eT
      refine ⟨T, hv, Nat.lt_of_lt_of_le hLS (hT T rfl), fun r hr2 => ?_⟩
      rw [List.getElem?_eq_getElem hi] at hr2
      cases hr2; exact hr'
    have hsz' : acc'.size = rows.length := by rw [hsz]; simp
    let Ts : List Addr := acc'.toList.map fun v => match v with | .ref T => T | _ => 0
    have tsl : Ts.length = rows.length := by simp [Ts, hsz']
    have tsv : ∀ i (hi : i < rows.length), ∃ T, Ts[i]? = some T ∧ acc'[i]? = some (.ref T) ∧ L < T ∧ ∀ r, rows[i]? = some r → rel L Hg r s'.heap (.ref T) := fun i hi => by
      obtain ⟨T, h1, h2, h3⟩ := hTs i hi
      refine ⟨T, ?_, h1, h2, h3⟩
      have : acc'.toList[i]? = some (.ref T) := by simpa using h1
      simp [Ts, this]
    have hvals : Vals (Ts.map V.ref) acc'.toList := by
      have key : ∀ (l : List Value), (∀ v ∈ l, ∃ T, v = Value.ref T) → Vals ((l.map fun v => match v with | .ref T => T | _ => 0).map V.ref) l := by
        intro l
        induction l with
        | nil => intro _; exact .nil
        | cons v r ih =>
          intro hl
          obtain ⟨T, rfl⟩ := hl v List.mem_cons_self
          exact .cons rfl (ih fun v hv => hl v (List.mem_cons_of_mem _ hv))
      refine key acc'.toList fun v hv => ?_
      obtain ⟨i, hi, e⟩ := List.mem_iff_getElem.mp hv
      have hi' : i < rows.length := by simp at hi; omega
      obtain ⟨T, h1, _⟩ := hTs i hi'
      have : acc'.toList[i]? = some (.ref T) := by simpa using h1
      rw [List.getElem?_eq_getElem hi, e] at this
      exact ⟨T, Option.some.inj this⟩
    have h0 : X.env.locals < L := by
      obtain ⟨m, ⟨oL, es', ep, hoL, _⟩, _⟩ := I.loc
      exact ltL _ _ hoL
    have cl : ∀ x c, X.env.cells.lookup x = some c → c < L := fun x c e => by
      obtain ⟨v, o, ho, _⟩ := I.cell x c e
      exact ltL _ _ ho
    have pl : ∀ p ∈ X.pn ++ pins, p.1 < L := fun p hp => ltL _ _ (I.pin p hp).1
    have kH : ∀ b u, H1 b = some u → trackH H1 s'.heap L s1.heap.objs.size (Ts.map V.ref) b = some u := fun b u e => by rw [trackH_old (Nat.le_of_lt (old1 b u e))]; exact e
    have hokT : HOk X.prog X.w (trackH H1 s'.heap L s1.heap.objs.size (Ts.map V.ref)) s'.heap := fun b u e => by
      by_cases hb : b ≤ L
      · rw [trackH_old hb] at e
        exact (I2.hok b u e).stay (fun _ _ _ y => y) (fun c y => kH c _ y) fun c xs y => kH c _ y
      · rcases trackH_of (Nat.not_le.mp hb) e with ⟨eb, eu⟩ | ⟨ys, eu, ht⟩
        · subst eu
          rw [eb]
          exact ⟨by rw [List.length_map, tsl]; exact hlen, acc'.toList, c', hvals, by rw [hSo]⟩
        · subst eu
          exact ht
    have IT : Inv2 X pins σ (trackH H1 s'.heap L s1.heap.objs.size (Ts.map V.ref)) s' := Inv.track I2 h0 cl pl old1 (fun b hb => trackH_old (Nat.le_of_lt hb)) hokT
    refine ⟨gk, .ref s1.heap.objs.size, _, IT, rfl, q s1.heap.objs.size Ts _ H1S kH (trackH_lst hLS) tsl fun i r T hi hT => ?_⟩
    have hil : i < rows.length := (List.getElem?_eq_some_iff.mp hi).1
    obtain ⟨T', hT', hv', hLT, hr'⟩ := tsv i hil
    rw [hT] at hT'
    cases hT'
    obtain ⟨T2, e2, hf⟩ := hrow L Hg r s'.heap (.ref T) (hr' r hi)
    cases e2
    refine hf _ hLT (fun b xs hb ht => ?_) fun b xs hb => ?_
    · refine trackH_tup hb (fun z => ?_) ht
      obtain ⟨_, its, _, o, ho, hc', _⟩ := ht
      rw [z, hSo] at ho
      cases ho
      injection hc' with q; exact absurd q (by decide)
    · rcases htl1 b xs hb with z | ⟨o, z⟩
      · exact .inl (kH b _ z)
      · exact .inr ⟨o, kH b _ z⟩
end
end Td
end

section
set_option maxHeartbeats 1000000
/-! TdFin: from the law's call over any2 to the row. -/
namespace Td
open PySem PySem.Spec PyProof.Rows PySem.W PySem.Calls

theorem thread2 {prog : Program} {w : World} {t : Sem PySem.Fin} {s : Shared} {R : Result → Shared → Prop} (hz : s.asleep)
    (h : any2 (model prog w) callerA t (fun fin s' => ∃ f, fin = .done f ∧ (R (.ok f) s' ∧ leftWithCleanup s'.gens = false)) F0 s) :
    ∃ n r s' s'', runN (denote table) prog w n s ⟨t, .builtin "claim.caller" {}, default, []⟩ = .halted (outcomeOf r) s' ∧
      schedN (denote table) prog w n (.single s ⟨t, .builtin "claim.caller" {}, default, []⟩) = .halted (outcomeOf r) s' ∧ s'.forget = s''.forget ∧ R r s'' := by
  have w0 := h ⟨.builtin "claim.caller" {}, none, none, [], none⟩ default caller_in
  have key : t = t.wrap .pure .raise id id := by rw [← Sem.bind_eq_wrap]; exact (Sem.bind_pure t).symm
  obtain ⟨e, s', hr, f, rfl, hR, hl⟩ := run2_wrap (Γ := ⟨.builtin "claim.caller" {}, none, none, [], none⟩) (fs := []) (Φ := fun e s' => ∃ f, e = .ret (.ok f) ∧ R (.ok f) s' ∧ leftWithCleanup s'.gens = false) .pure .raise id id t w0 (fun fin p' s' ⟨f, ef, hR, hl⟩ => by
    subst ef
    exact ⟨_, _, .fin, f, rfl, hR, hl⟩) fun _ _ _ z => z.elim
  rw [← key] at hr
  obtain ⟨n, s'', h1, h2, h3⟩ := halts2 (M := model prog w) hz hr hl
  exact ⟨n, _, s'', s', h2, h1, h3, hR⟩
theorem callFrom2 {c : ClaimW} {tree : List Value → Sem PySem.Fin} {w : World} {s : Shared} {free : Addr → Prop} {gens : Prop} {kept : Heap → Prop} (hz : s.asleep) (hgens : s.gens = #[])
    (hspec : ∀ args, c.pre args = true → WData.layableAll args = true →
      ∀ ord : List DictEntry → List DictEntry, (∀ l, (ord l).Perm l) →
      ∃ vs s₁, layAllW c.records (classAt s.heap) w.params ord args s = some (vs, s₁) ∧
        any2 (model c.prog w) callerA (tree vs) (fun fin s' => ∃ f, fin = .done f ∧ (c.Ends s args vs s₁ (.ok f) s' ∧ s'.os = s.os ∧ AllBare s'.gens ∧ kept s'.heap)) F0 s₁) :
    c.CallFrom (fun vs => ⟨tree vs, .builtin "claim.caller" {}, default, []⟩) w free gens kept s := by
  intro args hpre hlay ord hord
  obtain ⟨vs, s₁, hlaid, hcode⟩ := hspec args hpre hlay ord hord
  have hal := layAllW_rest _ _ _ hlaid
  obtain ⟨k, r, s', s'', hrun, hsched, hfo, hcase, hos, hkp⟩ := thread2 (prog := c.prog) (w := w) (t := tree vs) (s := s₁)
    (R := fun r s' => c.Ends s args vs s₁ r s' ∧ s'.os = s.os ∧ kept s'.heap)
    (Shared.asleep_of_life hal.2.2.2 hz)
    (a2_thn hcode (by
      rintro fin s' ⟨f, e, h1, h2, h3, h4⟩
      exact ⟨f, e, ⟨h1, h2, h4⟩, leftWithCleanup_false_of_bare h3⟩))
  obtain ⟨eh, _, _, eo, _⟩ := Shared.forget_eq hfo
  have hcase := hcase.congr eh
  have hkp : kept s'.heap := by first | exact eh ▸ hkp | (rw [eh] at hkp; exact hkp) | (rw [← eh] at hkp; exact hkp)
  rw [← eo] at hos
  have hlife : s'.heap.life = s.heap.life := (runN_life _ _ _ hrun).trans hal.2.2.2
  refine ⟨vs, s₁, hlaid, k, _, s', hsched, ?_, (fun _ i x hx => by rw [hgens] at hx; simp at hx), hkp, by rw [hlife], Shared.rest_eq hos⟩
  rcases hcase with ⟨v, rfl, d1, d2, d3, d4, d5⟩ | ⟨e, ob, cls, rfl, d1, d2, d3, d4, d5⟩
  · exact .inl ⟨v, rfl, d1, d2, d3, fun b o y _ => d4 b o y, d5⟩
  · exact .inr ⟨e, ob, cls, rfl, d1, d2, d3, d4, fun b o y _ => d5 b o y⟩
theorem open_any2 {r : RowW} {run : Value → List Value → Sem Value} {tree : List Value → Sem PySem.Fin} {q : Program} {loose defs kps : List Str} {writes : Bool} {Xt : Shared → Bool} {XP : (Str → Option Value) → Heap → Prop} {α : Type} {Yf : Shared → α} {Ya : World → α} {YP : World → Heap → Prop} {N : Nat}
    (left : LeftO r.prog q loose Xt Yf Ya N) (hY : ∀ w s, Yf s = Ya w → YP w s.heap) (hYk : ∀ w h h', YP w h → (∀ b o, h.get? b = some o → h'.get? b = some o) → YP w h') (hX : ∀ s, Xt s = true → XP (s.heap.nsMap mainGlobals) s.heap) (hXk : ∀ mg h h', XP mg h → (∀ b o, h.get? b = some o → h'.get? b = some o) → XP mg h')
    (hRf : ∀ s, Xt s = true → RecFacts r.records s.heap) (hwr : (!writes || r.records.isEmpty) = true) (ok : (chainsOk q && opensWell r.prog && (frees r && r.within.isEmpty)) = true) (hb : r.prog.bare) (hw : r.promised)
    (ht : ∀ vs (w : World) (s : Shared) mg f (Q : PySem.Fin → Shared → Prop), s.heap.Ns mainGlobals mg → mg r.name = some f → any2 (model r.prog w) callerA (run f vs) (fun v s' => Q (.done (.ret v)) s') F0 s → any2 (model r.prog w) callerA (tree vs) Q F0 s)
    (pin : ∀ w s, s.heap.isNs mainGlobals = true → Ground q loose [] XP w s (s.heap.nsMap mainGlobals) (s.heap.nsMap builtinsNs) s.heap → ∀ n ∈ defs, isTheDefsW r.prog s.heap n)
    (call : ∀ (w : World) (s₀ s₁ : Shared) (mg mb : Str → Option Value), Ground q loose r.records XP w s₀ mg mb s₁.heap → YP w s₁.heap → ∀ (args : List WData) (vs : List Value) (as : List Addr),
      r.claim.pre args = true → WData.layableAll args = true → Laid r.records w s₀ s₁ args vs as → sysModules < s₀.heap.objs.size → ∃ f, mg r.name = some f ∧
        any2 (model r.prog w) callerA (run f vs) (fun v s' => GoodWG r.claim (classAt s₀.heap) (ExcName.means s₀.heap) args s₁ (.ok (.ret v)) s') F0 s₁) : r.claim.HoldsOpenBy (fun vs => ⟨tree vs, .builtin "claim.caller" {}, default, []⟩) defs kps writes := by
  obtain ⟨ok, k5⟩ := Bool.and_eq_true_iff.mp ok
  obtain ⟨hch, o1⟩ := Bool.and_eq_true_iff.mp ok
  obtain ⟨k5, k6⟩ := Bool.and_eq_true_iff.mp k5
  obtain ⟨hsame, hu, ha, hap, hm⟩ := frees_parts k5
  refine ⟨⟨hb, o1, by show r.makers.map _ = []; rw [hm]; rfl⟩, hw.witness, fun w => ⟨(left.behind hX hch w).1, fun s' hs' => ?_⟩⟩
  obtain ⟨s₀, hf, hg0, s, hT, hz, hgens, hg, G00, y⟩ := (left.behind (XP := fun mg h => XP mg h ∧ RecFacts r.records h) (fun s hs => ⟨hX s hs, hRf s hs⟩) hch w).2 s' hs'
  have G0 : Ground q loose [] XP w s (s.heap.nsMap mainGlobals) (s.heap.nsMap builtinsNs) s.heap := ⟨G00.T, G00.B, G00.D, G00.TE, G00.TD, G00.W, G00.X.1, G00.cls, G00.has, G00.apart, G00.once, G00.K⟩
  have RF := G00.X.2
  have hT' := hT
  refine ⟨s₀, hf, hg0, s, hT, pin w s hg G0, RF.1, RF.2.1, ?_⟩
  have hgens : s.gens = #[] := Array.eq_empty_of_size_eq_zero (beq_iff_eq.mp hgens)
  have G : Ground q loose r.records XP w s _ _ s.heap := RF.ground G0
  refine callFrom2 (c := r.claim) hz hgens fun args hpre hlay ord hord => ?_
  obtain ⟨⟨vs, s₁⟩, hlaid⟩ := Option.isSome_iff_exists.mp (layAllW_isSome (P := w.params) (ord := ord) G.has args r.args s (pre_splitW hpre).1)
  have keeps := layAllW_keeps _ _ _ hlaid
  have hal := layAllW_rest _ _ _ hlaid
  obtain ⟨as, hrd, hin, hold⟩ := reads_layAllW hord _ _ _ hlaid hlay s₁.heap (fun _ _ e => e)
  have L : Laid r.records w s s₁ args vs as := ⟨⟨ord, hord, hlaid⟩, hrd, hin, hold, keeps, hal.1.trans hgens, hal.2.2.1⟩
  have G₁ := G.keeps hXk keeps
  obtain ⟨f, hf, h⟩ := call w s s₁ _ _ G₁ (hYk _ _ _ (hY w s y) keeps) args vs as hpre hlay L G.low
  have hi := ident_freeW hu ha hap
  have hwi : r.claim.within = [] := List.isEmpty_iff.mp k6
  exact ⟨vs, s₁, hlaid, ht vs w s₁ _ f _ G₁.T.g hf (a2_thn h (fun v s' g => ⟨_, rfl, have z := g.laid (c := r.claim) hsame hwi hi L; ⟨z.1, z.2.1, z.2.2, fun q => ⟨namesKept_of hT' hg kps keeps g.2.1.old, noTable hwr q⟩⟩⟩))⟩
/-- what is to be shown of the law's call -/
abbrev WalkO2 (q : Program) (loose : List Str) (XP : (Str → Option Value) → Heap → Prop) (YP : World → Heap → Prop) (r : RowW) (d : DefRec) (kwd : List (Str × Expr)) (run : Value → List Value → Sem Value) : Prop :=
  ∀ (w : World) (s₀ s₁ : Shared) (mg mb : Str → Option Value), Ground q loose r.records XP w s₀ mg mb s₁.heap → YP w s₁.heap → ∀ (a : Addr) (o : Obj) (pm cd doc dV kV : Value), s₁.heap.get? a = some o →
    o.data = .func { docDef d.name d.params d.body d.scope pm cd doc with defaults := dV, kwdefaults := kV } → s₁.heap.CodeRec cd d.name → Dflts mg s₁.heap d.params kwd dV kV → mg d.name = some (.ref a) → s₁.gens = #[] →
    ∀ (args : List WData) (vals : List Value) (as : List Addr), r.claim.pre args = true → WData.layableAll args = true → ReadsAllW r.records (classAt s₀.heap) s₁.heap vals args as → WellAll w.params s₁.heap vals args → (∀ a ∈ as, (a == sysModules) = false) →
      any2 (model r.prog w) callerA (run (.ref a) vals) (fun v s' => GoodWG r.claim (classAt s₀.heap) (ExcName.means s₀.heap) args s₁ (.ok (.ret v)) s') F0 s₁
theorem a2_nsGet {M : Model} {A : Around} {s : Shared} {a : Addr} {m : Str → Option Value} {x : Str} {Q : Option Value → Shared → Prop} (hn : s.heap.Ns a m) (q : Q (m x) s) : any2 M A (nsGet a x) Q F0 s :=
  a2_same (fun R hR => wpAny_nsGet (s := stuck s) hn hR) q
end Td
end

section
set_option maxHeartbeats 1000000
/-! TdWalk: the goal that the head leaves, from the law's promise over any2. -/
namespace Td
open PySem PySem.Spec PyProof.Rows PySem.W PySem.Calls L2

theorem law_call2 {P : Program} {w : World} {K : PySem.W.Frag} {mg mb : Str → Option Value} {k : Nat} {fa a : Addr} {fd : FuncData} {x : Str} {sp : Sp} {s₁ : Shared} {vs : List Value} {ns : List Int}
    (KX : K.In s₁.heap) (hns : s₁.heap.Ns mainGlobals mg) (hb : s₁.heap.Ns builtinsNs mb) (hbb : ∀ x : Str, x ≠ "__name__" → mb x = bootBuiltins x) (hlim : s₁.heap.NoLimit) (hg : s₁.gens = #[])
    (ha : s₁.heap.get? a = some { cls := .type "list", data := .seq vs.toArray }) (hi : IntsAre vs ns) (hl : ns.length ≤ sizeLine) (hr : Room k callerA)
    (F : ∀ base : Heap, K.In base → base.Ns mainGlobals mg → FnOk2 P w K mg base k fa fd [x] sp) (hbind : ∀ (s : Shared) (u : Value), BindsTo s fd ⟨[u], []⟩ [(x, u)])
    (hsp : ∀ H : Hp, Only H → SqL K H a (ns.map V.int) → sp [.ref a] H (fun v _ => v = .bl true) fun _ _ _ => False) :
    code2 (model P w) callerA (.call (.ref fa) ⟨[.ref a], []⟩) (fun r s' => r = .ok (.ret (.bool true)) ∧ OldK s₁.heap s'.heap ∧ s'.os = s₁.os ∧ AllBare s'.gens) s₁ := by
  have rv := vals_ints hi
  have lenV := hi.length
  have gst : (stuck s₁).gens = #[] := by unfold stuck; rw [hg]; simp
  have core : ∀ H : Hp, Only H → SqL K H a (ns.map V.int) → HOk P w H s₁.heap → (∀ b, H b ≠ none → b = a) → (H a ≠ none → K.lookup a = none) →
      code2 (model P w) callerA (.call (.ref fa) ⟨[.ref a], []⟩) (fun r s' => r = .ok (.ret (.bool true)) ∧ OldK s₁.heap s'.heap ∧ s'.os = s₁.os ∧ AllBare s'.gens) s₁ := by
    intro H hO hS hok hA hK
    have base_of : ∀ {b : Addr} {o : Obj}, s₁.heap.get? b = some o → H b = none → (hidT s₁.heap H).get? b = some o := fun e n => hidT_get e n
    have noA : ∀ {b : Addr} {o : Obj} {es : Array DictEntry} {ep : Nat}, s₁.heap.get? b = some o → o.data = .dict es ep → H b = none := fun {b o es ep} e d => by
      cases q : H b with
      | none => rfl
      | some u =>
        have e' : b = a := hA b (by rw [q]; simp)
        subst e'
        rw [ha] at e; cases e
        have d' : Data.seq vs.toArray _ = Data.dict es ep := d
        cases d'
    have nsK : ∀ {b : Addr} {m : Str → Option Value}, s₁.heap.Ns b m → (hidT s₁.heap H).Ns b m := fun {b m} ⟨o, es, ep, e, d, r⟩ => ⟨o, es, ep, base_of e (noA e d), d, r⟩
    have hKb : K.In (hidT s₁.heap H) := fun b o e => base_of (KX b o e) (by
      cases q : H b with
      | none => rfl
      | some u =>
        have e' : b = a := hA b (by rw [q]; simp)
        subst e'
        rw [hK (by rw [q]; simp)] at e; cases e)
    have hM : Mod K mg (hidT s₁.heap H) := ⟨hKb, nsK hns, ⟨mb, nsK hb, hbb⟩, let ⟨mc, h1, h2⟩ := hlim; ⟨mc, nsK h1, h2⟩⟩
    have e0 : Env0 P w K mg (hidT s₁.heap H) callerA [] (stuck s₁) H := ⟨rfl, hM, fun b o e => of_hidT e, Nat.le_of_eq (hidT_size _ _), trivial, fun b hb => absurd (show b ∈ ([] : List Addr) from hb) (by simp), hok, .of_eq gst⟩
    refine c2_mono ((F _ hKb (nsK hns)).run callerA [] s₁ H ⟨[.ref a], []⟩ [.ref a] [.ref a] _ hr e0 (hbind (stuck s₁) (.ref a)) (.cons rfl .nil) (hsp H hO hS)) fun r s' ⟨u, v, H', er, gk, os, un, hok', r', q⟩ => ?_
    subst er
    have q' : v = .bl true := q
    subst q'
    obtain rfl : u = Value.bool true := r'
    refine ⟨rfl, .of_keep fun b o e => ?_, os, fun y hy => ?_⟩
    · cases q : H b with
      | none => exact un.keep b o e q (by intro z; exact absurd (show b ∈ ([] : List Addr) from z) (by simp)) (by simp)
      | some u =>
        rcases hO b with z | ⟨ob, xs, z⟩
        · rw [q] at z; cases z
        · have z2 := un.frzs b ob _ z
          obtain ⟨e1, _⟩ := hok b _ z
          obtain ⟨e2, _⟩ := hok' b _ z2
          rw [e] at e1; cases e1
          exact e2
    · cases hb : y.bare with
      | true => rfl
      | false =>
        obtain ⟨n, hn⟩ := Array.getElem?_of_mem hy
        have := gk.loud n y hn hb
        rw [hg] at this
        simp at this
  cases hk : K.lookup a with
  | some o =>
    have e := KX a o hk
    rw [ha] at e
    cases e
    refine core (fun _ => none) (fun _ => .inl rfl) (.inr ⟨_, vs.toArray, _, hk, rfl, rfl, rfl, by rw [List.size_toArray, lenV]; exact hl, by simpa using rv⟩) (fun b u z => by have z' : (none : Option HO) = some u := z; cases z') (fun b z => absurd rfl z) fun z => absurd rfl z
  | none =>
    refine core (fun b => if b = a then some (.frz { cls := .type "list", data := .seq vs.toArray } (.lst (ns.map V.int))) else none) (fun b => ?_) (.inl (.inr ⟨{ cls := .type "list", data := .seq vs.toArray }, if_pos rfl⟩)) (fun b u z => ?_) (fun b z => ?_) fun _ => hk
    · by_cases hb : b = a
      · exact .inr ⟨_, _, if_pos hb⟩
      · exact .inl (if_neg hb)
    · by_cases hb : b = a
      · have z' := (if_pos hb).symm.trans z
        cases z'
        subst hb
        exact ⟨ha, by rw [List.length_map]; exact hl, vs, _, rv, ha⟩
      · have z' := (if_neg hb).symm.trans z
        cases z'
    · by_cases hb : b = a
      · exact hb
      · exact absurd (if_neg hb) z
theorem walk_of2 {l : PySem.W.OpenLaw} {n k : Nat} {q : Program} {loose : List Str} {XP : (Str → Option Value) → Heap → Prop} {YP : World → Heap → Prop} {d : DefRec} {K : Params → PySem.W.Frag} {sp : PySem.W.Frag → Sp} {x : Str}
    (hn : l.most = some n) (hn2 : n ≤ sizeLine) (hdf : d.params.defaults = []) (hr : Room k callerA)
    (hY : ∀ (w : World) (h : Heap), YP w h → (K w.params).In h)
    (F : ∀ (w : World) (mg : Str → Option Value) (fa : Addr) (h : Heap), (K w.params).In h → h.Ns mainGlobals mg → mg d.name = some (.ref fa) →
      ∃ fd : FuncData, (∀ (s : Shared) (u : Value), BindsTo s fd ⟨[u], []⟩ [(x, u)]) ∧
        ∀ base : Heap, (K w.params).In base → base.Ns mainGlobals mg → FnOk2 l.prog w (K w.params) mg base k fa fd [x] (sp (K w.params)))
    (hsp : ∀ (K : PySem.W.Frag) (H : Hp) (a : Addr) (ns : List Int), ns.length ≤ n → Only H → SqL K H a (ns.map V.int) → sp K [.ref a] H (fun v _ => v = .bl true) fun _ _ _ => False) :
    WalkO2 q loose XP YP l.row.toRowW d [] (fun f vs => PySem.call f vs) := by
  intro w s₀ s₁ mg mb G Y fa o pm cd doc dV kV ho hd hcd hD hmg hg args vals as hpre hlay hrd hwl hlo
  obtain ⟨a, vs, ns, rfl, rfl, hobj, hints, hlen⟩ := Att.script_of hn hpre hwl
  have KX := hY w _ Y
  obtain ⟨fd, hb, hF⟩ := F w mg fa _ KX G.T.g hmg
  refine a2_call (c2_mono (law_call2 KX G.T.g G.T.b G.T.builtins G.T.nolimit hg hobj hints (Nat.le_trans hlen hn2) hr hF hb fun H hO hS => hsp _ H a ns hlen hO hS) fun r s' ⟨er, h2, h3, h4⟩ => ?_)
  subst er
  exact ⟨_, rfl, .inl ⟨.bool true, .bool true, [], rfl, fun _ => rfl, .bool true, Att.post_true l _, fun _ => ⟨List.Pairwise.nil, fun _ hm => (nomatch hm)⟩⟩, h2, h3, h4⟩
end Td
end

section
set_option maxHeartbeats 1000000
/-! TdD: data made of tuples, ints and texts, as it stands in the heap. -/
namespace Td
open PySem PySem.Spec PyProof.Rows L2

/-- trees -/
inductive T where
  | leaf (o : Str)
  | node (ts : List T)
mutual
def T.enc : T → PyData
  | .leaf o => .str o
  | .node ts => .tuple (encs ts)
def encs : List T → List PyData
  | [] => []
  | t :: ts => t.enc :: encs ts
end
theorem encs_map : ∀ ts : List T, encs ts = ts.map T.enc
  | [] => rfl
  | t :: ts => by rw [encs, encs_map ts]; rfl
mutual
/-- data in the heap: tuples, ints, texts, None, bools (no list) -/
def D (K : PySem.W.Frag) (H : Hp) : PyData → V → Prop
  | .none, v => v = .non
  | .bool b, v => v = .bl b
  | .int i, v => v = .int i
  | .str z, v => v = .str z
  | .tuple ds, v => ∃ a xs, v = .ref a ∧ SqT K H a xs ∧ Ds K H ds xs
  | .list _, _ => False
  | .dict _, _ => False
def Ds (K : PySem.W.Frag) (H : Hp) : List PyData → List V → Prop
  | [], xs => xs = []
  | d :: ds, xs => ∃ y ys, xs = y :: ys ∧ D K H d y ∧ Ds K H ds ys
end
/-- what is known of tuples stays known -/
def TLe (K : PySem.W.Frag) (H H' : Hp) : Prop := ∀ a xs, SqT K H a xs → SqT K H' a xs
section
variable {K : PySem.W.Frag} {H H' H2 : Hp}
theorem TLe.refl (H : Hp) : TLe K H H := fun _ _ h => h
theorem TLe.trans (a : TLe K H H') (b : TLe K H' H2) : TLe K H H2 := fun c xs h => b c xs (a c xs h)
theorem Same.tle (s : Same H H') : TLe K H H' := fun a xs h => by
  rcases h with (h | ⟨o, h⟩) | h
  · exact .inl (.inl (s _ _ h))
  · exact .inl (.inr ⟨o, s _ _ h⟩)
  · exact .inr h
theorem TLe.le (t : TLe K H H') (hk : ∀ a xs, Rd H a (.tup xs) → K.lookup a = none) : TupLe (tupsOf H) H' := fun b xs e => by
  have h := tupsOf_le H b xs e
  rcases t b xs (.inl h) with q | ⟨o, its, n, q, _⟩
  · exact q
  · rw [hk b xs h] at q; cases q
theorem TupLe.tle (t : TupLe (tupsOf H) H') : TLe K H H' := fun a xs h => by
  rcases h with h | h
  · exact .inl (t a xs (tupsOf_rd h))
  · exact .inr h
theorem Same.upd {p : Addr} {o : HO} (hp : H p = none) : Same H (L2.upd H p o) := fun b u e => by rw [upd_ne (ne_of_none e hp)]; exact e
mutual
theorem D.le (t : TLe K H H') : ∀ (d : PyData) (v : V), D K H d v → D K H' d v
  | .none, _, h => h
  | .bool _, _, h => h
  | .int _, _, h => h
  | .str _, _, h => h
  | .tuple ds, _, h => by
    unfold D at h ⊢
    obtain ⟨a, xs, e, hs, hd⟩ := h
    exact ⟨a, xs, e, t a xs hs, Ds.le t ds xs hd⟩
  | .list _, _, h => by unfold D at h; exact h.elim
  | .dict _, _, h => by unfold D at h; exact h.elim
theorem Ds.le (t : TLe K H H') : ∀ (ds : List PyData) (xs : List V), Ds K H ds xs → Ds K H' ds xs
  | [], _, h => by unfold Ds at h ⊢; exact h
  | d :: ds, _, h => by
    unfold Ds at h ⊢
    obtain ⟨y, ys, e, h1, h2⟩ := h
    exact ⟨y, ys, e, D.le t d y h1, Ds.le t ds ys h2⟩
end
theorem ds_nil : Ds K H [] [] := by unfold Ds; rfl
theorem ds_cons {d : PyData} {ds : List PyData} {y : V} {ys : List V} (a : D K H d y) (b : Ds K H ds ys) : Ds K H (d :: ds) (y :: ys) := by unfold Ds; exact ⟨y, ys, rfl, a, b⟩
theorem ds_inv {d : PyData} {ds : List PyData} {xs : List V} (h : Ds K H (d :: ds) xs) : ∃ y ys, xs = y :: ys ∧ D K H d y ∧ Ds K H ds ys := by unfold Ds at h; exact h
theorem ds_nil_inv {xs : List V} (h : Ds K H [] xs) : xs = [] := by unfold Ds at h; exact h
theorem d_int (i : Int) : D K H (.int i) (.int i) := by unfold D; rfl
theorem d_str (z : Str) : D K H (.str z) (.str z) := by unfold D; rfl
theorem d_non : D K H .none .non := by unfold D; rfl
theorem d_tup {ds : List PyData} {a : Addr} {xs : List V} (h : SqT K H a xs) (hd : Ds K H ds xs) : D K H (.tuple ds) (.ref a) := by unfold D; exact ⟨a, xs, rfl, h, hd⟩
theorem d_int_inv {i : Int} {v : V} (h : D K H (.int i) v) : v = .int i := by unfold D at h; exact h
theorem d_str_inv {z : Str} {v : V} (h : D K H (.str z) v) : v = .str z := by unfold D at h; exact h
theorem d_tup_inv {ds : List PyData} {v : V} (h : D K H (.tuple ds) v) : ∃ a xs, v = .ref a ∧ SqT K H a xs ∧ Ds K H ds xs := by unfold D at h; exact h
theorem Ds.length : ∀ {ds : List PyData} {xs : List V}, Ds K H ds xs → xs.length = ds.length
  | [], xs, h => by rw [ds_nil_inv h]; rfl
  | d :: ds, xs, h => by
    obtain ⟨y, ys, rfl, _, h2⟩ := ds_inv h
    rw [List.length_cons, List.length_cons, h2.length]
theorem Ds.get : ∀ {ds : List PyData} {xs : List V} {i : Nat} {x : V}, Ds K H ds xs → xs[i]? = some x → ∃ d, ds[i]? = some d ∧ D K H d x
  | [], xs, i, x, h, e => by rw [ds_nil_inv h] at e; simp at e
  | d :: ds, xs, i, x, h, e => by
    obtain ⟨y, ys, rfl, h1, h2⟩ := ds_inv h
    cases i with
    | zero => simp at e; subst e; exact ⟨d, rfl, h1⟩
    | succ i => simp at e; obtain ⟨d', q1, q2⟩ := h2.get e; exact ⟨d', by simpa using q1, q2⟩
theorem Ds.getD : ∀ {ds : List PyData} {xs : List V} {i : Nat} {d : PyData}, Ds K H ds xs → ds[i]? = some d → ∃ x, xs[i]? = some x ∧ D K H d x
  | [], xs, i, x, h, e => by simp at e
  | d :: ds, xs, i, x, h, e => by
    obtain ⟨y, ys, rfl, h1, h2⟩ := ds_inv h
    cases i with
    | zero => simp at e; subst e; exact ⟨y, rfl, h1⟩
    | succ i => simp at e; obtain ⟨d', q1, q2⟩ := h2.getD e; exact ⟨d', by simpa using q1, q2⟩
theorem Ds.of_get : ∀ {ds : List PyData} {xs : List V}, xs.length = ds.length → (∀ (i : Nat) (d : PyData) (x : V), ds[i]? = some d → xs[i]? = some x → D K H d x) → Ds K H ds xs
  | [], xs, hl, _ => by rw [List.length_eq_zero_iff.mp hl]; exact ds_nil
  | d :: ds, [], hl, _ => by simp at hl
  | d :: ds, y :: ys, hl, h => ds_cons (h 0 d y rfl rfl) (.of_get (by simpa using hl) fun i d x a b => h (i + 1) d x (by simpa using a) (by simpa using b))
theorem Ds.append : ∀ {ds es : List PyData} {xs ys : List V}, Ds K H ds xs → Ds K H es ys → Ds K H (ds ++ es) (xs ++ ys)
  | [], es, xs, ys, h, k => by rw [ds_nil_inv h]; exact k
  | d :: ds, es, xs, ys, h, k => by
    obtain ⟨y, zs, rfl, h1, h2⟩ := ds_inv h
    exact ds_cons h1 (h2.append k)
mutual
theorem D.dp : ∀ (d : PyData) (v : V), D K H d v → Dp K H v d
  | .none, v, h => by unfold D at h; subst h; exact .non
  | .bool b, v, h => by unfold D at h; subst h; exact .bl b
  | .int i, v, h => by unfold D at h; subst h; exact .int i
  | .str z, v, h => by unfold D at h; subst h; exact .str z
  | .tuple ds, v, h => by
    unfold D at h
    obtain ⟨a, xs, rfl, hs, hd⟩ := h
    exact .tup hs (Ds.dp ds xs hd)
  | .list _, _, h => by unfold D at h; exact h.elim
  | .dict _, _, h => by unfold D at h; exact h.elim
theorem Ds.dp : ∀ (ds : List PyData) (xs : List V), Ds K H ds xs → DpAll K H xs ds
  | [], xs, h => by rw [ds_nil_inv h]; exact .nil
  | d :: ds, xs, h => by
    unfold Ds at h
    obtain ⟨y, ys, rfl, h1, h2⟩ := h
    exact .cons (D.dp d y h1) (Ds.dp ds ys h2)
end
/-! ### trees -/
abbrev TV (K : PySem.W.Frag) (H : Hp) (t : T) (v : V) : Prop := D K H t.enc v
abbrev TVs (K : PySem.W.Frag) (H : Hp) (ts : List T) (xs : List V) : Prop := Ds K H (encs ts) xs
theorem tv_leaf {o : Str} {v : V} : TV K H (.leaf o) v ↔ v = .str o := by show D K H (T.enc (.leaf o)) v ↔ _; unfold T.enc D; rfl
theorem tv_node {ts : List T} {v : V} : TV K H (.node ts) v ↔ ∃ a xs, v = .ref a ∧ SqT K H a xs ∧ TVs K H ts xs := by show D K H (T.enc (.node ts)) v ↔ _; unfold T.enc D; rfl
theorem encs_length (ts : List T) : (encs ts).length = ts.length := by rw [encs_map, List.length_map]
theorem TVs.length {ts : List T} {xs : List V} (h : TVs K H ts xs) : xs.length = ts.length := by rw [Ds.length h, encs_length]
theorem TVs.get {ts : List T} {xs : List V} {i : Nat} {x : V} (h : TVs K H ts xs) (e : xs[i]? = some x) : ∃ t, ts[i]? = some t ∧ TV K H t x := by
  obtain ⟨d, h1, h2⟩ := Ds.get h e
  rw [encs_map, List.getElem?_map] at h1
  cases q : ts[i]? with
  | none => rw [q] at h1; cases h1
  | some t => rw [q] at h1; cases h1; exact ⟨t, rfl, h2⟩
theorem TVs.getT {ts : List T} {xs : List V} {i : Nat} {t : T} (h : TVs K H ts xs) (e : ts[i]? = some t) : ∃ x, xs[i]? = some x ∧ TV K H t x :=
  Ds.getD h (by rw [encs_map, List.getElem?_map, e]; rfl)
theorem TVs.of_get {ts : List T} {xs : List V} (hl : xs.length = ts.length) (h : ∀ (i : Nat) (t : T) (x : V), ts[i]? = some t → xs[i]? = some x → TV K H t x) : TVs K H ts xs :=
  Ds.of_get (by rw [encs_length]; exact hl) fun i d x a b => by
    rw [encs_map, List.getElem?_map] at a
    cases q : ts[i]? with
    | none => rw [q] at a; cases a
    | some t => rw [q] at a; cases a; exact h i t x q b
theorem TV.le {t : T} {v : V} (l : TLe K H H') (h : TV K H t v) : TV K H' t v := D.le l _ _ h
theorem TVs.le {ts : List T} {xs : List V} (l : TLe K H H') (h : TVs K H ts xs) : TVs K H' ts xs := Ds.le l _ _ h
/-- what isinstance sees -/
theorem SqT.tyx {a : Addr} {xs : List V} (h : SqT K H a xs) : TyX K H (.ref a) (.type "tuple") := by
  rcases h with (h | ⟨o, h⟩) | ⟨o, its, n, hk, hc, _⟩
  · exact .base (.tup h)
  · exact .fTuple h
  · exact .kTuple hk hc
end
end Td
end

section
set_option maxHeartbeats 1000000
/-! TdTxt: the program's defs by their places (printed by gen_txt.py). -/
namespace Td
open PySem PySem.Spec PyProof.Rows L2

def topS (i : Nat) : Stmt := PySem.Challenge.pw_turndeal_k36_whole_steps_between_equal_t.main.body.getD i (.Pass ⟨0, 0, 0, 0⟩)
/-- a def of the module, under its name -/
structure DefAt (K : PySem.W.Frag) (mg : Str → Option Value) (x : Str) (st : Stmt) : Prop where
  ex : ∃ (f : Addr) (oc : Value) (od : Option Addr) (kV doc pm : Value) (an : Option Addr) (cdv ct : Value) (osl : Array (Option Value)), mg x = some (.ref f) ∧
    K.lookup f = some ⟨oc, od, .func (PySem.W.fnOf x x (defArgs st) (defBody st) (defScope st) .none kV doc pm an cdv ct), osl⟩ ∧ PySem.W.codeIn K cdv x = true ∧ PySem.W.keepIn K (.ref f) = true
section
variable {P : Program} {w : World} {K : PySem.W.Frag} {mg : Str → Option Value} {base : Heap}
/-- a def by its body -/
theorem cal_of {x : Str} {st : Stmt} {N ps : List Str} {k : Nat} {sp : Sp} (F : DefAt K mg x st) (S : FnScope N ps (defScope st))
    (hb : ∀ (kV doc pm : Value) (an : Option Addr) (cdv ct : Value) (us : List Value), us.length = ps.length → bindArgs (PySem.W.fnOf x x (defArgs st) (defBody st) (defScope st) .none kV doc pm an cdv ct) ⟨us, []⟩ = pure (ps.zip us))
    (len : ∀ vs H Q E, sp vs H Q E → vs.length = ps.length)
    (hbody : ∀ (f : Addr) (cdv : Value) (A : Around) (outer : List Env) (s : Shared) (H : Hp) (vs : List V) (Q : VK) (E : XK), Room k (A.deeper (envOfC x (defScope st) s.heap.objs.size f cdv)) → sp vs H Q E →
      ∃ t, PSs (cxOf CX0 P w K mg base N x (defScope st) f cdv A outer s H E).nox (defBody st) t ∧ t { nx := fun _ H' => Q .non H', rt := Q } (start N vs) H) : C8.Cal P w K mg base (k + 1) x sp [] := by
  obtain ⟨f, oc, od, kV, doc, pm, an, cdv, ct, osl, hm, lk, hcd, kp⟩ := F.ex
  refine ⟨⟨f, _, ps, [], fn_of lk hcd S len fun A outer s H vs Q E hr hsp => ?_, hm, kp, .all (hb kV doc pm an cdv ct), .nil⟩⟩
  obtain ⟨t, h, q⟩ := hbody f cdv A outer s H vs Q E hr hsp
  exact ⟨t, h.nox, q⟩
end
/-- what the top has left -/
structure Top (K : PySem.W.Frag) (mg : Str → Option Value) : Prop where
  d_divisor : DefAt K mg "divisor" (topS 7)
  d_least_factor : DefAt K mg "least_factor" (topS 8)
  d_factors_of : DefAt K mg "factors_of" (topS 9)
  d_count_ends : DefAt K mg "count_ends" (topS 13)
  d_levels : DefAt K mg "levels" (topS 14)
  d_within : DefAt K mg "within" (topS 15)
  d_taken : DefAt K mg "taken" (topS 18)
  d_is_equal : DefAt K mg "is_equal" (topS 20)
  d_difference : DefAt K mg "difference" (topS 21)
  d_part_at : DefAt K mg "part_at" (topS 24)
  d_flattened : DefAt K mg "flattened" (topS 25)
  d_unflattened : DefAt K mg "unflattened" (topS 26)
  d_changed : DefAt K mg "changed" (topS 27)
  d_put_part : DefAt K mg "put_part" (topS 28)
  d_read_step : DefAt K mg "read_step" (topS 29)
  d_apply_step : DefAt K mg "apply_step" (topS 30)
  d_apply_steps : DefAt K mg "apply_steps" (topS 31)
  d_back_step : DefAt K mg "back_step" (topS 32)
  d_common : DefAt K mg "common" (topS 35)
  d_spread_like : DefAt K mg "spread_like" (topS 37)
  d_refined : DefAt K mg "refined" (topS 38)
  d_raise_prime : DefAt K mg "raise_prime" (topS 39)
  d_make_like : DefAt K mg "make_like" (topS 40)
  d_steps_between : DefAt K mg "steps_between" (topS 41)
  d_law_bag : DefAt K mg "_law_bag" (topS 43)
  d_law_pull : DefAt K mg "_law_pull" (topS 44)
  d_law_of : DefAt K mg "_law_of" (topS 45)
  d_law_names : DefAt K mg "_law_names" (topS 46)
  d_law_owners : DefAt K mg "_law_owners" (topS 47)
  d_law_tree : DefAt K mg "_law_tree" (topS 48)
  d_law_ends : DefAt K mg "_law_ends" (topS 49)
  d_law_levels : DefAt K mg "_law_levels" (topS 50)
  d_law_gcd : DefAt K mg "_law_gcd" (topS 51)
  d_law_every : DefAt K mg "_law_every" (topS 52)
  d_law_paths : DefAt K mg "_law_paths" (topS 53)
  d_law_put : DefAt K mg "_law_put" (topS 54)
  d_law_resplit : DefAt K mg "_law_resplit" (topS 55)
  d_law_part : DefAt K mg "_law_part" (topS 56)
  d_law_after_step : DefAt K mg "_law_after_step" (topS 57)
  d_law_drawn_step : DefAt K mg "_law_drawn_step" (topS 58)
  d_law_outcome : DefAt K mg "_law_outcome" (topS 59)
  d_law_regular : DefAt K mg "_law_regular" (topS 60)
  d_law_common : DefAt K mg "_law_common" (topS 61)
  d_law_replay : DefAt K mg "_law_replay" (topS 62)
  d_law : DefAt K mg "law" (topS 63)
  n_isinstance : mg "isinstance" = none
  n_str : mg "str" = none
  n_tuple : mg "tuple" = none
  n_int : mg "int" = none
  n_list : mg "list" = none
  n_len : mg "len" = none
  n_sum : mg "sum" = none
  n_max : mg "max" = none
  n_min : mg "min" = none
  n_range : mg "range" = none
  n_enumerate : mg "enumerate" = none
  n_sorted : mg "sorted" = none
  n_all : mg "all" = none
  c_MOST_FACTOR : ∃ t, mg "MOST_FACTOR" = some (.int 400 t)
  c_MOST_ENDS : ∃ t, mg "MOST_ENDS" = some (.int 400 t)
  c_MOST_LEVELS : ∃ t, mg "MOST_LEVELS" = some (.int 40 t)
section
variable {K : PySem.W.Frag} {mg : Str → Option Value}
theorem Top.g_MOST_FACTOR (T : Top K mg) : ∃ u, mg "MOST_FACTOR" = some u ∧ RelV (.int 400) u := let ⟨t, h⟩ := T.c_MOST_FACTOR; ⟨_, h, t, rfl⟩
theorem Top.g_MOST_ENDS (T : Top K mg) : ∃ u, mg "MOST_ENDS" = some u ∧ RelV (.int 400) u := let ⟨t, h⟩ := T.c_MOST_ENDS; ⟨_, h, t, rfl⟩
theorem Top.g_MOST_LEVELS (T : Top K mg) : ∃ u, mg "MOST_LEVELS" = some u ∧ RelV (.int 40) u := let ⟨t, h⟩ := T.c_MOST_LEVELS; ⟨_, h, t, rfl⟩
end
end Td
end

section
set_option maxHeartbeats 1000000
/-! TdN1: numbers. -/
namespace Td
open PySem PySem.Spec PyProof.Rows L2
section
variable {P : Program} {w : World} {K : PySem.W.Frag} {mg : Str → Option Value} {base : Heap}
theorem sc_divisor : FnScope ["one", "other"] ["one", "other"] (defScope (topS 7)) := ⟨rfl, rfl, rfl, by decide +kernel, rfl, by decide +kernel, by decide +kernel⟩
def spDivisor : Sp := fun vs H Q _ => ∃ a b : Nat, vs = [.int a, .int b] ∧ Q (.int (Nat.gcd a b : Nat)) H
theorem ok_divisor (T : Top K mg) : C8.Cal P w K mg base 1 "divisor" spDivisor [] := by
  refine cal_of T.d_divisor sc_divisor (fun _ _ _ _ _ _ us hl => match us, hl with | [_, _], _ => rfl) (fun vs H Q E h => ?_) fun f cdv A outer s H vs Q E hr h => ?_
  · obtain ⟨a, b, rfl, _⟩ := h; rfl
  · obtain ⟨a, b, rfl, k⟩ := h
    refine ⟨_, (pss_cons (ps_while PassesOwn.never (pt_cmpR op_gt (pv 1) pe_int (nomark _)) (pss_one (ps_par (i := 0) (j := 1) (by rfl) sc_divisor.nd rfl rfl (by decide) rfl rfl (pa_cons (pv 1) (pa_cons (pe_op op_mod (pv 0) (pv 1)) pa_nil)) (by rfl))))
      (pss_one (ps_ret (pv 0)))), ?_⟩
    refine while_by (fun σ H' => H' = H ∧ ∃ x y : Nat, σ = [some (.int x), some (.int y)] ∧ Nat.gcd x y = Nat.gcd a b) (fun σ _ => match σ with | [_, some (.int y)] => y.toNat | _ => 0) ⟨rfl, a, b, rfl, rfl⟩ ?_ ?_
    · rintro σ H' ⟨rfl, x, y, rfl, e⟩
      refine ⟨_, rfl, _, _, rfl, rfl, _, rfl, ?_⟩
      refine ite2 (fun hc => ?_) fun hc => ?_
      · have hy : 0 < y := by simpa using hc
        refine ⟨_, rfl, _, rfl, _, rfl, _, _, rfl, rfl, by omega, _, _, rfl, ?_⟩
        have em : ((x : Int) % (y : Int)) = ((x % y : Nat) : Int) := by omega
        refine ⟨⟨rfl, y, x % y, by show [some (V.int (y : Int)), some (V.int ((x : Int) % (y : Int)))] = _; rw [em], ?_⟩, ?_⟩
        · rw [← e, Nat.gcd_comm x y, Nat.gcd_rec y x, Nat.gcd_comm]
        · show ((x : Int) % (y : Int)).toNat < ((y : Int)).toNat
          have := Nat.mod_lt x hy
          rw [em]; omega
      · have hy : y = 0 := by simpa using hc
        subst hy
        rw [Nat.gcd_zero_right] at e
        subst e
        exact ⟨_, rfl, k⟩
    · rintro σ H' Q1 Q2 hm ⟨v, e1, i, j, e2, e3, b, e4, q⟩
      exact ⟨v, e1, i, j, e2, e3, b, e4, hm _ _ q⟩
/-- the least divisor from 2 on -/
def LeastF (n f : Nat) : Prop := 2 ≤ f ∧ f ∣ n ∧ ∀ d, 2 ≤ d → d < f → ¬ d ∣ n
theorem sc_least_factor : FnScope ["number", "factor"] ["number"] (defScope (topS 8)) := ⟨rfl, rfl, rfl, by decide +kernel, rfl, by decide +kernel, by decide +kernel⟩
def spLeast : Sp := fun vs H Q _ => ∃ n f : Nat, vs = [.int n] ∧ LeastF n f ∧ f ≤ 400 ∧ Q (.int f) H
theorem ok_least (T : Top K mg) : C8.Cal P w K mg base 1 "least_factor" spLeast [] := by
  refine cal_of T.d_least_factor sc_least_factor (fun _ _ _ _ _ _ us hl => match us, hl with | [_], _ => rfl) (fun vs H Q E h => ?_) fun f cdv A outer s H vs Q E hr h => ?_
  · obtain ⟨a, b, rfl, _⟩ := h; rfl
  · obtain ⟨n, fa, rfl, ⟨h2, hd, hm⟩, h4, k⟩ := h
    refine ⟨_, (pss_cons (ps_for PassesOwn.never rfl (pi_range2 (by rfl) T.n_range (pa_cons pe_int (pa_cons (pe_op op_add (C8.pe_gc rfl T.g_MOST_FACTOR) pe_int) pa_nil))) (pg_name (i := 1) sc_least_factor.nd rfl (by first | exact Or.inl rfl | exact Or.inr rfl)) (pss_one (ps_if (pt_cmpR op_eq (pe_op op_mod (pv 0) (pv 1)) pe_int (nomark _)) (pss_one (ps_ret (pv 1))) pss_nil)))
      (pss_one (ps_ret pe_non))), ?_⟩
    refine ⟨_, _, rfl, rfl, _, _, rfl, by decide, ?_⟩
    refine for_range (lo := 2) (n := 399) (fun i σ H' => H' = H ∧ 2 + i ≤ fa ∧ ∃ v, σ = [some (.int n), v]) ⟨rfl, h2, _, rfl⟩ ?_ ?_
    · rintro i σ H' hi ⟨rfl, hf, v, rfl⟩
      refine ⟨_, rfl, _, rfl, _, _, rfl, rfl, by omega, rfl, _, rfl, ?_⟩
      have em : ((n : Int) % (2 + (i : Int))) = ((n % (2 + i) : Nat) : Int) := by rw [show (2 + (i : Int)) = ((2 + i : Nat) : Int) from by omega]; rfl
      refine ite2 (fun hc => ?_) fun hc => ?_
      · have hz : n % (2 + i) = 0 := by
          have hc : ((n : Int) % (2 + (i : Int))) = 0 := by simpa using hc
          rw [em] at hc; omega
        have : 2 + i = fa := by
          rcases Nat.lt_or_ge (2 + i) fa with q | q
          · exact absurd (Nat.dvd_of_mod_eq_zero hz) (hm _ (by omega) q)
          · omega
        refine ⟨_, rfl, ?_⟩
        have e2 : (2 + (i : Int)) = ((fa : Nat) : Int) := by omega
        rw [e2]; exact k
      · refine ⟨rfl, ?_, _, rfl⟩
        rcases Nat.lt_or_ge (2 + i) fa with q | q
        · omega
        · have : 2 + i = fa := by omega
          subst this
          exfalso
          apply hc
          show decide (V.int ((n : Int) % (2 + (i : Int))) = V.int 0) = true
          rw [em, Nat.mod_eq_zero_of_dvd hd]
          simp
    · rintro σ H' ⟨rfl, hf, v, rfl⟩
      omega
theorem sc_factors_of : FnScope ["number", "found", "factor"] ["number"] (defScope (topS 9)) := ⟨rfl, rfl, rfl, by decide +kernel, rfl, by decide +kernel, by decide +kernel⟩
def spFactors : Sp := fun vs H Q _ => ∃ n : Nat, vs = [.int n] ∧ 1 ≤ n ∧ n < 2 ^ 60 ∧ ∀ (p : Addr) (xs : List V) (H' : Hp), H p = none → H' p = some (.lst xs) → Same H H' → 2 ^ xs.length ≤ n → Q (.ref p) H'
theorem ok_factors (T : Top K mg) : C8.Cal P w K mg base 1 "factors_of" spFactors [] := by
  refine cal_of T.d_factors_of sc_factors_of (fun _ _ _ _ _ _ us hl => match us, hl with | [_], _ => rfl) (fun vs H Q E h => ?_) fun f cdv A outer s H vs Q E hr h => ?_
  · obtain ⟨a, rfl, _⟩ := h; rfl
  · obtain ⟨n, rfl, h1, hbig, k⟩ := h
    refine ⟨_, (pss_cons (ps_set (i := 1) sc_factors_of.nd rfl (by first | exact Or.inl rfl | exact Or.inr rfl) (pe_lst pa_nil))
      (pss_cons (ps_set (i := 2) sc_factors_of.nd rfl (by first | exact Or.inl rfl | exact Or.inr rfl) pe_int)
      (pss_cons (ps_while PassesOwn.never (pt_cmpR op_gt (pv 0) pe_int (nomark _)) (pss_one (ps_if (pt_cmpR op_eq (pe_op op_mod (pv 0) (pv 2)) pe_int (nomark _)) (pss_cons (ps_expr (pe_bm PySem.F.plainAttrs_list PySem.F.slot_list_append PySem.F.type_list_append mt_append (pv 1) (pa_cons (pv 2) pa_nil)))
      (pss_one (ps_aug (i := 0) sc_factors_of.nd rfl (by first | exact Or.inl rfl | exact Or.inr rfl) (pv 2) iop_fdivW))) (pss_one (ps_aug (i := 2) sc_factors_of.nd rfl (by first | exact Or.inl rfl | exact Or.inr rfl) pe_int ip_add)))))
      (pss_one (ps_ret (pv 1)))))), ?_⟩
    refine ⟨by decide, fun p hp => ?_⟩
    refine while_by (fun σ H' => ∃ (m fa : Nat) (xs : List V), σ = [some (.int m), some (.ref p), some (.int fa)] ∧ H' p = some (.lst xs) ∧ Same H H' ∧ 1 ≤ m ∧ 2 ≤ fa ∧ m * 2 ^ xs.length ≤ n ∧ (∀ d, 2 ≤ d → d < fa → ¬ d ∣ m))
      (fun σ _ => match σ with | [some (.int m), _, some (.int fa)] => (2 * m - fa).toNat | _ => 0) ⟨n, 2, [], rfl, upd_same, Same.upd hp, h1, Nat.le_refl _, by simp, fun d a b => by omega⟩ ?_ ?_
    · rintro σ H' ⟨m, fa, xs, rfl, hl, hs, hm1, hf2, hpow, hno⟩
      refine ⟨_, rfl, _, _, rfl, rfl, _, rfl, ?_⟩
      have mlen : 2 ^ xs.length ≤ n := Nat.le_trans (Nat.le_mul_of_pos_left _ hm1) hpow
      refine ite2 (fun hc => ?_) fun hc => ?_
      · have hm : 1 < m := by
          have hc : (1 : Int) < (m : Int) := by simpa using hc
          omega
        have hfm : fa ≤ m := by
          rcases Nat.lt_or_ge m fa with q | q
          · exact absurd (Nat.dvd_refl m) (hno m hm q)
          · exact q
        have em : ((m : Int) % (fa : Int)) = ((m % fa : Nat) : Int) := rfl
        refine ⟨_, rfl, _, rfl, _, _, rfl, rfl, by omega, rfl, _, rfl, ?_⟩
        refine ite2 (fun hc2 => ?_) fun hc2 => ?_
        · have hz : m % fa = 0 := by
            have hc2 : ((m : Int) % (fa : Int)) = 0 := by simpa using hc2
            rw [em] at hc2; omega
          have hdv := Nat.dvd_of_mod_eq_zero hz
          obtain ⟨c, hcm⟩ := hdv
          have hc1 : 1 ≤ c := by
            rcases Nat.eq_zero_or_pos c with q | q
            · subst q; omega
            · exact q
          have e1 : (m : Int) / (fa : Int) = ((c : Nat) : Int) := by
            rw [hcm]
            push_cast
            rw [Int.mul_ediv_cancel_left _ (by omega)]
          have hlen : xs.length < 60 := by
            rcases Nat.lt_or_ge xs.length 60 with q | q
            · exact q
            · have := Nat.pow_le_pow_right (show 0 < 2 by decide) q
              omega
          refine ⟨_, rfl, .inl ⟨rfl, _, SqL.of hl⟩, _, rfl, p, xs, _, rfl, rfl, hl, small1000 (by omega), ?_⟩
          have hmn : m ≤ n := Nat.le_trans (Nat.le_mul_of_pos_right m (Nat.two_pow_pos _)) hpow
          refine ⟨_, rfl, _, rfl, _, _, rfl, rfl, wide_div (b := 60) (by omega) (by omega) (by decide) (by decide), ?_⟩
          have h2c : 2 * c ≤ m := by rw [hcm]; exact Nat.mul_le_mul_right _ hf2
          refine ⟨⟨c, fa, xs ++ [.int fa], by show [some (V.int ((m : Int) / (fa : Int))), _, _] = _; rw [e1], upd_same, fun b o e => ?_, hc1, hf2, ?_, fun d a b q => hno d a b (hcm ▸ Nat.dvd_trans q (Nat.dvd_mul_left c fa))⟩, ?_⟩
          · rw [upd_ne (ne_of_none e hp)]; exact hs b o e
          · rw [List.length_append]
            show c * 2 ^ (xs.length + 1) ≤ n
            rw [Nat.pow_succ]
            calc c * (2 ^ xs.length * 2) = (2 * c) * 2 ^ xs.length := by rw [Nat.mul_comm (2 ^ xs.length) 2, ← Nat.mul_assoc, Nat.mul_comm c 2]
              _ ≤ m * 2 ^ xs.length := Nat.mul_le_mul_right _ h2c
              _ ≤ n := hpow
          · show (2 * ((m : Int) / (fa : Int)) - (fa : Int)).toNat < (2 * (m : Int) - fa).toNat
            rw [e1]; omega
        · have hz : m % fa ≠ 0 := fun q => by
            apply hc2
            show decide (V.int ((m : Int) % (fa : Int)) = V.int 0) = true
            rw [em, q]
            simp
          refine ⟨_, rfl, _, _, rfl, rfl, ?_⟩
          refine ⟨⟨m, fa + 1, xs, rfl, hl, hs, hm1, by omega, hpow, fun d a b q => ?_⟩, ?_⟩
          · rcases Nat.lt_or_ge d fa with y | y
            · exact hno d a y q
            · have : d = fa := by omega
              subst this
              exact hz (Nat.mod_eq_zero_of_dvd q)
          · show (2 * (m : Int) - (fa + 1)).toNat < (2 * (m : Int) - fa).toNat
            omega
      · exact ⟨_, rfl, k p xs H' hp hl hs mlen⟩
    · rintro σ H' Q1 Q2 hm ⟨v, e1, i, j, e2, e3, b, e4, q⟩
      exact ⟨v, e1, i, j, e2, e3, b, e4, hm _ _ q⟩
end
end Td
end

section
set_option maxHeartbeats 1000000
/-! TdT: trees: ends, levels. -/
namespace Td
open PySem PySem.Spec PyProof.Rows L2
mutual
/-- how many ends -/
def T.cnt : T → Nat
  | .leaf _ => 1
  | .node ts => cnts ts
def cnts : List T → Nat
  | [] => 0
  | t :: ts => t.cnt + cnts ts
end
mutual
def T.lev : T → Nat
  | .leaf _ => 0
  | .node ts => 1 + levs ts
def levs : List T → Nat
  | [] => 0
  | t :: ts => max t.lev (levs ts)
end
mutual
/-- every node has two children or more -/
def T.ok : T → Prop
  | .leaf _ => True
  | .node ts => 2 ≤ ts.length ∧ oks ts
def oks : List T → Prop
  | [] => True
  | t :: ts => t.ok ∧ oks ts
end
theorem oks_mem : ∀ {ts : List T} {t : T}, oks ts → t ∈ ts → t.ok
  | [], _, _, h => by cases h
  | u :: ts, t, h, hm => by
    unfold oks at h
    rcases List.mem_cons.mp hm with e | e
    · rw [e]; exact h.1
    · exact oks_mem h.2 e
theorem oks_iff {ts : List T} : oks ts ↔ ∀ t ∈ ts, t.ok := by
  induction ts with
  | nil => unfold oks; simp
  | cons u ts ih => unfold oks; rw [ih]; simp
theorem oks_get {ts : List T} {i : Nat} {t : T} (h : oks ts) (e : ts[i]? = some t) : t.ok := oks_mem h (List.mem_of_getElem? e)
theorem ok_node {ts : List T} : (T.node ts).ok ↔ 2 ≤ ts.length ∧ oks ts := by rw [T.ok]
theorem levs_mem : ∀ {ts : List T} {t : T}, t ∈ ts → t.lev ≤ levs ts
  | [], _, h => by cases h
  | u :: ts, t, hm => by
    unfold levs
    rcases List.mem_cons.mp hm with e | e
    · rw [e]; exact Nat.le_max_left _ _
    · exact Nat.le_trans (levs_mem e) (Nat.le_max_right _ _)
theorem levs_get {ts : List T} {i : Nat} {t : T} (e : ts[i]? = some t) : t.lev ≤ levs ts := levs_mem (List.mem_of_getElem? e)
theorem lev_node {ts : List T} : (T.node ts).lev = 1 + levs ts := by rw [T.lev]
theorem levs_le {ts : List T} {n : Nat} (h : ∀ t ∈ ts, t.lev ≤ n) : levs ts ≤ n := by
  induction ts with
  | nil => unfold levs; exact Nat.zero_le _
  | cons u ts ih => unfold levs; exact Nat.max_le.mpr ⟨h u List.mem_cons_self, ih fun t ht => h t (List.mem_cons_of_mem _ ht)⟩
theorem levs_att : ∀ {ts : List T}, ts ≠ [] → ∃ t ∈ ts, t.lev = levs ts
  | [], h => absurd rfl h
  | [u], _ => ⟨u, List.mem_cons_self, by simp [levs]⟩
  | u :: v :: ts, _ => by
    obtain ⟨t, ht, e⟩ := levs_att (ts := v :: ts) (by simp)
    rw [levs]
    rcases Nat.le_total u.lev (levs (v :: ts)) with q | q
    · exact ⟨t, List.mem_cons_of_mem _ ht, by rw [e, Nat.max_eq_right q]⟩
    · exact ⟨u, List.mem_cons_self, (Nat.max_eq_left q).symm⟩
theorem cnts_mem : ∀ {ts : List T} {t : T}, t ∈ ts → t.cnt ≤ cnts ts
  | [], _, h => by cases h
  | u :: ts, t, hm => by
    unfold cnts
    rcases List.mem_cons.mp hm with e | e
    · rw [e]; exact Nat.le_add_right _ _
    · exact Nat.le_trans (cnts_mem e) (Nat.le_add_left _ _)
theorem cnts_get {ts : List T} {i : Nat} {t : T} (e : ts[i]? = some t) : t.cnt ≤ cnts ts := cnts_mem (List.mem_of_getElem? e)
theorem cnt_node {ts : List T} : (T.node ts).cnt = cnts ts := by rw [T.cnt]
theorem cnts_sum : ∀ ts : List T, cnts ts = (ts.map T.cnt).sum
  | [] => by simp [cnts]
  | t :: ts => by rw [cnts, cnts_sum ts]; simp
mutual
theorem cnt_pos : ∀ t : T, t.ok → 1 ≤ t.cnt
  | .leaf _, _ => by rw [T.cnt]; exact Nat.le_refl _
  | .node [], h => by rw [ok_node] at h; simp at h
  | .node (t :: ts), h => by
    rw [ok_node, oks] at h
    rw [cnt_node, cnts]
    exact Nat.le_trans (cnt_pos t h.2.1) (Nat.le_add_right _ _)
end
theorem len_le_cnts : ∀ {ts : List T}, oks ts → ts.length ≤ cnts ts
  | [], _ => Nat.zero_le _
  | t :: ts, h => by
    unfold oks at h
    rw [cnts, List.length_cons]
    have := cnt_pos t h.1
    have := len_le_cnts h.2
    omega
/-- a tree that is looked at: in its heap, well made, of a bounded size -/
structure TVn (K : PySem.W.Frag) (H : Hp) (t : T) (v : V) : Prop where
  tv : TV K H t v
  ok : t.ok
  big : t.cnt ≤ 100000
section
variable {K : PySem.W.Frag} {H H' : Hp}
theorem TVn.le {t : T} {v : V} (h : TVn K H t v) (l : TLe K H H') : TVn K H' t v := ⟨h.tv.le l, h.ok, h.big⟩
theorem TVn.leaf {o : Str} {v : V} (h : TVn K H (.leaf o) v) : v = .str o := tv_leaf.mp h.tv
/-- a node: its tuple, its children -/
theorem TVn.node {ts : List T} {v : V} (h : TVn K H (.node ts) v) : ∃ a xs, v = .ref a ∧ SqT K H a xs ∧ xs.length = ts.length ∧ ts.length ≤ 100000 ∧ 2 ≤ ts.length ∧
    (∀ (i : Nat) x, xs[i]? = some x → ∃ t, ts[i]? = some t ∧ TVn K H t x) ∧ ∀ (i : Nat) t, ts[i]? = some t → ∃ x, xs[i]? = some x ∧ TVn K H t x := by
  obtain ⟨a, xs, e, hs, hv⟩ := tv_node.mp h.tv
  obtain ⟨h2, ho⟩ := ok_node.mp h.ok
  have hb := h.big
  rw [cnt_node] at hb
  refine ⟨a, xs, e, hs, hv.length, Nat.le_trans (len_le_cnts ho) hb, h2, fun i x hx => ?_, fun i t ht => ?_⟩
  · obtain ⟨t, ht, q⟩ := hv.get hx
    exact ⟨t, ht, q, oks_get ho ht, Nat.le_trans (cnts_get ht) hb⟩
  · obtain ⟨x, hx, q⟩ := hv.getT ht
    exact ⟨x, hx, q, oks_get ho ht, Nat.le_trans (cnts_get ht) hb⟩
theorem TVn.tyStr {o : Str} {v : V} (h : TVn K H (.leaf o) v) : TyX K H v (.type "str") := by rw [h.leaf]; exact .base (.str o)
theorem TVn.tyTup {ts : List T} {v : V} (h : TVn K H (.node ts) v) : TyX K H v (.type "tuple") := by
  obtain ⟨a, xs, rfl, hs, _⟩ := h.node
  exact SqT.tyx hs
end
theorem sum_cnt : ∀ ts : List T, (ts.map fun t => (t.cnt : Int)).sum = ((cnts ts : Nat) : Int)
  | [] => by simp [cnts]
  | t :: ts => by rw [List.map_cons, List.sum_cons, sum_cnt ts, cnts]; push_cast; rfl
/-- the items of a list that was made, one by one -/
theorem ys_map {ts : List T} {ys : List V} {f : T → V} (hl : ys.length = ts.length) (h : ∀ (i : Nat) y, ys[i]? = some y → ∃ t, ts[i]? = some t ∧ y = f t) : ys = ts.map f := by
  apply List.ext_getElem?
  intro i
  rw [List.getElem?_map]
  cases q : ys[i]? with
  | some y =>
    obtain ⟨t, e1, rfl⟩ := h i y q
    rw [e1]; rfl
  | none =>
    have : ys.length ≤ i := List.getElem?_eq_none_iff.mp q
    rw [List.getElem?_eq_none (by omega)]; rfl
theorem size5 : (100000 : Nat) ≤ sizeLine := by rw [sizeLine_eq]; decide
end Td
end

section
set_option maxHeartbeats 1000000
/-! TdLc: comprehensions whose items only add to the heap. -/
namespace Td
open PySem PySem.Spec PyProof.Rows L2
theorem tle_lst {K : PySem.W.Frag} {H : Hp} {D : Addr} {ys : List V} {o : HO} (h : H D = some (.lst ys)) : TLe K H (upd H D o) := fun a xs q => by
  rcases q with (q | ⟨u, q⟩) | q
  · exact .inl (.inl (by rw [upd_ne (fun z => by rw [z, h] at q; cases q)]; exact q))
  · exact .inl (.inr ⟨u, by rw [upd_ne (fun z => by rw [z, h] at q; cases q)]; exact q⟩)
  · exact .inr q
theorem tle_new {K : PySem.W.Frag} {H : Hp} {D : Addr} {o : HO} (h : H D = none) : TLe K H (upd H D o) := Same.tle (Same.upd h)
/-- all but what stands at D stays -/
theorem same_lst {H H' : Hp} {D : Addr} {o : HO} (hD : H D = none) (s : Same H H') : Same H (upd H' D o) := fun b u e => by rw [upd_ne (ne_of_none e hD)]; exact s b u e
theorem lc_pure {K : PySem.W.Frag} {J : It} {n : Nat} {G : Hp → Prop} {Y : Nat → Hp → V → Hp → Prop} (w : Walk J n G Y) {g : TG} {te : TE} {vs : List Nat} {σ : L2.St} {H1 : Hp} {D : Addr} {Qd : Hp → Prop} (hD : H1 D = none) (hn : n ≤ sizeLine)
    (hG : ∀ H, Same H1 H → G H) (hY : ∀ i H x H', Y i H x H' → Same H H') (R : Nat → V → Hp → Prop) (hR : ∀ i v H H', TLe K H H' → R i v H → R i v H')
    (hs : ∀ i x H H' (k : V → Hp → Prop), i < n → Same H1 H → Y i H x H' → (∀ y H'', Same H' H'' → R i y H'' → k y H'') → g x (wipe σ vs) H' fun σ2 H2 => wipe σ2 vs = wipe σ vs ∧ te σ2 H2 k)
    (hd : ∀ ys H, Same H1 H → H D = some (.lst ys) → ys.length = n → (∀ j y, ys[j]? = some y → R j y H) → Qd H) :
    ∃ W : Nat → Nat → Hp → Prop, (∃ m, W 0 m (upd H1 D (.lst []))) ∧ ∀ i m H, W i m H →
      (J.stop i H ∧ Qd H) ∨ (J.go i H ∧ ∃ Nx : Hp → Prop, (∀ H', Nx H' → ∃ m', m' < m ∧ W (i + 1) m' H') ∧ ∀ x H', J.yld i H x H' → g x (wipe σ vs) H' fun σ2 H2 => wipe σ2 vs = wipe σ vs ∧ tYes σ2 H2 fun b H3 =>
        if b = true then te σ2 H3 fun y H4 => ∃ acc, H4 D = some (.lst acc) ∧ acc.length < sizeLine ∧ Nx (upd H4 D (.lst (acc ++ [y]))) else Nx H3) := by
  refine lc_it w (fun i H => Same H1 H ∧ ∃ acc, H D = some (.lst acc) ∧ acc.length = i ∧ ∀ j y, acc[j]? = some y → R j y H) ⟨Same.upd hD, [], upd_same, rfl, fun j y e => by simp at e⟩ (fun i H _ p => hG H p.1) (fun i x H H' hi p hy => ?_) fun H ⟨s, acc, h1, h2, h3⟩ => hd acc H s h1 h2 h3
  obtain ⟨s, acc, h1, h2, h3⟩ := p
  have sY := hY i H x H' hy
  have key := hs i x H H' (fun y H4 => ∃ acc, H4 D = some (.lst acc) ∧ acc.length < sizeLine ∧ (fun H => Same H1 H ∧ ∃ acc, H D = some (.lst acc) ∧ acc.length = i + 1 ∧ ∀ j y, acc[j]? = some y → R j y H) (upd H4 D (.lst (acc ++ [y])))) hi s hy fun y H'' s2 r => by
    have hD2 : H'' D = some (.lst acc) := s2 _ _ (sY _ _ h1)
    refine ⟨acc, hD2, by omega, same_lst hD (s.trans (sY.trans s2)), acc ++ [y], upd_same, by simp [h2], fun j z e => ?_⟩
    rcases Nat.lt_or_ge j acc.length with q | q
    · rw [List.getElem?_append_left q] at e
      exact hR _ _ _ _ (tle_lst hD2) (hR _ _ _ _ (Same.tle (sY.trans s2)) (h3 j z e))
    · rw [List.getElem?_append_right q] at e
      have : j - acc.length = 0 := by
        rcases Nat.eq_zero_or_pos (j - acc.length) with y | y
        · exact y
        · rw [List.getElem?_eq_none (by simp; omega)] at e; cases e
      rw [this] at e
      cases e
      have ej : j = i := by omega
      rw [ej]
      exact hR _ _ _ _ (tle_lst hD2) r
  have ee : ∀ (σ2 : L2.St) (H2 : Hp) (A : Hp → Prop) (B : Hp → Prop), (tYes σ2 H2 fun b H3 => if b = true then A H3 else B H3) = A H2 := fun σ2 H2 A B => by
    show (if true = true then A H2 else B H2) = A H2
    rw [if_pos rfl]
  simp only [ee]
  exact key
end Td
end

section
set_option maxHeartbeats 1000000
/-! TdTree1: count_ends, levels, within. -/
namespace Td
open PySem PySem.Spec PyProof.Rows L2
section
variable {P : Program} {w : World} {K : PySem.W.Frag} {mg : Str → Option Value} {base : Heap}
theorem sc_count_ends : FnScope ["tree", "outlet"] ["tree"] (defScope (topS 13)) := ⟨rfl, rfl, rfl, by decide +kernel, rfl, by decide +kernel, by decide +kernel⟩
def spCount (K : PySem.W.Frag) (n : Nat) : Sp := fun vs H Q _ => ∃ t v, vs = [v] ∧ TVn K H t v ∧ t.lev < n ∧ ∀ H', Same H H' → Q (.int (t.cnt : Nat)) H'
theorem ok_count (T : Top K mg) : ∀ n, C8.Cal P w K mg base (n + 1) "count_ends" (spCount K n) []
  | 0 => by
    refine cal_of T.d_count_ends sc_count_ends (fun _ _ _ _ _ _ us hl => match us, hl with | [_], _ => rfl) (fun vs H Q E h => ?_) fun f cdv A outer s H vs Q E hr h => ?_
    · obtain ⟨t, v, rfl, _⟩ := h; rfl
    · obtain ⟨t, v, rfl, _, hl, _⟩ := h; omega
  | n + 1 => by
    have c_count_ends : C8.Cal P w K mg base (n + 1) "count_ends" (spCount K n) [] := ok_count T n
    refine cal_of T.d_count_ends sc_count_ends (fun _ _ _ _ _ _ us hl => match us, hl with | [_], _ => rfl) (fun vs H Q E h => ?_) fun f cdv A outer s H vs Q E hr h => ?_
    · obtain ⟨t, v, rfl, _⟩ := h; rfl
    · obtain ⟨t, v, rfl, hv, hlev, k⟩ := h
      refine ⟨_, (pss_one (ps_ret (pe_ifExp (pt_val (pe_callB call_isi (by rfl) T.n_isinstance (by decide +kernel) (pa_cons (pv 0) (pa_cons (pe_bltn (v := .ty "str") (u := .type "str") (by rfl) T.n_str (by decide +kernel) rfl) pa_nil)))) pe_int (pe_callB (cr_sum rfl) (by rfl) T.n_sum (by decide +kernel) (pa_cons (pe_lc (own := [("outlet", 1)]) (by rfl) sc_count_ends.nd (pi_tup (pv 0)) (blkOk_by (own := [("outlet", 1)]) (N := ["tree", "outlet"]) (sc := defScope (topS 13)) (by decide +kernel)) (fun _ _ _ _ _ => (pg_name (i := 1) sc_count_ends.nd rfl (by first | exact Or.inl rfl | exact Or.inr rfl))) (fun _ _ _ _ _ => pts_nil) (fun _ _ _ _ _ => (C8.pe_c c_count_ends hr (by omega) rfl (pa_cons (pv 1) pa_nil)))) pa_nil))))), ?_⟩
      cases t with
      | leaf o =>
        refine ⟨_, rfl, _, _, _, _, true, rfl, .ty "str", hv.tyStr, kit_ty (by decide +kernel), _, rfl, iteT ?_⟩
        have := k H (.refl H)
        rw [T.cnt] at this
        exact this
      | node ts =>
        refine ⟨_, rfl, _, _, _, _, false, rfl, .ty "str", hv.tyTup, kit_ty (by decide +kernel), _, rfl, iteF ?_⟩
        obtain ⟨a, xs, rfl, hs, hlen, hbig, h2, hx, ht⟩ := hv.node
        refine ⟨_, rfl, a, rfl, ⟨xs, hs⟩, fun D hD => ?_⟩
        refine lc_pure (K := K) walk_tup hD (Nat.le_trans (by omega) size5) (fun H' s => Same.tle s a xs hs) (fun i H x H' e => e.1 ▸ .refl _)
          (fun i v _ => ∃ t, ts[i]? = some t ∧ v = .int (t.cnt : Nat)) (fun i v H H' _ h => h) (fun i x H1 H' k' hi s1 ⟨e, ex⟩ hk => ?_) fun ys H' s1 hl hyl hR => ?_
        · subst e
          obtain ⟨t, e1, hv1⟩ := hx i x ex
          refine ⟨rfl, _, rfl, t, x, rfl, hv1.le (Same.tle s1), ?_, fun H'' s2 => hk _ _ s2 ⟨t, e1, rfl⟩⟩
          have := levs_get e1
          rw [lev_node] at hlev
          omega
        · refine ⟨D, ts.map fun t => (t.cnt : Int), rfl, ?_, ?_⟩
          · rw [List.map_map, ← ys_map (f := V.int ∘ fun t => (t.cnt : Int)) (by omega) hR]
            exact SqL.of hl
          · rw [sum_cnt, ← cnt_node]
            exact k H' s1
theorem sc_levels : FnScope ["tree", "outlet"] ["tree"] (defScope (topS 14)) := ⟨rfl, rfl, rfl, by decide +kernel, rfl, by decide +kernel, by decide +kernel⟩
def spLevels (K : PySem.W.Frag) (n : Nat) : Sp := fun vs H Q _ => ∃ t v, vs = [v] ∧ TVn K H t v ∧ t.lev < n ∧ ∀ H', Same H H' → Q (.int (t.lev : Nat)) H'
theorem ok_levels (T : Top K mg) : ∀ n, C8.Cal P w K mg base (n + 1) "levels" (spLevels K n) []
  | 0 => by
    refine cal_of T.d_levels sc_levels (fun _ _ _ _ _ _ us hl => match us, hl with | [_], _ => rfl) (fun vs H Q E h => ?_) fun f cdv A outer s H vs Q E hr h => ?_
    · obtain ⟨t, v, rfl, _⟩ := h; rfl
    · obtain ⟨t, v, rfl, _, hl, _⟩ := h; omega
  | n + 1 => by
    have c_levels : C8.Cal P w K mg base (n + 1) "levels" (spLevels K n) [] := ok_levels T n
    refine cal_of T.d_levels sc_levels (fun _ _ _ _ _ _ us hl => match us, hl with | [_], _ => rfl) (fun vs H Q E h => ?_) fun f cdv A outer s H vs Q E hr h => ?_
    · obtain ⟨t, v, rfl, _⟩ := h; rfl
    · obtain ⟨t, v, rfl, hv, hlev, k⟩ := h
      refine ⟨_, (pss_one (ps_ret (pe_ifExp (pt_val (pe_callB call_isi (by rfl) T.n_isinstance (by decide +kernel) (pa_cons (pv 0) (pa_cons (pe_bltn (v := .ty "str") (u := .type "str") (by rfl) T.n_str (by decide +kernel) rfl) pa_nil)))) pe_int (pe_op op_add pe_int (pe_callB (cr_max rfl) (by rfl) T.n_max (by decide +kernel) (pa_cons (pe_lc (own := [("outlet", 1)]) (by rfl) sc_levels.nd (pi_tup (pv 0)) (blkOk_by (own := [("outlet", 1)]) (N := ["tree", "outlet"]) (sc := defScope (topS 14)) (by decide +kernel)) (fun _ _ _ _ _ => (pg_name (i := 1) sc_levels.nd rfl (by first | exact Or.inl rfl | exact Or.inr rfl))) (fun _ _ _ _ _ => pts_nil) (fun _ _ _ _ _ => (C8.pe_c c_levels hr (by omega) rfl (pa_cons (pv 1) pa_nil)))) pa_nil)))))), ?_⟩
      cases t with
      | leaf o =>
        refine ⟨_, rfl, _, _, _, _, true, rfl, .ty "str", hv.tyStr, kit_ty (by decide +kernel), _, rfl, iteT ?_⟩
        have := k H (.refl H)
        rw [T.lev] at this
        exact this
      | node ts =>
        refine ⟨_, rfl, _, _, _, _, false, rfl, .ty "str", hv.tyTup, kit_ty (by decide +kernel), _, rfl, iteF ?_⟩
        obtain ⟨a, xs, rfl, hs, hlen, hbig, h2, hx, ht⟩ := hv.node
        refine ⟨_, rfl, a, rfl, ⟨xs, hs⟩, fun D hD => ?_⟩
        refine lc_pure (K := K) walk_tup hD (Nat.le_trans (by omega) size5) (fun H' s => Same.tle s a xs hs) (fun i H x H' e => e.1 ▸ .refl _)
          (fun i v _ => ∃ t, ts[i]? = some t ∧ v = .int (t.lev : Nat)) (fun i v H H' _ h => h) (fun i x H1 H' k' hi s1 ⟨e, ex⟩ hk => ?_) fun ys H' s1 hl hyl hR => ?_
        · subst e
          obtain ⟨t, e1, hv1⟩ := hx i x ex
          refine ⟨rfl, _, rfl, t, x, rfl, hv1.le (Same.tle s1), ?_, fun H'' s2 => hk _ _ s2 ⟨t, e1, rfl⟩⟩
          have := levs_get e1
          rw [lev_node] at hlev
          omega
        · refine ⟨D, ts.map fun t => (t.lev : Int), rfl, ?_, by rw [List.length_map]; omega, fun m hm hall => ?_⟩
          · rw [List.map_map, ← ys_map (f := V.int ∘ fun t => (t.lev : Int)) (by omega) hR]
            exact SqL.of hl
          · obtain ⟨t, ht1, e1⟩ := List.mem_map.mp hm
            obtain ⟨u, hu1, e2⟩ := levs_att (ts := ts) (by intro z; rw [z] at h2; simp at h2)
            have b1 := hall (u.lev : Int) (List.mem_map.mpr ⟨u, hu1, rfl⟩)
            have b2 := levs_mem ht1
            have em : m = ((levs ts : Nat) : Int) := by omega
            subst em
            refine ⟨_, _, rfl, rfl, ?_⟩
            have := k H' s1
            rw [lev_node] at this
            have e3 : (1 : Int) + ((levs ts : Nat) : Int) = ((1 + levs ts : Nat) : Int) := by push_cast; rfl
            show Q (.int (1 + ((levs ts : Nat) : Int))) H'
            rw [e3]
            exact this
theorem sc_within : FnScope ["tree"] ["tree"] (defScope (topS 15)) := ⟨rfl, rfl, rfl, by decide +kernel, rfl, by decide +kernel, by decide +kernel⟩
def spWithin (K : PySem.W.Frag) (n : Nat) : Sp := fun vs H Q _ => ∃ t v, vs = [v] ∧ TVn K H t v ∧ t.lev < n ∧ t.cnt ≤ 400 ∧ t.lev ≤ 40 ∧ ∀ H', Same H H' → Q v H'
theorem ok_within (T : Top K mg) (n : Nat) : C8.Cal P w K mg base (n + 2) "within" (spWithin K n) [] := by
  have c_count_ends : C8.Cal P w K mg base (n + 1) "count_ends" (spCount K n) [] := ok_count T n
  have c_levels : C8.Cal P w K mg base (n + 1) "levels" (spLevels K n) [] := ok_levels T n
  refine cal_of T.d_within sc_within (fun _ _ _ _ _ _ us hl => match us, hl with | [_], _ => rfl) (fun vs H Q E h => ?_) fun f cdv A outer s H vs Q E hr h => ?_
  · obtain ⟨t, v, rfl, _⟩ := h; rfl
  · obtain ⟨t, v, rfl, hv, hlev, h4, h40, k⟩ := h
    refine ⟨_, (pss_cons (ps_if (pt_cmpR op_gt (C8.pe_c c_count_ends hr (by omega) rfl (pa_cons (pv 0) pa_nil)) (C8.pe_gc rfl T.g_MOST_ENDS) (nomark _)) (pss_one ps_never) pss_nil)
      (pss_cons (ps_if (pt_cmpR op_gt (C8.pe_c c_levels hr (by omega) rfl (pa_cons (pv 0) pa_nil)) (C8.pe_gc rfl T.g_MOST_LEVELS) (nomark _)) (pss_one ps_never) pss_nil)
      (pss_one (ps_ret (pv 0))))), ?_⟩
    refine ⟨_, rfl, t, v, rfl, hv, hlev, fun H1 s1 => ⟨_, _, rfl, rfl, _, rfl, ?_⟩⟩
    refine ite2 (fun hc => ?_) fun hc => ?_
    · have hc : (400 : Int) < (t.cnt : Int) := by simpa using hc
      omega
    refine ⟨_, rfl, t, v, rfl, hv.le (Same.tle s1), hlev, fun H2 s2 => ⟨_, _, rfl, rfl, _, rfl, ?_⟩⟩
    refine ite2 (fun hc => ?_) fun hc => ?_
    · have hc : (40 : Int) < (t.lev : Int) := by simpa using hc
      omega
    exact ⟨v, rfl, k H2 (s1.trans s2)⟩
end
end Td
end

section
set_option maxHeartbeats 1000000
/-! TdTake: taken. -/
namespace Td
open PySem PySem.Spec PyProof.Rows L2
/-- one thing itself, more as a node -/
def mkT : List T → T
  | [t] => t
  | ts => .node ts
mutual
/-- the tree of every step-th item from first on -/
def T.taken : T → Nat → Nat → T
  | .leaf o => fun _ _ => .leaf o
  | .node ts => fun f s => mkT ((List.range (ts.length / Nat.gcd ts.length s)).map fun i => ((takens ts).getD ((f + s * i) % ts.length) fun _ _ => .leaf ⟨#[]⟩) ((f + s * i) / ts.length) (s / Nat.gcd ts.length s))
def takens : List T → List (Nat → Nat → T)
  | [] => []
  | t :: ts => t.taken :: takens ts
end
theorem takens_map : ∀ ts : List T, takens ts = ts.map T.taken
  | [] => rfl
  | t :: ts => by rw [takens, takens_map ts]; rfl
theorem taken_leaf {o : Str} {f s : Nat} : (T.leaf o).taken f s = .leaf o := by rw [T.taken]
/-- the i-th of them -/
def tkI (ts : List T) (f s i : Nat) : T := ((takens ts).getD ((f + s * i) % ts.length) fun _ _ => .leaf ⟨#[]⟩) ((f + s * i) / ts.length) (s / Nat.gcd ts.length s)
theorem taken_node {ts : List T} {f s : Nat} : (T.node ts).taken f s = mkT ((List.range (ts.length / Nat.gcd ts.length s)).map (tkI ts f s)) := by rw [T.taken]; rfl
theorem tkI_get {ts : List T} {f s i : Nat} {t : T} (h : ts[(f + s * i) % ts.length]? = some t) : tkI ts f s i = t.taken ((f + s * i) / ts.length) (s / Nat.gcd ts.length s) := by
  unfold tkI
  rw [takens_map, List.getD_eq_getElem?_getD, List.getElem?_map, h]
  rfl
section
variable {P : Program} {w : World} {K : PySem.W.Frag} {mg : Str → Option Value} {base : Heap}
theorem sc_taken : FnScope ["tree", "first", "step", "size", "common", "found", "number", "item"] ["tree", "first", "step"] (defScope (topS 18)) := ⟨rfl, rfl, rfl, by decide +kernel, rfl, by decide +kernel, by decide +kernel⟩
def spTaken (K : PySem.W.Frag) (n : Nat) : Sp := fun vs H Q _ => ∃ (t : T) (v : V) (f s : Nat), vs = [v, .int f, .int s] ∧ TVn K H t v ∧ t.lev < n ∧ 1 ≤ s ∧ ∀ v' H', Same H H' → TV K H' (t.taken f s) v' → Q v' H'
theorem ok_taken (T : Top K mg) : ∀ n, C8.Cal P w K mg base (n + 2) "taken" (spTaken K n) []
  | 0 => by
    refine cal_of T.d_taken sc_taken (fun _ _ _ _ _ _ us hl => match us, hl with | [_, _, _], _ => rfl) (fun vs H Q E h => ?_) fun f cdv A outer s H vs Q E hr h => ?_
    · obtain ⟨t, v, f, s, rfl, _⟩ := h; rfl
    · obtain ⟨t, v, f, s, rfl, _, hl, _⟩ := h; omega
  | n + 1 => by
    have c_divisor : C8.Cal P w K mg base 1 "divisor" spDivisor [] := ok_divisor T
    have c_taken : C8.Cal P w K mg base (n + 2) "taken" (spTaken K n) [] := ok_taken T n
    refine cal_of T.d_taken sc_taken (fun _ _ _ _ _ _ us hl => match us, hl with | [_, _, _], _ => rfl) (fun vs H Q E h => ?_) fun fa cdv A outer sh H vs Q E hr h => ?_
    · obtain ⟨t, v, f, s, rfl, _⟩ := h; rfl
    · obtain ⟨t, v, f, s, rfl, hv, hlev, hs1, k⟩ := h
      refine ⟨_, (pss_cons (ps_if (pt_val (pe_callB call_isi (by rfl) T.n_isinstance (by decide +kernel) (pa_cons (pv 0) (pa_cons (pe_bltn (v := .ty "str") (u := .type "str") (by rfl) T.n_str (by decide +kernel) rfl) pa_nil)))) (pss_one (ps_ret (pv 0))) pss_nil)
      (pss_cons (ps_set (i := 3) sc_taken.nd rfl (by first | exact Or.inl rfl | exact Or.inr rfl) (pe_callB call_len_seq (by rfl) T.n_len (by decide +kernel) (pa_cons (pv 0) pa_nil)))
      (pss_cons (ps_set (i := 4) sc_taken.nd rfl (by first | exact Or.inl rfl | exact Or.inr rfl) (C8.pe_c c_divisor hr (by omega) rfl (pa_cons (pv 3) (pa_cons (pv 2) pa_nil))))
      (pss_cons (ps_set (i := 5) sc_taken.nd rfl (by first | exact Or.inl rfl | exact Or.inr rfl) (pe_lst pa_nil))
      (pss_cons (ps_for PassesOwn.never rfl (pi_range1 (by rfl) T.n_range (pa_cons (pe_op op_fdiv (pv 3) (pv 4)) pa_nil)) (pg_name (i := 6) sc_taken.nd rfl (by first | exact Or.inl rfl | exact Or.inr rfl)) (pss_cons (ps_set (i := 7) sc_taken.nd rfl (by first | exact Or.inl rfl | exact Or.inr rfl) (pe_op op_add (pv 1) (pe_op op_mul (pv 2) (pv 6))))
      (pss_one (ps_expr (pe_bm PySem.F.plainAttrs_list PySem.F.slot_list_append PySem.F.type_list_append mt_append (pv 5) (pa_cons (C8.pe_c c_taken hr (by omega) rfl (pa_cons (pe_ix ix_tup (pv 0) (pe_op op_mod (pv 7) (pv 3)) (fun _ _ => rfl)) (pa_cons (pe_op op_fdiv (pv 7) (pv 3)) (pa_cons (pe_op op_fdiv (pv 2) (pv 4)) pa_nil)))) pa_nil))))))
      (pss_one (ps_ret (pe_ifExp (pt_cmpR op_eq (pe_callB call_len_seq (by rfl) T.n_len (by decide +kernel) (pa_cons (pv 5) pa_nil)) pe_int (nomark _)) (pe_ix ix_list (pv 5) pe_int (fun _ _ => rfl)) (pe_callTy call_tuple_of (by rfl) T.n_tuple (by decide +kernel) (pa_cons (pv 5) pa_nil)))))))))), ?_⟩
      cases t with
      | leaf o =>
        refine ⟨_, rfl, _, _, _, _, true, rfl, .ty "str", hv.tyStr, kit_ty (by decide +kernel), _, rfl, iteT ⟨_, rfl, ?_⟩⟩
        exact k v H (.refl H) (by rw [taken_leaf]; exact hv.tv)
      | node ts =>
        refine ⟨_, rfl, _, _, _, _, false, rfl, .ty "str", hv.tyTup, kit_ty (by decide +kernel), _, rfl, iteF ?_⟩
        obtain ⟨a, xs, rfl, hs, hlen, hbig, h2, hx, ht⟩ := hv.node
        have hc0 : 0 < Nat.gcd ts.length s := Nat.gcd_pos_of_pos_right _ hs1
        have hck : Nat.gcd ts.length s ≤ ts.length := Nat.gcd_le_left _ (by omega)
        refine ⟨_, rfl, a, xs, rfl, .inr hs, ?_⟩
        refine ⟨_, rfl, _, rfl, xs.length, s, rfl, ?_⟩
        rw [hlen]
        refine ⟨by decide, fun p hp => ?_⟩
        have ediv : ((ts.length : Nat) : Int) / ((Nat.gcd ts.length s : Nat) : Int) = ((ts.length / Nat.gcd ts.length s : Nat) : Int) := rfl
        have hm1 : 1 ≤ ts.length / Nat.gcd ts.length s := (Nat.le_div_iff_mul_le hc0).mpr (by omega)
        have hmk : ts.length / Nat.gcd ts.length s ≤ ts.length := Nat.div_le_self _ _
        refine ⟨_, rfl, _, rfl, _, _, rfl, rfl, ⟨by omega, by omega⟩, _, rfl, ?_⟩
        have hjN : (((ts.length : Nat) : Int) / ((Nat.gcd ts.length s : Nat) : Int)).toNat = ts.length / Nat.gcd ts.length s := by rw [ediv]; exact Int.toNat_natCast _
        refine ⟨by rw [ediv]; omega, by rw [ediv]; omega, ?_⟩
        refine for_range (lo := 0) (fun i σ H' => i ≤ ts.length / Nat.gcd ts.length s ∧ Same H H' ∧ ∃ (acc : List V) (v6 v7 : Option V), σ = [some (.ref a), some (.int f), some (.int s), some (.int (ts.length : Nat)), some (.int (Nat.gcd ts.length s : Nat)), some (.ref p), v6, v7] ∧ H' p = some (.lst acc) ∧ acc.length = i ∧
          ∀ (j : Nat) y, acc[j]? = some y → TV K H' (tkI ts f s j) y) ⟨Nat.zero_le _, Same.upd hp, [], none, none, rfl, upd_same, rfl, fun j y e => by simp at e⟩ ?_ ?_
        · rintro i σ H1 hi ⟨_, s1, acc, v6, v7, rfl, hl, hal, hR⟩
          rw [hjN] at hi
          refine ⟨_, rfl, _, rfl, _, rfl, _, _, rfl, rfl, .inr ⟨by omega, by omega⟩, _, _, rfl, rfl, ?_⟩
          have eitem : ((f : Nat) : Int) + ((s : Nat) : Int) * (0 + (i : Int)) = ((f + s * i : Nat) : Int) := by push_cast; rw [Int.zero_add]
          dsimp only
          rw [eitem]
          have hlt : (f + s * i) % ts.length < ts.length := Nat.mod_lt _ (by omega)
          obtain ⟨t, e1⟩ : ∃ t, ts[(f + s * i) % ts.length]? = some t := ⟨_, List.getElem?_eq_getElem hlt⟩
          obtain ⟨x, e2, hvx⟩ := ht _ t e1
          refine ⟨_, rfl, .inl ⟨rfl, _, SqL.of hl⟩, _, rfl, _, rfl, _, rfl, _, _, rfl, rfl, by omega, a, xs, _, x, rfl, rfl, Same.tle s1 a xs hs, atI_nat e2, ?_⟩
          refine ⟨_, rfl, _, rfl, _, _, rfl, rfl, ⟨by omega, by omega⟩, ?_⟩
          refine ⟨_, rfl, _, rfl, _, _, rfl, rfl, ⟨by omega, by omega⟩, ?_⟩
          have hsc : 1 ≤ s / Nat.gcd ts.length s := (Nat.le_div_iff_mul_le hc0).mpr (by rw [Nat.one_mul]; exact Nat.gcd_le_right _ hs1)
          have hlt2 : t.lev < n := by
            have := levs_get e1
            rw [lev_node] at hlev
            omega
          refine ⟨t, x, (f + s * i) / ts.length, s / Nat.gcd ts.length s, rfl, hvx.le (Same.tle s1), hlt2, hsc, fun y H2 s2 hy => ?_⟩
          have hl2 := s2 _ _ hl
          refine ⟨p, acc, y, rfl, rfl, hl2, Nat.lt_of_lt_of_le (by omega) size5, ?_⟩
          refine ⟨by omega, same_lst hp (s1.trans s2), acc ++ [y], _, _, rfl, upd_same, by simp [hal], fun j z e => ?_⟩
          rcases Nat.lt_or_ge j acc.length with q | q
          · rw [List.getElem?_append_left q] at e
            exact (hR j z e).le (TLe.trans (Same.tle s2) (tle_lst hl2))
          · rw [List.getElem?_append_right q] at e
            have ej : j = i := by
              have := (List.getElem?_eq_some_iff.mp e).1
              simp at this; omega
            subst ej
            rw [hal, Nat.sub_self] at e
            cases e
            rw [tkI_get e1]
            exact hy.le (tle_lst hl2)
        · rintro σ H1 ⟨_, s1, acc, v6, v7, rfl, hl, hal, hR⟩
          rw [hjN] at hal
          refine ⟨_, rfl, p, acc, rfl, .inl (SqL.of hl), rfl, _, rfl, ?_⟩
          refine ite2 (fun hc => ?_) fun hc => ?_
          · have h1 : acc.length = 1 := by
              have hc : ((acc.length : Nat) : Int) = 1 := by simpa using hc
              omega
            obtain ⟨y, rfl⟩ : ∃ y, acc = [y] := List.length_eq_one_iff.mp h1
            refine ⟨_, rfl, p, [y], 0, y, rfl, rfl, SqL.of hl, atI_nat (j := 0) rfl, ?_⟩
            refine k y H1 s1 ?_
            have h0 := hR 0 y rfl
            rw [taken_node, ← hal]
            exact h0
          · refine ⟨_, rfl, p, acc, rfl, .inl ⟨SqL.of hl, fun q hq => ?_⟩⟩
            refine k _ _ (s1.trans (Same.upd hq)) ?_
            have h1 : acc.length ≠ 1 := fun z => by
              apply hc
              show decide (V.int ((acc.length : Nat) : Int) = V.int 1) = true
              rw [z]; rfl
            rw [taken_node]
            have e : mkT ((List.range (ts.length / Nat.gcd ts.length s)).map (tkI ts f s)) = .node ((List.range (ts.length / Nat.gcd ts.length s)).map (tkI ts f s)) := by
              have hL : ((List.range (ts.length / Nat.gcd ts.length s)).map (tkI ts f s)).length ≠ 1 := by rw [List.length_map, List.length_range, ← hal]; exact h1
              revert hL
              generalize (List.range (ts.length / Nat.gcd ts.length s)).map (tkI ts f s) = L
              intro hL
              match L, hL with
              | [], _ => rfl
              | [t], h => exact absurd rfl h
              | _ :: _ :: _, _ => rfl
            rw [e]
            refine tv_node.mpr ⟨q, acc, rfl, SqT.of upd_same, .of_get (by rw [List.length_map, List.length_range, hal]) fun i t x e1 e2 => ?_⟩
            rw [List.getElem?_map, List.getElem?_range (by have := (List.getElem?_eq_some_iff.mp e2).1; omega)] at e1
            cases e1
            exact (hR i x e2).le (tle_new hq)
end
end Td
end

section
set_option maxHeartbeats 1000000
/-! TdStar: a, b, *rest = a tuple. -/
namespace Td
open PySem PySem.Spec PyProof.Rows PySem.W PySem.Calls L2
section
variable {prog : Program} {w : World} {A : Around} {E : Value → Shared → Prop} {s : Shared} {env : Env} {elts : List Expr} {k : Nat} {pos : Pos}
theorem star_end {l : Addr} {items : Array Value} {i : Nat} {Q : List Value → Shared → Prop} (hl : IsTup s.heap l items) (hh : A.handled = none) (hn : i ≤ items.size) (hz : items.size ≤ sizeLine)
    (h : ∀ (h₂ : Heap) tk, (∀ b o, s.heap.get? b = some o → h₂.get? b = some o) → Q (items.toList.take i ++ [.ref h₂.objs.size]) { s with heap := h₂.push { cls := .type "list", data := .seq (items.toList.drop i).toArray }, toks := tk }) :
    wpAny (model prog w) A (unpackItems (.ref l) (i + 1) (some i)) Q E s := by
  have hlt : l ≠ s.heap.objs.size := by obtain ⟨o, ho, _⟩ := hl; exact Nat.ne_of_lt (Heap.lt_size ho)
  unfold unpackItems
  refine wpAny_bind ?_
  unfold notIterableAtAll
  refine wpAny_bind (wpAny_specialOf hl.typeIs slot_tuple_iter.lookup ?_)
  refine wpAny_pure ?_
  simp only [Bool.false_eq_true, if_false]
  refine wpAny_bind (wpAny_holding (iter_tuple hl ?_))
  refine wpAny_bind (wpAny_holding (draw_tuple hlt i 0 _ _ ⟨_, Heap.get?_push_size _ rfl, rfl, rfl⟩ (hl.push _) (by omega) fun h₁ hit₁ hs₁ => ?_))
  have hl₁ : IsTup h₁ l items := (hl.push _).extBut hs₁.extBut hlt
  rw [Nat.zero_add] at hit₁
  have hit₁' := hit₁
  obtain ⟨oi, hoi, _⟩ := hit₁'
  have hl₁' := hl₁
  obtain ⟨ol, hol, _⟩ := hl₁'
  rw [List.drop_zero]
  have hfl : (items.toList.take i).length = i := by rw [List.length_take, Array.length_toList]; omega
  rw [if_neg (show ¬ ((items.toList.take i).length < i) by rw [hfl]; omega)]
  refine wpAny_bind (wpAny_holding (kun_collect (s := { s with heap := h₁ }) (T := "tuple_iterator") (.inr (.inr (.inr rfl))) (Walks.tuple (A := A.in1) hh s.heap.objs.size l hlt items) (fun j u st => st.1.typeIs) (k := i) (by omega) ⟨hit₁, hl₁⟩ (Heap.lt_size hoi) (Heap.lt_size hol) (fun h₂ tk hk => ?_) hz))
  have hrl : (items.toList.drop i).length = items.size - i := by rw [List.length_drop, Array.length_toList]
  show wpAny _ _ (if (items.toList.drop i).length < i + 1 - 1 - i then _ else _) _ _ _
  rw [if_neg (by omega)]
  show wpAny _ _ (newList ((items.toList.drop i).take ((items.toList.drop i).length - (i + 1 - 1 - i))) >>= fun d => pure (items.toList.take i ++ [d] ++ (items.toList.drop i).drop ((items.toList.drop i).length - (i + 1 - 1 - i)))) _ _ _
  have e0 : (items.toList.drop i).length - (i + 1 - 1 - i) = (items.toList.drop i).length := by omega
  rw [e0, List.take_length, List.drop_length]
  have he : ∀ b o, s.heap.get? b = some o → h₂.get? b = some o := fun b o e => hk b o (Nat.ne_of_lt (Heap.lt_size e)) (hs₁.extBut b o (Nat.ne_of_lt (Heap.lt_size e)) (Heap.get?_push_of_some _ e))
  refine wpAny_bind (wpAny_newList ?_ (by rw [hrl]; omega))
  refine wpAny_pure ?_
  rw [List.append_nil]
  exact h _ tk he
end
/-- (a, .., *rest) = a tuple that is long enough: the rest is a new list -/
def gStar (K : PySem.W.Frag) (i : Nat) (t : TGs) : TG := fun v σ H Q => ∃ a xs, v = .ref a ∧ SqT K H a xs ∧ i ≤ xs.length ∧ ∀ D, H D = none → t (xs.take i ++ [.ref D]) σ (upd H D (.lst (xs.drop i))) Q
section
variable {X : Cx}
theorem pgs_star {e : Expr} {es : List Expr} {sp : Pos} {t : TG} {u : TGs} (h1 : PG X e t) (h2 : PGs X es u)
    (hs : (assignEach (.Starred e sp :: es) X.env).map (·.2) = assign e X.env :: (assignEach es X.env).map (·.2) := by rfl) : PGs X (.Starred e sp :: es) (gCons t u) := by
  refine ⟨fun pins s σ H vs us Q I r h => ?_⟩
  obtain ⟨v, vr, e1, h⟩ := h
  subst e1
  cases r with
  | cons r rr =>
    rw [hs]
    refine assignInOrder_cons (thn (h1.run pins s σ H _ _ _ I r h) fun _ s1 ⟨σ1, H1, I1, q1⟩ => ?_)
    exact h2.run pins s1 σ1 H1 _ _ Q I1 rr q1
theorem pg_star {es : List Expr} {k : Nat} {t : TGs} {i : Nat} {pos : Pos} (hc : X.calm = true) (h : PGs X es t)
    (hn : (assignEach es X.env).length = i + 1 := by rfl) (hst : (assignEach es X.env).findIdx? (·.1) = some i := by rfl) : PG X (.Tuple es k pos) (gStar X.K i t) := by
  refine ⟨fun pins s σ H v u Q I r hw => ?_⟩
  obtain ⟨a, xs, e1, hq, hl, hw⟩ := hw
  subst e1
  cases r
  obtain ⟨its, rv, ht, hz⟩ := I.tuple hq
  have hlen := rv.length
  rw [assign_Tuple]
  refine wpAny_bind (wpAny_standAt ?_)
  unfold unpack
  rw [hn, hst]
  refine wpAny_bind (wpAny_holding (star_end ht (I.ok.hd hc) (by rw [List.size_toArray]; omega) (by rw [List.size_toArray]; omega) fun h₂ tk hk => ?_))
  have I1 : Inv X pins σ H { s with heap := h₂, toks := tk } := I.kept hk
  have hf : H h₂.objs.size = none := I1.hok.fresh (Nat.le_refl _)
  have I2 : Inv X pins σ (upd H h₂.objs.size (.lst (xs.drop i))) { s with heap := h₂.push { cls := .type "list", data := .seq (its.toArray.toList.drop i).toArray }, toks := tk } := by
    refine I1.laid (t' := tk) (fun b u e => Heap.get?_push_of_some _ e) (Nat.le_refl _) ?_
    exact ⟨by rw [List.length_drop]; omega, its.drop i, 0, rv.drop i, Heap.get?_push_size _ rfl⟩
  refine h.run pins _ σ _ _ _ Q I2 ?_ (hw _ hf)
  exact (rv.take i).append (.cons rfl .nil)
end
end Td
end

section
set_option maxHeartbeats 1000000
/-! TdPath: part_at, put_part. -/
namespace Td
open PySem PySem.Spec PyProof.Rows L2
/-- a path, as data -/
def pathD (p : List Nat) : PyData := .tuple (p.map fun n => .int (n : Nat))
abbrev PV (K : PySem.W.Frag) (H : Hp) (p : List Nat) (v : V) : Prop := D K H (pathD p) v
def T.part : T → List Nat → Option T
  | t, [] => some t
  | .leaf _, _ :: _ => none
  | .node ts, i :: p => match ts[i]? with
    | some u => u.part p
    | none => none
def T.put : T → List Nat → T → T
  | _, [], u => u
  | .leaf o, _ :: _, _ => .leaf o
  | .node ts, i :: p, u => match ts[i]? with
    | some c => .node (ts.set i (c.put p u))
    | none => .node ts
theorem ds_ints {K : PySem.W.Frag} {H : Hp} : ∀ {p : List Nat} {xs : List V}, Ds K H (p.map fun n => PyData.int (n : Nat)) xs → xs = p.map fun n => V.int (n : Nat)
  | [], xs, h => ds_nil_inv h
  | n :: p, xs, h => by
    obtain ⟨y, ys, rfl, h1, h2⟩ := ds_inv h
    rw [d_int_inv h1, ds_ints h2]; rfl
theorem ds_ints_of {K : PySem.W.Frag} {H : Hp} : ∀ {p : List Nat}, Ds K H (p.map fun n => PyData.int (n : Nat)) (p.map fun n => V.int (n : Nat))
  | [] => ds_nil
  | n :: p => ds_cons (d_int _) ds_ints_of
theorem pv_inv {K : PySem.W.Frag} {H : Hp} {p : List Nat} {v : V} (h : PV K H p v) : ∃ a, v = .ref a ∧ SqT K H a (p.map fun n => V.int (n : Nat)) := by
  obtain ⟨a, xs, rfl, hs, hd⟩ := d_tup_inv h
  rw [ds_ints hd] at hs
  exact ⟨a, rfl, hs⟩
theorem pv_of {K : PySem.W.Frag} {H : Hp} {p : List Nat} {a : Addr} (h : SqT K H a (p.map fun n => V.int (n : Nat))) : PV K H p (.ref a) := d_tup h ds_ints_of
theorem part_cons {t u : T} {i : Nat} {p : List Nat} (h : t.part (i :: p) = some u) : ∃ ts c, t = .node ts ∧ ts[i]? = some c ∧ c.part p = some u := by
  cases t with
  | leaf o => simp [T.part] at h
  | node ts =>
    rw [T.part] at h
    cases q : ts[i]? with
    | none => rw [q] at h; cases h
    | some c => rw [q] at h; exact ⟨ts, c, rfl, q, h⟩
theorem part_append {t : T} {p q : List Nat} : t.part (p ++ q) = (t.part p).bind fun u => u.part q := by
  induction p generalizing t with
  | nil => rw [T.part]; rfl
  | cons i p ih =>
    cases t with
    | leaf o => simp [T.part]
    | node ts =>
      rw [List.cons_append, T.part, T.part]
      cases ts[i]? with
      | none => rfl
      | some c => exact ih
section
variable {P : Program} {w : World} {K : PySem.W.Frag} {mg : Str → Option Value} {base : Heap}
theorem sc_part_at : FnScope ["tree", "path", "number"] ["tree", "path"] (defScope (topS 24)) := ⟨rfl, rfl, rfl, by decide +kernel, rfl, by decide +kernel, by decide +kernel⟩
def spPart (K : PySem.W.Frag) : Sp := fun vs H Q _ => ∃ (t u : T) (v pv : V) (p : List Nat), vs = [v, pv] ∧ TVn K H t v ∧ PV K H p pv ∧ t.part p = some u ∧ ∀ v', TVn K H u v' → Q v' H
theorem ok_part (T : Top K mg) : C8.Cal P w K mg base 1 "part_at" (spPart K) [] := by
  refine cal_of T.d_part_at sc_part_at (fun _ _ _ _ _ _ us hl => match us, hl with | [_, _], _ => rfl) (fun vs H Q E h => ?_) fun fa cdv A outer sh H vs Q E hr h => ?_
  · obtain ⟨t, u, v, pv, p, rfl, _⟩ := h; rfl
  · obtain ⟨t, u, v, pv, p, rfl, hv, hp, hpart, k⟩ := h
    obtain ⟨a, rfl, hs⟩ := pv_inv hp
    refine ⟨_, (pss_cons (ps_for PassesOwn.never rfl (pi_tup (pv 1)) (pg_name (i := 2) sc_part_at.nd rfl (by first | exact Or.inl rfl | exact Or.inr rfl)) (pss_cons (ps_if (PW.pt (pw_or (pt_val (pe_callB call_isi (by rfl) T.n_isinstance (by decide +kernel) (pa_cons (pv 0) (pa_cons (pe_bltn (v := .ty "str") (u := .type "str") (by rfl) T.n_str (by decide +kernel) rfl) pa_nil)))) (pw_or1 (pt_not (pt_chain op_le op_lt pe_int (pv 2) (pe_callB call_len_seq (by rfl) T.n_len (by decide +kernel) (pa_cons (pv 0) pa_nil))))))) (pss_one (ps_ret pe_non)) pss_nil)
      (pss_one (ps_set (i := 0) sc_part_at.nd rfl (by first | exact Or.inl rfl | exact Or.inr rfl) (pe_ix ix_tup (pv 0) (pv 2) (fun _ _ => rfl))))))
      (pss_one (ps_ret (pv 0)))), ?_⟩
    refine ⟨_, rfl, a, rfl, ⟨_, hs⟩, ?_⟩
    refine for_tup (fun i σ H' => H' = H ∧ ∃ (u' : Td.T) (v' : V) (x : Option V), σ = [some v', some (.ref a), x] ∧ TVn K H u' v' ∧ u'.part (p.drop i) = some u) ⟨rfl, t, v, none, rfl, hv, hpart⟩ (fun i σ H' _ h => h.1 ▸ hs) ?_ ?_
    · rintro i x σ H' hi ⟨rfl, u', v', x0, rfl, hv', hpt⟩
      rw [List.getElem?_map] at hi
      cases q : p[i]? with
      | none => rw [q] at hi; cases hi
      | some n =>
        rw [q] at hi; cases hi
        have hil := (List.getElem?_eq_some_iff.mp q).1
        have hd : p.drop i = n :: p.drop (i + 1) := by
          rw [List.drop_eq_getElem_cons hil, (List.getElem?_eq_some_iff.mp q).2]
        rw [hd] at hpt
        obtain ⟨ts, c, rfl, hc, hpc⟩ := part_cons hpt
        obtain ⟨b, xs, rfl, hsb, hlen, hbig, h2, hx, ht⟩ := hv'.node
        obtain ⟨y, hy, hvy⟩ := ht n c hc
        have hn : n < xs.length := (List.getElem?_eq_some_iff.mp hy).1
        refine ⟨_, rfl, _, _, _, _, false, rfl, .ty "str", hv'.tyTup, kit_ty (by decide +kernel), _, rfl, iteF ?_⟩
        refine ⟨_, rfl, _, _, rfl, rfl, _, rfl, ?_⟩
        refine ite2 (fun hc1 => ?_) fun hc1 => ?_
        · refine ⟨_, rfl, b, xs, rfl, .inr hsb, _, _, rfl, rfl, _, rfl, ?_⟩
          dsimp only
          rw [decide_eq_true (show (n : Int) < ((xs.length : Nat) : Int) from by omega)]
          refine iteF ?_
          refine ⟨_, rfl, _, rfl, b, xs, _, y, rfl, rfl, hsb, atI_nat hy, ?_⟩
          exact ⟨rfl, c, y, _, rfl, hvy, hpc⟩
        · exfalso; apply hc1; simp
    · rintro σ H' ⟨rfl, u', v', x0, rfl, hv', hpt⟩
      rw [List.length_map, List.drop_length, T.part] at hpt
      cases hpt
      exact ⟨_, rfl, k _ hv'⟩
theorem sc_put_part : FnScope ["tree", "path", "node", "first", "rest", "inner", "number", "outlet"] ["tree", "path", "node"] (defScope (topS 28)) := ⟨rfl, rfl, rfl, by decide +kernel, rfl, by decide +kernel, by decide +kernel⟩
def spPut (K : PySem.W.Frag) (n : Nat) : Sp := fun vs H Q _ => ∃ (t c u : Td.T) (v pv nv : V) (p : List Nat), vs = [v, pv, nv] ∧ TVn K H t v ∧ PV K H p pv ∧ TV K H u nv ∧ t.part p = some c ∧ p.length < n ∧ p.length ≤ 60 ∧ ∀ v' H', Same H H' → TV K H' (t.put p u) v' → Q v' H'
theorem path_shaped (p : List Nat) : SeqAt.shaped (pathD p) = true := by
  unfold SeqAt.shaped pathD
  have : ∀ p : List Nat, (PyData.canLay0 (.tuple (p.map fun n => .int (n : Nat))) = true) ∧ (PyData.tuple (p.map fun n => .int (n : Nat))).depth ≤ 64 := by
    intro p
    induction p with
    | nil => exact ⟨by decide, by decide⟩
    | cons n p ih =>
      simp only [List.map_cons, PyData.canLay0, PyData.canLayAll0, PyData.depth, PyData.depthAll, Bool.true_and] at ih ⊢
      exact ⟨ih.1, by omega⟩
  rw [(this p).1, decide_eq_true (this p).2]
  rfl
theorem path_eqv (p : List Nat) : PyData.eqv (pathD p) (.tuple []) = decide (p = []) := by
  cases p with
  | nil => simp [pathD, PyData.eqv, PyData.eqvAll]
  | cons n p => simp [pathD, PyData.eqv, PyData.eqvAll]
theorem ok_put (T : Top K mg) : ∀ n, C8.Cal P w K mg base (n + 1) "put_part" (spPut K n) []
  | 0 => by
    refine cal_of T.d_put_part sc_put_part (fun _ _ _ _ _ _ us hl => match us, hl with | [_, _, _], _ => rfl) (fun vs H Q E h => ?_) fun f cdv A outer s H vs Q E hr h => ?_
    · obtain ⟨t, c, u, v, pv, nv, p, rfl, _⟩ := h; rfl
    · obtain ⟨t, c, u, v, pv, nv, p, rfl, _, _, _, _, hl, _⟩ := h; omega
  | n + 1 => by
    have c_put_part : C8.Cal P w K mg base (n + 1) "put_part" (spPut K n) [] := ok_put T n
    refine cal_of T.d_put_part sc_put_part (fun _ _ _ _ _ _ us hl => match us, hl with | [_, _, _], _ => rfl) (fun vs H Q E h => ?_) fun fa cdv A outer sh H vs Q E hr h => ?_
    · obtain ⟨t, c, u, v, pv, nv, p, rfl, _⟩ := h; rfl
    · obtain ⟨t, c, u, v, pv, nv, p, rfl, hv, hp, hu, hpart, hpn, hp60, k⟩ := h
      obtain ⟨a, rfl, hs⟩ := pv_inv hp
      refine ⟨_, (pss_cons (ps_if (pt_cmpR (op_eqD hr.units) (pv 1) (pe_tup pa_nil) (nomark _)) (pss_one (ps_ret (pv 2))) pss_nil)
      (pss_cons (ps_asg (pv 1) (pg_star (i := 1) (by rfl) (pgs_cons (pg_name (i := 3) sc_put_part.nd rfl (by first | exact Or.inl rfl | exact Or.inr rfl)) (pgs_star (pg_name (i := 4) sc_put_part.nd rfl (by first | exact Or.inl rfl | exact Or.inr rfl)) pgs_nil))))
      (pss_cons (ps_set (i := 5) sc_put_part.nd rfl (by first | exact Or.inl rfl | exact Or.inr rfl) (C8.pe_c c_put_part hr (by omega) rfl (pa_cons (pe_ix ix_tup (pv 0) (pv 3) (fun _ _ => rfl)) (pa_cons (pe_callTy call_tuple_of (by rfl) T.n_tuple (by decide +kernel) (pa_cons (pv 4) pa_nil)) (pa_cons (pv 2) pa_nil)))))
      (pss_one (ps_ret (pe_callTy call_tuple_of (by rfl) T.n_tuple (by decide +kernel) (pa_cons (pe_lc (own := [("number", 6), ("outlet", 7)]) (g := (gTup K 2 (gCons (gName 6) (gCons (gName 7) gNil)))) (by rfl) sc_put_part.nd (pi_enumT (by rfl) T.n_enumerate (pa_cons (pv 0) pa_nil)) (blkOk_by (own := [("number", 6), ("outlet", 7)]) (N := ["tree", "path", "node", "first", "rest", "inner", "number", "outlet"]) (sc := defScope (topS 28)) (by decide +kernel)) (fun _ _ _ _ _ => (pg_tup (by rfl) (pgs_cons (pg_name (i := 6) sc_put_part.nd rfl (by first | exact Or.inl rfl | exact Or.inr rfl)) (pgs_cons (pg_name (i := 7) sc_put_part.nd rfl (by first | exact Or.inl rfl | exact Or.inr rfl)) pgs_nil)))) (fun _ _ _ _ _ => pts_nil) (fun _ _ _ _ _ => (pe_ifExp (pt_cmpR op_eq (pv 6) (pv 3) (nomark _)) (pv 5) (pv 7)))) pa_nil))))))), ?_⟩
      refine ⟨_, rfl, Nat.zero_le _, fun q hq => ?_⟩
      have s1 : Same H (upd H q (.tup [])) := Same.upd hq
      refine ⟨pathD p, .tuple [], (D.le (Same.tle s1) _ _ hp).dp, .tup (SqT.of upd_same) .nil, path_shaped p, by decide, _, rfl, ?_⟩
      rw [path_eqv]
      refine ite2 (fun hc => ?_) fun hc => ?_
      · have hp0 : p = [] := by simpa using hc
        subst hp0
        refine ⟨_, rfl, k _ _ s1 ?_⟩
        rw [T.put]
        exact hu.le (Same.tle s1)
      · cases p with
        | nil => exact absurd rfl (show ¬ (([] : List Nat) = []) from fun _ => hc (by simp))
        | cons i p =>
          obtain ⟨ts, c', rfl, hc', hpc⟩ := part_cons hpart
          have hv1 := hv.le (Same.tle s1)
          obtain ⟨b, xs, rfl, hsb, hlen, hbig, h2, hx, ht⟩ := hv1.node
          obtain ⟨y, hy, hvy⟩ := ht i c' hc'
          refine ⟨_, rfl, a, _, rfl, Same.tle s1 _ _ hs, by simp, fun D1 hD1 => ⟨_, _, rfl, _, _, rfl, rfl, ?_⟩⟩
          have s2 : Same (upd H q (.tup [])) (upd (upd H q (.tup [])) D1 (.lst (List.drop 1 ((i :: p).map fun n => V.int (n : Nat))))) := Same.upd hD1
          refine ⟨_, rfl, _, rfl, b, xs, _, y, rfl, rfl, Same.tle s2 _ _ hsb, atI_nat hy, ?_⟩
          refine ⟨_, rfl, D1, _, rfl, .inl ⟨SqL.of upd_same, fun l hl => ?_⟩⟩
          have s3 := Same.upd (H := upd (upd H q (.tup [])) D1 (.lst (List.drop 1 ((i :: p).map fun n => V.int (n : Nat))))) (o := .tup (List.drop 1 ((i :: p).map fun n => V.int (n : Nat)))) hl
          have s13 := s1.trans (s2.trans s3)
          refine ⟨_, rfl, c', c, u, y, .ref l, nv, p, rfl, hvy.le (Same.tle (s2.trans s3)), pv_of (SqT.of upd_same), hu.le (Same.tle s13), hpc, by simp at hpn; omega, by simp at hp60; omega, fun v' H4 s4 tv => ?_⟩
          have s14 := s13.trans s4
          refine ⟨_, rfl, b, xs, rfl, Same.tle ((s2.trans s3).trans s4) _ _ hsb, fun D2 hD2 => ?_⟩
          have hsb4 : SqT K H4 b xs := Same.tle ((s2.trans s3).trans s4) _ _ hsb
          refine lc_pure (K := K) walk_enumT hD2 (Nat.le_trans (by omega) size5) (fun H' s => Same.tle s b xs hsb4) (fun j H x H' e => ?_)
            (fun j v H => ∃ t', (ts.set i (c'.put p u))[j]? = some t' ∧ TV K H t' v) (fun j v H H' l ⟨t', e, h⟩ => ⟨t', e, h.le l⟩) (fun j x H5 H6 k' hj s5 hY hk => ?_) fun ys H' s5 hl5 hyl hR => ?_
          · obtain ⟨T0, x1, y1, _, e1, e2, _⟩ := e
            rw [e2]; exact Same.upd e1
          · obtain ⟨T0, x1, y1, rfl, e1, rfl, e3, e4⟩ := hY
            cases e3
            obtain ⟨tj, ej, hvj⟩ := hx j y1 e4
            have s6 : Same H4 (upd H5 T0 (.tup [.int (j : Nat), y1])) := s5.trans (Same.upd e1)
            refine ⟨T0, _, rfl, SqT.of upd_same, rfl, _, _, rfl, _, _, rfl, rfl, rfl, ?_⟩
            refine ⟨_, rfl, _, rfl, rfl, _, rfl, ?_⟩
            refine ite2 (fun he => ?_) fun he => ?_
            · have he : j = i := by
                have : (j : Int) = (i : Int) := by simpa using he
                omega
              subst he
              refine ⟨_, rfl, hk _ _ (.refl _) ⟨_, List.getElem?_set_self (by have := (List.getElem?_eq_some_iff.mp hc').1; omega), tv.le (Same.tle s6)⟩⟩
            · have he : j ≠ i := fun z => he (by subst z; simp)
              refine ⟨_, rfl, hk _ _ (.refl _) ⟨tj, by rw [List.getElem?_set_ne (Ne.symm he)]; exact ej, ?_⟩⟩
              exact (hvj.tv.le (Same.tle ((s2.trans s3).trans s4))).le (Same.tle s6)
          · refine ⟨D2, ys, rfl, .inl ⟨SqL.of hl5, fun l2 hl2 => ?_⟩⟩
            refine k _ _ (s14.trans (s5.trans (Same.upd hl2))) ?_
            rw [T.put, hc']
            refine tv_node.mpr ⟨l2, ys, rfl, SqT.of upd_same, .of_get (by rw [List.length_set]; omega) fun j t x e1 e2 => ?_⟩
            obtain ⟨t', e3, h⟩ := hR j x e2
            rw [e1] at e3
            cases e3
            exact h.le (tle_new hl2)
end
end Td
end

section
set_option maxHeartbeats 1000000
/-! TdStep: t[lo::step] of a tuple. -/
namespace Td
open PySem PySem.Spec PyProof.Rows HT L2
theorem vals_filterMap {xs : List V} {its : List Value} (r : Vals xs its) : ∀ is : List Nat, Vals (is.filterMap fun i => xs[i]?) (is.filterMap fun i => its[i]?)
  | [] => .nil
  | i :: is => by
    cases q : xs[i]? with
    | none =>
      have q2 := r.none_of q
      rw [List.filterMap_cons, List.filterMap_cons, q, q2]
      exact vals_filterMap r is
    | some x =>
      obtain ⟨u, q2, ru⟩ := r.get q
      rw [List.filterMap_cons, List.filterMap_cons, q, q2]
      exact .cons ru (vals_filterMap r is)
section
variable {prog : Program} {w : World} {A : Around} {E : Value → Shared → Prop} {s : Shared}
theorem getItem_tuple_step {t sl : Addr} {items : Array Value} {lo st c : Nat} {tl tu : Tok} {Q : Value → Shared → Prop} (ht : IsTup s.heap t items) (hs : s.heap.IsSliceOf sl (.int lo tl) .none (.int st tu)) (h2 : 2 ≤ st) (hlo : lo < st) (hn : items.size = c * st) (hc : 1 ≤ c)
    (h : Q (.ref s.heap.objs.size) { s with heap := s.heap.push { cls := .type "tuple", data := .seq (((List.range c).map fun m => lo + m * st).filterMap fun i => items.toList[i]?).toArray } })
    (hsz : items.size ≤ sizeLine) : wpAny (model prog w) A (getItem (.ref t) (.ref sl)) Q E s := by
  have hcn : c ≤ items.size := by rw [hn]; exact Nat.le_mul_of_pos_right c (by omega)
  have htake : sizeOk (.seq (((List.range c).map fun m => lo + m * st).filterMap fun i => items.toList[i]?).toArray) := by
    show ((((List.range c).map fun m => lo + m * st).filterMap fun i => items.toList[i]?)).toArray.size ≤ sizeLine
    rw [List.size_toArray]
    refine Nat.le_trans (List.length_filterMap_le _ _) ?_
    rw [List.length_map, List.length_range]
    omega
  obtain ⟨os, hos, hcs, hds⟩ := id hs
  have hTs : s.TypeIs (.ref sl) "slice" := ⟨os, hos, hcs⟩
  unfold getItem
  try with_reducible refine wpAny_holding ?_
  first | refine wpAny_bind (wpAny_pure ?_) | skip
  refine wpAny_bind (wpAny_sequenceKey ht.typeIs (by decide) ?_)
  refine wpAny_bind (wpAny_callSpecial?_slot (name := Str.ofString "__getitem__") ht.typeIs PyProof.Rows.slot_tuple_getitem
    (wpAny_call_entry PyProof.Rows.slot_tuple_getitem ht.typeIs entry_tuple_getitem ?_ (args_tuple_getitem _ _)))
  show wpAny _ _ (Builtin.Tuple.tupleItemsOf (.ref t) >>= _) _ _ s
  refine wpAny_bind (tupleItemsOf_ ht ?_)
  refine wpAny_bind (wpAny_typeOf hTs ?_)
  rw [if_pos (by decide)]
  have adj : Builtin.Slice.sliceAdjust (some (lo : Int)) none (st : Int) (items.size : Int) = ((lo : Int), (items.size : Int)) := by
    have h1 : ¬ ((st : Int) < 0) := by omega
    have h3 : ¬ ((lo : Int) < 0) := by omega
    unfold Builtin.Slice.sliceAdjust
    simp only [h1, h3, if_false]
    refine Prod.ext ?_ rfl
    show min (lo : Int) (items.size : Int) = lo
    have : lo ≤ items.size := by
      have : 1 * st ≤ c * st := Nat.mul_le_mul_right _ hc
      omega
    omega
  have plc : Builtin.Slice.slicePlaces (lo : Int) (items.size : Int) (st : Int) = c := by
    unfold Builtin.Slice.slicePlaces
    have h1 : (st : Int) > 0 := by omega
    have hst : 1 * st ≤ c * st := Nat.mul_le_mul_right _ hc
    have h3 : (lo : Int) < (items.size : Int) := by omega
    simp only [h1, h3, if_true]
    have e : ((items.size : Int) - lo - 1) = (((st - 1 - lo) + (c - 1) * st : Nat) : Int) := by
      rw [hn]
      obtain ⟨c', rfl⟩ : ∃ c', c = c' + 1 := ⟨c - 1, by omega⟩
      rw [Nat.add_sub_cancel, Nat.succ_mul]
      push_cast
      omega
    rw [e]
    have e2 : ((((st - 1 - lo) + (c - 1) * st : Nat) : Int) / (st : Int)) = (((st - 1 - lo) + (c - 1) * st) / st : Nat) := rfl
    rw [e2, Nat.add_mul_div_right _ _ (by omega), Nat.div_eq_of_lt (by omega)]
    omega
  refine wpAny_bind ?_
  unfold Builtin.Slice.sliceApplied Builtin.Slice.sliceFields
  refine wpAny_bind (wpAny_bind (wpAny_field hos hds (x := .int lo tl) rfl (wpAny_bind (wpAny_field hos hds (x := .none) rfl (wpAny_bind (wpAny_field hos hds (x := .int st tu) rfl (wpAny_pure ?_)))))))
  refine wpAny_bind (slicePart_int ?_)
  show wpAny _ _ (if ((st : Int) == 0) = true then _ else _) _ _ s
  rw [if_neg (by simp; omega)]
  refine wpAny_bind (slicePart_int (wpAny_bind (slicePart_none (wpAny_bind (wpAny_pure ?_)))))
  show wpAny _ _ (match Builtin.Slice.sliceAdjust (some (lo : Int)) none (st : Int) (items.size : Int) with | (lo, hi) => pure (lo, (st : Int), Builtin.Slice.slicePlaces lo hi (st : Int))) _ _ s
  rw [adj]
  show wpAny _ _ (pure ((lo : Int), (st : Int), Builtin.Slice.slicePlaces (lo : Int) (items.size : Int) (st : Int))) _ _ s
  rw [plc]
  refine wpAny_pure ?_
  have hno : ¬ (((lo : Int) == 0 && (st : Int) == 1 && c == items.size) = true) := by
    intro q
    rw [Bool.and_eq_true, Bool.and_eq_true] at q
    have q1 : (st : Int) = 1 := eq_of_beq q.1.2
    omega
  show wpAny _ _ (if ((lo : Int) == 0 && (st : Int) == 1 && c == items.size) = true then _ else _) _ _ s
  rw [if_neg hno]
  have pick : ((List.range c).filterMap fun (m : Nat) => items[((lo : Int) + (m : Int) * (st : Int)).toNat]?).toArray = (((List.range c).map fun m => lo + m * st).filterMap fun i => items.toList[i]?).toArray := by
    rw [List.filterMap_map]
    congr 2
    funext m
    have : ((lo : Int) + (m : Int) * (st : Int)).toNat = lo + m * st := by
      have : ((lo : Int) + (m : Int) * (st : Int)) = ((lo + m * st : Nat) : Int) := by push_cast; rfl
      rw [this, Int.toNat_natCast]
    rw [this]
    simp
  rw [pick]
  first
    | exact wpAny_bind (m := Builtin.Tuple.tupleExact _) (wpAny_newObj_type (wpAny_pure ⟨_, rfl, wpAny_pure h⟩) htake)
    | exact wpAny_bind (m := Builtin.Tuple.tupleExact _) (wpAny_newObj_type (wpAny_bind (wpAny_pure (wpAny_pure ⟨_, rfl, wpAny_pure h⟩))) htake)
    | exact wpAny_bind (wpAny_bind (m := Builtin.Tuple.tupleExact _) (wpAny_newObj_type (wpAny_pure (wpAny_pure ⟨_, rfl, wpAny_pure h⟩)) htake))
    | exact wpAny_bind (wpAny_bind (m := Builtin.Tuple.tupleExact _) (wpAny_newObj_type (wpAny_pure ⟨_, rfl, wpAny_pure h⟩) htake))
end
/-- t[lo::st], st a divisor of the length from 2 on, lo below st -/
def stepV (xs : List V) (lo st c : Nat) : List V := ((List.range c).map fun m => lo + m * st).filterMap fun i => xs[i]?
def tStepT (K : PySem.W.Frag) (te tl ts : TE) : TE := fun σ H Q => te σ H fun x H1 => tl σ H1 fun y H2 => ts σ H2 fun z H3 => ∃ (a : Addr) (xs : List V) (lo st c : Nat), x = .ref a ∧ y = .int lo ∧ z = .int st ∧ SqT K H3 a xs ∧ 2 ≤ st ∧ lo < st ∧ xs.length = c * st ∧ 1 ≤ c ∧
  ∀ p, H3 p = none → Q (.ref p) (upd H3 p (.tup (stepV xs lo st c)))
section
variable {X : Cx} {e el es : Expr} {te tl ts : TE} {p3 pos : Pos}
theorem pe_stepT (he : PE X e te) (hl : PE X el tl) (hs : PE X es ts) : PE X (.Subscript e (.Slice (some el) none (some es) p3) pos) (tStepT X.K te tl ts) := by
  refine ⟨fun pins s σ H Q I h => ?_⟩
  refine Subscript_ (thn (he.run pins s σ H _ I h) fun v s1 ⟨x, H1, I1, r1, q1⟩ => ?_)
  refine wpAny_Slice ?_
  rw [evalPart_some]
  refine thn (hl.run pins s1 σ H1 _ I1 q1) fun vl s2 ⟨y, H2, I2, r2, q2⟩ => ?_
  rw [evalPart_none]
  refine wpAny_pure ?_
  rw [evalPart_some]
  refine thn (hs.run pins s2 σ H2 _ I2 q2) fun vst s3 ⟨z, H3, I3, r3, a, xs, lo, st, c, ex, ey, ez, hx, h2, hlo, hlen, hc, q⟩ => ?_
  subst ex ey ez
  cases r1
  obtain ⟨tl, rfl⟩ := r2
  obtain ⟨tu, rfl⟩ := r3
  have I4 : Inv X pins σ H3 { s3 with heap := s3.heap.push { cls := .type "slice", data := .fields #[.int lo tl, .none, .int st tu] } } := I3.kept (t' := s3.toks) fun b ob q => Heap.get?_push_of_some _ q
  obtain ⟨its, r, ht, hz⟩ := I4.tuple hx
  have hl := r.length
  show wpAny (model X.prog X.w) X.A (subscriptTail e (.Slice (some el) none (some es) p3) (.ref a) (.ref s3.heap.objs.size)) (EP X pins σ Q) X.xe { s3 with heap := s3.heap.push { cls := .type "slice", data := .fields #[.int lo tl, .none, .int st tu] } }
  refine tail_any (ops := [.ref a, .ref s3.heap.objs.size]) ht.typeIs PyProof.Rows.slot_tuple_getitem.lookup ?_ (by with_unfolding_all rfl)
  refine getItem_tuple_step ht (Heap.IsSliceOf.new ..) h2 hlo (by rw [List.size_toArray, ← hl]; exact hlen) hc ?_ (by rw [List.size_toArray, ← hl]; exact hz)
  refine ⟨.ref _, _, I4.laid (t' := s3.toks) (o := .tup (stepV xs lo st c)) (fun b ob q => Heap.get?_push_of_some _ q) (Nat.le_refl _) ?_, rfl, q _ (I4.hok.fresh (Nat.le_refl _))⟩
  refine ⟨?_, _, vals_filterMap r _, IsTup.new _ _⟩
  refine Nat.le_trans (List.length_filterMap_le _ _) ?_
  rw [List.length_map, List.length_range]
  have : c ≤ c * st := Nat.le_mul_of_pos_right c (by omega)
  omega
end
end Td
end

section
set_option maxHeartbeats 1000000
/-! TdLc2: [e for a in range(n1) for b in range(n2)] whose items only add to the heap. -/
namespace Td
open PySem PySem.Spec PyProof.Rows L2
theorem lc2_range {K : PySem.W.Frag} {n1 n2 ga gb : Nat} {wi1 : TI} {te : TE} {vs vs1 : List Nat} {σ : L2.St} {H1 : Hp} {D : Addr} {Qd : Hp → Prop} (hD : H1 D = none) (hn : n1 * n2 ≤ sizeLine)
    (R : Nat → V → Hp → Prop) (hR : ∀ i v H H', TLe K H H' → R i v H → R i v H')
    (hwp : ∀ x : V, wipe ((wipe σ vs).set ga (some x)) vs = wipe σ vs)
    (hw1 : ∀ (i : Nat) H (F : It → Hp → Prop), i < n1 → Same H1 H → F (Itr 0 n2) H → wi1 ((wipe σ vs).set ga (some (.int (0 + (i : Int))))) H F)
    (hwp1 : ∀ x y : V, wipe ((wipe ((wipe σ vs).set ga (some x)) vs1).set gb (some y)) vs1 = wipe ((wipe σ vs).set ga (some x)) vs1)
    (hs : ∀ (i j : Nat) H (k : V → Hp → Prop), i < n1 → j < n2 → Same H1 H → (∀ y H'', Same H H'' → R (i * n2 + j) y H'' → k y H'') → te ((wipe ((wipe σ vs).set ga (some (.int (0 + (i : Int))))) vs1).set gb (some (.int (0 + (j : Int))))) H k)
    (hd : ∀ ys H, Same H1 H → H D = some (.lst ys) → ys.length = n1 * n2 → (∀ (j : Nat) y, ys[j]? = some y → R j y H) → Qd H) :
    ∃ W : Nat → Nat → Hp → Prop, (∃ m, W 0 m (upd H1 D (.lst []))) ∧ ∀ i m H, W i m H →
      ((Itr 0 n1).stop i H ∧ Qd H) ∨ ((Itr 0 n1).go i H ∧ ∃ Nx : Hp → Prop, (∀ H', Nx H' → ∃ m', m' < m ∧ W (i + 1) m' H') ∧ ∀ x H', (Itr 0 n1).yld i H x H' → gName ga x (wipe σ vs) H' fun σ2 H2 => wipe σ2 vs = wipe σ vs ∧ tYes σ2 H2 fun b H3 =>
        if b = true then wi1 σ2 H3 fun J1 H4 => ∃ W1 : Nat → Nat → Hp → Prop, (∃ m, W1 0 m H4) ∧ ∀ j k H, W1 j k H →
          (J1.stop j H ∧ Nx H) ∨ (J1.go j H ∧ ∃ Nx1 : Hp → Prop, (∀ H', Nx1 H' → ∃ k', k' < k ∧ W1 (j + 1) k' H') ∧ ∀ x H', J1.yld j H x H' → gName gb x (wipe σ2 vs1) H' fun σ3 H5 => wipe σ3 vs1 = wipe σ2 vs1 ∧ tYes σ3 H5 fun b H6 =>
            if b = true then te σ3 H6 fun y H7 => ∃ acc, H7 D = some (.lst acc) ∧ acc.length < sizeLine ∧ Nx1 (upd H7 D (.lst (acc ++ [y]))) else Nx1 H6)
        else Nx H3) := by
  let Pv : Nat → Hp → Prop := fun m H => Same H1 H ∧ ∃ acc, H D = some (.lst acc) ∧ acc.length = m ∧ ∀ (j : Nat) y, acc[j]? = some y → R j y H
  refine ⟨fun i m H => m = n1 - i ∧ i ≤ n1 ∧ Pv (i * n2) H, ⟨n1, by simp, Nat.zero_le _, Same.upd hD, [], upd_same, by simp, fun j y e => by simp at e⟩, ?_⟩
  rintro i m H ⟨rfl, hi, s, acc0, h1, h2, h3⟩
  by_cases hlt : i < n1
  · refine .inr ⟨hlt, Pv ((i + 1) * n2), fun H' p => ⟨n1 - (i + 1), by omega, rfl, hlt, p⟩, fun x H' hy => ?_⟩
    obtain ⟨rfl, rfl⟩ := hy
    refine ⟨hwp _, ?_⟩
    refine hw1 i _ _ hlt s ?_
    refine ⟨fun j m H => m = n2 - j ∧ j ≤ n2 ∧ Pv (i * n2 + j) H, ⟨n2, by simp, Nat.zero_le _, s, acc0, h1, by simpa using h2, h3⟩, ?_⟩
    rintro j m H ⟨rfl, hj, s, acc, h1, h2, h3⟩
    by_cases hjt : j < n2
    · refine .inr ⟨hjt, Pv (i * n2 + (j + 1)), fun H' p => ⟨n2 - (j + 1), by omega, rfl, hjt, p⟩, fun x H' hy => ?_⟩
      obtain ⟨rfl, rfl⟩ := hy
      refine ⟨hwp1 _ _, ?_⟩
      refine hs i j _ _ hlt hjt s fun y H'' s2 r => ?_
      have hD2 : H'' D = some (.lst acc) := s2 _ _ h1
      have hb : i * n2 + j < n1 * n2 := by
        have : (i + 1) * n2 ≤ n1 * n2 := Nat.mul_le_mul_right _ hlt
        rw [Nat.succ_mul] at this
        omega
      refine ⟨acc, hD2, by omega, same_lst hD (s.trans s2), acc ++ [y], upd_same, by simp [h2]; omega, fun l z e => ?_⟩
      rcases Nat.lt_or_ge l acc.length with q | q
      · rw [List.getElem?_append_left q] at e
        exact hR _ _ _ _ (tle_lst hD2) (hR _ _ _ _ (Same.tle s2) (h3 l z e))
      · have el : l = acc.length := by
          have := (List.getElem?_eq_some_iff.mp e).1
          simp at this; omega
        subst el
        rw [List.getElem?_append_right (Nat.le_refl _), Nat.sub_self] at e
        cases e
        rw [h2]
        exact hR _ _ _ _ (tle_lst hD2) r
    · have ej : j = n2 := by omega
      subst ej
      refine .inl ⟨Nat.le_refl _, s, acc, h1, ?_, h3⟩
      rw [h2, Nat.succ_mul]
  · have ei : i = n1 := by omega
    subst ei
    exact .inl ⟨Nat.le_refl _, hd acc0 H s h1 h2 h3⟩
end Td
end

section
set_option maxHeartbeats 1000000
/-! TdFlat: unflattened, flattened. -/
namespace Td
open PySem PySem.Spec PyProof.Rows L2
/-- every q-th of them, from r on -/
def pickT {α : Type} (ts : List α) (r q c : Nat) : List α := ((List.range c).map fun m => r + m * q).filterMap fun i => ts[i]?
def unflatT (ts : List T) (q c : Nat) : List T := (List.range q).map fun r => .node (pickT ts r q c)
theorem pick_tvs {K : PySem.W.Frag} {H : Hp} {ts : List T} {xs : List V} (h : TVs K H ts xs) : ∀ is : List Nat, TVs K H (is.filterMap fun i => ts[i]?) (is.filterMap fun i => xs[i]?)
  | [] => ds_nil
  | i :: is => by
    cases q : xs[i]? with
    | none =>
      have q2 : ts[i]? = none := List.getElem?_eq_none (by rw [← h.length]; exact List.getElem?_eq_none_iff.mp q)
      rw [List.filterMap_cons, List.filterMap_cons, q, q2]
      exact pick_tvs h is
    | some x =>
      obtain ⟨t, q2, ht⟩ := h.get q
      rw [List.filterMap_cons, List.filterMap_cons, q, q2]
      exact ds_cons ht (pick_tvs h is)
section
variable {P : Program} {w : World} {K : PySem.W.Frag} {mg : Str → Option Value} {base : Heap}
theorem sc_unflattened : FnScope ["node", "count", "number"] ["node", "count"] (defScope (topS 26)) := ⟨rfl, rfl, rfl, by decide +kernel, rfl, by decide +kernel, by decide +kernel⟩
def spUnflat (K : PySem.W.Frag) : Sp := fun vs H Q _ => ∃ (ts : List T) (v : V) (q c : Nat), vs = [v, .int q] ∧ TVn K H (.node ts) v ∧ 2 ≤ q ∧ 2 ≤ c ∧ ts.length = c * q ∧ ∀ v' H', Same H H' → TV K H' (.node (unflatT ts q c)) v' → Q v' H'
theorem ok_unflat (T : Top K mg) : C8.Cal P w K mg base 1 "unflattened" (spUnflat K) [] := by
  refine cal_of T.d_unflattened sc_unflattened (fun _ _ _ _ _ _ us hl => match us, hl with | [_, _], _ => rfl) (fun vs H Q E h => ?_) fun f cdv A outer s H vs Q E hr h => ?_
  · obtain ⟨ts, v, q, c, rfl, _⟩ := h; rfl
  · obtain ⟨ts, v, q, c, rfl, hv, hq, hc, hlen, k⟩ := h
    obtain ⟨a, xs, rfl, hs, hvs⟩ := tv_node.mp hv.tv
    have hxl := hvs.length
    have hbig : ts.length ≤ 100000 := by obtain ⟨_, _, _, _, _, hbig, _⟩ := hv.node; exact hbig
    refine ⟨_, (pss_cons (ps_if (PW.pt (pw_or (pt_cmpR op_lt (pv 1) pe_int (nomark _)) (pw_or (pt_cmpR op_ne (pe_op op_mod (pe_callB call_len_seq (by rfl) T.n_len (by decide +kernel) (pa_cons (pv 0) pa_nil)) (pv 1)) pe_int (nomark _)) (pw_or1 (pt_cmpR op_eq (pe_callB call_len_seq (by rfl) T.n_len (by decide +kernel) (pa_cons (pv 0) pa_nil)) (pv 1) (nomark _)))))) (pss_one (ps_ret pe_non)) pss_nil)
      (pss_one (ps_ret (pe_callTy call_tuple_of (by rfl) T.n_tuple (by decide +kernel) (pa_cons (pe_lc (own := [("number", 2)]) (te := tStepT K (tVar 0) (tVar 2) (tVar 1)) (by rfl) sc_unflattened.nd (pi_range1 (by rfl) T.n_range (pa_cons (pv 1) pa_nil)) (blkOk_by (own := [("number", 2)]) (N := ["node", "count", "number"]) (sc := defScope (topS 26)) (by decide +kernel)) (fun _ _ _ _ _ => (pg_name (i := 2) sc_unflattened.nd rfl (by first | exact Or.inl rfl | exact Or.inr rfl))) (fun _ _ _ _ _ => pts_nil) (fun _ _ _ _ _ => (pe_stepT (pv 0) (pv 2) (pv 1)))) pa_nil))))), ?_⟩
    refine ⟨_, rfl, _, _, rfl, rfl, _, rfl, ?_⟩
    refine ite2 (fun h1 => ?_) fun h1 => ?_
    · have h1 : (q : Int) < 2 := by simpa using h1
      omega
    have hq1 : q ≤ c * q := Nat.le_mul_of_pos_left q (by omega)
    have hmod : ((xs.length : Nat) : Int) % (q : Int) = 0 := by
      rw [hxl, hlen]
      push_cast
      exact Int.mul_emod_left _ _
    refine ⟨_, rfl, a, xs, rfl, .inr hs, _, rfl, _, _, rfl, rfl, by omega, rfl, _, rfl, ?_⟩
    refine iteNS (congrArg V.int hmod) ?_
    refine ⟨_, rfl, a, xs, rfl, .inr hs, _, rfl, rfl, _, rfl, ?_⟩
    have hne : xs.length ≠ q := by
      rw [hxl, hlen]
      intro z
      have : 2 * q ≤ c * q := Nat.mul_le_mul_right _ hc
      omega
    refine ite2 (fun h1 => ?_) fun h1 => ?_
    · exfalso
      apply hne
      have h1 : ((xs.length : Nat) : Int) = (q : Int) := by simpa using h1
      omega
    refine ⟨_, rfl, _, rfl, by omega, by omega, fun D hD => ?_⟩
    have eqn : ((q : Nat) : Int).toNat = q := Int.toNat_natCast _
    refine lc_pure (K := K) (walk_range (lo := 0)) hD (Nat.le_trans (by omega) size5) (fun _ _ => trivial) (fun i H x H' e => e.1 ▸ .refl _)
      (fun r v H => TV K H (.node (pickT ts r q c)) v) (fun r v H H' l h => h.le l) (fun i x H1 H' k' hi s1 ⟨e, ex⟩ hk => ?_) fun ys H' s1 hl hyl hR => ?_
    · subst e ex
      rw [eqn] at hi
      refine ⟨rfl, _, rfl, _, rfl, _, rfl, a, xs, i, q, c, rfl, ?_, rfl, Same.tle s1 a xs hs, hq, hi, by omega, by omega, fun p hp => hk _ _ (Same.upd hp) ?_⟩
      · show V.int (0 + (i : Int)) = V.int (i : Int)
        rw [Int.zero_add]
      · exact tv_node.mpr ⟨p, _, rfl, SqT.of upd_same, (pick_tvs hvs _).le (TLe.trans (Same.tle s1) (tle_new hp))⟩
    · rw [eqn] at hyl
      refine ⟨D, ys, rfl, .inl ⟨SqL.of hl, fun l hl2 => ?_⟩⟩
      refine k _ _ (s1.trans (Same.upd hl2)) ?_
      refine tv_node.mpr ⟨l, ys, rfl, SqT.of upd_same, .of_get (by unfold unflatT; rw [List.length_map, List.length_range]; exact hyl) fun i t x e1 e2 => ?_⟩
      have hi : i < q := by have := (List.getElem?_eq_some_iff.mp e2).1; omega
      unfold unflatT at e1
      rw [List.getElem?_map, List.getElem?_range hi] at e1
      cases e1
      exact (hR i x e2).le (tle_new hl2)
/-- what len asks of a list or tuple -/
abbrev rLS (K : PySem.W.Frag) : List V → Hp → VK → Prop := fun xs H Q => ∃ p ys, xs = [.ref p] ∧ (SqL K H p ys ∨ SqT K H p ys) ∧ Q (.int (ys.length : Nat)) H
def T.kids : T → List T
  | .leaf _ => []
  | .node ts => ts
/-- the j-th grandchild, counted across -/
def flatI (ts : List T) (j : Nat) : T := ((ts.getD (j % ts.length) (.node [])).kids).getD (j / ts.length) (.node [])
def flatT (ts : List T) (q : Nat) : List T := (List.range (q * ts.length)).map (flatI ts)
theorem flat_size : ∀ {ts : List T} {q : Nat}, oks ts → (∀ t ∈ ts, ∃ us, t = .node us ∧ us.length = q) → ts.length * q ≤ cnts ts
  | [], q, _, _ => by simp
  | t :: ts, q, ho, h => by
    unfold oks at ho
    obtain ⟨us, rfl, hl⟩ := h t List.mem_cons_self
    have h1 := flat_size ho.2 fun t ht => h t (List.mem_cons_of_mem _ ht)
    have h2 := len_le_cnts (ok_node.mp ho.1).2
    rw [cnts, cnt_node, List.length_cons, Nat.succ_mul]
    omega
theorem sc_flattened : FnScope ["node", "sizes", "outlet", "inner", "number"] ["node"] (defScope (topS 25)) := ⟨rfl, rfl, rfl, by decide +kernel, rfl, by decide +kernel, by decide +kernel⟩
def spFlat (K : PySem.W.Frag) : Sp := fun vs H Q _ => ∃ (ts : List T) (v : V) (q : Nat), vs = [v] ∧ TVn K H (.node ts) v ∧ 2 ≤ q ∧ (∀ t ∈ ts, ∃ us, t = .node us ∧ us.length = q) ∧ ∀ v' H', Same H H' → TV K H' (.node (flatT ts q)) v' → Q v' H'
theorem ok_flat (T : Top K mg) : C8.Cal P w K mg base 1 "flattened" (spFlat K) [] := by
  refine cal_of T.d_flattened sc_flattened (fun _ _ _ _ _ _ us hl => match us, hl with | [_], _ => rfl) (fun vs H Q E h => ?_) fun f cdv A outer s H vs Q E hr h => ?_
  · obtain ⟨ts, v, q, rfl, _⟩ := h; rfl
  · obtain ⟨ts, v, q, rfl, hv, hq, hall, k⟩ := h
    have hv0 := hv
    have hok := (ok_node.mp hv.ok).2
    obtain ⟨a, xs, rfl, hs, hlen, hbig, h2, hx, ht⟩ := hv.node
    refine ⟨_, (pss_cons (ps_setLc (i := 1) (own := [("outlet", 2)]) (te := (tIf (tB (tCB (rIsi K) (tCons (tVar 2) (tCons (tC (.ty "str")) tNil)))) (tC (.int 0)) (tCB (rLS K) (tCons (tVar 2) tNil)))) (by rfl) sc_flattened.nd rfl rfl (sw_true rfl rfl rfl (by decide +kernel)) (pi_tup (pv 0)) (blkOk_by (own := [("outlet", 2)]) (N := ["node", "sizes", "outlet", "inner", "number"]) (sc := defScope (topS 25)) (by decide +kernel)) (fun _ _ _ _ _ => (pg_name (i := 2) sc_flattened.nd rfl (by first | exact Or.inl rfl | exact Or.inr rfl))) (fun _ _ _ _ _ => pts_nil) (fun _ _ _ _ _ => (pe_ifExp (pt_val (pe_callB call_isi (by rfl) T.n_isinstance (by decide +kernel) (pa_cons (pv 2) (pa_cons (pe_bltn (v := .ty "str") (u := .type "str") (by rfl) T.n_str (by decide +kernel) rfl) pa_nil)))) pe_int (pe_callB call_len_seq (by rfl) T.n_len (by decide +kernel) (pa_cons (pv 2) pa_nil)))))
      (pss_cons (ps_if (PW.pt (pw_or (pt_cmpR op_eq (pe_callB (cr_min rfl) (by rfl) T.n_min (by decide +kernel) (pa_cons (pv 1) pa_nil)) pe_int (nomark _)) (pw_or1 (pt_cmpR op_lt (pe_callB (cr_min rfl) (by rfl) T.n_min (by decide +kernel) (pa_cons (pv 1) pa_nil)) (pe_callB (cr_max rfl) (by rfl) T.n_max (by decide +kernel) (pa_cons (pv 1) pa_nil)) (nomark _))))) (pss_one (ps_ret pe_non)) pss_nil)
      (pss_one (ps_ret (pe_callTy call_tuple_of (by rfl) T.n_tuple (by decide +kernel) (pa_cons (pe_lc2 (own := [("inner", 3), ("number", 4)]) (vs1 := [4]) (g := gName 3) (g1 := gName 4) (wi1 := iRng1 (tCons (tCB (rLS K) (tCons (tVar 0) tNil)) tNil)) (te := tOp (rIxT K) (tOp (rIxT K) (tVar 0) (tVar 4)) (tVar 3)) (by rfl) sc_flattened.nd (pi_range1 (by rfl) T.n_range (pa_cons (pe_ix ix_list (pv 1) pe_int (fun _ _ => rfl)) pa_nil)) (blkOk_by (own := [("inner", 3), ("number", 4)]) (N := ["node", "sizes", "outlet", "inner", "number"]) (sc := defScope (topS 25)) (by decide +kernel)) (by decide) (fun _ _ _ _ _ => pg_name (i := 3) sc_flattened.nd rfl (by first | exact Or.inl rfl | exact Or.inr rfl)) (fun _ _ _ _ _ => pts_nil) (fun _ _ _ _ _ => pi_range1 (by rfl) T.n_range (pa_cons (pe_callB call_len_seq (by rfl) T.n_len (by decide +kernel) (pa_cons (pv 0) pa_nil)) pa_nil)) (fun _ _ _ _ _ => pg_name (i := 4) sc_flattened.nd rfl (by first | exact Or.inl rfl | exact Or.inr rfl)) (fun _ _ _ _ _ => pts_nil) (fun _ _ _ _ _ => pe_ix ix_tup (pe_ix ix_tup (pv 0) (pv 4) (fun _ _ => rfl)) (pv 3) (fun _ _ => rfl))) pa_nil)))))), ?_⟩
    refine ⟨_, rfl, a, rfl, ⟨xs, hs⟩, fun D hD => ?_⟩
    refine lc_pure (K := K) walk_tup hD (Nat.le_trans (by omega) size5) (fun H' s => Same.tle s a xs hs) (fun i H x H' e => e.1 ▸ .refl _)
      (fun i v _ => v = .int (q : Nat)) (fun i v H H' _ h => h) (fun i x H1 H' k' hi s1 ⟨e, ex⟩ hk => ?_) fun ys H1 s1 hl hyl hR => ?_
    · subst e
      obtain ⟨t, e1, hv1⟩ := hx i x ex
      obtain ⟨us, rfl, hus⟩ := hall t (List.mem_of_getElem? e1)
      have hv2 := hv1.le (Same.tle s1)
      obtain ⟨b, zs, rfl, hsb, hzl, _⟩ := hv2.node
      refine ⟨rfl, _, rfl, _, _, _, _, false, rfl, .ty "str", hv2.tyTup, kit_ty (by decide +kernel), _, rfl, iteF ?_⟩
      exact ⟨_, rfl, b, zs, rfl, .inr hsb, hk _ _ (.refl _) (by rw [hzl, hus])⟩
    · have hys : ys = (List.replicate ts.length (q : Int)).map V.int := by
        apply List.ext_getElem?
        intro i
        rw [List.map_replicate]
        cases e : ys[i]? with
        | some y =>
          rw [hR i y e]
          have := (List.getElem?_eq_some_iff.mp e).1
          rw [List.getElem?_replicate, if_pos (by omega)]
        | none =>
          have := List.getElem?_eq_none_iff.mp e
          rw [List.getElem?_replicate, if_neg (by omega)]
      have hL : SqL K H1 D ((List.replicate ts.length (q : Int)).map V.int) := by rw [← hys]; exact SqL.of hl
      have hpos : 0 < (List.replicate ts.length (q : Int)).length := by rw [List.length_replicate]; omega
      refine ⟨_, rfl, D, _, rfl, hL, hpos, fun m hm _ => ⟨rfl, _, rfl, ?_⟩⟩
      obtain rfl := List.eq_of_mem_replicate hm
      refine ite2 (fun h1 => ?_) fun h1 => ?_
      · have h1 : (q : Int) = 0 := by simpa using h1
        omega
      refine ⟨_, rfl, D, _, rfl, hL, hpos, fun m hm _ => ⟨_, rfl, D, _, rfl, hL, hpos, fun m2 hm2 _ => ⟨_, _, rfl, rfl, _, rfl, ?_⟩⟩⟩
      obtain rfl := List.eq_of_mem_replicate hm
      obtain rfl := List.eq_of_mem_replicate hm2
      refine ite2 (fun h1 => ?_) fun h1 => ?_
      · have h1 : (q : Int) < (q : Int) := by simpa using h1
        omega
      have hus1 : q ≤ 100000 := by
        obtain ⟨x0, hx0⟩ : ∃ x0, xs[0]? = some x0 := ⟨_, List.getElem?_eq_getElem (by omega)⟩
        obtain ⟨t, e1, hv1⟩ := hx 0 x0 hx0
        obtain ⟨us, rfl, hus⟩ := hall t (List.mem_of_getElem? e1)
        obtain ⟨b, zs, _, _, _, hb, _⟩ := hv1.node
        omega
      have h0 : ys[0]? = some (.int (q : Nat)) := by rw [hys, List.map_replicate, List.getElem?_replicate, if_pos (by omega)]
      refine ⟨_, rfl, D, ys, _, _, rfl, rfl, SqL.of hl, atI_nat (j := 0) h0, _, rfl, by omega, by omega, fun D2 hD2 => ?_⟩
      have eqn : ((q : Nat) : Int).toNat = q := Int.toNat_natCast _
      have epn : ((xs.length : Nat) : Int).toNat = xs.length := Int.toNat_natCast _
      rw [eqn]
      refine lc2_range (K := K) (n2 := xs.length) hD2 (by rw [hlen, Nat.mul_comm]; exact Nat.le_trans (flat_size hok hall) (Nat.le_trans (by have := hv0.big; rwa [cnt_node] at this) size5)) (fun j v H => TV K H (flatI ts j) v) (fun i v H H' l h => h.le l) (fun _ => rfl) (fun i H2 F hi s2 hF => ?_) (fun _ _ => rfl) (fun i j H2 k' hi hj s2 hk => ?_) fun zs H2 s2 hl2 hzl hR2 => ?_
      · refine ⟨_, rfl, a, xs, rfl, .inr (Same.tle (s1.trans s2) a xs hs), _, rfl, by omega, by omega, ?_⟩
        rw [epn]
        exact hF
      · obtain ⟨x, hxj⟩ : ∃ x, xs[j]? = some x := ⟨_, List.getElem?_eq_getElem hj⟩
        obtain ⟨t, e1, hv1⟩ := hx j x hxj
        obtain ⟨us, rfl, hus⟩ := hall t (List.mem_of_getElem? e1)
        have hv2 := hv1.le (Same.tle (s1.trans s2))
        obtain ⟨b, zs, rfl, hsb, hzl, _, _, hz1, hz2⟩ := hv2.node
        obtain ⟨u, hu⟩ : ∃ u, us[i]? = some u := ⟨_, List.getElem?_eq_getElem (by omega)⟩
        obtain ⟨z, hz, hvz⟩ := hz2 i u hu
        refine ⟨_, rfl, _, rfl, a, xs, _, _, rfl, rfl, Same.tle (s1.trans s2) a xs hs, (by rw [Int.zero_add]; exact atI_nat hxj), _, rfl, b, zs, _, z, rfl, rfl, hsb, (by rw [Int.zero_add]; exact atI_nat hz), hk _ _ (.refl _) ?_⟩
        unfold flatI
        rw [← hlen, Nat.mul_comm i, Nat.mul_add_mod, Nat.mod_eq_of_lt hj, Nat.mul_add_div (by omega), Nat.div_eq_of_lt hj, Nat.add_zero, show ts.getD j (.node []) = .node us from by rw [List.getD_eq_getElem?_getD, e1]; rfl]
        show TV K H2 (us.getD i _) z
        rw [List.getD_eq_getElem?_getD, hu]
        exact hvz.tv
      · refine ⟨D2, zs, rfl, .inl ⟨SqL.of hl2, fun l hl3 => ?_⟩⟩
        refine k _ _ ((s1.trans s2).trans (Same.upd hl3)) ?_
        refine tv_node.mpr ⟨l, zs, rfl, SqT.of upd_same, .of_get (by unfold flatT; rw [List.length_map, List.length_range, hzl, hlen]) fun i t x e1 e2 => ?_⟩
        have hi : i < q * ts.length := by have := (List.getElem?_eq_some_iff.mp e2).1; rw [hzl, hlen] at this; exact this
        unfold flatT at e1
        rw [List.getElem?_map, List.getElem?_range hi] at e1
        cases e1
        exact (hR2 i x e2).le (tle_new hl3)
end
end Td
end

section
set_option maxHeartbeats 1000000
/-! TdMatch: match over texts. -/
namespace Td
open PySem PySem.Spec PyProof.Rows L2
structure PMs (X : Cx) (cases : List MatchCase) (t : Str → TS) : Prop where
  run : ∀ (pins : List (Addr × Obj)) (s : Shared) (σ : L2.St) (H : Hp) (D : Ends) (z : Str) (tok : Tok) (first : Bool), Inv X pins σ H s → t z D σ H → wpAny (model X.prog X.w) X.A (matchCases cases X.env (.str z tok) first) (SP X pins D) X.xe s
section
variable {X : Cx} {pos p : Pos}
theorem pm_last {body : List Stmt} {tb : TS} (hb : PSs X body tb) : PMs X [⟨.MatchAs none none pos, none, body⟩] (fun _ => tb) := by
  refine ⟨fun pins s σ H D z tok first I h => ?_⟩
  refine wpAny_matchCases_cons (wpAny_matchPattern_Capture ?_)
  exact assignInOrder_nil (hb.run pins s σ H D I h)
theorem pm_val {y : Str} {j : Nat} {body : List Stmt} {rest : List MatchCase} {tb : TS} {tr : Str → TS} (hb : PSs X body tb) (hr : PMs X rest tr) :
    PMs X (⟨.MatchValue (.Constant (.str y) j p) pos, none, body⟩ :: rest) (fun z D σ H => if z = y then tb D σ H else tr z D σ H) := by
  refine ⟨fun pins s σ H D z tok first I h => ?_⟩
  refine wpAny_matchCases_cons (wpAny_matchPattern_Value (thn (pe_str.run pins s σ H (fun v H1 => v = .str y ∧ H1 = H) I ⟨rfl, rfl⟩) fun u s1 ⟨v, H1, I1, r1, e1, e2⟩ => ?_))
  subst e1 e2
  refine thn (op_eq pins s1 σ H1 (.str z) (.str y) (.str z tok) u (fun v H2 => v = .bl (decide (z = y)) ∧ H2 = H1) I1 ⟨tok, rfl⟩ r1 ?_) fun c s2 ⟨v, H2, I2, r2, e3, e4⟩ => ?_
  · exact ⟨rfl, by simp, rfl⟩
  · subst e3 e4
    cases r2
    refine wpAny_truthy_bool ?_
    by_cases hz : z = y
    · rw [if_pos hz] at h
      rw [decide_eq_true hz]
      exact assignInOrder_nil (hb.run pins s2 σ H2 D I2 h)
    · rw [if_neg hz] at h
      rw [decide_eq_false hz]
      exact hr.run pins s2 σ H2 D z tok false I2 h
def tMatch (te : TE) (t : Str → TS) : TS := fun D σ H => te σ H fun x H1 => ∃ z, x = .str z ∧ t z D σ H1
theorem ps_match {e : Expr} {cases : List MatchCase} {te : TE} {t : Str → TS} (he : PE X e te) (hc : PMs X cases t) : PS X (.Match e cases pos) (tMatch te t) := by
  refine ⟨fun pins s σ H D I h => ?_⟩
  refine wpAny_Match (thn (he.run pins s σ H _ I h) fun u s1 ⟨x, H1, I1, r1, z, ex, q⟩ => ?_)
  subst ex
  obtain ⟨tok, rfl⟩ := r1
  exact hc.run pins s1 σ H1 D z tok true I1 q
end
end Td
end

section
set_option maxHeartbeats 1000000
/-! TdChg: changed. -/
namespace Td
open PySem PySem.Spec PyProof.Rows L2
/-- the four kinds of steps -/
inductive Kd where
  | flat
  | unflat (q : Nat)
  | gath
  | spr (q : Nat)
def Kd.word : Kd → Str
  | .flat => "flatten"
  | .unflat _ => "unflatten"
  | .gath => "gather"
  | .spr _ => "spread"
def Kd.num : Kd → Nat
  | .unflat q => q
  | .spr q => q
  | _ => 0
/-- what a step makes of a node, where it may be taken -/
inductive Chg : Kd → T → T → Prop
  | flat {ts : List T} {q : Nat} : 2 ≤ q → (∀ t ∈ ts, ∃ us, t = .node us ∧ us.length = q) → Chg .flat (.node ts) (.node (flatT ts q))
  | unflat {ts : List T} {q c : Nat} : 2 ≤ q → 2 ≤ c → ts.length = c * q → Chg (.unflat q) (.node ts) (.node (unflatT ts q c))
  | gath {ts : List T} {o : Str} : 2 ≤ ts.length → (∀ t ∈ ts, t = .leaf o) → Chg .gath (.node ts) (.leaf o)
  | spr {o : Str} {q : Nat} : 2 ≤ q → q ≤ 400 → Chg (.spr q) (.leaf o) (.node (List.replicate q (.leaf o)))
theorem flat_rep {α : Type} (q : Nat) (x : α) : (List.replicate q [x]).flatten = List.replicate q x := by
  induction q with
  | zero => rfl
  | succ q ih => rw [List.replicate_succ, List.flatten_cons, ih]; rfl
section
variable {P : Program} {w : World} {K : PySem.W.Frag} {mg : Str → Option Value} {base : Heap}
theorem sc_changed : FnScope ["node", "word", "count", "alike", "one"] ["node", "word", "count"] (defScope (topS 27)) := ⟨rfl, rfl, rfl, by decide +kernel, rfl, by decide +kernel, by decide +kernel⟩
def spChanged (K : PySem.W.Frag) : Sp := fun vs H Q _ => ∃ (t u : T) (v : V) (kd : Kd), vs = [v, .str kd.word, .int kd.num] ∧ TVn K H t v ∧ Chg kd t u ∧ ∀ v' H', Same H H' → TV K H' u v' → Q v' H'
theorem ok_changed (T : Top K mg) : C8.Cal P w K mg base 2 "changed" (spChanged K) [] := by
  have c_flattened : C8.Cal P w K mg base 1 "flattened" (spFlat K) [] := ok_flat T
  have c_unflattened : C8.Cal P w K mg base 1 "unflattened" (spUnflat K) [] := ok_unflat T
  refine cal_of T.d_changed sc_changed (fun _ _ _ _ _ _ us hl => match us, hl with | [_, _, _], _ => rfl) (fun vs H Q E h => ?_) fun f cdv A outer s H vs Q E hr h => ?_
  · obtain ⟨t, u, v, kd, rfl, _⟩ := h; rfl
  · obtain ⟨t, u, v, kd, rfl, hv, hc, k⟩ := h
    refine ⟨_, (pss_one (ps_match (pv 1) (pm_val (pss_one (ps_ret (pe_ifExp (pt_val (pe_callB call_isi (by rfl) T.n_isinstance (by decide +kernel) (pa_cons (pv 0) (pa_cons (pe_bltn (v := .ty "str") (u := .type "str") (by rfl) T.n_str (by decide +kernel) rfl) pa_nil)))) pe_non (C8.pe_c c_flattened hr (by omega) rfl (pa_cons (pv 0) pa_nil)))))
      (pm_val (pss_one (ps_ret (pe_ifExp (pt_val (pe_callB call_isi (by rfl) T.n_isinstance (by decide +kernel) (pa_cons (pv 0) (pa_cons (pe_bltn (v := .ty "str") (u := .type "str") (by rfl) T.n_str (by decide +kernel) rfl) pa_nil)))) pe_non (C8.pe_c c_unflattened hr (by omega) rfl (pa_cons (pv 0) (pa_cons (pv 2) pa_nil))))))
      (pm_val (pss_cons (ps_set (i := 3) sc_changed.nd rfl (by first | exact Or.inl rfl | exact Or.inr rfl) (pe_and (pe_callB call_isi (by rfl) T.n_isinstance (by decide +kernel) (pa_cons (pv 0) (pa_cons (pe_bltn (v := .ty "tuple") (u := .type "tuple") (by rfl) T.n_tuple (by decide +kernel) rfl) pa_nil))) (pe_and (pe_callB call_isi (by rfl) T.n_isinstance (by decide +kernel) (pa_cons (pe_ix ix_tup (pv 0) pe_int (fun _ _ => rfl)) (pa_cons (pe_bltn (v := .ty "str") (u := .type "str") (by rfl) T.n_str (by decide +kernel) rfl) pa_nil))) (pe_one (pe_callB (cr_all rfl) (by rfl) T.n_all (by decide +kernel) (pa_cons (pe_lc (own := [("one", 4)]) (te := (tOp rEq (tVar 4) (tOp (rIxT K) (tVar 0) (tC (.int 0))))) (by rfl) sc_changed.nd (pi_tup (pv 0)) (blkOk_by (own := [("one", 4)]) (N := ["node", "word", "count", "alike", "one"]) (sc := defScope (topS 27)) (by decide +kernel)) (fun _ _ _ _ _ => (pg_name (i := 4) sc_changed.nd rfl (by first | exact Or.inl rfl | exact Or.inr rfl))) (fun _ _ _ _ _ => pts_nil) (fun _ _ _ _ _ => (pe_cmpR op_eq (pv 4) (pe_ix ix_tup (pv 0) pe_int (fun _ _ => rfl)) (nomark _)))) pa_nil))))))
      (pss_one (ps_ret (pe_ifExp (pt_val (pv 3)) (pe_ix ix_tup (pv 0) pe_int (fun _ _ => rfl)) pe_non))))
      (pm_last (pss_one (ps_ret (pe_ifExp (PW.pt (pw_and (pt_val (pe_callB call_isi (by rfl) T.n_isinstance (by decide +kernel) (pa_cons (pv 0) (pa_cons (pe_bltn (v := .ty "str") (u := .type "str") (by rfl) T.n_str (by decide +kernel) rfl) pa_nil)))) (pw_and1 (pt_chain op_le op_le pe_int (pv 2) pe_int)))) (pe_op op_repT (pe_tup (pa_cons (pv 0) pa_nil)) (pv 2)) pe_non))))))))), ?_⟩
    refine ⟨_, rfl, _, rfl, ?_⟩
    cases hc with
    | flat hq hall =>
      refine ite2 (fun h1 => ?_) fun h1 => absurd rfl h1
      refine ⟨_, rfl, _, _, _, _, false, rfl, .ty "str", hv.tyTup, kit_ty (by decide +kernel), _, rfl, iteF ?_⟩
      exact ⟨_, rfl, _, v, _, rfl, hv, hq, hall, k⟩
    | unflat hq hc hl =>
      refine ite2 (fun h1 => absurd h1 (show ¬ (("unflatten" : Str) = "flatten") by decide +kernel)) fun h1 => ?_
      refine ite2 (fun h1 => ?_) fun h1 => absurd rfl h1
      refine ⟨_, rfl, _, _, _, _, false, rfl, .ty "str", hv.tyTup, kit_ty (by decide +kernel), _, rfl, iteF ?_⟩
      exact ⟨_, rfl, _, rfl, _, v, _, _, rfl, hv, hq, hc, hl, k⟩
    | @gath ts o h2 hall =>
      refine ite2 (fun h1 => absurd h1 (by decide +kernel)) fun h1 => ?_
      refine ite2 (fun h1 => absurd h1 (by decide +kernel)) fun h1 => ?_
      refine ite2 (fun h1 => ?_) fun h1 => absurd rfl h1
      obtain ⟨a, xs, rfl, hs, hlen, hbig, _, hx, ht⟩ := hv.node
      have hall2 : ∀ (i : Nat) x, xs[i]? = some x → x = .str o := fun i x e => by
        obtain ⟨t, e1, hv1⟩ := hx i x e
        obtain rfl := hall t (List.mem_of_getElem? e1)
        exact hv1.leaf
      have h0 : xs[0]? = some (.str o) := by
        have e : xs[0]? = some (xs[0]'(by omega)) := List.getElem?_eq_getElem (by omega)
        rw [e, hall2 0 _ e]
      refine ⟨_, rfl, _, _, _, _, true, rfl, .ty "tuple", SqT.tyx hs, kit_ty (by decide +kernel), true, rfl, iteT ?_⟩
      refine ⟨_, rfl, a, xs, _, _, rfl, rfl, hs, atI_nat (j := 0) h0, _, _, _, _, true, rfl, .ty "str", .base (.str o), kit_ty (by decide +kernel), true, rfl, iteT ?_⟩
      refine ⟨_, rfl, a, rfl, ⟨xs, hs⟩, fun D hD => ?_⟩
      refine lc_pure (K := K) walk_tup hD (Nat.le_trans (by omega) size5) (fun H' s => Same.tle s a xs hs) (fun i H x H' e => e.1 ▸ .refl _)
        (fun i v _ => v = .bl true) (fun i v H H' _ h => h) (fun i x H1 H' k' hi s1 ⟨e, ex⟩ hk => ?_) fun ys H1 s1 hl hyl hR => ?_
      · subst e
        obtain rfl := hall2 i x ex
        refine ⟨rfl, _, rfl, _, rfl, a, xs, _, _, rfl, rfl, Same.tle s1 a xs hs, atI_nat (j := 0) h0, rfl, hk _ _ (.refl _) (by simp)⟩
      · have hys : ys = (List.replicate xs.length true).map V.bl := by
          apply List.ext_getElem?
          intro i
          rw [List.map_replicate]
          cases e : ys[i]? with
          | some y =>
            rw [hR i y e]
            have := (List.getElem?_eq_some_iff.mp e).1
            rw [List.getElem?_replicate, if_pos (by omega)]
          | none =>
            have := List.getElem?_eq_none_iff.mp e
            rw [List.getElem?_replicate, if_neg (by omega)]
        refine ⟨D, List.replicate xs.length true, rfl, by rw [← hys]; exact SqL.of hl, ?_⟩
        have hand : (List.replicate xs.length true).all id = true := by simp
        rw [hand]
        refine ⟨_, rfl, true, rfl, iteT ?_⟩
        refine ⟨_, rfl, a, xs, _, _, rfl, rfl, Same.tle s1 a xs hs, atI_nat (j := 0) h0, k _ _ s1 (tv_leaf.mpr rfl)⟩
    | @spr o q h2 h4 =>
      refine ite2 (fun h1 => absurd h1 (show ¬ (("spread" : Str) = "flatten") by decide +kernel)) fun h1 => ?_
      refine ite2 (fun h1 => absurd h1 (show ¬ (("spread" : Str) = "unflatten") by decide +kernel)) fun h1 => ?_
      refine ite2 (fun h1 => absurd h1 (show ¬ (("spread" : Str) = "gather") by decide +kernel)) fun h1 => ?_
      refine ⟨_, rfl, _, _, _, _, true, rfl, .ty "str", hv.tyStr, kit_ty (by decide +kernel), _, rfl, iteT ?_⟩
      refine ⟨_, rfl, _, _, rfl, rfl, _, rfl, ?_⟩
      have n1 : (2 : Int) ≤ ((Kd.spr q).num : Int) := by show (2 : Int) ≤ (q : Int); omega
      have n2 : ((Kd.spr q).num : Int) ≤ 400 := by show (q : Int) ≤ 400; omega
      refine ite2 (fun hc1 => ?_) fun hc1 => absurd (decide_eq_true n1) hc1
      refine ⟨_, _, rfl, rfl, _, rfl, ?_⟩
      refine ite2 (fun hc1 => ?_) fun hc1 => absurd (decide_eq_true n2) hc1
      obtain rfl := hv.leaf
      refine ⟨_, rfl, by rw [sizeLine_eq]; show (1 : Nat) ≤ 16777216; decide, fun p hp => ⟨_, rfl, p, _, _, rfl, rfl, SqT.of upd_same, by simp, n1, by omega, by show (1 : Nat) ≤ 1000; decide, fun p2 hp2 => ?_⟩⟩
      refine k _ _ ((Same.upd hp).trans (Same.upd hp2)) ?_
      have e : (List.replicate ((Kd.spr q).num : Int).toNat [V.str o]).flatten = List.replicate q (V.str o) := by
        rw [show ((Kd.spr q).num : Int).toNat = q from Int.toNat_natCast _]
        exact flat_rep q _
      rw [e]
      refine tv_node.mpr ⟨p2, _, rfl, SqT.of upd_same, .of_get (by rw [List.length_replicate, List.length_replicate]) fun i t x e1 e2 => ?_⟩
      obtain rfl := List.eq_of_mem_replicate (List.mem_of_getElem? e1)
      obtain rfl := List.eq_of_mem_replicate (List.mem_of_getElem? e2)
      exact tv_leaf.mpr rfl
end
end Td
end

section
set_option maxHeartbeats 1000000
/-! TdBack: steps as data; back_step. -/
namespace Td
open PySem PySem.Spec PyProof.Rows L2
/-- a step: its kind, its path -/
structure Stp where
  kd : Kd
  path : List Nat
def Kd.args : Kd → List PyData
  | .unflat q => [.int (q : Nat)]
  | .spr q => [.int (q : Nat)]
  | _ => []
def Stp.dat (s : Stp) : PyData := .tuple (.str s.kd.word :: pathD s.path :: s.kd.args)
abbrev SV (K : PySem.W.Frag) (H : Hp) (s : Stp) (v : V) : Prop := D K H s.dat v
/-- the step that takes it back, from how many children there were -/
def Kd.back : Kd → Nat → Kd
  | .flat, n => .unflat n
  | .unflat _, _ => .flat
  | .gath, n => .spr n
  | .spr _, _ => .gath
def Stp.back (s : Stp) (u : T) : Stp := ⟨s.kd.back u.kids.length, s.path⟩
def Kd.argV : Kd → List V
  | .unflat q => [.int (q : Nat)]
  | .spr q => [.int (q : Nat)]
  | _ => []
theorem args_inv {K : PySem.W.Frag} {H : Hp} {k : Kd} {xs : List V} (h : Ds K H k.args xs) : xs = k.argV := by
  cases k <;> first
    | exact ds_nil_inv h
    | (obtain ⟨y, ys, rfl, h1, h2⟩ := ds_inv h
       rw [d_int_inv h1, ds_nil_inv h2] <;> rfl)
theorem args_of {K : PySem.W.Frag} {H : Hp} (k : Kd) : Ds K H k.args k.argV := by
  cases k <;> first
    | exact ds_nil
    | exact ds_cons (d_int _) ds_nil
theorem sv_inv {K : PySem.W.Frag} {H : Hp} {s : Stp} {v : V} (h : SV K H s v) : ∃ a qv, v = .ref a ∧ SqT K H a (.str s.kd.word :: qv :: s.kd.argV) ∧ PV K H s.path qv := by
  obtain ⟨a, xs, rfl, hs, hd⟩ := d_tup_inv h
  obtain ⟨y, ys, rfl, h1, hd⟩ := ds_inv hd
  obtain ⟨z, zs, rfl, h2, hd⟩ := ds_inv hd
  rw [d_str_inv h1, args_inv hd] at hs
  exact ⟨a, z, rfl, hs, h2⟩
theorem sv_of {K : PySem.W.Frag} {H : Hp} {s : Stp} {a : Addr} {qv : V} (h : SqT K H a (.str s.kd.word :: qv :: s.kd.argV)) (hp : PV K H s.path qv) : SV K H s (.ref a) :=
  d_tup h (ds_cons (d_str _) (ds_cons hp (args_of _)))
section
variable {P : Program} {w : World} {K : PySem.W.Frag} {mg : Str → Option Value} {base : Heap}
theorem sc_back_step : FnScope ["tree", "step", "word", "path", "rest", "node"] ["tree", "step"] (defScope (topS 32)) := ⟨rfl, rfl, rfl, by decide +kernel, rfl, by decide +kernel, by decide +kernel⟩
def spBack (K : PySem.W.Frag) : Sp := fun vs H Q _ => ∃ (t u u' : T) (v sv : V) (s : Stp), vs = [v, sv] ∧ TVn K H t v ∧ SV K H s sv ∧ t.part s.path = some u ∧ Chg s.kd u u' ∧ ∀ v' H', Same H H' → SV K H' (s.back u) v' → Q v' H'
theorem ok_back (T : Top K mg) : C8.Cal P w K mg base 2 "back_step" (spBack K) [] := by
  have c_part_at : C8.Cal P w K mg base 1 "part_at" (spPart K) [] := ok_part T
  refine cal_of T.d_back_step sc_back_step (fun _ _ _ _ _ _ us hl => match us, hl with | [_, _], _ => rfl) (fun vs H Q E h => ?_) fun f cdv A outer sh H vs Q E hr h => ?_
  · obtain ⟨t, u, u', v, sv, s, rfl, _⟩ := h; rfl
  · obtain ⟨t, u, u', v, sv, ⟨kd, p⟩, rfl, hv, hsv, hp, hc, k⟩ := h
    obtain ⟨a, qv, rfl, hs, hpv⟩ := sv_inv hsv
    refine ⟨_, (pss_cons (ps_asg (pv 1) (pg_star (i := 2) (by rfl) (pgs_cons (pg_name (i := 2) sc_back_step.nd rfl (by first | exact Or.inl rfl | exact Or.inr rfl)) (pgs_cons (pg_name (i := 3) sc_back_step.nd rfl (by first | exact Or.inl rfl | exact Or.inr rfl)) (pgs_star (pg_name (i := 4) sc_back_step.nd rfl (by first | exact Or.inl rfl | exact Or.inr rfl)) pgs_nil)))))
      (pss_cons (ps_set (i := 5) sc_back_step.nd rfl (by first | exact Or.inl rfl | exact Or.inr rfl) (C8.pe_c c_part_at hr (by omega) rfl (pa_cons (pv 0) (pa_cons (pv 3) pa_nil))))
      (pss_one (ps_match (pv 2) (pm_val (pss_one (ps_ret (pe_tup (pa_cons pe_str (pa_cons (pv 3) (pa_cons (pe_callB call_len_seq (by rfl) T.n_len (by decide +kernel) (pa_cons (pv 5) pa_nil)) pa_nil))))))
      (pm_val (pss_one (ps_ret (pe_tup (pa_cons pe_str (pa_cons (pv 3) pa_nil)))))
      (pm_val (pss_one (ps_ret (pe_tup (pa_cons pe_str (pa_cons (pv 3) (pa_cons (pe_callB call_len_seq (by rfl) T.n_len (by decide +kernel) (pa_cons (pv 5) pa_nil)) pa_nil))))))
      (pm_last (pss_one (ps_ret (pe_tup (pa_cons pe_str (pa_cons (pv 3) pa_nil))))))))))))), ?_⟩
    refine ⟨_, rfl, a, _, rfl, hs, by simp, fun D0 hD => ⟨_, _, rfl, _, _, rfl, _, _, rfl, rfl, ?_⟩⟩
    have s1 : Same H (upd H D0 (.lst (List.drop 2 (.str kd.word :: qv :: kd.argV)))) := Same.upd hD
    refine ⟨_, rfl, _, rfl, t, u, v, qv, p, rfl, hv.le (Same.tle s1), D.le (Same.tle s1) _ _ hpv, hp, fun v' hv' => ?_⟩
    refine ⟨_, rfl, _, rfl, ?_⟩
    cases hc with
    | @flat ts q hq hall =>
      obtain ⟨b, xs, rfl, hsb, hlen, _⟩ := hv'.node
      refine ite2 (fun h1 => ?_) fun h1 => absurd rfl h1
      refine ⟨_, rfl, _, rfl, b, xs, rfl, .inr hsb, (by show 3 ≤ sizeLine; rw [sizeLine_eq]; decide), fun l hl => ?_⟩
      refine k _ _ (s1.trans (Same.upd hl)) (sv_of (s := ⟨.unflat ts.length, p⟩) (SqT.of (by rw [upd_same, hlen]; rfl)) (D.le (Same.tle (s1.trans (Same.upd hl))) _ _ hpv))
    | @unflat ts q c hq hc hl =>
      refine ite2 (fun h1 => absurd h1 (show ¬ (("unflatten" : Str) = "flatten") by decide +kernel)) fun h1 => ?_
      refine ite2 (fun h1 => ?_) fun h1 => absurd rfl h1
      refine ⟨_, rfl, (by show 2 ≤ sizeLine; rw [sizeLine_eq]; decide), fun l hl => ?_⟩
      refine k _ _ (s1.trans (Same.upd hl)) (sv_of (s := ⟨.flat, p⟩) (SqT.of upd_same) (D.le (Same.tle (s1.trans (Same.upd hl))) _ _ hpv))
    | @gath ts o h2 hall =>
      obtain ⟨b, xs, rfl, hsb, hlen, _⟩ := hv'.node
      refine ite2 (fun h1 => absurd h1 (show ¬ (("gather" : Str) = "flatten") by decide +kernel)) fun h1 => ?_
      refine ite2 (fun h1 => absurd h1 (show ¬ (("gather" : Str) = "unflatten") by decide +kernel)) fun h1 => ?_
      refine ite2 (fun h1 => ?_) fun h1 => absurd rfl h1
      refine ⟨_, rfl, _, rfl, b, xs, rfl, .inr hsb, (by show 3 ≤ sizeLine; rw [sizeLine_eq]; decide), fun l hl => ?_⟩
      refine k _ _ (s1.trans (Same.upd hl)) (sv_of (s := ⟨.spr ts.length, p⟩) (SqT.of (by rw [upd_same, hlen]; rfl)) (D.le (Same.tle (s1.trans (Same.upd hl))) _ _ hpv))
    | @spr o q h2 h4 =>
      refine ite2 (fun h1 => absurd h1 (show ¬ (("spread" : Str) = "flatten") by decide +kernel)) fun h1 => ?_
      refine ite2 (fun h1 => absurd h1 (show ¬ (("spread" : Str) = "unflatten") by decide +kernel)) fun h1 => ?_
      refine ite2 (fun h1 => absurd h1 (show ¬ (("spread" : Str) = "gather") by decide +kernel)) fun h1 => ?_
      refine ⟨_, rfl, (by show 2 ≤ sizeLine; rw [sizeLine_eq]; decide), fun l hl => ?_⟩
      refine k _ _ (s1.trans (Same.upd hl)) (sv_of (s := ⟨.gath, p⟩) (SqT.of upd_same) (D.le (Same.tle (s1.trans (Same.upd hl))) _ _ hpv))
end
end Td
end

section
set_option maxHeartbeats 1000000
/-! TdKget: d.get(k, x) of a dict of the written part, the key there. -/
namespace Td
open PySem PySem.Spec PyProof.Rows L2
def tKGet2 (K : PySem.W.Frag) (w : World) (td ty tx : TE) : TE := fun σ H Q => td σ H fun x H1 => ∃ a z v, x = .ref a ∧ (a == sysModules) = false ∧ KDct K w a z v ∧ ty σ H1 fun y H2 => y = .str z ∧ tx σ H2 fun _ H3 => Q v H3
section
variable {X : Cx} {o e f : Expr} {td ty tx : TE} {apos cpos : Pos}
theorem pe_kget2 (ho : PE X o td) (he : PE X e ty) (hf : PE X f tx) (m : M2 X o "get" apos e f cpos) : PE X (.Call (.Attribute o "get" apos) [e, f] [] cpos) (tKGet2 X.K X.w td ty tx) := by
  refine ⟨fun pins s σ H Q I h => ?_⟩
  refine wpAny_Call_method m.base m.few m.line PySem.F.plainAttrs_dict PySem.F.slot_dict_get PySem.F.type_dict_get (thn (ho.run pins s σ H _ I h) fun u s1 ⟨x, H1, I1, rx, a, z, v, ex, low, kd, q1⟩ => ?_)
  subst ex
  obtain rfl : u = Value.ref a := rx
  obtain ⟨es, n, u0, hl, hk, e0, ru⟩ := kd
  have hm := PySem.W.mapOf_K (prog := X.prog) (w := X.w) I1.kIn hl hk
  refine ⟨hm.typeIs, hm.noDict, ?_⟩
  rw [m.trees]
  refine wpAny_dict_get2 (knd := strKind X.prog X.w) low (thn (he.run pins s1 σ H1 _ I1 q1) fun iv s2 ⟨y, H2, I2, ry, ey, q2⟩ => thn (hf.run pins s2 σ H2 _ I2 q2) fun fv s3 ⟨_, H3, I3, _, q3⟩ => ?_)
  subst ey
  obtain ⟨t, rfl⟩ := ry
  refine ⟨z, _, strKind_is X.prog X.w z t, PySem.W.mapOf_K (prog := X.prog) (w := X.w) I3.kIn hl hk, ?_⟩
  rw [PySem.W.find_K hl e0]
  exact ⟨v, H3, I3.tok _, ru, q3⟩
end
end Td
end

section
set_option maxHeartbeats 1000000
/-! TdRead: read_step. -/
namespace Td
open PySem PySem.Spec PyProof.Rows L2
/-- the table COUNTS -/
structure Counts (K : PySem.W.Frag) (w : World) (mg : Str → Option Value) : Prop where
  ex : ∃ c, mg "COUNTS" = some (.ref c) ∧ (c == sysModules) = false ∧ KDct K w c "flatten" (.int 2) ∧ KDct K w c "unflatten" (.int 3) ∧ KDct K w c "gather" (.int 2) ∧ KDct K w c "spread" (.int 3)
def Kd.cnt : Kd → Int
  | .flat => 2
  | .unflat _ => 3
  | .gath => 2
  | .spr _ => 3
section
variable {P : Program} {w : World} {K : PySem.W.Frag} {mg : Str → Option Value} {base : Heap}
theorem Counts.at_ (C : Counts K w mg) : ∃ c, mg "COUNTS" = some (.ref c) ∧ (c == sysModules) = false ∧ ∀ kd : Kd, KDct K w c kd.word (.int kd.cnt) := by
  obtain ⟨c, h1, h2, a1, a2, a3, a4⟩ := C.ex
  refine ⟨c, h1, h2, fun kd => ?_⟩
  cases kd
  · exact a1
  · exact a2
  · exact a3
  · exact a4
theorem sc_read_step : FnScope ["step", "word", "rest"] ["step"] (defScope (topS 29)) := ⟨rfl, rfl, rfl, by decide +kernel, rfl, by decide +kernel, by decide +kernel⟩
def spRead (K : PySem.W.Frag) : Sp := fun vs H Q _ => ∃ (sv : V) (s : Stp), vs = [sv] ∧ SV K H s sv ∧ ∀ (a : Addr) (pv : V) H', Same H H' → PV K H' s.path pv → H' a = some (.tup [.str s.kd.word, pv, .int s.kd.num]) → Q (.ref a) H'
theorem ok_read (T : Top K mg) (C : Counts K w mg) : C8.Cal P w K mg base 1 "read_step" (spRead K) [] := by
  obtain ⟨c, hmc, hlow, hkd⟩ := C.at_
  refine cal_of T.d_read_step sc_read_step (fun _ _ _ _ _ _ us hl => match us, hl with | [_], _ => rfl) (fun vs H Q E h => ?_) fun f cdv A outer sh H vs Q E hr h => ?_
  · obtain ⟨sv, s, rfl, _⟩ := h; rfl
  · obtain ⟨sv, ⟨kd, p⟩, rfl, hsv, k⟩ := h
    obtain ⟨a, qv, rfl, hs, hpv⟩ := sv_inv hsv
    refine ⟨_, (pss_cons (ps_asg (pv 0) (pg_star (i := 1) (by rfl) (pgs_cons (pg_name (i := 1) sc_read_step.nd rfl (by first | exact Or.inl rfl | exact Or.inr rfl)) (pgs_star (pg_name (i := 2) sc_read_step.nd rfl (by first | exact Or.inl rfl | exact Or.inr rfl)) pgs_nil))))
      (pss_cons (ps_if (PW.pt (pw_or (pt_cmpR op_ne (pe_kget2 (C8.pe_gc (v := .ref c) rfl ⟨_, hmc, rfl⟩) (pv 1) pe_int ⟨rfl, rfl, rfl, rfl⟩) (pe_callB call_len_seq (by rfl) T.n_len (by decide +kernel) (pa_cons (pv 0) pa_nil)) (nomark _)) (pw_or1 (pt_not (pt_val (pe_callB call_isi (by rfl) T.n_isinstance (by decide +kernel) (pa_cons (pe_ix ix_list (pv 2) pe_int (fun _ _ => rfl)) (pa_cons (pe_bltn (v := .ty "tuple") (u := .type "tuple") (by rfl) T.n_tuple (by decide +kernel) rfl) pa_nil)))))))) (pss_one ps_never) pss_nil)
      (pss_cons (ps_if (PW.pt (pw_and (pt_cmpR op_eq (pe_callB call_len_seq (by rfl) T.n_len (by decide +kernel) (pa_cons (pv 2) pa_nil)) pe_int (nomark _)) (pw_and1 (pt_not (pt_val (pe_callB call_isi (by rfl) T.n_isinstance (by decide +kernel) (pa_cons (pe_ix ix_list (pv 2) pe_int (fun _ _ => rfl)) (pa_cons (pe_bltn (v := .ty "int") (u := .type "int") (by rfl) T.n_int (by decide +kernel) rfl) pa_nil)))))))) (pss_one ps_never) pss_nil)
      (pss_one (ps_ret (pe_tup (pa_cons (pv 1) (pa_cons (pe_ix ix_list (pv 2) pe_int (fun _ _ => rfl)) (pa_cons (pe_ifExp (pt_cmpR op_eq (pe_callB call_len_seq (by rfl) T.n_len (by decide +kernel) (pa_cons (pv 2) pa_nil)) pe_int (nomark _)) (pe_ix ix_list (pv 2) pe_int (fun _ _ => rfl)) pe_int) pa_nil))))))))), ?_⟩
    refine ⟨_, rfl, a, _, rfl, hs, by simp, fun D0 hD => ⟨_, _, rfl, _, _, rfl, rfl, ?_⟩⟩
    have s1 : Same H (upd H D0 (.lst (List.drop 1 (.str kd.word :: qv :: kd.argV)))) := Same.upd hD
    have hL : SqL K (upd H D0 (.lst (List.drop 1 (.str kd.word :: qv :: kd.argV)))) D0 (qv :: kd.argV) := SqL.of upd_same
    obtain ⟨b, rfl, hsb⟩ := pv_inv hpv
    refine ⟨c, kd.word, .int kd.cnt, rfl, hlow, hkd kd, _, rfl, rfl, _, rfl, a, _, rfl, .inr (Same.tle s1 _ _ hs), rfl, _, rfl, ?_⟩
    refine iteNS (by cases kd <;> rfl) ?_
    refine ⟨_, rfl, D0, _, _, _, rfl, rfl, hL, atI_nat (j := 0) rfl, _, _, _, _, true, rfl, .ty "tuple", SqT.tyx (Same.tle s1 _ _ hsb), kit_ty (by decide +kernel), true, rfl, iteF ?_⟩
    refine ⟨_, rfl, D0, _, rfl, .inl hL, rfl, _, rfl, ?_⟩
    cases kd with
    | flat =>
      refine iteF ?_
      refine ⟨_, rfl, _, rfl, D0, _, _, _, rfl, rfl, hL, atI_nat (j := 0) rfl, _, rfl, D0, _, rfl, .inl hL, rfl, _, rfl, iteF ⟨(by show 3 ≤ sizeLine; rw [sizeLine_eq]; decide), fun l hl => ?_⟩⟩
      exact k l _ _ (s1.trans (Same.upd hl)) (D.le (Same.tle (s1.trans (Same.upd hl))) _ _ hpv) upd_same
    | gath =>
      refine iteF ?_
      refine ⟨_, rfl, _, rfl, D0, _, _, _, rfl, rfl, hL, atI_nat (j := 0) rfl, _, rfl, D0, _, rfl, .inl hL, rfl, _, rfl, iteF ⟨(by show 3 ≤ sizeLine; rw [sizeLine_eq]; decide), fun l hl => ?_⟩⟩
      exact k l _ _ (s1.trans (Same.upd hl)) (D.le (Same.tle (s1.trans (Same.upd hl))) _ _ hpv) upd_same
    | unflat q =>
      refine iteT ?_
      refine ⟨_, rfl, D0, _, _, _, rfl, rfl, hL, atI_nat (j := 1) rfl, _, _, _, _, true, rfl, .ty "int", .base (.int _), kit_ty (by decide +kernel), true, rfl, iteF ?_⟩
      refine ⟨_, rfl, _, rfl, D0, _, _, _, rfl, rfl, hL, atI_nat (j := 0) rfl, _, rfl, D0, _, rfl, .inl hL, rfl, _, rfl, iteT ⟨_, rfl, D0, _, _, _, rfl, rfl, hL, atI_nat (j := 1) rfl, (by show 3 ≤ sizeLine; rw [sizeLine_eq]; decide), fun l hl => ?_⟩⟩
      exact k l _ _ (s1.trans (Same.upd hl)) (D.le (Same.tle (s1.trans (Same.upd hl))) _ _ hpv) upd_same
    | spr q =>
      refine iteT ?_
      refine ⟨_, rfl, D0, _, _, _, rfl, rfl, hL, atI_nat (j := 1) rfl, _, _, _, _, true, rfl, .ty "int", .base (.int _), kit_ty (by decide +kernel), true, rfl, iteF ?_⟩
      refine ⟨_, rfl, _, rfl, D0, _, _, _, rfl, rfl, hL, atI_nat (j := 0) rfl, _, rfl, D0, _, rfl, .inl hL, rfl, _, rfl, iteT ⟨_, rfl, D0, _, _, _, rfl, rfl, hL, atI_nat (j := 1) rfl, (by show 3 ≤ sizeLine; rw [sizeLine_eq]; decide), fun l hl => ?_⟩⟩
      exact k l _ _ (s1.trans (Same.upd hl)) (D.le (Same.tle (s1.trans (Same.upd hl))) _ _ hpv) upd_same
end
end Td
end

section
set_option maxHeartbeats 1000000
/-! TdApply: apply_step. -/
namespace Td
open PySem PySem.Spec PyProof.Rows L2
/-- the step s takes t to t2, within the limits -/
structure Goes (t : T) (s : Stp) (t2 : T) : Prop where
  ex : ∃ u u', t.part s.path = some u ∧ Chg s.kd u u' ∧ t2 = t.put s.path u'
  ok : t2.ok
  cnt : t2.cnt ≤ 400
  lev : t2.lev ≤ 40
  path : s.path.length ≤ 60
theorem tv_non {K : PySem.W.Frag} {H : Hp} {t : T} {v : V} (h : TV K H t v) : v ≠ .non := by
  cases t with
  | leaf o => rw [tv_leaf.mp h]; intro z; cases z
  | node ts => obtain ⟨a, _, rfl, _⟩ := tv_node.mp h; intro z; cases z
theorem part_ok : ∀ {p : List Nat} {t u : T}, t.ok → t.part p = some u → u.ok ∧ u.cnt ≤ t.cnt
  | [], t, u, h, e => by rw [T.part] at e; cases e; exact ⟨h, Nat.le_refl _⟩
  | i :: p, t, u, h, e => by
    obtain ⟨ts, c, rfl, hc, hp⟩ := part_cons e
    obtain ⟨h1, h2⟩ := part_ok (oks_get (ok_node.mp h).2 hc) hp
    exact ⟨h1, Nat.le_trans h2 (by rw [cnt_node]; exact cnts_get hc)⟩
section
variable {P : Program} {w : World} {K : PySem.W.Frag} {mg : Str → Option Value} {base : Heap}
theorem sc_apply_step : FnScope ["tree", "step", "word", "path", "count", "node", "later"] ["tree", "step"] (defScope (topS 30)) := ⟨rfl, rfl, rfl, by decide +kernel, rfl, by decide +kernel, by decide +kernel⟩
def spApply (K : PySem.W.Frag) : Sp := fun vs H Q _ => ∃ (t t2 : T) (v sv : V) (s : Stp), vs = [v, sv] ∧ TVn K H t v ∧ SV K H s sv ∧ Goes t s t2 ∧ ∀ v' H', Same H H' → TVn K H' t2 v' → Q v' H'
theorem ok_apply (T : Top K mg) (C : Counts K w mg) : C8.Cal P w K mg base 64 "apply_step" (spApply K) [] := by
  have c_read_step : C8.Cal P w K mg base 1 "read_step" (spRead K) [] := ok_read T C
  have c_part_at : C8.Cal P w K mg base 1 "part_at" (spPart K) [] := ok_part T
  have c_changed : C8.Cal P w K mg base 2 "changed" (spChanged K) [] := ok_changed T
  have c_put_part : C8.Cal P w K mg base 62 "put_part" (spPut K 61) [] := ok_put T 61
  have c_within : C8.Cal P w K mg base 63 "within" (spWithin K 61) [] := ok_within T 61
  refine cal_of T.d_apply_step sc_apply_step (fun _ _ _ _ _ _ us hl => match us, hl with | [_, _], _ => rfl) (fun vs H Q E h => ?_) fun f cdv A outer sh H vs Q E hr h => ?_
  · obtain ⟨t, t2, v, sv, s, rfl, _⟩ := h; rfl
  · obtain ⟨t, t2, v, sv, s, rfl, hv, hsv, ⟨⟨u, u', hp, hc, rfl⟩, hok, hcnt, hlev, hpl⟩, k⟩ := h
    refine ⟨_, (pss_cons (ps_asg (C8.pe_c c_read_step hr (by omega) rfl (pa_cons (pv 1) pa_nil)) (pg_tup (by rfl) (pgs_cons (pg_name (i := 2) sc_apply_step.nd rfl (by first | exact Or.inl rfl | exact Or.inr rfl)) (pgs_cons (pg_name (i := 3) sc_apply_step.nd rfl (by first | exact Or.inl rfl | exact Or.inr rfl)) (pgs_cons (pg_name (i := 4) sc_apply_step.nd rfl (by first | exact Or.inl rfl | exact Or.inr rfl)) pgs_nil)))))
      (pss_cons (ps_set (i := 5) sc_apply_step.nd rfl (by first | exact Or.inl rfl | exact Or.inr rfl) (C8.pe_c c_part_at hr (by omega) rfl (pa_cons (pv 0) (pa_cons (pv 3) pa_nil))))
      (pss_cons (ps_set (i := 6) sc_apply_step.nd rfl (by first | exact Or.inl rfl | exact Or.inr rfl) (pe_ifExp (pt_cmpR op_isN (pv 5) pe_non (nomark _)) pe_non (C8.pe_c c_changed hr (by omega) rfl (pa_cons (pv 5) (pa_cons (pv 2) (pa_cons (pv 4) pa_nil))))))
      (pss_cons (ps_if (pt_cmpR op_isN (pv 6) pe_non (nomark _)) pss_never pss_nil)
      (pss_one (ps_ret (C8.pe_c c_within hr (by omega) rfl (pa_cons (C8.pe_c c_put_part hr (by omega) rfl (pa_cons (pv 0) (pa_cons (pv 3) (pa_cons (pv 6) pa_nil)))) pa_nil)))))))), ?_⟩
    refine ⟨_, rfl, sv, s, rfl, hsv, fun a qv H1 s1 hq ha => ?_⟩
    refine ⟨a, _, rfl, SqT.of ha, rfl, _, _, rfl, _, _, rfl, _, _, rfl, rfl, ?_⟩
    have hv1 := hv.le (Same.tle s1)
    refine ⟨_, rfl, _, rfl, t, u, v, qv, s.path, rfl, hv1, hq, hp, fun nv hnv => ?_⟩
    refine ⟨_, rfl, rfl, _, rfl, ?_⟩
    dsimp only
    rw [decide_eq_false (tv_non hnv.tv)]
    refine iteF ?_
    refine ⟨_, rfl, _, rfl, _, rfl, u, u', nv, s.kd, rfl, hnv, hc, fun lv H2 s2 hl => ?_⟩
    refine ⟨_, rfl, rfl, _, rfl, ?_⟩
    dsimp only
    rw [decide_eq_false (tv_non hl)]
    refine iteF ?_
    refine ⟨_, rfl, _, rfl, _, rfl, t, u, u', v, qv, lv, s.path, rfl, hv1.le (Same.tle s2), D.le (Same.tle s2) _ _ hq, hl, hp, by omega, hpl, fun v3 H3 s3 h3 => ?_⟩
    exact ⟨_, v3, rfl, ⟨h3, hok, by omega⟩, by omega, hcnt, hlev, fun H4 s4 => k v3 H4 ((s1.trans s2).trans (s3.trans s4)) ⟨h3.le (Same.tle s4), hok, by omega⟩⟩
end
end Td
end

section
set_option maxHeartbeats 1000000
/-! TdApplys: apply_steps. -/
namespace Td
open PySem PySem.Spec PyProof.Rows L2
inductive Run : T → List Stp → T → Prop
  | nil (t : T) : Run t [] t
  | cons {t t1 t2 : T} {s : Stp} {ss : List Stp} : Goes t s t1 → Run t1 ss t2 → Run t (s :: ss) t2
section
variable {P : Program} {w : World} {K : PySem.W.Frag} {mg : Str → Option Value} {base : Heap}
theorem sc_apply_steps : FnScope ["tree", "steps", "at", "step", "e"] ["tree", "steps"] (defScope (topS 31)) := ⟨rfl, rfl, rfl, by decide +kernel, rfl, by decide +kernel, by decide +kernel⟩
def spApplys (K : PySem.W.Frag) : Sp := fun vs H Q _ => ∃ (t t2 : T) (v : V) (l : Addr) (ss : List Stp) (xs : List V), vs = [v, .ref l] ∧ TVn K H t v ∧ SqL K H l xs ∧ xs.length = ss.length ∧ (∀ (i : Nat) s x, ss[i]? = some s → xs[i]? = some x → SV K H s x) ∧ Run t ss t2 ∧ ∀ v' H', Same H H' → TVn K H' t2 v' → Q v' H'
theorem ok_applys (T : Top K mg) (C : Counts K w mg) : C8.Cal P w K mg base 65 "apply_steps" (spApplys K) [] := by
  have c_apply_step : C8.Cal P w K mg base 64 "apply_step" (spApply K) [] := ok_apply T C
  refine cal_of T.d_apply_steps sc_apply_steps (fun _ _ _ _ _ _ us hl => match us, hl with | [_, _], _ => rfl) (fun vs H Q E h => ?_) fun f cdv A outer sh H vs Q E hr h => ?_
  · obtain ⟨t, t2, v, l, ss, xs, rfl, _⟩ := h; rfl
  · obtain ⟨t, t2, v, l, ss, xs, rfl, hv, hl, hlen, hss, hrun, k⟩ := h
    refine ⟨_, (pss_cons (ps_for PassesOwn.never rfl (pi_enum (by rfl) T.n_enumerate (pa_cons (pv 1) pa_nil)) (pg_tup (by rfl) (pgs_cons (pg_name (i := 2) sc_apply_steps.nd rfl (by first | exact Or.inl rfl | exact Or.inr rfl)) (pgs_cons (pg_name (i := 3) sc_apply_steps.nd rfl (by first | exact Or.inl rfl | exact Or.inr rfl)) pgs_nil))) (pss_one (ps_try_thru0 (pss_one (ps_set (i := 0) sc_apply_steps.nd rfl (by first | exact Or.inl rfl | exact Or.inr rfl) (C8.pe_c c_apply_step hr (by omega) rfl (pa_cons (pv 0) (pa_cons (pv 3) pa_nil))))))))
      (pss_one (ps_ret (pv 0)))), ?_⟩
    refine ⟨_, rfl, l, xs, rfl, hl, for_it walk_enum (fun i σ H1 => Same H H1 ∧ ∃ (t1 : Td.T) (v1 : V) (x y z : Option V), σ = [some v1, some (.ref l), x, y, z] ∧ TVn K H1 t1 v1 ∧ Run t1 (ss.drop i) t2) ⟨.refl H, t, v, none, none, none, rfl, hv, hrun⟩ (fun i σ H1 _ p => p.1.seq hl) ?_ ?_⟩
    · rintro i x σ H1 H2 hi ⟨s1, t1, v1, x1, y1, z1, rfl, hv1, hr1⟩ ⟨T0, a0, b0, rfl, e1, rfl, e3, e4⟩
      cases e3
      have hil : i < ss.length := by omega
      have hd : ss.drop i = ss[i] :: ss.drop (i + 1) := List.drop_eq_getElem_cons hil
      rw [hd] at hr1
      cases hr1 with
      | cons hg hr2 =>
        have sN : Same H1 (upd H1 T0 (.tup [.int (i : Nat), b0])) := Same.upd e1
        have hsv := hss i _ b0 (List.getElem?_eq_getElem hil) e4
        refine ⟨T0, _, rfl, SqT.of upd_same, rfl, _, _, rfl, _, _, rfl, rfl, ?_⟩
        refine ⟨_, rfl, _, rfl, t1, _, v1, b0, _, rfl, hv1.le (Same.tle sN), D.le (Same.tle (s1.trans sN)) _ _ hsv, hg, fun v' H' s' hv' => ?_⟩
        exact ⟨(s1.trans sN).trans s', _, v', _, _, _, rfl, hv', hr2⟩
    · rintro σ H1 ⟨s1, t1, v1, x1, y1, z1, rfl, hv1, hr1⟩
      rw [hlen, List.drop_length] at hr1
      cases hr1
      exact ⟨_, rfl, k _ _ s1 hv1⟩
end
end Td
end

section
set_option maxHeartbeats 1000000
/-! TdMir: walks, as plain relations: what the defs over a walk do. -/
namespace Td
open PySem PySem.Spec PyProof.Rows L2
structure Wk where
  here : T
  steps : List Stp
  backs : List Stp
/-- a walk does a step -/
inductive Does (W : Wk) (s : Stp) : Wk → Prop
  | mk {u u' t2 : T} : W.here.part s.path = some u → Chg s.kd u u' → Goes W.here s t2 → W.steps.length ≤ 100000 → W.backs.length ≤ 100000 → Does W s ⟨t2, W.steps ++ [s], W.backs ++ [s.back u]⟩
/-- a loop over numbers -/
inductive Loop (S : Nat → Wk → Wk → Prop) : Nat → Nat → Wk → Wk → Prop
  | nil {m : Nat} {W : Wk} : Loop S m m W W
  | cons {i m : Nat} {W W1 W2 : Wk} : i < m → S i W W1 → Loop S (i + 1) m W1 W2 → Loop S i m W W2
/-- a loop over a list -/
inductive LoopL {α : Type} (S : α → Wk → Wk → Prop) : List α → Wk → Wk → Prop
  | nil {W : Wk} : LoopL S [] W W
  | cons {r : α} {rs : List α} {W W1 W2 : Wk} : S r W W1 → LoopL S rs W1 W2 → LoopL S (r :: rs) W W2
theorem LoopL.append {α : Type} {S : α → Wk → Wk → Prop} {rs qs : List α} {W W1 W2 : Wk} (a : LoopL S rs W W1) (b : LoopL S qs W1 W2) : LoopL S (rs ++ qs) W W2 := by
  induction a with
  | nil => exact b
  | cons h _ ih => exact .cons h (ih b)
/-- make_prime -/
def MP : Nat → Wk → List Nat → Wk → Prop
  | 0, _, _, _ => False
  | n + 1, W, p, W' => (∃ o, W.here.part p = some (.leaf o) ∧ W' = W) ∨
    ∃ (ts us : List T) (q : Nat) (W1 : Wk), W.here.part p = some (.node ts) ∧ LeastF ts.length q ∧ q ≤ 400 ∧ ((q < ts.length ∧ Does W ⟨.unflat q, p⟩ W1) ∨ (¬ q < ts.length ∧ W1 = W)) ∧
      W1.here.part p = some (.node us) ∧ Loop (fun i A B => MP n A (p ++ [i]) B) 0 us.length W1 W'
/-- spread_like -/
def SL : Nat → Wk → List Nat → T → Wk → Prop
  | 0, _, _, _, _ => False
  | _ + 1, W, _, .leaf _, W' => W' = W
  | n + 1, W, p, .node ts, W' => ∃ W1, Does W ⟨.spr ts.length, p⟩ W1 ∧ Loop (fun i A B => ∃ t, ts[i]? = some t ∧ SL n A (p ++ [i]) t B) 0 ts.length W1 W'
/-- raise_prime -/
def RP : Nat → Wk → List Nat → Nat → Wk → Prop
  | 0, _, _, _, _ => False
  | n + 1, W, p, q, W' => ∃ ts, W.here.part p = some (.node ts) ∧ ((ts.length = q ∧ W' = W) ∨
    (ts.length ≠ q ∧ ∃ W1 W2, Loop (fun i A B => RP n A (p ++ [i]) q B) 0 ts.length W W1 ∧ Does W1 ⟨.flat, p⟩ W2 ∧ Does W2 ⟨.unflat q, p⟩ W'))
/-- make_like -/
def ML : Nat → Wk → List Nat → T → Wk → Prop
  | 0, _, _, _, _ => False
  | _ + 1, W, _, .leaf _, W' => W' = W
  | n + 1, W, p, .node ts, W' => ∃ W1, RP 60 W p ts.length W1 ∧ Loop (fun i A B => ∃ t, ts[i]? = some t ∧ ML n A (p ++ [i]) t B) 0 ts.length W1 W'
mutual
/-- the ends: path, first, step -/
def T.eps : T → List Nat → Nat → Nat → List (List Nat × Nat × Nat)
  | .leaf _ => fun p f s => [(p, f, s)]
  | .node ts => fun p f s => epss ts p 0 f s (s * ts.length)
/-- from the i-th child on; its first item, what it grows by, their step -/
def epss : List T → List Nat → Nat → Nat → Nat → Nat → List (List Nat × Nat × Nat)
  | [] => fun _ _ _ _ _ => []
  | t :: ts => fun p i f s w => t.eps (p ++ [i]) f w ++ epss ts p (i + 1) (f + s) s w
end
mutual
/-- the ends: first, step, owner -/
def T.ends : T → Nat → Nat → List (Nat × Nat × Str)
  | .leaf o => fun f s => [(f, s, o)]
  | .node ts => fun f s => endss ts f s (s * ts.length)
def endss : List T → Nat → Nat → Nat → List (Nat × Nat × Str)
  | [] => fun _ _ _ => []
  | t :: ts => fun f s w => t.ends f w ++ endss ts (f + s) s w
end
/-- refined -/
def RF (t o : T) (W : Wk) : Prop := ∃ W1, LoopL (fun r A B => SL 60 A r.1 (o.taken r.2.1 r.2.2) B) (t.eps [] 0 1) ⟨t, [], []⟩ W1 ∧ MP 60 W1 [] W
/-- the rows of common, before they are sorted -/
def cmn (a b : T) : List (Nat × Nat × Str × Str) := (a.ends 0 1).flatMap fun r => ((b.taken r.1 r.2.1).ends 0 1).map fun q => (r.1 + r.2.1 * q.1, r.2.1 * q.2.1, r.2.2, q.2.2)
/-- steps_between -/
structure SB (a b : T) (ss : List Stp) : Prop where
  eq : ∀ r ∈ a.ends 0 1, ∀ q ∈ (b.taken r.1 r.2.1).ends 0 1, q.2.2 = r.2.2
  len : (cmn a b).length ≤ 400
  fit : ∀ r ∈ cmn a b, 1 ≤ r.2.1 ∧ r.2.1 < 2 ^ 40
  go : ∃ W G W2, RF a b W ∧ RF b a G ∧ ML 60 W [] G.here W2 ∧ ss = W2.steps ++ G.backs.reverse
end Td
end

section
set_option maxHeartbeats 1000000
/-! TdP1: what trees do: owners, addresses; equal in effect and in rows. -/
namespace Td
open PySem PySem.Spec PyProof.Rows L2
/-- by the children -/
theorem T.ind {P : T → Prop} (h1 : ∀ o, P (.leaf o)) (h2 : ∀ ts, (∀ t ∈ ts, P t) → P (.node ts)) (t : T) : P t := by
  have key : ∀ n t, sizeOf t < n → P t := by
    intro n
    induction n with
    | zero => intro t h; omega
    | succ n ih =>
      intro t h
      cases t with
      | leaf o => exact h1 o
      | node ts =>
        refine h2 ts fun t ht => ih t ?_
        have := List.sizeOf_lt_of_mem ht
        have e := T.node.sizeOf_spec ts
        omega
  exact key _ t (Nat.lt_succ_self _)
theorem mod_dvd {k a b : Nat} (h : a ≤ b) : a % k = b % k ↔ k ∣ b - a := by
  constructor
  · intro e
    exact Nat.dvd_of_mod_eq_zero (Nat.sub_mod_eq_zero_of_mod_eq e.symm)
  · rintro ⟨c, hc⟩
    rw [show b = a + k * c by omega, Nat.add_mul_mod_self_left]
mutual
/-- who gets the n-th item -/
def T.own : T → Nat → Str
  | .leaf o => fun _ => o
  | .node ts => fun n => ((owns ts).getD (n % ts.length) fun _ => ⟨#[]⟩) (n / ts.length)
def owns : List T → List (Nat → Str)
  | [] => []
  | t :: ts => t.own :: owns ts
end
mutual
/-- by which way it goes -/
def T.addr : T → Nat → List Nat
  | .leaf _ => fun _ => []
  | .node ts => fun n => n % ts.length :: ((addrs ts).getD (n % ts.length) fun _ => []) (n / ts.length)
def addrs : List T → List (Nat → List Nat)
  | [] => []
  | t :: ts => t.addr :: addrs ts
end
theorem owns_map : ∀ ts : List T, owns ts = ts.map T.own
  | [] => rfl
  | t :: ts => by rw [owns, owns_map ts]; rfl
theorem addrs_map : ∀ ts : List T, addrs ts = ts.map T.addr
  | [] => rfl
  | t :: ts => by rw [addrs, addrs_map ts]; rfl
theorem own_leaf {o : Str} {n : Nat} : (T.leaf o).own n = o := by rw [T.own]
theorem addr_leaf {o : Str} {n : Nat} : (T.leaf o).addr n = [] := by rw [T.addr]
theorem own_node {ts : List T} {n : Nat} {c : T} (h : ts[n % ts.length]? = some c) : (T.node ts).own n = c.own (n / ts.length) := by
  rw [T.own, owns_map]; dsimp only; rw [List.getD_eq_getElem?_getD, List.getElem?_map, h]; rfl
theorem addr_node {ts : List T} {n : Nat} {c : T} (h : ts[n % ts.length]? = some c) : (T.node ts).addr n = n % ts.length :: c.addr (n / ts.length) := by
  rw [T.addr, addrs_map]; dsimp only; rw [List.getD_eq_getElem?_getD, List.getElem?_map, h]; rfl
theorem get_mod {ts : List T} (h : 0 < ts.length) (n : Nat) : ∃ c, ts[n % ts.length]? = some c := ⟨_, List.getElem?_eq_getElem (Nat.mod_lt _ h)⟩
/-- equal in effect, with the same rows -/
structure Sem (t u : T) : Prop where
  own : ∀ n, t.own n = u.own n
  addr : ∀ n m, t.addr n = t.addr m ↔ u.addr n = u.addr m
theorem Sem.refl (t : T) : Sem t t := ⟨fun _ => rfl, fun _ _ => Iff.rfl⟩
theorem Sem.symm {t u : T} (h : Sem t u) : Sem u t := ⟨fun n => (h.own n).symm, fun n m => (h.addr n m).symm⟩
theorem Sem.trans {t u v : T} (h : Sem t u) (k : Sem u v) : Sem t v := ⟨fun n => (h.own n).trans (k.own n), fun n m => (h.addr n m).trans (k.addr n m)⟩
/-- by the children -/
theorem sem_node {ts us : List T} (hl : ts.length = us.length) (h0 : 0 < ts.length) (h : ∀ (i : Nat) t u, ts[i]? = some t → us[i]? = some u → Sem t u) : Sem (.node ts) (.node us) := by
  refine ⟨fun n => ?_, fun n m => ?_⟩
  · obtain ⟨c, e1⟩ := get_mod h0 n
    obtain ⟨d, e2⟩ := get_mod (hl ▸ h0) n
    rw [own_node e1, own_node e2, hl]
    exact (h _ _ _ e1 (by rw [hl]; exact e2)).own _
  · obtain ⟨c, e1⟩ := get_mod h0 n
    obtain ⟨d, e2⟩ := get_mod (hl ▸ h0) n
    obtain ⟨c', e3⟩ := get_mod h0 m
    obtain ⟨d', e4⟩ := get_mod (hl ▸ h0) m
    rw [addr_node e1, addr_node e2, addr_node e3, addr_node e4, List.cons.injEq, List.cons.injEq]
    rw [← hl] at e2 e4 ⊢
    constructor
    · rintro ⟨q1, q2⟩
      refine ⟨q1, ?_⟩
      rw [q1] at e1 e2
      rw [e1] at e3; cases e3
      rw [e2] at e4; cases e4
      exact ((h _ _ _ e1 e2).addr _ _).mp q2
    · rintro ⟨q1, q2⟩
      refine ⟨q1, ?_⟩
      rw [q1] at e1 e2
      rw [e1] at e3; cases e3
      rw [e2] at e4; cases e4
      exact ((h _ _ _ e1 e2).addr _ _).mpr q2
/-- a child of two nodes alike -/
theorem sem_child {ts us : List T} (hl : ts.length = us.length) (h : Sem (.node ts) (.node us)) {i : Nat} {t u : T} (e1 : ts[i]? = some t) (e2 : us[i]? = some u) : Sem t u := by
  have hi : i < ts.length := (List.getElem?_eq_some_iff.mp e1).1
  have hm : ∀ n, (i + ts.length * n) % ts.length = i := fun n => by rw [Nat.add_mul_mod_self_left, Nat.mod_eq_of_lt hi]
  have hd : ∀ n, (i + ts.length * n) / ts.length = n := fun n => by rw [Nat.add_mul_div_left _ _ (by omega), Nat.div_eq_of_lt hi, Nat.zero_add]
  have a1 : ∀ n, ts[(i + ts.length * n) % ts.length]? = some t := fun n => by rw [hm]; exact e1
  have a2 : ∀ n, us[(i + ts.length * n) % us.length]? = some u := fun n => by rw [← hl, hm]; exact e2
  refine ⟨fun n => ?_, fun n m => ?_⟩
  · have := h.own (i + ts.length * n)
    rw [own_node (a1 n), own_node (a2 n), ← hl, hd] at this
    exact this
  · have := h.addr (i + ts.length * n) (i + ts.length * m)
    rw [addr_node (a1 n), addr_node (a2 n), addr_node (a1 m), addr_node (a2 m), ← hl, hd, hd, hm, hm, List.cons.injEq, List.cons.injEq] at this
    simpa using this
/-! ### unflatten, flatten -/
theorem pick_get {α : Type} {ts : List α} {r q c m : Nat} (hr : r < q) (hl : ts.length = c * q) (hm : m < c) : (pickT ts r q c)[m]? = ts[r + m * q]? := by
  unfold pickT
  have hall : ∀ j, j < c → r + j * q < ts.length := fun j hj => by
    rw [hl]
    calc r + j * q < q + j * q := by omega
      _ = (j + 1) * q := by rw [Nat.add_mul, Nat.one_mul, Nat.add_comm]
      _ ≤ c * q := Nat.mul_le_mul_right _ hj
  have : (((List.range c).map fun m => r + m * q).filterMap fun i => ts[i]?) = (List.range c).pmap (fun j h => ts[r + j * q]'(hall j h)) (fun j h => List.mem_range.mp h) := by
    apply List.ext_getElem?
    intro i
    rw [List.filterMap_map]
    have e : ∀ L : List Nat, (∀ j ∈ L, j < c) → (L.filterMap ((fun i => ts[i]?) ∘ fun m => r + m * q))[i]? = (L[i]?).bind fun j => ts[r + j * q]? := by
      intro L
      induction L generalizing i with
      | nil => intro _; rfl
      | cons j L ih =>
        intro h
        have hj : j < c := h j List.mem_cons_self
        have e0 : ((fun i => ts[i]?) ∘ fun m => r + m * q) j = some (ts[r + j * q]'(hall j hj)) := List.getElem?_eq_getElem (hall j hj)
        rw [List.filterMap_cons, e0]
        cases i with
        | zero => simp [List.getElem?_eq_getElem (hall j hj)]
        | succ i => simpa using ih i fun k hk => h k (List.mem_cons_of_mem _ hk)
    rw [e _ fun j hj => List.mem_range.mp hj]
    by_cases hi : i < c
    · simp [hi, List.getElem?_eq_getElem (hall i hi)]
    · simp [hi]
  rw [this]
  simp [hm, List.getElem?_eq_getElem (hall m hm)]
theorem pick_len {α : Type} {ts : List α} {r q c : Nat} (hr : r < q) (hl : ts.length = c * q) : (pickT ts r q c).length = c := by
  have h1 : ∀ m, m < c → (pickT ts r q c)[m]? ≠ none := fun m hm => by
    rw [pick_get hr hl hm]
    have : r + m * q < ts.length := by
      rw [hl]
      calc r + m * q < q + m * q := by omega
        _ = (m + 1) * q := by rw [Nat.add_mul, Nat.one_mul, Nat.add_comm]
        _ ≤ c * q := Nat.mul_le_mul_right _ hm
    rw [List.getElem?_eq_getElem this]
    simp
  have h2 : (pickT ts r q c).length ≤ c := by
    unfold pickT
    exact Nat.le_trans (List.length_filterMap_le _ _) (by simp)
  rcases Nat.lt_or_ge (pickT ts r q c).length c with h | h
  · exact absurd (List.getElem?_eq_none_iff.mpr (Nat.le_refl _)) (h1 _ h)
  · omega
theorem unflat_len {ts : List T} {q c : Nat} : (unflatT ts q c).length = q := by unfold unflatT; simp
theorem unflat_get {ts : List T} {q c r : Nat} (h : r < q) : (unflatT ts q c)[r]? = some (.node (pickT ts r q c)) := by unfold unflatT; simp [h]
theorem sem_unflat {ts : List T} {q c : Nat} (hq : 0 < q) (hc : 0 < c) (hl : ts.length = c * q) : Sem (.node ts) (.node (unflatT ts q c)) := by
  have hts : 0 < ts.length := by rw [hl]; exact Nat.mul_pos hc hq
  have hidx : ∀ n, n % q + (n / q % c) * q = n % ts.length := fun n => by rw [hl, Nat.mul_comm c q, Nat.mod_mul, Nat.mul_comm q]
  have hdiv : ∀ n, n / q / c = n / ts.length := fun n => by rw [hl, Nat.mul_comm c q, Nat.div_div_eq_div_mul]
  have g1 : ∀ n, (unflatT ts q c)[n % (unflatT ts q c).length]? = some (.node (pickT ts (n % q) q c)) := fun n => by rw [unflat_len, unflat_get (Nat.mod_lt _ hq)]
  have g2 : ∀ n x, ts[n % ts.length]? = some x → (pickT ts (n % q) q c)[(n / q) % (pickT ts (n % q) q c).length]? = some x := fun n x hx => by
    rw [pick_len (Nat.mod_lt _ hq) hl, pick_get (Nat.mod_lt _ hq) hl (Nat.mod_lt _ hc), hidx]; exact hx
  refine ⟨fun n => ?_, fun n m => ?_⟩
  · obtain ⟨x, hx⟩ := get_mod hts n
    rw [own_node hx, own_node (g1 n), unflat_len, own_node (g2 n x hx), pick_len (Nat.mod_lt _ hq) hl, hdiv]
  · obtain ⟨x, hx⟩ := get_mod hts n
    obtain ⟨y, hy⟩ := get_mod hts m
    rw [addr_node hx, addr_node hy, addr_node (g1 n), addr_node (g1 m), unflat_len, addr_node (g2 n x hx), addr_node (g2 m y hy), pick_len (Nat.mod_lt _ hq) hl, pick_len (Nat.mod_lt _ hq) hl, hdiv, hdiv]
    simp only [List.cons.injEq]
    rw [← and_assoc]
    refine and_congr ?_ Iff.rfl
    constructor
    · intro e
      have h1 : n % q = m % q := by
        have := congrArg (· % q) e
        simpa [hl, Nat.mod_mul_left_mod] using this
      refine ⟨h1, ?_⟩
      have := hidx n
      rw [e, ← hidx m, h1] at this
      have : n / q % c * q = m / q % c * q := by omega
      exact Nat.eq_of_mul_eq_mul_right hq this
    · rintro ⟨h1, h2⟩
      rw [← hidx n, ← hidx m, h1, h2]
theorem flat_len {ts : List T} {q : Nat} : (flatT ts q).length = q * ts.length := by unfold flatT; simp
theorem flat_get {ts us : List T} {q j : Nat} {x : T} (hj : j < q * ts.length) (h1 : ts[j % ts.length]? = some (.node us)) (h2 : us[j / ts.length]? = some x) : (flatT ts q)[j]? = some x := by
  unfold flatT
  rw [List.getElem?_map, List.getElem?_range hj]
  show some (flatI ts j) = _
  unfold flatI
  have e1 : ts.getD (j % ts.length) (.node []) = .node us := by rw [List.getD_eq_getElem?_getD, h1]; rfl
  rw [e1]
  show some (us.getD _ _) = _
  rw [List.getD_eq_getElem?_getD, h2]; rfl
/-- flattened and split again -/
theorem unflat_flat {ts : List T} {q : Nat} (h0 : 0 < ts.length) (hall : ∀ t ∈ ts, ∃ us, t = .node us ∧ us.length = q) : unflatT (flatT ts q) ts.length q = ts := by
  apply List.ext_getElem?
  intro i
  by_cases hi : i < ts.length
  · rw [unflat_get hi, List.getElem?_eq_getElem hi]
    obtain ⟨us, e, hl⟩ := hall ts[i] (List.getElem_mem hi)
    rw [e]
    congr 2
    have hfl : (flatT ts q).length = q * ts.length := flat_len
    apply List.ext_getElem?
    intro m
    by_cases hm : m < q
    · rw [pick_get hi hfl hm]
      have hlt : i + m * ts.length < q * ts.length := by
        calc i + m * ts.length < ts.length + m * ts.length := by omega
          _ = (m + 1) * ts.length := by rw [Nat.add_mul, Nat.one_mul, Nat.add_comm]
          _ ≤ q * ts.length := Nat.mul_le_mul_right _ hm
      have hmod : (i + m * ts.length) % ts.length = i := by rw [Nat.add_mul_mod_self_right, Nat.mod_eq_of_lt hi]
      have hdiv : (i + m * ts.length) / ts.length = m := by rw [Nat.add_mul_div_right _ _ h0, Nat.div_eq_of_lt hi, Nat.zero_add]
      have hmu : m < us.length := by omega
      rw [flat_get (us := us) (x := us[m]) hlt (by rw [hmod, List.getElem?_eq_getElem hi, e]) (by rw [hdiv, List.getElem?_eq_getElem hmu]), List.getElem?_eq_getElem hmu]
    · rw [List.getElem?_eq_none (by rw [pick_len hi hfl]; omega), List.getElem?_eq_none (by omega)]
  · rw [List.getElem?_eq_none (by rw [unflat_len]; omega), List.getElem?_eq_none (by omega)]
theorem sem_flat {ts : List T} {q : Nat} (h0 : 0 < ts.length) (hq : 0 < q) (hall : ∀ t ∈ ts, ∃ us, t = .node us ∧ us.length = q) : Sem (.node ts) (.node (flatT ts q)) := by
  have h := sem_unflat (ts := flatT ts q) (q := ts.length) (c := q) h0 hq flat_len
  rw [unflat_flat h0 hall] at h
  exact h.symm
/-- split and flattened again -/
theorem flat_unflat {ts : List T} {q c : Nat} (hq : 0 < q) (hl : ts.length = c * q) : flatT (unflatT ts q c) c = ts := by
  apply List.ext_getElem?
  intro j
  have hfl : (flatT (unflatT ts q c) c).length = ts.length := by rw [flat_len, unflat_len, hl]
  by_cases hj : j < ts.length
  · have h1 : j % q < q := Nat.mod_lt _ hq
    have h2 : j / q < c := by rw [Nat.div_lt_iff_lt_mul hq, ← hl]; exact hj
    refine flat_get (us := pickT ts (j % q) q c) (by rw [unflat_len, ← hl]; exact hj) (by rw [unflat_len, unflat_get h1]) ?_ |>.trans (List.getElem?_eq_getElem hj).symm
    rw [unflat_len, pick_get h1 hl h2, Nat.mul_comm, Nat.mod_add_div, List.getElem?_eq_getElem hj]
  · rw [List.getElem?_eq_none (by omega), List.getElem?_eq_none (by omega)]
/-! ### taken -/
theorem mk_own {L : List T} {n : Nat} {c : T} (h : L[n % L.length]? = some c) : (mkT L).own n = c.own (n / L.length) := by
  match L, h with
  | [], h => simp at h
  | [t], h =>
    have : n % 1 = 0 := Nat.mod_one n
    simp [this] at h
    subst h
    simp [mkT]
  | t :: u :: ts, h => exact own_node h
theorem mk_addr {L : List T} {n m : Nat} {c d : T} (h : L[n % L.length]? = some c) (h' : L[m % L.length]? = some d) : (mkT L).addr n = (mkT L).addr m ↔ n % L.length = m % L.length ∧ c.addr (n / L.length) = d.addr (m / L.length) := by
  match L, h, h' with
  | [], h, _ => simp at h
  | [t], h, h' =>
    simp [Nat.mod_one] at h h'
    subst h h'
    simp [mkT, Nat.mod_one]
  | t :: u :: ts, h, h' =>
    show (T.node (t :: u :: ts)).addr n = (T.node (t :: u :: ts)).addr m ↔ _
    rw [addr_node h, addr_node h', List.cons.injEq]
theorem nat_split (f s k n : Nat) (hk : 0 < k) : (f + s * n) % k = (f + s * (n % (k / Nat.gcd k s))) % k ∧ (f + s * n) / k = (f + s * (n % (k / Nat.gcd k s))) / k + s / Nat.gcd k s * (n / (k / Nat.gcd k s)) := by
  have hg : 0 < Nat.gcd k s := Nat.gcd_pos_of_pos_left _ hk
  generalize hd : Nat.gcd k s = g at *
  have h1 : g ∣ k := hd ▸ Nat.gcd_dvd_left k s
  have h2 : g ∣ s := hd ▸ Nat.gcd_dvd_right k s
  obtain ⟨a, rfl⟩ := h1
  obtain ⟨b, rfl⟩ := h2
  rw [Nat.mul_div_cancel_left _ hg, Nat.mul_div_cancel_left _ hg]
  have e : f + g * b * n = f + g * b * (n % a) + g * a * (b * (n / a)) := by
    have h := Nat.mod_add_div n a
    conv => lhs; rw [← h]
    rw [Nat.mul_add, ← Nat.add_assoc]
    congr 1
    simp only [Nat.mul_assoc, Nat.mul_left_comm]
  rw [e]
  exact ⟨Nat.add_mul_mod_self_left _ _ _, Nat.add_mul_div_left _ _ hk⟩
theorem nat_same (f s k n m : Nat) (hk : 0 < k) : (f + s * n) % k = (f + s * m) % k ↔ n % (k / Nat.gcd k s) = m % (k / Nat.gcd k s) := by
  have hg : 0 < Nat.gcd k s := Nat.gcd_pos_of_pos_left _ hk
  constructor
  · intro e
    have key : ∀ n m : Nat, n ≤ m → (f + s * n) % k = (f + s * m) % k → n % (k / Nat.gcd k s) = m % (k / Nat.gcd k s) := fun n m h e => by
      have h1 : k ∣ s * (m - n) := by
        have e2 : k ∣ (f + s * m) - (f + s * n) := (mod_dvd (Nat.add_le_add_left (Nat.mul_le_mul_left _ h) _)).mp e
        have e3 : (f + s * m) - (f + s * n) = s * (m - n) := by rw [Nat.mul_sub]; omega
        rwa [e3] at e2
      have h2 : k / Nat.gcd k s ∣ m - n := by
        have h3 : k / Nat.gcd k s * Nat.gcd k s ∣ s / Nat.gcd k s * (m - n) * Nat.gcd k s := by
          rw [Nat.div_mul_cancel (Nat.gcd_dvd_left k s), Nat.mul_right_comm, Nat.div_mul_cancel (Nat.gcd_dvd_right k s)]
          exact h1
        have h4 := Nat.dvd_of_mul_dvd_mul_right hg h3
        exact (Nat.coprime_div_gcd_div_gcd hg).dvd_of_dvd_mul_left h4
      exact (mod_dvd h).mpr h2
    rcases Nat.le_total n m with h | h
    · exact key n m h e
    · exact (key m n h e.symm).symm
  · intro e
    rw [(nat_split f s k n hk).1, (nat_split f s k m hk).1, e]
theorem gcd_fit {k s : Nat} (hk : 0 < k) : 0 < k / Nat.gcd k s := Nat.div_pos (Nat.le_of_dvd hk (Nat.gcd_dvd_left k s)) (Nat.gcd_pos_of_pos_left _ hk)
theorem taken_get {ts : List T} {f s n : Nat} {c : T} (h0 : 0 < ts.length) (hc : ts[(f + s * n) % ts.length]? = some c) :
    ((List.range (ts.length / Nat.gcd ts.length s)).map (tkI ts f s))[n % ((List.range (ts.length / Nat.gcd ts.length s)).map (tkI ts f s)).length]? =
      some (c.taken ((f + s * (n % (ts.length / Nat.gcd ts.length s))) / ts.length) (s / Nat.gcd ts.length s)) := by
  rw [List.length_map, List.length_range, List.getElem?_map, List.getElem?_range (Nat.mod_lt _ (gcd_fit h0))]
  show some (tkI ts f s _) = _
  rw [tkI_get (t := c)]
  rw [← (nat_split f s ts.length n h0).1]
  exact hc
theorem taken_own (t : T) : t.ok → ∀ (f s n : Nat), (t.taken f s).own n = t.own (f + s * n) := by
  induction t using T.ind with
  | h1 o => intro _ f s n; rw [taken_leaf, own_leaf, own_leaf]
  | h2 ts ih =>
    intro h f s n
    obtain ⟨h2, ho⟩ := ok_node.mp h
    have h0 : 0 < ts.length := by omega
    obtain ⟨c, hc⟩ := get_mod h0 (f + s * n)
    rw [taken_node, mk_own (taken_get h0 hc), ih c (List.mem_of_getElem? hc) (oks_get ho hc), own_node hc, List.length_map, List.length_range, (nat_split f s ts.length n h0).2]
theorem taken_addr (t : T) : t.ok → ∀ (f s n m : Nat), (t.taken f s).addr n = (t.taken f s).addr m ↔ t.addr (f + s * n) = t.addr (f + s * m) := by
  induction t using T.ind with
  | h1 o => intro _ f s n m; rw [taken_leaf, addr_leaf, addr_leaf, addr_leaf, addr_leaf]
  | h2 ts ih =>
    intro h f s n m
    obtain ⟨h2, ho⟩ := ok_node.mp h
    have h0 : 0 < ts.length := by omega
    obtain ⟨c, hc⟩ := get_mod h0 (f + s * n)
    obtain ⟨d, hd⟩ := get_mod h0 (f + s * m)
    rw [taken_node, mk_addr (taken_get h0 hc) (taken_get h0 hd), addr_node hc, addr_node hd, List.cons.injEq, List.length_map, List.length_range, nat_same f s ts.length n m h0]
    refine and_congr_right fun e => ?_
    have e2 := (nat_same f s ts.length n m h0).mpr e
    rw [e2, hd] at hc
    cases hc
    rw [← e, ih c (List.mem_of_getElem? hd) (oks_get ho hd), (nat_split f s ts.length n h0).2, (nat_split f s ts.length m h0).2, ← e]
/-- what an end of it is -/
theorem own_addr (t : T) : t.ok → ∀ (n m : Nat), t.addr n = t.addr m → t.own n = t.own m := by
  induction t using T.ind with
  | h1 o => intro _ n m _; rw [own_leaf, own_leaf]
  | h2 ts ih =>
    intro h n m e
    obtain ⟨h2, ho⟩ := ok_node.mp h
    have h0 : 0 < ts.length := by omega
    obtain ⟨c, hc⟩ := get_mod h0 n
    obtain ⟨d, hd⟩ := get_mod h0 m
    rw [addr_node hc, addr_node hd, List.cons.injEq] at e
    rw [own_node hc, own_node hd]
    rw [e.1, hd] at hc
    cases hc
    exact ih c (List.mem_of_getElem? hd) (oks_get ho hd) _ _ e.2
end Td
end

section
set_option maxHeartbeats 1000000
/-! TdP2: putting parts into trees: ends, steps, levels. -/
namespace Td
open PySem PySem.Spec PyProof.Rows L2
mutual
/-- the greatest step of an end -/
def T.ms : T → Nat
  | .leaf _ => 1
  | .node ts => ts.length * mss ts
def mss : List T → Nat
  | [] => 1
  | t :: ts => max t.ms (mss ts)
end
theorem ms_leaf {o : Str} : (T.leaf o).ms = 1 := by rw [T.ms]
theorem ms_node {ts : List T} : (T.node ts).ms = ts.length * mss ts := by rw [T.ms]
theorem mss_mem : ∀ {ts : List T} {t : T}, t ∈ ts → t.ms ≤ mss ts
  | [], _, h => by cases h
  | u :: ts, t, hm => by
    unfold mss
    rcases List.mem_cons.mp hm with e | e
    · rw [e]; exact Nat.le_max_left _ _
    · exact Nat.le_trans (mss_mem e) (Nat.le_max_right _ _)
theorem mss_le {ts : List T} {n : Nat} (h1 : 1 ≤ n) (h : ∀ t ∈ ts, t.ms ≤ n) : mss ts ≤ n := by
  induction ts with
  | nil => unfold mss; exact h1
  | cons u ts ih => unfold mss; exact Nat.max_le.mpr ⟨h u List.mem_cons_self, ih fun t ht => h t (List.mem_cons_of_mem _ ht)⟩
theorem mss_pos (ts : List T) : 1 ≤ mss ts := by
  induction ts with
  | nil => unfold mss; exact Nat.le_refl _
  | cons u ts ih => unfold mss; exact Nat.le_trans ih (Nat.le_max_right _ _)
theorem ms_pos (t : T) (h : t.ok) : 1 ≤ t.ms := by
  cases t with
  | leaf o => rw [ms_leaf]; exact Nat.le_refl _
  | node ts =>
    rw [ms_node]
    have := (ok_node.mp h).1
    exact Nat.mul_pos (by omega) (mss_pos ts)
theorem mss_get {ts : List T} {i : Nat} {t : T} (e : ts[i]? = some t) : t.ms ≤ mss ts := mss_mem (List.mem_of_getElem? e)
/-- all levels double the step -/
theorem lev_ms (t : T) : t.ok → 2 ^ t.lev ≤ t.ms := by
  induction t using T.ind with
  | h1 o => intro _; rw [ms_leaf, T.lev]; exact Nat.le_refl _
  | h2 ts ih =>
    intro h
    obtain ⟨h2, ho⟩ := ok_node.mp h
    rw [lev_node, ms_node, Nat.pow_add, Nat.pow_one]
    refine Nat.mul_le_mul h2 ?_
    obtain ⟨t, ht, e⟩ := levs_att (ts := ts) (fun z => by rw [z] at h2; simp at h2)
    rw [← e]
    exact Nat.le_trans (ih t ht (oks_mem ho ht)) (mss_mem ht)
theorem lev_le {t : T} {n : Nat} (h : t.ok) (hm : t.ms < 2 ^ (n + 1)) : t.lev ≤ n := by
  have := lev_ms t h
  have : 2 ^ t.lev < 2 ^ (n + 1) := Nat.lt_of_le_of_lt this hm
  have := (Nat.pow_lt_pow_iff_right (by omega : 1 < 2)).mp this
  omega
/-! ### lists with one item changed -/
theorem cnts_set {ts : List T} {i : Nat} {c : T} (d : T) (h : ts[i]? = some c) : cnts (ts.set i d) + c.cnt = cnts ts + d.cnt := by
  induction ts generalizing i with
  | nil => simp at h
  | cons t ts ih =>
    cases i with
    | zero => simp at h; subst h; simp [cnts]; omega
    | succ i =>
      simp at h
      have := ih h
      simp [cnts]; omega
theorem oks_set {ts : List T} {i : Nat} {d : T} (h : oks ts) (hd : d.ok) : oks (ts.set i d) := by
  rw [oks_iff] at h ⊢
  intro t ht
  rcases List.mem_or_eq_of_mem_set ht with q | q
  · exact h t q
  · rw [q]; exact hd
theorem set_get {ts : List T} {i j : Nat} {c d : T} (h : ts[i]? = some c) : (ts.set i d)[j]? = if j = i then some d else ts[j]? := by
  have hi := (List.getElem?_eq_some_iff.mp h).1
  rw [List.getElem?_set]
  by_cases e : j = i
  · rw [if_pos e, if_pos e.symm, if_pos hi]
  · rw [if_neg e, if_neg fun z => e z.symm]
theorem set_self {ts : List T} {i : Nat} {c : T} (h : ts[i]? = some c) : ts.set i c = ts := by
  apply List.ext_getElem?
  intro j
  rw [set_get h]
  by_cases e : j = i
  · rw [if_pos e, e, h]
  · rw [if_neg e]
/-! ### a part put -/
theorem put_cons {ts : List T} {i : Nat} {p : List Nat} {c u : T} (h : ts[i]? = some c) : (T.node ts).put (i :: p) u = .node (ts.set i (c.put p u)) := by rw [T.put, h]
theorem put_nil {t u : T} : t.put [] u = u := by rw [T.put]
theorem part_nil {t : T} : t.part [] = some t := by rw [T.part]
theorem part_node {ts : List T} {i : Nat} {p : List Nat} {c : T} (h : ts[i]? = some c) : (T.node ts).part (i :: p) = c.part p := by rw [T.part, h]
/-- widths along a path -/
def T.wd : T → List Nat → Nat
  | _, [] => 1
  | .leaf _, _ :: _ => 1
  | .node ts, i :: p => ts.length * (match ts[i]? with
    | some c => c.wd p
    | none => 1)
theorem wd_nil {t : T} : t.wd [] = 1 := by rw [T.wd]
theorem wd_cons {ts : List T} {i : Nat} {p : List Nat} {c : T} (h : ts[i]? = some c) : (T.node ts).wd (i :: p) = ts.length * c.wd p := by rw [T.wd, h]
section
variable {u c d : T}
theorem part_put {t : T} {p : List Nat} (h : t.part p = some u) : (t.put p c).part p = some c := by
  induction p generalizing t with
  | nil => rw [put_nil, part_nil]
  | cons i p ih =>
    obtain ⟨ts, x, rfl, hx, hp⟩ := part_cons h
    rw [put_cons hx, part_node (c := x.put p c) (by rw [set_get hx, if_pos rfl])]
    exact ih hp
theorem put_put {t : T} {p : List Nat} (h : t.part p = some u) : (t.put p c).put p d = t.put p d := by
  induction p generalizing t with
  | nil => rw [put_nil, put_nil]
  | cons i p ih =>
    obtain ⟨ts, x, rfl, hx, hp⟩ := part_cons h
    rw [put_cons hx, put_cons hx, put_cons (c := x.put p c) (by rw [set_get hx, if_pos rfl]), ih hp, List.set_set]
theorem put_self {t : T} {p : List Nat} (h : t.part p = some u) : t.put p u = t := by
  induction p generalizing t with
  | nil => rw [part_nil] at h; cases h; rw [put_nil]
  | cons i p ih =>
    obtain ⟨ts, x, rfl, hx, hp⟩ := part_cons h
    rw [put_cons hx, ih hp, set_self hx]
theorem put_snoc {t : T} {p : List Nat} {us : List T} {i : Nat} (h : t.part p = some (.node us)) (hc : us[i]? = some c) : t.put (p ++ [i]) d = t.put p (.node (us.set i d)) := by
  induction p generalizing t with
  | nil => rw [part_nil] at h; cases h; rw [List.nil_append, put_cons hc, put_nil, put_nil]
  | cons j p ih =>
    obtain ⟨ts, x, rfl, hx, hp⟩ := part_cons h
    rw [List.cons_append, put_cons hx, put_cons hx, ih hp]
theorem part_snoc {t : T} {p : List Nat} {us : List T} {i : Nat} (h : t.part p = some (.node us)) : t.part (p ++ [i]) = us[i]? := by
  rw [part_append, h]
  show (T.node us).part [i] = _
  rw [T.part]
  cases us[i]? with
  | none => rfl
  | some c => exact part_nil
theorem cnt_put {t : T} {p : List Nat} (h : t.part p = some u) : (t.put p c).cnt + u.cnt = t.cnt + c.cnt := by
  induction p generalizing t with
  | nil => rw [part_nil] at h; cases h; rw [put_nil, Nat.add_comm]
  | cons i p ih =>
    obtain ⟨ts, x, rfl, hx, hp⟩ := part_cons h
    rw [put_cons hx, cnt_node, cnt_node]
    have h1 := cnts_set (x.put p c) hx
    have h2 := ih hp
    omega
theorem okT_put {t : T} {p : List Nat} (h : t.part p = some u) (ho : t.ok) (hc : c.ok) : (t.put p c).ok := by
  induction p generalizing t with
  | nil => rw [put_nil]; exact hc
  | cons i p ih =>
    obtain ⟨ts, x, rfl, hx, hp⟩ := part_cons h
    rw [ok_node] at ho
    rw [put_cons hx, ok_node, List.length_set]
    exact ⟨ho.1, oks_set ho.2 (ih hp (oks_get ho.2 hx))⟩
theorem ok_part' {t : T} {p : List Nat} (h : t.part p = some u) (ho : t.ok) : u.ok := by
  induction p generalizing t with
  | nil => rw [part_nil] at h; cases h; exact ho
  | cons i p ih =>
    obtain ⟨ts, x, rfl, hx, hp⟩ := part_cons h
    exact ih hp (oks_get (ok_node.mp ho).2 hx)
theorem cnt_part {t : T} {p : List Nat} (h : t.part p = some u) : u.cnt ≤ t.cnt := by
  induction p generalizing t with
  | nil => rw [part_nil] at h; cases h; exact Nat.le_refl _
  | cons i p ih =>
    obtain ⟨ts, x, rfl, hx, hp⟩ := part_cons h
    rw [cnt_node]
    exact Nat.le_trans (ih hp) (cnts_get hx)
theorem lev_part {t : T} {p : List Nat} (h : t.part p = some u) : p.length + u.lev ≤ t.lev := by
  induction p generalizing t with
  | nil => rw [part_nil] at h; cases h; simp
  | cons i p ih =>
    obtain ⟨ts, x, rfl, hx, hp⟩ := part_cons h
    rw [lev_node, List.length_cons]
    have := ih hp
    have := levs_get hx
    omega
theorem ms_part {t : T} {p : List Nat} (h : t.part p = some u) : t.wd p * u.ms ≤ t.ms := by
  induction p generalizing t with
  | nil => rw [part_nil] at h; cases h; rw [wd_nil, Nat.one_mul]; exact Nat.le_refl _
  | cons i p ih =>
    obtain ⟨ts, x, rfl, hx, hp⟩ := part_cons h
    rw [wd_cons hx, ms_node, Nat.mul_assoc]
    exact Nat.mul_le_mul_left _ (Nat.le_trans (ih hp) (mss_get hx))
theorem wd_put {t : T} {p : List Nat} (h : t.part p = some u) : (t.put p c).wd p = t.wd p := by
  induction p generalizing t with
  | nil => rw [wd_nil, wd_nil]
  | cons i p ih =>
    obtain ⟨ts, x, rfl, hx, hp⟩ := part_cons h
    rw [put_cons hx, wd_cons (c := x.put p c) (by rw [set_get hx, if_pos rfl]), wd_cons hx, ih hp, List.length_set]
theorem wd_snoc {t : T} {p : List Nat} {us : List T} {i : Nat} (h : t.part p = some (.node us)) (hc : us[i]? = some c) : t.wd (p ++ [i]) = t.wd p * us.length := by
  induction p generalizing t with
  | nil => rw [part_nil] at h; cases h; rw [List.nil_append, wd_cons hc, wd_nil, wd_nil, Nat.mul_one, Nat.one_mul]
  | cons j p ih =>
    obtain ⟨ts, x, rfl, hx, hp⟩ := part_cons h
    rw [List.cons_append, wd_cons hx, wd_cons hx, ih hp, Nat.mul_assoc]
theorem wd_pos {t : T} {p : List Nat} (h : t.part p = some u) (ho : t.ok) : 1 ≤ t.wd p := by
  induction p generalizing t with
  | nil => rw [wd_nil]; exact Nat.le_refl _
  | cons i p ih =>
    obtain ⟨ts, x, rfl, hx, hp⟩ := part_cons h
    rw [wd_cons hx]
    have h2 := ok_node.mp ho
    exact Nat.mul_pos (by omega) (ih hp (oks_get h2.2 hx))
theorem ms_put {t : T} {p : List Nat} {B : Nat} (h : t.part p = some u) (ho : t.ok) (h1 : t.ms ≤ B) (h2 : t.wd p * c.ms ≤ B) : (t.put p c).ms ≤ B := by
  induction p generalizing t B with
  | nil => rw [put_nil]; rw [wd_nil, Nat.one_mul] at h2; exact h2
  | cons i p ih =>
    obtain ⟨ts, x, rfl, hx, hp⟩ := part_cons h
    obtain ⟨hl, hoo⟩ := ok_node.mp ho
    rw [put_cons hx, ms_node, List.length_set]
    rw [ms_node] at h1
    rw [wd_cons hx, Nat.mul_assoc] at h2
    have hpos : 0 < ts.length := by omega
    have e1 : mss ts ≤ B / ts.length := (Nat.le_div_iff_mul_le hpos).mpr (by rw [Nat.mul_comm]; exact h1)
    have e2 : x.wd p * c.ms ≤ B / ts.length := (Nat.le_div_iff_mul_le hpos).mpr (by rw [Nat.mul_comm]; exact h2)
    have e3 := ih hp (oks_get hoo hx) (Nat.le_trans (mss_get hx) e1) e2
    refine Nat.le_trans (Nat.mul_le_mul_left _ (mss_le (Nat.le_trans (mss_pos ts) e1) fun t ht => ?_)) (Nat.mul_div_le B ts.length)
    rcases List.mem_or_eq_of_mem_set ht with q | q
    · exact Nat.le_trans (mss_mem q) e1
    · rw [q]; exact e3
theorem sem_put {t : T} {p : List Nat} (h : t.part p = some u) (ho : t.ok) (hs : Sem u c) : Sem t (t.put p c) := by
  induction p generalizing t with
  | nil => rw [part_nil] at h; cases h; rw [put_nil]; exact hs
  | cons i p ih =>
    obtain ⟨ts, x, rfl, hx, hp⟩ := part_cons h
    obtain ⟨hl, hoo⟩ := ok_node.mp ho
    rw [put_cons hx]
    refine sem_node (by rw [List.length_set]) (by omega) fun j t1 t2 e1 e2 => ?_
    rw [set_get hx] at e2
    by_cases e : j = i
    · rw [if_pos e] at e2
      rw [e, hx] at e1
      cases e1
      cases e2
      exact ih hp (oks_get hoo hx)
    · rw [if_neg e, e1] at e2
      cases e2
      exact .refl _
theorem own_put {t : T} {p : List Nat} (h : t.part p = some u) (ho : t.ok) (hs : ∀ n, u.own n = c.own n) : ∀ n, t.own n = (t.put p c).own n := by
  induction p generalizing t with
  | nil => rw [part_nil] at h; cases h; rw [put_nil]; exact hs
  | cons i p ih =>
    obtain ⟨ts, x, rfl, hx, hp⟩ := part_cons h
    obtain ⟨hl, hoo⟩ := ok_node.mp ho
    intro n
    rw [put_cons hx]
    obtain ⟨y, hy⟩ := get_mod (ts := ts) (by omega) n
    by_cases e : n % ts.length = i
    · rw [e, hx] at hy
      cases hy
      rw [own_node (c := x) (by rw [e]; exact hx), own_node (c := x.put p c) (by rw [List.length_set, set_get hx, if_pos e]), List.length_set]
      exact ih hp (oks_get hoo hx) _
    · rw [own_node hy, own_node (c := y) (by rw [List.length_set, set_get hx, if_neg e]; exact hy), List.length_set]
end
end Td
end

section
set_option maxHeartbeats 1000000
/-! TdP3: walks that go well: the state, a step, a loop over children, make_prime. -/
namespace Td
open PySem PySem.Spec PyProof.Rows L2
/-- the greatest step that can come up -/
def B26 : Nat := 67108863
structure Fit (N : Nat) (t : T) : Prop where
  ok : t.ok
  cnt : t.cnt ≤ N
  ms : t.ms ≤ B26
theorem Fit.lev {N : Nat} {t : T} (h : Fit N t) : t.lev ≤ 25 := lev_le h.ok (Nat.lt_of_le_of_lt h.ms (by decide))
theorem fit_put {N : Nat} {t u c : T} {p : List Nat} (h : Fit N t) (hp : t.part p = some u) (ho : c.ok) (hc : c.cnt ≤ u.cnt) (hm : c.ms ≤ u.ms) : Fit N (t.put p c) := by
  refine ⟨okT_put hp h.ok ho, ?_, ?_⟩
  · have := cnt_put (c := c) hp
    have := h.cnt
    omega
  · exact ms_put hp h.ok h.ms (Nat.le_trans (Nat.mul_le_mul_left _ hm) (Nat.le_trans (ms_part hp) h.ms))
/-- steps, within bounds -/
inductive Tr (N : Nat) : T → List Stp → T → Prop
  | nil (t : T) : Tr N t [] t
  | cons {t t1 t2 : T} {s : Stp} {ss : List Stp} : Goes t s t1 → t1.cnt ≤ N → Tr N t1 ss t2 → Tr N t (s :: ss) t2
theorem Tr.append {N : Nat} {t u v : T} {ss qs : List Stp} (a : Tr N t ss u) (b : Tr N u qs v) : Tr N t (ss ++ qs) v := by
  induction a with
  | nil => exact b
  | cons h c _ ih => exact .cons h c (ih b)
theorem Tr.one {N : Nat} {t u : T} {s : Stp} (h : Goes t s u) (c : u.cnt ≤ N) : Tr N t [s] u := .cons h c (.nil _)
theorem Tr.run {N : Nat} {t u : T} {ss : List Stp} (a : Tr N t ss u) : Run t ss u := by
  induction a with
  | nil => exact .nil _
  | cons h _ _ ih => exact .cons h ih
/-- a walk that goes well so far; b: it is to be walked back -/
structure Good (N : Nat) (t0 : T) (b : Bool) (W : Wk) : Prop where
  fit : Fit N W.here
  tr : Tr N t0 W.steps W.here
  bk : b = true → Tr N W.here W.backs.reverse t0
  len : W.backs.length = W.steps.length
theorem goes_of {N : Nat} {t u c : T} {p : List Nat} {kd : Kd} (hN : N ≤ 400) (h : Fit N t) (hp : t.part p = some u) (hc : Chg kd u c) (hf : Fit N (t.put p c)) : Goes t ⟨kd, p⟩ (t.put p c) := by
  refine ⟨⟨u, c, hp, hc, rfl⟩, hf.ok, Nat.le_trans hf.cnt hN, ?_, ?_⟩
  · have := hf.lev; omega
  · have := lev_part hp
    have := h.lev
    show p.length ≤ 60
    omega
theorem do_ex {N : Nat} (hN : N ≤ 400) {t0 : T} {b : Bool} {W : Wk} {u c : T} {p : List Nat} {kd : Kd} (g : Good N t0 b W) (hp : W.here.part p = some u) (hc : Chg kd u c) (hf : Fit N (W.here.put p c)) (hl : W.steps.length ≤ 100000)
    (hb : b = true → Chg (kd.back u.kids.length) c u) : ∃ W', Does W ⟨kd, p⟩ W' ∧ Good N t0 b W' ∧ W'.here = W.here.put p c ∧ W'.steps.length = W.steps.length + 1 := by
  have hg := goes_of hN g.fit hp hc hf
  refine ⟨⟨W.here.put p c, W.steps ++ [⟨kd, p⟩], W.backs ++ [Stp.back ⟨kd, p⟩ u]⟩, .mk hp hc hg hl (by rw [g.len]; exact hl), ⟨hf, g.tr.append (.one hg hf.cnt), fun h => ?_, by simp [g.len]⟩, rfl, by simp⟩
  show Tr N (W.here.put p c) (W.backs ++ [Stp.back ⟨kd, p⟩ u]).reverse t0
  rw [List.reverse_append, List.reverse_singleton, List.singleton_append]
  have e : (W.here.put p c).put p u = W.here := by rw [put_put hp, put_self hp]
  have hg2 := goes_of hN hf (part_put (c := c) hp) (hb h) (by rw [e]; exact g.fit)
  rw [e] at hg2
  exact .cons hg2 g.fit.cnt (g.bk h)
/-- a loop over the children of a node, each changed by itself -/
theorem kids_ex {S : Nat → Wk → Wk → Prop} {p : List Nat} {Rr : Nat → T → T → Prop} {us : List T} (Pre : Nat → Wk → Prop)
    (step : ∀ (j : Nat) (c : T) (W1 : Wk) (us1 : List T), us[j]? = some c → Pre j W1 → W1.here.part p = some (.node us1) → us1.length = us.length → us1[j]? = some c → ∃ W2 c', S j W1 W2 ∧ Pre (j + 1) W2 ∧ W2.here = W1.here.put (p ++ [j]) c' ∧ Rr j c c') :
    ∀ W, Pre 0 W → W.here.part p = some (.node us) → ∃ W' us', Loop S 0 us.length W W' ∧ Pre us.length W' ∧ W'.here = W.here.put p (.node us') ∧ us'.length = us.length ∧ ∀ (j : Nat) c c', us[j]? = some c → us'[j]? = some c' → Rr j c c' := by
  have key : ∀ n j, j + n = us.length → ∀ (W1 : Wk) (us1 : List T), Pre j W1 → W1.here.part p = some (.node us1) → us1.length = us.length → (∀ i, j ≤ i → us1[i]? = us[i]?) → (∀ (i : Nat) c c', i < j → us[i]? = some c → us1[i]? = some c' → Rr i c c') →
      ∃ W' us', Loop S j us.length W1 W' ∧ Pre us.length W' ∧ W'.here = W1.here.put p (.node us') ∧ us'.length = us.length ∧ ∀ (i : Nat) c c', us[i]? = some c → us'[i]? = some c' → Rr i c c' := by
    intro n
    induction n with
    | zero =>
      intro j hj W1 us1 hpre hp hl hge hlt
      have hj : j = us.length := by omega
      subst hj
      exact ⟨W1, us1, .nil, hpre, (put_self hp).symm, hl, fun i c c' e1 e2 => hlt i c c' (List.getElem?_eq_some_iff.mp e1).1 e1 e2⟩
    | succ n ih =>
      intro j hj W1 us1 hpre hp hl hge hlt
      have hjl : j < us.length := by omega
      have hc : us[j]? = some us[j] := List.getElem?_eq_getElem hjl
      have hc1 : us1[j]? = some us[j] := by rw [hge j (Nat.le_refl _), hc]
      obtain ⟨W2, c', hS, hpre2, he, hR⟩ := step j us[j] W1 us1 hc hpre hp hl hc1
      rw [put_snoc hp hc1] at he
      obtain ⟨W', us', hL, h1, h2, h3, h4⟩ := ih (j + 1) (by omega) W2 (us1.set j c') hpre2 (by rw [he]; exact part_put hp) (by rw [List.length_set, hl]) (fun i hi => by
        rw [set_get hc1, if_neg (by omega), hge i (by omega)]) fun i c d hi e1 e2 => by
        rw [set_get hc1] at e2
        by_cases q : i = j
        · subst q
          rw [if_pos rfl] at e2
          cases e2
          rw [hc] at e1
          cases e1
          exact hR
        · rw [if_neg q] at e2
          exact hlt i c d (by omega) e1 e2
      refine ⟨W', us', .cons hjl hS hL, h1, ?_, h3, h4⟩
      rw [h2, he, put_put hp]
  intro W hpre hp
  exact key us.length 0 (by omega) W us hpre hp rfl (fun _ _ => rfl) fun i c c' hi => by omega
theorem cnts_congr : ∀ {ts us : List T}, ts.length = us.length → (∀ (i : Nat) t u, ts[i]? = some t → us[i]? = some u → u.cnt = t.cnt) → cnts us = cnts ts
  | [], [], _, _ => rfl
  | t :: ts, u :: us, hl, h => by
    rw [cnts, cnts, h 0 t u rfl rfl, cnts_congr (by simpa using hl) fun i a b e1 e2 => h (i + 1) a b (by simpa using e1) (by simpa using e2)]
theorem mss_mono : ∀ {ts us : List T}, ts.length = us.length → (∀ (i : Nat) t u, ts[i]? = some t → us[i]? = some u → u.ms ≤ t.ms) → mss us ≤ mss ts
  | [], [], _, _ => Nat.le_refl _
  | t :: ts, u :: us, hl, h => by
    rw [mss, mss]
    have a := h 0 t u rfl rfl
    have b := mss_mono (ts := ts) (us := us) (by simpa using hl) fun i a b e1 e2 => h (i + 1) a b (by simpa using e1) (by simpa using e2)
    omega
theorem oks_of {us : List T} (h : ∀ (i : Nat) u, us[i]? = some u → u.ok) : oks us := oks_iff.mpr fun u hu => by
  obtain ⟨i, hi, e⟩ := List.mem_iff_getElem.mp hu
  exact h i u (by rw [List.getElem?_eq_getElem hi, e])
/-! ### prime widths -/
def Prm (k : Nat) : Prop := 2 ≤ k ∧ ∀ d, 2 ≤ d → d < k → ¬ d ∣ k
mutual
def T.prime : T → Prop
  | .leaf _ => True
  | .node ts => Prm ts.length ∧ primes ts
def primes : List T → Prop
  | [] => True
  | t :: ts => t.prime ∧ primes ts
end
theorem primes_iff {ts : List T} : primes ts ↔ ∀ t ∈ ts, t.prime := by
  induction ts with
  | nil => unfold primes; simp
  | cons u ts ih => unfold primes; rw [ih]; simp
theorem prime_node {ts : List T} : (T.node ts).prime ↔ Prm ts.length ∧ ∀ t ∈ ts, t.prime := by rw [T.prime, primes_iff]
theorem prime_get {ts : List T} {i : Nat} {t : T} (h : (T.node ts).prime) (e : ts[i]? = some t) : t.prime := (prime_node.mp h).2 t (List.mem_of_getElem? e)
theorem prm_mod {k q n m : Nat} (hk : Prm k) (hq : Prm q) (hne : k ≠ q) (h : q ∣ k * (m - n)) : q ∣ m - n := by
  have hg : Nat.Coprime q k := by
    have h1 : Nat.gcd q k ∣ q := Nat.gcd_dvd_left q k
    have h2 : Nat.gcd q k ∣ k := Nat.gcd_dvd_right q k
    have hp : 0 < Nat.gcd q k := Nat.gcd_pos_of_pos_left _ (by have := hq.1; omega)
    show Nat.gcd q k = 1
    rcases Nat.lt_or_ge (Nat.gcd q k) 2 with c | c
    · omega
    · exfalso
      have l1 : Nat.gcd q k ≤ q := Nat.le_of_dvd (by have := hq.1; omega) h1
      have l2 : Nat.gcd q k ≤ k := Nat.le_of_dvd (by have := hk.1; omega) h2
      rcases Nat.lt_or_ge (Nat.gcd q k) q with a | a
      · exact hq.2 _ c a h1
      · rcases Nat.lt_or_ge (Nat.gcd q k) k with d | d
        · exact hk.2 _ c d h2
        · omega
  exact hg.dvd_of_dvd_mul_left h
/-- every number has a least factor -/
theorem least_ex {n : Nat} (h : 2 ≤ n) : ∃ f, LeastF n f := by
  have key : ∀ m d, d + m = n → 2 ≤ d → (∀ e, 2 ≤ e → e < d → ¬ e ∣ n) → ∃ f, LeastF n f := by
    intro m
    induction m with
    | zero => intro d hd h2 hn; exact ⟨n, h, Nat.dvd_refl n, by rw [← (show d = n by omega)]; rw [show d = n by omega] at hn ⊢; exact hn⟩
    | succ m ih =>
      intro d hd h2 hn
      by_cases q : d ∣ n
      · exact ⟨d, h2, q, hn⟩
      · refine ih (d + 1) (by omega) (by omega) fun e he hl => ?_
        rcases Nat.lt_or_ge e d with c | c
        · exact hn e he c
        · rw [show e = d by omega]; exact q
  exact key (n - 2) 2 (by omega) (by omega) fun e h1 h2 => by omega
/-! ### what flatten and unflatten keep -/
theorem cnts_pick_all {ts : List T} {q c : Nat} (hq : 0 < q) (hl : ts.length = c * q) : cnts (unflatT ts q c) = cnts ts := by
  have key : ∀ (L : List Nat), ((L.map fun r => (T.node (pickT ts r q c)))).length = L.length := fun L => by simp
  -- by columns: a sum over r of sums over m
  have s1 : ∀ us : List T, cnts us = ((List.range us.length).map fun i => ((us[i]?).map T.cnt).getD 0).sum := by
    intro us
    rw [cnts_sum]
    congr 1
    apply List.ext_getElem?
    intro i
    by_cases hi : i < us.length
    · simp [hi]
    · simp [hi]
  have s2 : ∀ (g : Nat → Nat) (c q : Nat), ((List.range (c * q)).map g).sum = ((List.range c).map fun m => ((List.range q).map fun r => g (r + m * q)).sum).sum := by
    intro g c q
    induction c with
    | zero => simp
    | succ c ih =>
      rw [Nat.add_mul, Nat.one_mul, List.range_add, List.map_append, List.sum_append, ih, List.range_succ, List.map_append, List.sum_append]
      congr 1
      simp only [List.map_map, List.map_cons, List.map_nil, List.sum_cons, List.sum_nil, Nat.add_zero]
      congr 2
      funext r
      show g (c * q + r) = _
      rw [Nat.add_comm]
  have s3 : ∀ (g : Nat → Nat → Nat) (c q : Nat), ((List.range c).map fun m => ((List.range q).map fun r => g m r).sum).sum = ((List.range q).map fun r => ((List.range c).map fun m => g m r).sum).sum := by
    intro g c q
    induction c with
    | zero =>
      simp only [List.range_zero, List.map_nil, List.sum_nil]
      generalize List.range q = L
      induction L with
      | nil => rfl
      | cons x L ih => simp only [List.map_cons, List.sum_cons]; omega
    | succ c ih =>
      rw [List.range_succ, List.map_append, List.sum_append, ih]
      simp only [List.map_cons, List.map_nil, List.sum_cons, List.sum_nil, Nat.add_zero, List.map_append, List.sum_append]
      generalize List.range q = L
      induction L with
      | nil => rfl
      | cons x L ih2 => simp only [List.map_cons, List.sum_cons]; omega
  rw [s1 ts, hl, s2, s3, cnts_sum]
  unfold unflatT
  rw [List.map_map]
  congr 1
  apply List.map_congr_left
  intro r hr
  have hr := List.mem_range.mp hr
  show (T.node (pickT ts r q c)).cnt = _
  rw [cnt_node, s1, pick_len hr hl]
  congr 1
  apply List.map_congr_left
  intro m hm
  rw [pick_get hr hl (List.mem_range.mp hm)]
theorem unflat_mem {ts : List T} {q c : Nat} (hl : ts.length = c * q) {u : T} (h : u ∈ unflatT ts q c) : ∃ us, u = .node us ∧ us.length = c ∧ ∀ t ∈ us, t ∈ ts := by
  unfold unflatT at h
  obtain ⟨r, hr, rfl⟩ := List.mem_map.mp h
  refine ⟨_, rfl, pick_len (List.mem_range.mp hr) hl, fun t ht => ?_⟩
  unfold pickT at ht
  obtain ⟨i, _, hi⟩ := List.mem_filterMap.mp ht
  exact List.mem_of_getElem? hi
theorem ok_unflatT {ts : List T} {q c : Nat} (hq : 2 ≤ q) (hc : 2 ≤ c) (hl : ts.length = c * q) (ho : oks ts) : (T.node (unflatT ts q c)).ok := by
  rw [ok_node, unflat_len, oks_iff]
  refine ⟨hq, fun u hu => ?_⟩
  obtain ⟨us, rfl, h1, h2⟩ := unflat_mem hl hu
  rw [ok_node, oks_iff, h1]
  exact ⟨hc, fun t ht => oks_mem ho (h2 t ht)⟩
theorem ms_unflatT {ts : List T} {q c : Nat} (hc : 0 < c) (hl : ts.length = c * q) : (T.node (unflatT ts q c)).ms ≤ (T.node ts).ms := by
  rw [ms_node, ms_node, unflat_len, hl, Nat.mul_comm c q, Nat.mul_assoc]
  refine Nat.mul_le_mul_left _ ?_
  refine mss_le (Nat.mul_pos hc (mss_pos ts)) fun u hu => ?_
  obtain ⟨us, rfl, h1, h2⟩ := unflat_mem hl hu
  rw [ms_node, h1]
  exact Nat.mul_le_mul_left _ (mss_le (mss_pos ts) fun t ht => mss_mem (h2 t ht))
theorem flat_mem {ts : List T} {q : Nat} (hall : ∀ t ∈ ts, ∃ us, t = .node us ∧ us.length = q) {u : T} (h : u ∈ flatT ts q) : ∃ us, T.node us ∈ ts ∧ u ∈ us := by
  unfold flatT at h
  obtain ⟨j, hj, rfl⟩ := List.mem_map.mp h
  have hj := List.mem_range.mp hj
  have h0 : 0 < ts.length := by
    rcases Nat.eq_zero_or_pos ts.length with z | z
    · rw [z] at hj; omega
    · exact z
  have h1 : j % ts.length < ts.length := Nat.mod_lt _ h0
  obtain ⟨us, e, hu⟩ := hall _ (List.getElem_mem h1)
  have h2 : j / ts.length < us.length := by rw [hu, Nat.div_lt_iff_lt_mul h0]; exact hj
  refine ⟨us, e ▸ List.getElem_mem h1, ?_⟩
  unfold flatI
  have e1 : ts.getD (j % ts.length) (.node []) = .node us := by rw [List.getD_eq_getElem?_getD, List.getElem?_eq_getElem h1, e]; rfl
  rw [e1]
  show us.getD _ _ ∈ us
  rw [List.getD_eq_getElem?_getD, List.getElem?_eq_getElem h2]
  exact List.getElem_mem h2
theorem ok_flatT {ts : List T} {q : Nat} (h2 : 2 ≤ ts.length) (hq : 2 ≤ q) (ho : oks ts) (hall : ∀ t ∈ ts, ∃ us, t = .node us ∧ us.length = q) : (T.node (flatT ts q)).ok := by
  rw [ok_node, flat_len, oks_iff]
  refine ⟨Nat.le_trans hq (Nat.le_mul_of_pos_right q (by omega)), fun u hu => ?_⟩
  obtain ⟨us, h1, h3⟩ := flat_mem hall hu
  have := oks_mem ho h1
  exact oks_mem (ok_node.mp this).2 h3
theorem cnt_flatT {ts : List T} {q : Nat} (h0 : 0 < ts.length) (hall : ∀ t ∈ ts, ∃ us, t = .node us ∧ us.length = q) : cnts (flatT ts q) = cnts ts := by
  have := cnts_pick_all (ts := flatT ts q) (q := ts.length) (c := q) h0 flat_len
  rw [unflat_flat h0 hall] at this
  exact this.symm
theorem ms_flatT {ts : List T} {q : Nat} (hall : ∀ t ∈ ts, ∃ us, t = .node us ∧ us.length = q) (hq : 0 < q) (h0 : 0 < ts.length) : (T.node (flatT ts q)).ms ≤ (T.node ts).ms := by
  rw [ms_node, ms_node, flat_len, Nat.mul_comm q, Nat.mul_assoc]
  refine Nat.mul_le_mul_left _ ?_
  have hb : 1 ≤ mss ts / q := by
    rw [Nat.le_div_iff_mul_le hq, Nat.one_mul]
    obtain ⟨us, e, hl⟩ := hall _ (List.getElem_mem h0)
    have := mss_mem (List.getElem_mem h0)
    rw [e, ms_node, hl] at this
    exact Nat.le_trans (Nat.le_mul_of_pos_right q (mss_pos us)) this
  refine Nat.le_trans (Nat.mul_le_mul_left q (mss_le hb fun u hu => ?_)) (Nat.mul_div_le _ _)
  obtain ⟨us, h1, h2⟩ := flat_mem hall hu
  rw [Nat.le_div_iff_mul_le hq]
  have h3 := mss_mem h1
  obtain ⟨vs, e, hl⟩ := hall _ h1
  cases e
  rw [ms_node, hl] at h3
  rw [Nat.mul_comm]
  exact Nat.le_trans (Nat.mul_le_mul_left _ (mss_mem h2)) h3
end Td
end

section
set_option maxHeartbeats 1000000
/-! TdP4: make_prime, raise_prime, make_like go well. -/
namespace Td
open PySem PySem.Spec PyProof.Rows L2
/-- a tree and what levels alone make of it -/
structure Rel (t u : T) : Prop where
  sem : Sem t u
  ok : u.ok
  cnt : u.cnt = t.cnt
  ms : u.ms ≤ t.ms
theorem Rel.trans {t u v : T} (a : Rel t u) (b : Rel u v) : Rel t v := ⟨a.sem.trans b.sem, b.ok, b.cnt.trans a.cnt, Nat.le_trans b.ms a.ms⟩
theorem rel_node {ts us : List T} (h2 : 2 ≤ ts.length) (hl : us.length = ts.length) (h : ∀ (i : Nat) t u, ts[i]? = some t → us[i]? = some u → Rel t u) : Rel (.node ts) (.node us) := by
  refine ⟨sem_node hl.symm (by omega) fun i t u a b => (h i t u a b).sem, ok_node.mpr ⟨by omega, oks_of fun i u e => ?_⟩, ?_, ?_⟩
  · have hi : i < ts.length := by have := (List.getElem?_eq_some_iff.mp e).1; omega
    exact (h i _ u (List.getElem?_eq_getElem hi) e).ok
  · rw [cnt_node, cnt_node]; exact cnts_congr hl.symm fun i t u a b => (h i t u a b).cnt
  · rw [ms_node, ms_node, hl]; exact Nat.mul_le_mul_left _ (mss_mono hl.symm fun i t u a b => (h i t u a b).ms)
theorem rel_unflat {ts : List T} {q c : Nat} (hq : 2 ≤ q) (hc : 2 ≤ c) (hl : ts.length = c * q) (ho : oks ts) : Rel (.node ts) (.node (unflatT ts q c)) :=
  ⟨sem_unflat (by omega) (by omega) hl, ok_unflatT hq hc hl ho, by rw [cnt_node, cnt_node]; exact cnts_pick_all (by omega) hl, ms_unflatT (by omega) hl⟩
theorem rel_flat {ts : List T} {q : Nat} (h2 : 2 ≤ ts.length) (hq : 2 ≤ q) (ho : oks ts) (hall : ∀ t ∈ ts, ∃ us, t = .node us ∧ us.length = q) : Rel (.node ts) (.node (flatT ts q)) :=
  ⟨sem_flat (by omega) (by omega) hall, ok_flatT h2 hq ho hall, by rw [cnt_node, cnt_node]; exact cnt_flatT (by omega) hall, ms_flatT hall (by omega) (by omega)⟩
theorem cnts_append : ∀ ts us : List T, cnts (ts ++ us) = cnts ts + cnts us
  | [], us => by rw [List.nil_append, cnts, Nat.zero_add]
  | t :: ts, us => by rw [List.cons_append, cnts, cnts, cnts_append ts us, Nat.add_assoc]
theorem cnts_take {us : List T} {j : Nat} {c : T} (h : us[j]? = some c) : cnts (us.take (j + 1)) = cnts (us.take j) + c.cnt ∧ cnts (us.take j) + c.cnt ≤ cnts us := by
  have e : cnts (us.take (j + 1)) = cnts (us.take j) + c.cnt := by
    rw [List.take_succ, h, cnts_append]; simp [cnts]
  refine ⟨e, ?_⟩
  rw [← e]
  have := cnts_append (us.take (j + 1)) (us.drop (j + 1))
  rw [List.take_append_drop] at this
  omega
theorem ms_kid {us : List T} {c : T} {j n : Nat} (h2 : 2 ≤ us.length) (h : (T.node us).ms < 2 ^ (n + 1)) (hc : us[j]? = some c) : c.ms < 2 ^ n := by
  rw [ms_node, Nat.pow_succ, Nat.mul_comm] at h
  have h1 := mss_get hc
  have h3 : mss us * 2 ≤ mss us * us.length := Nat.mul_le_mul_left _ h2
  omega
theorem LeastF.prm {n f : Nat} (h : LeastF n f) : Prm f := ⟨h.1, fun d h2 hl hd => h.2.2 d h2 hl (Nat.dvd_trans hd h.2.1)⟩
section
variable {N : Nat} {t0 : T} {b : Bool}
theorem mp_ex (hN : N ≤ 400) : ∀ n (W : Wk) (p : List Nat) (t : T), Good N t0 b W → W.here.part p = some t → t.ms < 2 ^ n → W.steps.length + t.cnt + n ≤ 90000 →
    ∃ W' t', MP n W p W' ∧ Good N t0 b W' ∧ W'.here = W.here.put p t' ∧ (Rel t t' ∧ t'.prime) ∧ W'.steps.length + 1 ≤ W.steps.length + t.cnt := by
  intro n
  induction n with
  | zero =>
    intro W p t g hp hm
    have := ms_pos t (ok_part' hp g.fit.ok)
    simp at hm
    omega
  | succ n ih =>
    intro W p t g hp hm hs
    have hok := ok_part' hp g.fit.ok
    cases t with
    | leaf o => exact ⟨W, .leaf o, .inl ⟨o, hp, rfl⟩, g, (put_self hp).symm, ⟨⟨.refl _, hok, rfl, Nat.le_refl _⟩, by rw [T.prime]; trivial⟩, by rw [T.cnt]; exact Nat.le_refl _⟩
    | node ts =>
      obtain ⟨h2, ho⟩ := ok_node.mp hok
      have key : ∀ (W1 : Wk) (us : List T), Good N t0 b W1 → W1.here.part p = some (.node us) → Prm us.length → (T.node us).ms < 2 ^ (n + 1) → W1.steps.length + cnts us + n ≤ 90000 → ∃ W' us', Loop (fun i A B => MP n A (p ++ [i]) B) 0 us.length W1 W' ∧ Good N t0 b W' ∧ W'.here = W1.here.put p (.node us') ∧ Rel (.node us) (.node us') ∧ (T.node us').prime ∧ W'.steps.length + us.length ≤ W1.steps.length + cnts us := by
        intro W1 us g1 hp1 hpr hm1 hs1
        obtain ⟨W', us', hL, ⟨g', hst⟩, he, hl, hR⟩ := kids_ex (S := fun i A B => MP n A (p ++ [i]) B) (p := p) (Rr := fun _ c c' => Rel c c' ∧ c'.prime) (us := us) (fun j A => Good N t0 b A ∧ A.steps.length + j ≤ W1.steps.length + cnts (us.take j))
          (fun j c A us1 hc ⟨ga, hst⟩ hpa hla hca => by
            have hpc : A.here.part (p ++ [j]) = some c := by rw [part_snoc hpa]; exact hca
            have ht := cnts_take hc
            have hcp := cnt_pos c (ok_part' hpc ga.fit.ok)
            obtain ⟨A', c', m1, m2, m3, m4, m5⟩ := ih A (p ++ [j]) c ga hpc (ms_kid hpr.1 hm1 hc) (by omega)
            exact ⟨A', c', m1, ⟨m2, by rw [ht.1]; omega⟩, m3, m4⟩) W1 ⟨g1, by simp [cnts]⟩ hp1
        rw [List.take_length] at hst
        refine ⟨W', us', hL, g', he, rel_node hpr.1 hl fun i t u a b => (hR i t u a b).1, prime_node.mpr ⟨by rw [hl]; exact hpr, fun u hu => ?_⟩, hst⟩
        obtain ⟨i, hi, e⟩ := List.mem_iff_getElem.mp hu
        exact (hR i _ u (List.getElem?_eq_getElem (by omega)) (by rw [List.getElem?_eq_getElem hi, e])).2
      obtain ⟨f, hf⟩ := least_ex h2
      have hlen : ts.length ≤ 400 := by
        have h1 := len_le_cnts ho
        have h3 := cnt_part hp
        rw [cnt_node] at h3
        have := g.fit.cnt
        omega
      have hfl : f ≤ ts.length := Nat.le_of_dvd (by omega) hf.2.1
      by_cases hlt : f < ts.length
      · obtain ⟨c, hc⟩ := hf.2.1
        have hc2 : 2 ≤ c := by
          rcases Nat.lt_or_ge c 2 with q | q
          · have : c = 0 ∨ c = 1 := by omega
            rcases this with z | z
            · rw [z, Nat.mul_zero] at hc; omega
            · rw [z, Nat.mul_one] at hc; omega
          · exact q
        have hcl : ts.length = c * f := by rw [hc, Nat.mul_comm]
        have hrel := rel_unflat hf.1 hc2 hcl ho
        obtain ⟨W1, d1, d2, d3, d4⟩ := do_ex hN (kd := .unflat f) g hp (.unflat hf.1 hc2 hcl) (fit_put g.fit hp hrel.ok (Nat.le_of_eq hrel.cnt) hrel.ms) (by omega) fun _ => by
          show Chg .flat _ _
          have := Chg.flat (ts := unflatT ts f c) (q := c) hc2 (fun t ht => by obtain ⟨us, e1, e2, _⟩ := unflat_mem hcl ht; exact ⟨us, e1, e2⟩)
          rwa [flat_unflat (by have := hf.1; omega) hcl] at this
        have hp1 : W1.here.part p = some (.node (unflatT ts f c)) := by rw [d3]; exact part_put hp
        obtain ⟨W', us', k1, k2, k3, k4, k5, k6⟩ := key W1 (unflatT ts f c) d2 hp1 (by rw [unflat_len]; exact hf.prm) (Nat.lt_of_le_of_lt hrel.ms hm) (by
          have := hrel.cnt; rw [cnt_node, cnt_node] at this; rw [cnt_node] at hs; omega)
        refine ⟨W', .node us', .inr ⟨ts, _, f, W1, hp, hf, by omega, .inl ⟨hlt, d1⟩, hp1, k1⟩, k2, by rw [k3, d3, put_put hp], ⟨hrel.trans k4, k5⟩, ?_⟩
        have e := hrel.cnt
        rw [cnt_node, cnt_node] at e
        rw [unflat_len, e] at k6
        rw [cnt_node]
        have := hf.1
        omega
      · have e : f = ts.length := by omega
        obtain ⟨W', us', k1, k2, k3, k4, k5, k6⟩ := key W ts g hp (e ▸ hf.prm) hm (by rw [cnt_node] at hs; omega)
        refine ⟨W', .node us', .inr ⟨ts, ts, f, W, hp, hf, by omega, .inr ⟨hlt, rfl⟩, hp, k1⟩, k2, k3, ⟨k4, k5⟩, ?_⟩
        rw [cnt_node]; omega
/-- all rows' steps are divisible by q -/
def Dv (t : T) (q : Nat) : Prop := ∀ n m, t.addr n = t.addr m → n % q = m % q
theorem dv_kid {ts : List T} {q j : Nat} {c : T} (h : Dv (.node ts) q) (hk : Prm ts.length) (hq : Prm q) (hne : ts.length ≠ q) (hc : ts[j]? = some c) : Dv c q := by
  have hi : j < ts.length := (List.getElem?_eq_some_iff.mp hc).1
  have hm : ∀ n, (j + ts.length * n) % ts.length = j := fun n => by rw [Nat.add_mul_mod_self_left, Nat.mod_eq_of_lt hi]
  have hd : ∀ n, (j + ts.length * n) / ts.length = n := fun n => by rw [Nat.add_mul_div_left _ _ (by omega), Nat.div_eq_of_lt hi, Nat.zero_add]
  have a1 : ∀ n, ts[(j + ts.length * n) % ts.length]? = some c := fun n => by rw [hm]; exact hc
  have key : ∀ n m, n ≤ m → c.addr n = c.addr m → n % q = m % q := fun n m hnm e => by
    have h1 := h (j + ts.length * n) (j + ts.length * m) (by rw [addr_node (a1 n), addr_node (a1 m), hm, hm, hd, hd, e])
    rw [mod_dvd (Nat.add_le_add_left (Nat.mul_le_mul_left _ hnm) _)] at h1
    rw [mod_dvd hnm]
    refine prm_mod hk hq hne ?_
    rwa [show j + ts.length * m - (j + ts.length * n) = ts.length * (m - n) by rw [Nat.mul_sub]; omega] at h1
  intro n m e
  rcases Nat.le_total n m with q | q
  · exact key n m q e
  · exact (key m n q e.symm).symm
theorem rp_ex (hN : N ≤ 400) {q : Nat} (hq : Prm q) : ∀ n (W : Wk) (p : List Nat) (t : T), Good N t0 false W → W.here.part p = some t → t.prime → Dv t q → t.ms < 2 ^ n → W.steps.length + 2 * t.cnt ≤ 90000 →
    ∃ W' us', RP n W p q W' ∧ Good N t0 false W' ∧ W'.here = W.here.put p (.node us') ∧ us'.length = q ∧ Rel t (.node us') ∧ (T.node us').prime ∧ W'.steps.length + 2 ≤ W.steps.length + 2 * t.cnt := by
  intro n
  induction n with
  | zero =>
    intro W p t g hp _ _ hm
    have := ms_pos t (ok_part' hp g.fit.ok)
    simp at hm
    omega
  | succ n ih =>
    intro W p t g hp hpr hdv hm hs
    have hok := ok_part' hp g.fit.ok
    cases t with
    | leaf o =>
      have := hdv 0 1 (by rw [addr_leaf, addr_leaf])
      have h2 := hq.1
      rw [Nat.zero_mod, Nat.mod_eq_of_lt (by omega)] at this
      omega
    | node ts =>
      obtain ⟨h2, ho⟩ := ok_node.mp hok
      by_cases hk : ts.length = q
      · refine ⟨W, ts, ⟨ts, hp, .inl ⟨hk, rfl⟩⟩, g, (put_self hp).symm, hk, ⟨.refl _, hok, rfl, Nat.le_refl _⟩, hpr, ?_⟩
        have := cnt_pos _ hok
        omega
      · have hP := (prime_node.mp hpr).1
        obtain ⟨W1, us, hL, ⟨g1, hst⟩, he, hl, hR⟩ := kids_ex (S := fun i A B => RP n A (p ++ [i]) q B) (p := p) (Rr := fun _ c c' => ∃ vs, c' = .node vs ∧ vs.length = q ∧ Rel c c' ∧ c'.prime) (us := ts) (fun j A => Good N t0 false A ∧ A.steps.length + 2 * j ≤ W.steps.length + 2 * cnts (ts.take j))
          (fun j c A us1 hc ⟨ga, hst⟩ hpa hla hca => by
            have hpc : A.here.part (p ++ [j]) = some c := by rw [part_snoc hpa]; exact hca
            have ht := cnts_take hc
            rw [cnt_node] at hs
            obtain ⟨A', vs, m1, m2, m3, m4, m5, m6, m7⟩ := ih A (p ++ [j]) c ga hpc (prime_get hpr hc) (dv_kid hdv hP hq hk hc) (ms_kid h2 hm hc) (by omega)
            exact ⟨A', .node vs, m1, ⟨m2, by rw [ht.1]; omega⟩, m3, vs, rfl, m4, m5, m6⟩) W ⟨g, by simp⟩ hp
        rw [List.take_length] at hst
        have hrel : Rel (.node ts) (.node us) := rel_node h2 hl fun i t u a b => by obtain ⟨vs, _, _, z, _⟩ := hR i t u a b; exact z
        have hall : ∀ t ∈ us, ∃ vs, t = .node vs ∧ vs.length = q := fun t ht => by
          obtain ⟨i, hi, e⟩ := List.mem_iff_getElem.mp ht
          obtain ⟨vs, e1, e2, _⟩ := hR i _ t (List.getElem?_eq_getElem (by omega)) (by rw [List.getElem?_eq_getElem hi, e])
          exact ⟨vs, e1, e2⟩
        have hpu : ∀ t ∈ us, t.prime := fun t ht => by
          obtain ⟨i, hi, e⟩ := List.mem_iff_getElem.mp ht
          obtain ⟨vs, _, _, _, z⟩ := hR i _ t (List.getElem?_eq_getElem (by omega)) (by rw [List.getElem?_eq_getElem hi, e])
          exact z
        obtain ⟨hu2, huo⟩ := ok_node.mp hrel.ok
        have hp1 : W1.here.part p = some (.node us) := by rw [he]; exact part_put hp
        have r1 := rel_flat hu2 hq.1 huo hall
        have hcb : cnts us = cnts ts := by have := hrel.cnt; rwa [cnt_node, cnt_node] at this
        have hcnt : ts.length ≤ cnts ts := len_le_cnts ho
        rw [cnt_node] at hs
        obtain ⟨W2, d1, d2, d3, d4⟩ := do_ex hN (kd := .flat) g1 hp1 (.flat hq.1 hall) (fit_put g1.fit hp1 r1.ok (Nat.le_of_eq r1.cnt) r1.ms) (by omega) fun z => by cases z
        have hp2 : W2.here.part p = some (.node (flatT us q)) := by rw [d3]; exact part_put hp1
        have hlf : (flatT us q).length = us.length * q := by rw [flat_len, Nat.mul_comm]
        have r2 := rel_unflat (ts := flatT us q) (q := q) (c := us.length) hq.1 hu2 hlf (ok_node.mp r1.ok).2
        obtain ⟨W3, f1, f2, f3, f4⟩ := do_ex hN (kd := .unflat q) d2 hp2 (.unflat hq.1 hu2 hlf) (fit_put d2.fit hp2 r2.ok (Nat.le_of_eq r2.cnt) r2.ms) (by omega) fun z => by cases z
        refine ⟨W3, _, ⟨ts, hp, .inr ⟨hk, W1, W2, hL, d1, f1⟩⟩, f2, ?_, unflat_len, (hrel.trans r1).trans r2, ?_, ?_⟩
        · rw [f3, d3, he, put_put hp, put_put hp]
        · refine prime_node.mpr ⟨by rw [unflat_len]; exact hq, fun u hu => ?_⟩
          obtain ⟨vs, rfl, e1, e2⟩ := unflat_mem hlf hu
          refine prime_node.mpr ⟨by rw [e1, hl]; exact hP, fun v hv => ?_⟩
          obtain ⟨xs, x1, x2⟩ := flat_mem hall (e2 v hv)
          exact (prime_node.mp (hpu _ x1)).2 v x2
        · rw [f4, d4, cnt_node]; omega
theorem ml_ex (hN : N ≤ 400) : ∀ n (g : T) (W : Wk) (p : List Nat) (t : T), Good N t0 false W → W.here.part p = some t → t.prime → g.prime → g.ok → Sem t g → g.lev < n → t.ms ≤ B26 → W.steps.length + 2 * (n * t.cnt) ≤ 90000 →
    ∃ W', ML n W p g W' ∧ Good N t0 false W' ∧ W'.here = W.here.put p g ∧ W'.steps.length ≤ W.steps.length + 2 * (n * t.cnt) := by
  intro n
  induction n with
  | zero => intro g W p t _ _ _ _ _ _ h; omega
  | succ n ih =>
    intro g W p t gd hp htp hgp hgo hsem hlev hms hs
    have hok := ok_part' hp gd.fit.ok
    cases g with
    | leaf o =>
      cases t with
      | leaf o' =>
        have := hsem.own 0
        rw [own_leaf, own_leaf] at this
        subst this
        exact ⟨W, rfl, gd, (put_self hp).symm, by omega⟩
      | node ts =>
        exfalso
        obtain ⟨h2, ho⟩ := ok_node.mp hok
        have := (hsem.addr 0 1).mpr (by rw [addr_leaf, addr_leaf])
        obtain ⟨c, hc⟩ := get_mod (ts := ts) (by omega) 0
        obtain ⟨d, hd⟩ := get_mod (ts := ts) (by omega) 1
        rw [addr_node hc, addr_node hd, List.cons.injEq, Nat.zero_mod, Nat.mod_eq_of_lt (by omega)] at this
        omega
    | node gs =>
      obtain ⟨hg2, hgo2⟩ := ok_node.mp hgo
      obtain ⟨hgP, hgk⟩ := prime_node.mp hgp
      have hdv : Dv t gs.length := fun a b e => by
        have := (hsem.addr a b).mp e
        obtain ⟨c, hc⟩ := get_mod (ts := gs) (by omega) a
        obtain ⟨d, hd⟩ := get_mod (ts := gs) (by omega) b
        rw [addr_node hc, addr_node hd, List.cons.injEq] at this
        exact this.1
      have hcm : (n + 1) * t.cnt = n * t.cnt + t.cnt := by rw [Nat.add_mul, Nat.one_mul]
      obtain ⟨W1, us, r1, r2, r3, r4, r5, r6, r7⟩ := rp_ex hN hgP 60 W p t gd hp htp hdv (Nat.lt_of_le_of_lt hms (by decide)) (by omega)
      have hp1 : W1.here.part p = some (.node us) := by rw [r3]; exact part_put hp
      have hsem2 : Sem (.node us) (.node gs) := r5.sem.symm.trans hsem
      have hcu : cnts us = t.cnt := by have := r5.cnt; rwa [cnt_node] at this
      obtain ⟨W', us', hL, ⟨g', hst⟩, he, hl, hR⟩ := kids_ex (S := fun i A B => ∃ t, gs[i]? = some t ∧ ML n A (p ++ [i]) t B) (p := p) (Rr := fun j _ c' => gs[j]? = some c') (us := us) (fun j A => Good N t0 false A ∧ A.steps.length ≤ W1.steps.length + 2 * (n * cnts (us.take j)))
        (fun j c A us1 hc ⟨ga, hst⟩ hpa hla hca => by
          have hpc : A.here.part (p ++ [j]) = some c := by rw [part_snoc hpa]; exact hca
          have hjl : j < gs.length := by have := (List.getElem?_eq_some_iff.mp hc).1; omega
          have hgj : gs[j]? = some gs[j] := List.getElem?_eq_getElem hjl
          have ht := cnts_take hc
          have e1 : n * cnts (us.take (j + 1)) = n * cnts (us.take j) + n * c.cnt := by rw [ht.1, Nat.mul_add]
          have e2 : n * cnts (us.take j) + n * c.cnt ≤ n * cnts us := by rw [← Nat.mul_add]; exact Nat.mul_le_mul_left _ ht.2
          rw [hcu] at e2
          have hlv := levs_get hgj
          rw [lev_node] at hlev
          obtain ⟨A', m1, m2, m3, m4⟩ := ih gs[j] A (p ++ [j]) c ga hpc (prime_get r6 hc) (hgk _ (List.getElem_mem hjl)) (oks_get hgo2 hgj) (sem_child r4 hsem2 hc hgj) (by omega)
            (Nat.le_trans (Nat.le_trans (mss_get hc) (by
              have := r5.ms
              rw [ms_node] at this
              exact Nat.le_trans (Nat.le_mul_of_pos_left _ (by omega)) this)) hms) (by omega)
          exact ⟨A', gs[j], ⟨gs[j], hgj, m1⟩, ⟨m2, by rw [e1]; omega⟩, m3, hgj⟩) W1 ⟨r2, by simp⟩ hp1
      rw [r4] at hL
      have hus : us' = gs := by
        apply List.ext_getElem?
        intro i
        by_cases hi : i < us.length
        · obtain ⟨c', hc'⟩ : ∃ c', us'[i]? = some c' := ⟨_, List.getElem?_eq_getElem (by omega)⟩
          rw [hc', hR i _ c' (List.getElem?_eq_getElem hi) hc']
        · rw [List.getElem?_eq_none (by omega), List.getElem?_eq_none (by omega)]
      subst hus
      refine ⟨W', ⟨W1, r1, hL⟩, g', by rw [he, r3, put_put hp], ?_⟩
      rw [List.take_length, hcu] at hst
      omega
end
end Td
end

section
set_option maxHeartbeats 1000000
/-! TdP5: spreading goes well; the refinement of one tree by another. -/
namespace Td
open PySem PySem.Spec PyProof.Rows L2
mutual
/-- each end of the tree in the shape of b there -/
def T.rf : T → T → Nat → Nat → T
  | .leaf _ => fun b f s => b.taken f s
  | .node ts => fun b f s => .node (rfs ts b f s (s * ts.length))
def rfs : List T → T → Nat → Nat → Nat → List T
  | [] => fun _ _ _ _ => []
  | t :: ts => fun b f s w => t.rf b f w :: rfs ts b (f + s) s w
end
theorem rf_leaf {o : Str} {b : T} {f s : Nat} : (T.leaf o).rf b f s = b.taken f s := by rw [T.rf]
theorem rf_node {ts : List T} {b : T} {f s : Nat} : (T.node ts).rf b f s = .node (rfs ts b f s (s * ts.length)) := by rw [T.rf]
theorem rfs_len : ∀ (ts : List T) {b : T} {f s w : Nat}, (rfs ts b f s w).length = ts.length
  | [], _, _, _, _ => by rw [rfs]
  | t :: ts, b, f, s, w => by rw [rfs, List.length_cons, List.length_cons, rfs_len ts]
theorem rfs_get : ∀ {ts : List T} {b t : T} {f s w i : Nat}, ts[i]? = some t → (rfs ts b f s w)[i]? = some (t.rf b (f + s * i) w)
  | [], _, _, _, _, _, _, h => by simp at h
  | u :: ts, b, t, f, s, w, 0, h => by simp at h; subst h; rw [rfs]; simp
  | u :: ts, b, t, f, s, w, i + 1, h => by
    rw [rfs, List.getElem?_cons_succ, rfs_get (ts := ts) (t := t) (by simpa using h)]
    rw [Nat.mul_add, Nat.mul_one, Nat.add_assoc, Nat.add_comm s]
theorem rfs_mem {ts : List T} {b u : T} {f s w : Nat} (h : u ∈ rfs ts b f s w) : ∃ (i : Nat) (t : T), ts[i]? = some t ∧ u = t.rf b (f + s * i) w := by
  obtain ⟨i, hi, e⟩ := List.mem_iff_getElem.mp h
  rw [rfs_len] at hi
  have h1 := List.getElem?_eq_getElem hi
  have h2 := rfs_get (b := b) (f := f) (s := s) (w := w) h1
  rw [List.getElem?_eq_getElem (by rw [rfs_len]; exact hi), e] at h2
  exact ⟨i, _, h1, Option.some.inj h2⟩
theorem taken_mem {ts : List T} {f s : Nat} (h0 : 0 < ts.length) {u : T} (h : u ∈ (List.range (ts.length / Nat.gcd ts.length s)).map (tkI ts f s)) : ∃ c ∈ ts, ∃ f' s', u = c.taken f' s' := by
  obtain ⟨i, hi, rfl⟩ := List.mem_map.mp h
  have := Nat.mod_lt (f + s * i) h0
  exact ⟨_, List.getElem_mem this, _, _, tkI_get (List.getElem?_eq_getElem this)⟩
theorem mk_cases (L : List T) : (∃ t, L = [t] ∧ mkT L = t) ∨ (L.length ≠ 1 ∧ mkT L = .node L) := by
  match L with
  | [] => exact .inr ⟨by simp, rfl⟩
  | [t] => exact .inl ⟨t, rfl, rfl⟩
  | _ :: _ :: _ => exact .inr ⟨by simp, rfl⟩
theorem taken_ok (t : T) : t.ok → ∀ f s, (t.taken f s).ok := by
  induction t using T.ind with
  | h1 o => intro h f s; rw [taken_leaf]; exact h
  | h2 ts ih =>
    intro h f s
    obtain ⟨h2, ho⟩ := ok_node.mp h
    have h0 : 0 < ts.length := by omega
    rw [taken_node]
    have hall : ∀ u ∈ (List.range (ts.length / Nat.gcd ts.length s)).map (tkI ts f s), u.ok := fun u hu => by
      obtain ⟨c, hc, f', s', rfl⟩ := taken_mem h0 hu
      exact ih c hc (oks_mem ho hc) f' s'
    have hlen := gcd_fit (s := s) h0
    have hl : ((List.range (ts.length / Nat.gcd ts.length s)).map (tkI ts f s)).length = ts.length / Nat.gcd ts.length s := by simp
    rcases mk_cases ((List.range (ts.length / Nat.gcd ts.length s)).map (tkI ts f s)) with ⟨t, e1, e2⟩ | ⟨e1, e2⟩
    · rw [e2]; exact hall t (by rw [e1]; exact List.mem_cons_self)
    · rw [e2, ok_node, oks_iff]
      exact ⟨by omega, hall⟩
theorem taken_ms (t : T) : t.ok → ∀ f s, (t.taken f s).ms ≤ t.ms := by
  induction t using T.ind with
  | h1 o => intro h f s; rw [taken_leaf]; exact Nat.le_refl _
  | h2 ts ih =>
    intro h f s
    obtain ⟨h2, ho⟩ := ok_node.mp h
    have h0 : 0 < ts.length := by omega
    rw [taken_node]
    have hall : ∀ u ∈ (List.range (ts.length / Nat.gcd ts.length s)).map (tkI ts f s), u.ms ≤ mss ts := fun u hu => by
      obtain ⟨c, hc, f', s', rfl⟩ := taken_mem h0 hu
      exact Nat.le_trans (ih c hc (oks_mem ho hc) f' s') (mss_mem hc)
    have hl : ((List.range (ts.length / Nat.gcd ts.length s)).map (tkI ts f s)).length = ts.length / Nat.gcd ts.length s := by simp
    rw [ms_node]
    rcases mk_cases ((List.range (ts.length / Nat.gcd ts.length s)).map (tkI ts f s)) with ⟨t, e1, e2⟩ | ⟨e1, e2⟩
    · rw [e2]
      exact Nat.le_trans (hall t (by rw [e1]; exact List.mem_cons_self)) (Nat.le_mul_of_pos_left _ h0)
    · rw [e2, ms_node, hl]
      exact Nat.mul_le_mul (Nat.div_le_self _ _) (mss_le (mss_pos ts) hall)
theorem rf_ok (t : T) : t.ok → ∀ (b : T), b.ok → ∀ f s, (t.rf b f s).ok := by
  induction t using T.ind with
  | h1 o => intro _ b hb f s; rw [rf_leaf]; exact taken_ok b hb f s
  | h2 ts ih =>
    intro h b hb f s
    obtain ⟨h2, ho⟩ := ok_node.mp h
    rw [rf_node, ok_node, rfs_len, oks_iff]
    refine ⟨h2, fun u hu => ?_⟩
    obtain ⟨i, t, e1, rfl⟩ := rfs_mem hu
    exact ih t (List.mem_of_getElem? e1) (oks_get ho e1) b hb _ _
theorem rf_ms (t : T) : t.ok → ∀ (b : T), b.ok → ∀ f s, (t.rf b f s).ms ≤ t.ms * b.ms := by
  induction t using T.ind with
  | h1 o => intro _ b hb f s; rw [rf_leaf, ms_leaf, Nat.one_mul]; exact taken_ms b hb f s
  | h2 ts ih =>
    intro h b hb f s
    obtain ⟨h2, ho⟩ := ok_node.mp h
    rw [rf_node, ms_node, rfs_len, ms_node, Nat.mul_assoc]
    refine Nat.mul_le_mul_left _ (mss_le (Nat.mul_pos (mss_pos ts) (ms_pos b hb)) fun u hu => ?_)
    obtain ⟨i, t, e1, rfl⟩ := rfs_mem hu
    exact Nat.le_trans (ih t (List.mem_of_getElem? e1) (oks_get ho e1) b hb _ _) (Nat.mul_le_mul_right _ (mss_get e1))
theorem rf_own (t : T) : t.ok → ∀ (b : T), b.ok → ∀ f s n, (t.rf b f s).own n = b.own (f + s * n) := by
  induction t using T.ind with
  | h1 o => intro _ b hb f s n; rw [rf_leaf]; exact taken_own b hb f s n
  | h2 ts ih =>
    intro h b hb f s n
    obtain ⟨h2, ho⟩ := ok_node.mp h
    obtain ⟨c, hc⟩ := get_mod (ts := ts) (by omega) n
    rw [rf_node, own_node (c := c.rf b (f + s * (n % ts.length)) (s * ts.length)) (by rw [rfs_len]; exact rfs_get hc), rfs_len, ih c (List.mem_of_getElem? hc) (oks_get ho hc) b hb]
    congr 1
    rw [Nat.add_assoc, Nat.mul_assoc, ← Nat.mul_add, Nat.mod_add_div]
theorem rf_addr (t : T) : t.ok → ∀ (b : T), b.ok → ∀ f s n m, (t.rf b f s).addr n = (t.rf b f s).addr m ↔ t.addr n = t.addr m ∧ b.addr (f + s * n) = b.addr (f + s * m) := by
  induction t using T.ind with
  | h1 o => intro _ b hb f s n m; rw [rf_leaf, addr_leaf, addr_leaf, taken_addr b hb]; simp
  | h2 ts ih =>
    intro h b hb f s n m
    obtain ⟨h2, ho⟩ := ok_node.mp h
    obtain ⟨c, hc⟩ := get_mod (ts := ts) (by omega) n
    obtain ⟨d, hd⟩ := get_mod (ts := ts) (by omega) m
    rw [rf_node, addr_node (c := c.rf b (f + s * (n % ts.length)) (s * ts.length)) (by rw [rfs_len]; exact rfs_get hc), addr_node (c := d.rf b (f + s * (m % ts.length)) (s * ts.length)) (by rw [rfs_len]; exact rfs_get hd), rfs_len, addr_node hc, addr_node hd, List.cons.injEq, List.cons.injEq, and_assoc]
    refine and_congr_right fun e => ?_
    rw [e, hd] at hc
    cases hc
    rw [← e, ih c (List.mem_of_getElem? hd) (oks_get ho hd) b hb]
    have e3 : f + s * (n % ts.length) + s * ts.length * (n / ts.length) = f + s * n := by rw [Nat.add_assoc, Nat.mul_assoc, ← Nat.mul_add, Nat.mod_add_div]
    have e4 : f + s * (n % ts.length) + s * ts.length * (m / ts.length) = f + s * m := by rw [e, Nat.add_assoc, Nat.mul_assoc, ← Nat.mul_add, Nat.mod_add_div]
    rw [e3, e4]
theorem rf_sem {a b : T} (ha : a.ok) (hb : b.ok) (h : ∀ n, a.own n = b.own n) : Sem (a.rf b 0 1) (b.rf a 0 1) := by
  refine ⟨fun n => ?_, fun n m => ?_⟩
  · rw [rf_own a ha b hb, rf_own b hb a ha, h]
  · rw [rf_addr a ha b hb, rf_addr b hb a ha, Nat.zero_add, Nat.zero_add, Nat.one_mul, Nat.one_mul]
    exact And.comm
/-! ### the number of ends is that of the classes -/
mutual
/-- the least items of the ends -/
def T.reps : T → List Nat
  | .leaf _ => [0]
  | .node ts => repss ts ts.length 0
def repss : List T → Nat → Nat → List Nat
  | [] => fun _ _ => []
  | t :: ts => fun k i => (t.reps.map fun r => i + k * r) ++ repss ts k (i + 1)
end
theorem repss_len : ∀ (ts : List T) (k i : Nat), (∀ t ∈ ts, t.reps.length = t.cnt) → (repss ts k i).length = cnts ts
  | [], k, i, _ => by rw [repss, cnts]; rfl
  | t :: ts, k, i, h => by
    rw [repss, cnts, List.length_append, List.length_map, h t List.mem_cons_self, repss_len ts k (i + 1) fun u hu => h u (List.mem_cons_of_mem _ hu)]
theorem reps_len (t : T) : t.reps.length = t.cnt := by
  induction t using T.ind with
  | h1 o => rw [T.reps, T.cnt]; rfl
  | h2 ts ih => rw [T.reps, cnt_node]; exact repss_len ts _ _ ih
theorem repss_mem : ∀ (ts : List T) (k i r : Nat), r ∈ repss ts k i ↔ ∃ (j : Nat) (t : T) (q : Nat), ts[j]? = some t ∧ q ∈ t.reps ∧ r = i + j + k * q
  | [], k, i, r => by rw [repss]; simp
  | t :: ts, k, i, r => by
    rw [repss, List.mem_append, List.mem_map, repss_mem ts k (i + 1) r]
    constructor
    · rintro (⟨q, hq, rfl⟩ | ⟨j, u, q, h1, h2, rfl⟩)
      · exact ⟨0, t, q, rfl, hq, rfl⟩
      · exact ⟨j + 1, u, q, by simpa using h1, h2, by omega⟩
    · rintro ⟨j, u, q, h1, h2, rfl⟩
      cases j with
      | zero => simp at h1; subst h1; exact .inl ⟨q, h2, rfl⟩
      | succ j => exact .inr ⟨j, u, q, by simpa using h1, h2, by omega⟩
theorem reps_mem (t : T) : t.ok → ∀ r, r ∈ t.reps ↔ ∀ m, m < r → ¬ t.addr m = t.addr r := by
  induction t using T.ind with
  | h1 o =>
    intro _ r
    rw [T.reps, List.mem_singleton]
    constructor
    · rintro rfl m h; omega
    · intro h
      rcases Nat.eq_zero_or_pos r with z | z
      · exact z
      · exact absurd (by rw [addr_leaf, addr_leaf]) (h 0 z)
  | h2 ts ih =>
    intro h r
    obtain ⟨h2, ho⟩ := ok_node.mp h
    have h0 : 0 < ts.length := by omega
    rw [T.reps]
    rw [repss_mem]
    obtain ⟨c, hc⟩ := get_mod h0 r
    have ihc := ih c (List.mem_of_getElem? hc) (oks_get ho hc)
    constructor
    · rintro ⟨j, t, q, h1, h3, rfl⟩ m hm e
      have hj : j < ts.length := (List.getElem?_eq_some_iff.mp h1).1
      have a1 : (0 + j + ts.length * q) % ts.length = j := by rw [Nat.zero_add, Nat.add_mul_mod_self_left, Nat.mod_eq_of_lt hj]
      have a2 : (0 + j + ts.length * q) / ts.length = q := by rw [Nat.zero_add, Nat.add_mul_div_left _ _ h0, Nat.div_eq_of_lt hj, Nat.zero_add]
      rw [a1, h1] at hc
      cases hc
      obtain ⟨d, hd⟩ := get_mod h0 m
      rw [addr_node hd, addr_node (c := c) (by rw [a1]; exact h1), List.cons.injEq, a1, a2] at e
      rw [e.1, h1] at hd
      cases hd
      refine (ihc q).mp h3 (m / ts.length) ?_ e.2
      have := Nat.mod_add_div m ts.length
      rw [e.1] at this
      rcases Nat.lt_or_ge (m / ts.length) q with z | z
      · exact z
      · have := Nat.mul_le_mul_left ts.length z
        omega
    · intro hr
      refine ⟨r % ts.length, c, r / ts.length, hc, (ihc _).mpr fun m hm e => ?_, by rw [Nat.zero_add, Nat.mod_add_div]⟩
      have hj := Nat.mod_lt r h0
      have a1 : (r % ts.length + ts.length * m) % ts.length = r % ts.length := by rw [Nat.add_mul_mod_self_left, Nat.mod_mod]
      have a2 : (r % ts.length + ts.length * m) / ts.length = m := by rw [Nat.add_mul_div_left _ _ h0, Nat.div_eq_of_lt hj, Nat.zero_add]
      refine hr (r % ts.length + ts.length * m) ?_ ?_
      · have := Nat.mod_add_div r ts.length
        have := Nat.mul_le_mul_left ts.length hm
        rw [Nat.mul_succ] at this
        omega
      · rw [addr_node (c := c) (by rw [a1]; exact hc), addr_node hc, a1, a2, e]
theorem repss_nodup : ∀ (ts : List T) (k i : Nat), 0 < k → (∀ t ∈ ts, t.reps.Nodup) → i + ts.length ≤ k → (repss ts k i).Nodup
  | [], k, i, _, _, _ => by rw [repss]; exact .nil
  | t :: ts, k, i, hk, h, hl => by
    rw [List.length_cons] at hl
    rw [repss, List.nodup_append]
    refine ⟨?_, repss_nodup ts k (i + 1) hk (fun u hu => h u (List.mem_cons_of_mem _ hu)) (by omega), ?_⟩
    · refine List.Pairwise.map _ (fun a b hab e => hab ?_) (h t List.mem_cons_self)
      have : k * a = k * b := by omega
      exact Nat.eq_of_mul_eq_mul_left hk this
    · intro x hx y hy e
      subst e
      obtain ⟨q, hq, rfl⟩ := List.mem_map.mp hx
      obtain ⟨j, u, q2, h1, h2, e⟩ := (repss_mem ts k (i + 1) _).mp hy
      have hj := (List.getElem?_eq_some_iff.mp h1).1
      have a1 : (i + k * q) % k = i := by rw [Nat.add_mul_mod_self_left, Nat.mod_eq_of_lt (by omega)]
      have a2 : (i + 1 + j + k * q2) % k = i + 1 + j := by rw [Nat.add_mul_mod_self_left, Nat.mod_eq_of_lt (by omega)]
      rw [e, a2] at a1
      omega
theorem reps_nodup (t : T) : t.ok → t.reps.Nodup := by
  induction t using T.ind with
  | h1 o => intro _; rw [T.reps]; simp
  | h2 ts ih =>
    intro h
    obtain ⟨h2, ho⟩ := ok_node.mp h
    rw [T.reps]
    exact repss_nodup ts _ 0 (by omega) (fun t ht => ih t ht (oks_mem ho ht)) (by omega)
theorem sem_cnt {t u : T} (ht : t.ok) (hu : u.ok) (h : ∀ n m, t.addr n = t.addr m ↔ u.addr n = u.addr m) : t.cnt = u.cnt := by
  rw [← reps_len, ← reps_len]
  refine List.Perm.length_eq ((List.perm_ext_iff_of_nodup (reps_nodup t ht) (reps_nodup u hu)).mpr fun r => ?_)
  rw [reps_mem t ht, reps_mem u hu]
  constructor
  · intro q m hm e; exact q m hm ((h m r).mpr e)
  · intro q m hm e; exact q m hm ((h m r).mp e)
end Td
end

section
set_option maxHeartbeats 1000000
/-! TdP6: steps_between goes well between equal trees. -/
namespace Td
open PySem PySem.Spec PyProof.Rows L2
theorem mss_rep {o : Str} : ∀ k, mss (List.replicate k (.leaf o)) = 1
  | 0 => by rw [List.replicate_zero, mss]
  | k + 1 => by rw [List.replicate_succ, mss, mss_rep k, ms_leaf]; rfl
theorem cnts_rep {o : Str} : ∀ k, cnts (List.replicate k (.leaf o)) = k
  | 0 => by rw [List.replicate_zero, cnts]
  | k + 1 => by rw [List.replicate_succ, cnts, cnts_rep k, T.cnt, Nat.add_comm]
theorem own_kid {ts : List T} {o : Str} {j : Nat} {c : T} (h : ∀ n, (T.node ts).own n = o) (hc : ts[j]? = some c) : ∀ n, c.own n = o := fun n => by
  have hi : j < ts.length := (List.getElem?_eq_some_iff.mp hc).1
  have := h (j + ts.length * n)
  rw [own_node (c := c) (by rw [Nat.add_mul_mod_self_left, Nat.mod_eq_of_lt hi]; exact hc), Nat.add_mul_div_left _ _ (by omega), Nat.div_eq_of_lt hi, Nat.zero_add] at this
  exact this
section
variable {N : Nat} {t0 : T} {b : Bool}
theorem sl_ex (hN : N ≤ 400) : ∀ n (t : T) (W : Wk) (p : List Nat) (o : Str), Good N t0 b W → W.here.part p = some (.leaf o) → t.ok → (∀ n, t.own n = o) → t.lev < n → W.here.cnt + t.cnt ≤ N + 1 → W.here.wd p * t.ms ≤ B26 → W.steps.length + t.cnt ≤ 90000 →
    ∃ W', SL n W p t W' ∧ Good N t0 b W' ∧ W'.here = W.here.put p t ∧ W'.steps.length + 1 ≤ W.steps.length + t.cnt := by
  intro n
  induction n with
  | zero => intro t W p o _ _ _ _ h; omega
  | succ n ih =>
    intro t W p o g hp hok hown hlev hcnt hms hs
    cases t with
    | leaf o' =>
      have := hown 0
      rw [own_leaf] at this
      subst this
      refine ⟨W, rfl, g, (put_self hp).symm, by rw [T.cnt]; exact Nat.le_refl _⟩
    | node ts =>
      obtain ⟨h2, ho⟩ := ok_node.mp hok
      have hlc := len_le_cnts ho
      rw [cnt_node] at hcnt hs
      rw [ms_node] at hms
      have h1c : 1 ≤ W.here.cnt := cnt_pos _ g.fit.ok
      have hput := cnt_put (c := .node (List.replicate ts.length (.leaf o))) hp
      rw [cnt_node, cnts_rep, T.cnt] at hput
      have hfit : Fit N (W.here.put p (.node (List.replicate ts.length (.leaf o)))) := by
        refine ⟨okT_put hp g.fit.ok (ok_node.mpr ⟨by rw [List.length_replicate]; exact h2, oks_iff.mpr fun t ht => by rw [List.eq_of_mem_replicate ht, T.ok]; trivial⟩), by omega, ms_put hp g.fit.ok g.fit.ms ?_⟩
        rw [ms_node, List.length_replicate, mss_rep, Nat.mul_one]
        exact Nat.le_trans (Nat.mul_le_mul_left _ (Nat.le_mul_of_pos_right _ (mss_pos ts))) hms
      obtain ⟨W1, d1, d2, d3, d4⟩ := do_ex hN (kd := .spr ts.length) g hp (.spr h2 (by omega)) hfit (by omega) fun _ => by
        show Chg .gath _ _
        exact .gath (by rw [List.length_replicate]; exact h2) fun t ht => List.eq_of_mem_replicate ht
      have hp1 : W1.here.part p = some (.node (List.replicate ts.length (.leaf o))) := by rw [d3]; exact part_put hp
      have hwd : W1.here.wd p = W.here.wd p := by rw [d3]; exact wd_put hp
      rw [lev_node] at hlev
      obtain ⟨W', us', hL, ⟨g', hst, _, _⟩, he, hl, hR⟩ := kids_ex (S := fun i A B => ∃ t, ts[i]? = some t ∧ SL n A (p ++ [i]) t B) (p := p) (Rr := fun j _ c' => ts[j]? = some c') (us := List.replicate ts.length (.leaf o))
        (fun j A => Good N t0 b A ∧ A.steps.length + j ≤ W1.steps.length + cnts (ts.take j) ∧ A.here.cnt + j ≤ W1.here.cnt + cnts (ts.take j) ∧ A.here.wd p = W.here.wd p)
        (fun j c A us1 hc ⟨ga, hst, hcn, hw⟩ hpa hla hca => by
          have hjl : j < ts.length := by have := (List.getElem?_eq_some_iff.mp hc).1; rwa [List.length_replicate] at this
          have htj : ts[j]? = some ts[j] := List.getElem?_eq_getElem hjl
          have ht := cnts_take htj
          have ec : c = .leaf o := by
            rw [List.getElem?_replicate, if_pos hjl] at hc
            exact (Option.some.inj hc).symm
          subst ec
          have hpc : A.here.part (p ++ [j]) = some (.leaf o) := by rw [part_snoc hpa]; exact hca
          have hlv := levs_get htj
          rw [d3] at hcn
          have hjt : cnts (ts.take j) + ts[j].cnt + (ts.length - j - 1) ≤ cnts ts := by
            have e := cnts_append (ts.take (j + 1)) (ts.drop (j + 1))
            rw [List.take_append_drop, ht.1] at e
            have h3 : (ts.drop (j + 1)).length ≤ cnts (ts.drop (j + 1)) := len_le_cnts (oks_iff.mpr fun t ht => oks_mem ho (List.mem_of_mem_drop ht))
            rw [List.length_drop] at h3
            omega
          obtain ⟨A', m1, m2, m3, m4⟩ := ih ts[j] A (p ++ [j]) o ga hpc (oks_get ho htj) (own_kid hown htj) (by omega) (by omega) (by
            rw [wd_snoc hpa hca, hw, hla, List.length_replicate, Nat.mul_assoc]
            exact Nat.le_trans (Nat.mul_le_mul_left _ (Nat.mul_le_mul_left _ (mss_get htj))) hms) (by omega)
          have hpt := cnt_put (c := ts[j]) hpc
          rw [T.cnt] at hpt
          refine ⟨A', ts[j], ⟨ts[j], htj, m1⟩, ⟨m2, by rw [ht.1]; omega, by rw [m3, ht.1, d3]; omega, ?_⟩, m3, htj⟩
          rw [m3, put_snoc hpa hca, wd_put hpa, hw]) W1 ⟨d2, by simp, by simp, hwd⟩ hp1
      rw [List.length_replicate] at hL hst hl
      have hus : us' = ts := by
        apply List.ext_getElem?
        intro i
        by_cases hi : i < ts.length
        · obtain ⟨c', hc'⟩ : ∃ c', us'[i]? = some c' := ⟨_, List.getElem?_eq_getElem (by omega)⟩
          rw [hc', hR i (.leaf o) c' (by rw [List.getElem?_replicate, if_pos hi]) hc']
        · rw [List.getElem?_eq_none (by omega), List.getElem?_eq_none (by omega)]
      subst hus
      rw [List.take_length] at hst
      refine ⟨W', ⟨W1, d1, hL⟩, g', by rw [he, d3, put_put hp], ?_⟩
      rw [cnt_node]
      omega
/-- rows of a loop over children, from a loop over numbers -/
theorem epss_of {S : List Nat × Nat × Nat → Wk → Wk → Prop} {ts : List T} {p : List Nat} {f s w : Nat} : ∀ {j m : Nat} {A B : Wk}, m = ts.length → Loop (fun i A B => ∃ t, ts[i]? = some t ∧ LoopL S (t.eps (p ++ [i]) (f + s * i) w) A B) j m A B →
    LoopL S (epss (ts.drop j) p j (f + s * j) s w) A B := by
  intro j m A B hm h
  induction h with
  | nil => subst hm; rw [List.drop_length, epss]; exact .nil
  | @cons i m A A1 B hi h1 _ ih =>
    obtain ⟨t, ht, hl⟩ := h1
    have hil : i < ts.length := by omega
    have e : ts.drop i = t :: ts.drop (i + 1) := by
      rw [List.drop_eq_getElem_cons hil]
      rw [List.getElem?_eq_getElem hil] at ht
      rw [Option.some.inj ht]
    rw [e, epss]
    have := ih hm
    rw [Nat.mul_add, Nat.mul_one, ← Nat.add_assoc] at this
    exact hl.append this
theorem rf_cnt (t : T) : t.ok → ∀ (o : T), o.ok → ∀ f s, t.cnt ≤ (t.rf o f s).cnt := by
  induction t using T.ind with
  | h1 o => intro _ b hb f s; rw [rf_leaf, T.cnt]; exact cnt_pos _ (taken_ok b hb f s)
  | h2 ts ih =>
    intro h b hb f s
    obtain ⟨h2, ho⟩ := ok_node.mp h
    rw [rf_node, cnt_node, cnt_node]
    have key : ∀ (us : List T) (f s w : Nat), (∀ u ∈ us, u ∈ ts) → cnts us ≤ cnts (rfs us b f s w) := by
      intro us
      induction us with
      | nil => intro f s w _; rw [rfs]; exact Nat.le_refl _
      | cons u us ih2 =>
        intro f s w hu
        rw [rfs, cnts, cnts]
        have h3 := ih u (hu u List.mem_cons_self) (oks_mem ho (hu u List.mem_cons_self)) b hb f w
        have h4 := ih2 (f + s) s w fun v hv => hu v (List.mem_cons_of_mem _ hv)
        omega
    exact key ts f s _ fun _ h => h
theorem spread_ex (hN : N ≤ 400) {o : T} (ho : o.ok) (hol : o.ms ≤ B26) (t : T) : t.ok → ∀ (W : Wk) (p : List Nat) (f s : Nat), Good N t0 b W → W.here.part p = some t → (∀ n, t.own n = o.own (f + s * n)) → W.here.cnt + (t.rf o f s).cnt ≤ N + t.cnt →
    W.here.wd p * (t.rf o f s).ms ≤ B26 → W.steps.length + (t.rf o f s).cnt ≤ 90000 →
    ∃ W', LoopL (fun r A B => SL 60 A r.1 (o.taken r.2.1 r.2.2) B) (t.eps p f s) W W' ∧ Good N t0 b W' ∧ W'.here = W.here.put p (t.rf o f s) ∧ W'.steps.length + t.cnt ≤ W.steps.length + (t.rf o f s).cnt := by
  induction t using T.ind with
  | h1 x =>
    intro _ W p f s g hp hown hc hm hs
    rw [rf_leaf] at hc hm hs ⊢
    rw [T.cnt] at hc
    have hl : (o.taken f s).lev < 60 := by
      have := lev_le (n := 25) (taken_ok o ho f s) (Nat.lt_of_le_of_lt (taken_ms o ho f s) (Nat.lt_of_le_of_lt hol (by decide)))
      omega
    obtain ⟨W', a1, a2, a3, a4⟩ := sl_ex hN 60 (o.taken f s) W p x g hp (taken_ok o ho f s) (fun n => by rw [taken_own o ho, ← hown, own_leaf]) hl hc hm hs
    refine ⟨W', ?_, a2, a3, by rw [T.cnt]; exact a4⟩
    rw [T.eps]
    exact .cons a1 .nil
  | h2 ts ih =>
    intro hok W p f s g hp hown hc hm hs
    obtain ⟨h2, hoo⟩ := ok_node.mp hok
    have h0 : 0 < ts.length := by omega
    rw [rf_node] at hc hm hs ⊢
    rw [cnt_node, cnt_node] at hc
    rw [cnt_node] at hs
    rw [ms_node, rfs_len] at hm
    have hrl : (rfs ts o f s (s * ts.length)).length = ts.length := rfs_len ts
    obtain ⟨W', us', hL, ⟨g', hst, _, _⟩, he, hl, hR⟩ := kids_ex (S := fun i A B => ∃ t, ts[i]? = some t ∧ LoopL (fun r A B => SL 60 A r.1 (o.taken r.2.1 r.2.2) B) (t.eps (p ++ [i]) (f + s * i) (s * ts.length)) A B) (p := p) (Rr := fun j _ c' => (rfs ts o f s (s * ts.length))[j]? = some c') (us := ts)
      (fun j A => Good N t0 b A ∧ A.steps.length + cnts (ts.take j) ≤ W.steps.length + cnts ((rfs ts o f s (s * ts.length)).take j) ∧ A.here.cnt + cnts (ts.take j) ≤ W.here.cnt + cnts ((rfs ts o f s (s * ts.length)).take j) ∧ A.here.wd p = W.here.wd p)
      (fun j c A us1 hcj ⟨ga, hst, hcn, hw⟩ hpa hla hca => by
        have hpc : A.here.part (p ++ [j]) = some c := by rw [part_snoc hpa]; exact hca
        have hgj := rfs_get (b := o) (f := f) (s := s) (w := s * ts.length) hcj
        have t1 := cnts_take hcj
        have t2 := cnts_take hgj
        have hj : j < ts.length := (List.getElem?_eq_some_iff.mp hcj).1
        have hge := rf_cnt c (oks_get hoo hcj) o ho (f + s * j) (s * ts.length)
        have hdrop : cnts (ts.take (j + 1)) + cnts ((rfs ts o f s (s * ts.length)).drop (j + 1)) ≥ cnts ts := by
          have e1 := cnts_append (ts.take (j + 1)) (ts.drop (j + 1))
          rw [List.take_append_drop] at e1
          have key : ∀ (us : List T) (f w : Nat) (k : Nat), (∀ u ∈ us, u ∈ ts) → cnts (us.drop k) ≤ cnts ((rfs us o f s w).drop k) := by
            intro us
            induction us with
            | nil => intro f w k _; rw [rfs]; simp
            | cons u us ih2 =>
              intro f w k hu
              cases k with
              | zero =>
                rw [List.drop_zero, List.drop_zero, rfs, cnts, cnts]
                have h3 := rf_cnt u (oks_mem hoo (hu u List.mem_cons_self)) o ho f w
                have h4 := ih2 (f + s) w 0 fun v hv => hu v (List.mem_cons_of_mem _ hv)
                rw [List.drop_zero, List.drop_zero] at h4
                omega
              | succ k =>
                rw [rfs, List.drop_succ_cons, List.drop_succ_cons]
                exact ih2 (f + s) w k fun v hv => hu v (List.mem_cons_of_mem _ hv)
          have := key ts f (s * ts.length) (j + 1) fun _ h => h
          omega
        have e2 := cnts_append ((rfs ts o f s (s * ts.length)).take (j + 1)) ((rfs ts o f s (s * ts.length)).drop (j + 1))
        rw [List.take_append_drop] at e2
        obtain ⟨A', m1, m2, m3, m4⟩ := ih c (List.mem_of_getElem? hcj) (oks_get hoo hcj) A (p ++ [j]) (f + s * j) (s * ts.length) ga hpc (fun n => by
            have := hown (j + ts.length * n)
            rw [own_node (c := c) (by rw [Nat.add_mul_mod_self_left, Nat.mod_eq_of_lt hj]; exact hcj), Nat.add_mul_div_left _ _ h0, Nat.div_eq_of_lt hj, Nat.zero_add] at this
            rw [this]
            congr 1
            rw [Nat.mul_add, Nat.mul_assoc, Nat.add_assoc]) (by omega) (by
          rw [wd_snoc hpa hca, hw, hla, Nat.mul_assoc]
          exact Nat.le_trans (Nat.mul_le_mul_left _ (Nat.mul_le_mul_left _ (mss_get hgj))) hm) (by omega)
        have hpt := cnt_put (c := c.rf o (f + s * j) (s * ts.length)) hpc
        refine ⟨A', _, ⟨c, hcj, m1⟩, ⟨m2, by rw [t1.1, t2.1]; omega, by rw [m3, t1.1, t2.1]; omega, ?_⟩, m3, hgj⟩
        rw [m3, put_snoc hpa hca, wd_put hpa, hw]) W ⟨g, by simp, by simp, rfl⟩ hp
    have hus : us' = rfs ts o f s (s * ts.length) := by
      apply List.ext_getElem?
      intro i
      by_cases hi : i < ts.length
      · obtain ⟨c', hc'⟩ : ∃ c', us'[i]? = some c' := ⟨_, List.getElem?_eq_getElem (by omega)⟩
        rw [hc', hR i _ c' (List.getElem?_eq_getElem hi) hc']
      · rw [List.getElem?_eq_none (by omega), List.getElem?_eq_none (by omega)]
    subst hus
    rw [List.take_length, List.take_of_length_le (by omega)] at hst
    refine ⟨W', ?_, g', he, by rw [cnt_node, cnt_node]; exact hst⟩
    rw [T.eps]
    have := epss_of (p := p) (f := f) (s := s) (w := s * ts.length) rfl hL
    rw [List.drop_zero, Nat.mul_zero, Nat.add_zero] at this
    exact this
/-- refined goes well -/
theorem refine_ex (hN : N ≤ 400) {a o : T} (ha : a.ok) (ho : o.ok) (hown : ∀ n, a.own n = o.own n) (hms : a.ms * o.ms ≤ B26) (hcnt : (a.rf o 0 1).cnt = N) :
    ∃ W, RF a o W ∧ Good N a true W ∧ Rel (a.rf o 0 1) W.here ∧ W.here.prime ∧ W.steps.length ≤ 800 := by
  have hams : a.ms ≤ B26 := Nat.le_trans (Nat.le_mul_of_pos_right _ (ms_pos o ho)) hms
  have homs : o.ms ≤ B26 := Nat.le_trans (Nat.le_mul_of_pos_left _ (ms_pos a ha)) hms
  have hac := rf_cnt a ha o ho 0 1
  have g0 : Good N a true ⟨a, [], []⟩ := ⟨⟨ha, by show a.cnt ≤ N; omega, hams⟩, .nil _, fun _ => .nil _, rfl⟩
  have hrm := Nat.le_trans (rf_ms a ha o ho 0 1) hms
  obtain ⟨W1, l1, l2, l3, l4⟩ := spread_ex hN ho homs a ha ⟨a, [], []⟩ [] 0 1 g0 part_nil (fun n => by rw [hown, Nat.zero_add, Nat.one_mul]) (by show a.cnt + _ ≤ _; omega) (by rw [wd_nil, Nat.one_mul]; exact hrm) (by show 0 + _ ≤ _; omega)
  rw [put_nil] at l3
  have l4 : W1.steps.length + a.cnt ≤ 0 + (a.rf o 0 1).cnt := l4
  obtain ⟨W2, t', m1, m2, m3, ⟨m4, m5⟩, m6⟩ := mp_ex hN 60 W1 [] W1.here l2 part_nil (Nat.lt_of_le_of_lt l2.fit.ms (by decide)) (by rw [l3]; omega)
  rw [put_nil] at m3
  subst m3
  refine ⟨W2, ⟨W1, l1, m1⟩, m2, by rw [← l3]; exact m4, m5, ?_⟩
  rw [l3] at m6
  omega
end
end Td
end

section
set_option maxHeartbeats 1000000
/-! TdP7: steps_between between equal trees: it goes, and how. -/
namespace Td
open PySem PySem.Spec PyProof.Rows L2
theorem endss_mem : ∀ {ts : List T} {f s w : Nat} {r : Nat × Nat × Str}, r ∈ endss ts f s w → ∃ (i : Nat) (t : T), ts[i]? = some t ∧ r ∈ t.ends (f + s * i) w
  | [], f, s, w, r, h => by rw [endss] at h; cases h
  | t :: ts, f, s, w, r, h => by
    rw [endss, List.mem_append] at h
    rcases h with h | h
    · exact ⟨0, t, rfl, by simpa using h⟩
    · obtain ⟨i, u, h1, h2⟩ := endss_mem h
      refine ⟨i + 1, u, by simpa using h1, ?_⟩
      rw [Nat.mul_add, Nat.mul_one, Nat.add_comm (s * i), ← Nat.add_assoc]; exact h2
theorem ends_leaf {o : Str} {f s : Nat} : (T.leaf o).ends f s = [(f, s, o)] := by rw [T.ends]
theorem ends_node {ts : List T} {f s : Nat} : (T.node ts).ends f s = endss ts f s (s * ts.length) := by rw [T.ends]
/-- what a row of ends says -/
theorem ends_own (t : T) : t.ok → ∀ (f s : Nat) (r : Nat × Nat × Str), r ∈ t.ends f s → ∃ F S, r.1 = f + s * F ∧ r.2.1 = s * S ∧ 1 ≤ S ∧ S ≤ t.ms ∧ ∀ n, t.own (F + S * n) = r.2.2 := by
  induction t using T.ind with
  | h1 o =>
    intro _ f s r h
    rw [ends_leaf, List.mem_singleton] at h
    subst h
    exact ⟨0, 1, by simp, by simp, Nat.le_refl _, by rw [ms_leaf]; exact Nat.le_refl _, fun n => own_leaf⟩
  | h2 ts ih =>
    intro h f s r hr
    obtain ⟨h2, ho⟩ := ok_node.mp h
    rw [ends_node] at hr
    obtain ⟨i, t, hi, hr⟩ := endss_mem hr
    have hil := (List.getElem?_eq_some_iff.mp hi).1
    obtain ⟨F, S, e1, e2, e3, e4, e5⟩ := ih t (List.mem_of_getElem? hi) (oks_get ho hi) _ _ r hr
    refine ⟨i + ts.length * F, ts.length * S, ?_, ?_, Nat.mul_pos (by omega) e3, ?_, fun n => ?_⟩
    · rw [e1, Nat.mul_add, Nat.mul_assoc, Nat.add_assoc]
    · rw [e2, Nat.mul_assoc]
    · rw [ms_node]; exact Nat.mul_le_mul_left _ (Nat.le_trans e4 (mss_get hi))
    · rw [Nat.add_assoc, Nat.mul_assoc, ← Nat.mul_add, own_node (c := t) (by rw [Nat.add_mul_mod_self_left, Nat.mod_eq_of_lt hil]; exact hi), Nat.add_mul_div_left _ _ (by omega), Nat.div_eq_of_lt hil, Nat.zero_add]
      exact e5 n
theorem endss_len : ∀ (ts : List T) (f s w : Nat), (∀ t ∈ ts, ∀ f s, (t.ends f s).length = t.cnt) → (endss ts f s w).length = cnts ts
  | [], f, s, w, _ => by rw [endss, cnts]; rfl
  | t :: ts, f, s, w, h => by
    rw [endss, cnts, List.length_append, h t List.mem_cons_self, endss_len ts _ _ _ fun u hu => h u (List.mem_cons_of_mem _ hu)]
theorem ends_len (t : T) : ∀ f s, (t.ends f s).length = t.cnt := by
  induction t using T.ind with
  | h1 o => intro f s; rw [ends_leaf, T.cnt]; rfl
  | h2 ts ih => intro f s; rw [ends_node, cnt_node]; exact endss_len ts _ _ _ ih
/-- the ends of the ends -/
theorem sum_ends (t : T) : ∀ (b : T) (f s : Nat), ((t.ends f s).map fun r => (b.taken r.1 r.2.1).cnt).sum = (t.rf b f s).cnt := by
  induction t using T.ind with
  | h1 o => intro b f s; rw [ends_leaf, rf_leaf]; simp
  | h2 ts ih =>
    intro b f s
    rw [ends_node, rf_node, cnt_node]
    have key : ∀ (us : List T) (f w : Nat), (∀ u ∈ us, u ∈ ts) → ((endss us f s w).map fun r => (b.taken r.1 r.2.1).cnt).sum = cnts (rfs us b f s w) := by
      intro us
      induction us with
      | nil => intro f w _; rw [endss, rfs, cnts]; rfl
      | cons u us ih2 =>
        intro f w hu
        rw [endss, rfs, cnts, List.map_append, List.sum_append, ih u (hu u List.mem_cons_self), ih2 (f + s) w fun v hv => hu v (List.mem_cons_of_mem _ hv)]
    exact key ts f _ fun _ h => h
theorem cmn_len (a b : T) : (cmn a b).length = (a.rf b 0 1).cnt := by
  unfold cmn
  rw [List.length_flatMap, ← sum_ends]
  congr 1
  apply List.map_congr_left
  intro r _
  rw [List.length_map, ends_len]
theorem cmn_comm {a b : T} (ha : a.ok) (hb : b.ok) (hown : ∀ n, a.own n = b.own n) : (cmn b a).length = (cmn a b).length := by
  rw [cmn_len, cmn_len]
  exact sem_cnt (rf_ok b hb a ha 0 1) (rf_ok a ha b hb 0 1) fun n m => ((rf_sem ha hb hown).addr n m).symm
theorem eq_rows {a b : T} (ha : a.ok) (hb : b.ok) (hown : ∀ n, a.own n = b.own n) : ∀ r ∈ a.ends 0 1, ∀ q ∈ (b.taken r.1 r.2.1).ends 0 1, q.2.2 = r.2.2 := by
  intro r hr q hq
  obtain ⟨F, S, e1, e2, _, _, e5⟩ := ends_own a ha 0 1 r hr
  rw [Nat.zero_add, Nat.one_mul] at e1
  rw [Nat.one_mul] at e2
  obtain ⟨F2, S2, d1, d2, _, _, d5⟩ := ends_own _ (taken_ok b hb r.1 r.2.1) 0 1 q hq
  rw [← d5 0, taken_own b hb, ← hown, e1, e2]
  exact e5 _
theorem cmn_fit {a b : T} (ha : a.ok) (hb : b.ok) (hms : a.ms * b.ms ≤ B26) : ∀ r ∈ cmn a b, 1 ≤ r.2.1 ∧ r.2.1 ≤ B26 := by
  intro r hr
  unfold cmn at hr
  obtain ⟨x, hx, hr⟩ := List.mem_flatMap.mp hr
  obtain ⟨y, hy, rfl⟩ := List.mem_map.mp hr
  obtain ⟨F, S, e1, e2, e3, e4, _⟩ := ends_own a ha 0 1 x hx
  rw [Nat.one_mul] at e2
  obtain ⟨F2, S2, d1, d2, d3, d4, _⟩ := ends_own _ (taken_ok b hb x.1 x.2.1) 0 1 y hy
  rw [Nat.one_mul] at d2
  show 1 ≤ x.2.1 * y.2.1 ∧ x.2.1 * y.2.1 ≤ B26
  rw [e2, d2]
  exact ⟨Nat.mul_pos e3 d3, Nat.le_trans (Nat.mul_le_mul e4 (Nat.le_trans d4 (taken_ms b hb _ _))) hms⟩
/-- between equal trees there is a row of steps -/
theorem sb_ex {a b : T} {N : Nat} (ha : a.ok) (hb : b.ok) (hown : ∀ n, a.own n = b.own n) (hms : a.ms * b.ms ≤ B26) (hN : N ≤ 400) (hc : (cmn a b).length = N) : ∃ ss, SB a b ss ∧ Tr N a ss b ∧ ss.length ≤ 90000 := by
  have hc1 : (a.rf b 0 1).cnt = N := by rw [← cmn_len]; exact hc
  have hc2 : (b.rf a 0 1).cnt = N := by rw [← cmn_len, cmn_comm ha hb hown]; exact hc
  obtain ⟨W, w1, w2, w3, w4, w5⟩ := refine_ex hN ha hb hown hms hc1
  obtain ⟨G, g1, g2, g3, g4, g5⟩ := refine_ex hN hb ha (fun n => (hown n).symm) (by rw [Nat.mul_comm]; exact hms) hc2
  have hsem : Sem W.here G.here := (w3.sem.symm.trans (rf_sem ha hb hown)).trans g3.sem
  have hW : Good N a false W := ⟨w2.fit, w2.tr, (fun h => nomatch h), w2.len⟩
  have hwc : 60 * W.here.cnt ≤ 60 * 400 := Nat.mul_le_mul_left _ (Nat.le_trans w2.fit.cnt hN)
  obtain ⟨W2, m1, m2, m3, m4⟩ := ml_ex hN 60 G.here W [] W.here hW part_nil w4 g4 g2.fit.ok hsem (by have := g2.fit.lev; omega) w2.fit.ms (by omega)
  rw [put_nil] at m3
  refine ⟨W2.steps ++ G.backs.reverse, ⟨eq_rows ha hb hown, by omega, fun r hr => ?_, W, G, W2, w1, g1, m1, rfl⟩, ?_, ?_⟩
  · obtain ⟨h1, h2⟩ := cmn_fit ha hb hms r hr
    exact ⟨h1, Nat.lt_of_le_of_lt h2 (by decide)⟩
  · have h1 := m2.tr
    rw [m3] at h1
    exact h1.append (g2.bk rfl)
  · rw [List.length_append, List.length_reverse, g2.len]
    omega
end Td
end

section
set_option maxHeartbeats 1000000
/-! TdWk: walks: the object, its __init__, do, make_prime. -/
namespace Td
open PySem PySem.Spec PyProof.Rows L2
theorem size5' : (100001 : Nat) ≤ sizeLine := by rw [sizeLine_eq]; decide
abbrev SVs (K : PySem.W.Frag) (H : Hp) (ss : List Stp) (xs : List V) : Prop := Ds K H (ss.map Stp.dat) xs
theorem SVs.snoc {K : PySem.W.Frag} {H : Hp} {ss : List Stp} {s : Stp} {xs : List V} {v : V} (h : SVs K H ss xs) (k : SV K H s v) : SVs K H (ss ++ [s]) (xs ++ [v]) := by
  unfold SVs
  rw [List.map_append]
  exact Ds.append h (ds_cons k ds_nil)
theorem SVs.len {K : PySem.W.Frag} {H : Hp} {ss : List Stp} {xs : List V} (h : SVs K H ss xs) : xs.length = ss.length := by rw [Ds.length h, List.length_map]
/-- where a walk's parts stand -/
structure WA where
  x : Addr
  dx : Addr
  ls : Addr
  lb : Addr
/-- a walk, as it stands in the heap -/
structure WAt (K : PySem.W.Frag) (C : Addr) (H : Hp) (a : WA) (W : Wk) : Prop where
  ex : ∃ (hv : V) (xs ys : List V), H a.x = some (.ins C a.dx [("here", hv), ("steps", .ref a.ls), ("backs", .ref a.lb)]) ∧ H a.ls = some (.lst xs) ∧ H a.lb = some (.lst ys) ∧ TVn K H W.here hv ∧ SVs K H W.steps xs ∧ SVs K H W.backs ys
  ne : a.ls ≠ a.lb
/-- what a walk leaves as it was -/
def Kept (a : WA) (H H' : Hp) : Prop := ∀ b, b ≠ a.x → b ≠ a.ls → b ≠ a.lb → ∀ o, H b = some o → H' b = some o
section
variable {K : PySem.W.Frag} {H H' H2 : Hp} {C : Addr} {a : WA} {W W2 : Wk}
theorem Kept.refl (a : WA) (H : Hp) : Kept a H H := fun _ _ _ _ _ h => h
theorem Kept.trans (h : Kept a H H') (k : Kept a H' H2) : Kept a H H2 := fun b n1 n2 n3 o e => k b n1 n2 n3 o (h b n1 n2 n3 o e)
theorem Same.kept (s : Same H H') : Kept a H H' := fun b _ _ _ o e => s b o e
theorem Kept.tle (h : Kept a H H') (w : WAt K C H a W) : TLe K H H' := fun b xs e => by
  obtain ⟨hv, us, ys, e1, e2, e3, _⟩ := w.ex
  have go : ∀ o, H b = some o → (∀ dx fs, o ≠ .ins C dx fs) → (∀ us, o ≠ .lst us) → H' b = some o := fun o q n1 n2 => by
    refine h b ?_ ?_ ?_ o q
    · rintro rfl; rw [e1] at q; cases q; exact n1 _ _ rfl
    · rintro rfl; rw [e2] at q; cases q; exact n2 _ rfl
    · rintro rfl; rw [e3] at q; cases q; exact n2 _ rfl
  rcases e with (q | ⟨o, q⟩) | q
  · exact .inl (.inl (go _ q (fun _ _ z => by cases z) (fun _ z => by cases z)))
  · exact .inl (.inr ⟨o, go _ q (fun _ _ z => by cases z) (fun _ z => by cases z)⟩)
  · exact .inr q
theorem WAt.same (w : WAt K C H a W) (s : Same H H') : WAt K C H' a W := by
  obtain ⟨hv, xs, ys, e1, e2, e3, h1, h2, h3⟩ := w.ex
  exact ⟨⟨hv, xs, ys, s _ _ e1, s _ _ e2, s _ _ e3, h1.le (Same.tle s), Ds.le (Same.tle s) _ _ h2, Ds.le (Same.tle s) _ _ h3⟩, w.ne⟩
theorem WAt.xls (w : WAt K C H a W) : a.x ≠ a.ls ∧ a.x ≠ a.lb := by
  obtain ⟨hv, xs, ys, e1, e2, e3, _⟩ := w.ex
  exact ⟨(fun z => by rw [z, e2] at e1; cases e1), (fun z => by rw [z, e3] at e1; cases e1)⟩
end
section
variable {P : Program} {w : World} {K : PySem.W.Frag} {mg : Str → Option Value} {base : Heap} {C : Addr}
/-- a method, as the top left it -/
structure MethAt (K : PySem.W.Frag) (C : Addr) (m q : Str) (st : Stmt) : Prop where
  ex : ∃ (f : Addr) (oc : Value) (od : Option Addr) (kV doc pm : Value) (an : Option Addr) (cdv ct : Value) (osl : Array (Option Value)), Meth K C m f ∧
    K.lookup f = some ⟨oc, od, .func (PySem.W.fnOf m q (defArgs st) (defBody st) (defScope st) .none kV doc pm an cdv ct), osl⟩ ∧ PySem.W.codeIn K cdv q = true
structure InitAt (K : PySem.W.Frag) (C : Addr) (q : Str) (st : Stmt) : Prop where
  ex : ∃ (f : Addr) (oc : Value) (od : Option Addr) (kV doc pm : Value) (an : Option Addr) (cdv ct : Value) (osl : Array (Option Value)), Mk K C f ∧
    K.lookup f = some ⟨oc, od, .func (PySem.W.fnOf "__init__" q (defArgs st) (defBody st) (defScope st) .none kV doc pm an cdv ct), osl⟩ ∧ PySem.W.codeIn K cdv q = true
/-- the class Walk -/
structure WTop (K : PySem.W.Frag) (mg : Str → Option Value) (C : Addr) : Prop where
  at_ : mg "Walk" = some (.ref C)
  cls : Cls K C
  na_here : NoAttr K C "here"
  na_steps : NoAttr K C "steps"
  na_backs : NoAttr K C "backs"
  init : InitAt K C "Walk.__init__" (inClass (topS 33) 0)
  d_do : MethAt K C "do" "Walk.do" (inClass (topS 33) 1)
  d_mp : MethAt K C "make_prime" "Walk.make_prime" (inClass (topS 33) 2)
theorem met_of {m q : Str} {st : Stmt} {N ps : List Str} {k : Nat} {sp : Sp} (c : Cls K C) (F : MethAt K C m q st) (S : FnScope N ps (defScope st))
    (hb : ∀ (kV doc pm : Value) (an : Option Addr) (cdv ct : Value) (us : List Value), us.length = ps.length → bindArgs (PySem.W.fnOf m q (defArgs st) (defBody st) (defScope st) .none kV doc pm an cdv ct) ⟨us, []⟩ = pure (ps.zip us))
    (len : ∀ vs H Q E, sp vs H Q E → vs.length = ps.length)
    (hbody : ∀ (f : Addr) (cdv : Value) (A : Around) (outer : List Env) (s : Shared) (H : Hp) (vs : List V) (Q : VK) (E : XK), Room k (A.deeper (envOfC q (defScope st) s.heap.objs.size f cdv)) → sp vs H Q E →
      ∃ t, PSs (cxOf CX0 P w K mg base N q (defScope st) f cdv A outer s H E).nox (defBody st) t ∧ t { nx := fun _ H' => Q .non H', rt := Q } (start N vs) H) : C8.Met P w K mg base (k + 1) C m sp [] := by
  obtain ⟨f, oc, od, kV, doc, pm, an, cdv, ct, osl, hm, lk, hcd⟩ := F.ex
  refine ⟨⟨f, _, ps, [], c, hm, fn_of lk hcd S len fun A outer s H vs Q E hr hsp => ?_, .all (hb kV doc pm an cdv ct), .nil⟩⟩
  obtain ⟨t, h, q⟩ := hbody f cdv A outer s H vs Q E hr hsp
  exact ⟨t, h.nox, q⟩
theorem mak_of {x q : Str} {st : Stmt} {N ps : List Str} {k : Nat} {sp : Sp} (hx : mg x = some (.ref C)) (F : InitAt K C q st) (S : FnScope N ps (defScope st))
    (hb : ∀ (kV doc pm : Value) (an : Option Addr) (cdv ct : Value) (us : List Value), us.length = ps.length → bindArgs (PySem.W.fnOf "__init__" q (defArgs st) (defBody st) (defScope st) .none kV doc pm an cdv ct) ⟨us, []⟩ = pure (ps.zip us))
    (len : ∀ vs H Q E, sp vs H Q E → vs.length = ps.length)
    (hbody : ∀ (f : Addr) (cdv : Value) (A : Around) (outer : List Env) (s : Shared) (H : Hp) (vs : List V) (Q : VK) (E : XK), Room k (A.deeper (envOfC q (defScope st) s.heap.objs.size f cdv)) → sp vs H Q E →
      ∃ t, PSs (cxOf CX0 P w K mg base N q (defScope st) f cdv A outer s H E).nox (defBody st) t ∧ t { nx := fun _ H' => Q .non H', rt := Q } (start N vs) H) : C8.Mak P w K mg base (k + 1) x C sp [] := by
  obtain ⟨f, oc, od, kV, doc, pm, an, cdv, ct, osl, hm, lk, hcd⟩ := F.ex
  refine ⟨⟨f, _, ps, [], hm, fn_of lk hcd S len fun A outer s H vs Q E hr hsp => ?_, hx, .all (hb kV doc pm an cdv ct), .nil⟩⟩
  obtain ⟨t, h, q⟩ := hbody f cdv A outer s H vs Q E hr hsp
  exact ⟨t, h.nox, q⟩
theorem sc_Walk_init : FnScope ["self", "tree"] ["self", "tree"] (defScope (inClass (topS 33) 0)) := ⟨rfl, rfl, rfl, by decide +kernel, rfl, by decide +kernel, by decide +kernel⟩
def spInit (K : PySem.W.Frag) (C : Addr) : Sp := fun vs H Q _ => ∃ (x dx : Addr) (t : T) (v : V), vs = [.ref x, v] ∧ H x = some (.ins C dx []) ∧ TVn K H t v ∧
  ∀ (ls lb : Addr) H', H ls = none → H lb = none → (∀ b o, b ≠ x → H b = some o → H' b = some o) → WAt K C H' ⟨x, dx, ls, lb⟩ ⟨t, [], []⟩ → Q .non H'
theorem ok_init (T : Top K mg) (U : WTop K mg C) : C8.Mak P w K mg base 1 "Walk" C (spInit K C) [] := by
  refine mak_of U.at_ U.init sc_Walk_init (fun _ _ _ _ _ _ us hl => match us, hl with | [_, _], _ => rfl) (fun vs H Q E h => ?_) fun f cdv A outer sh H vs Q E hr h => ?_
  · obtain ⟨x, dx, t, v, rfl, _⟩ := h; rfl
  · obtain ⟨x, dx, t, v, rfl, hx, hv, k⟩ := h
    refine ⟨_, (pss_cons (ps_fld (pv 0) (pv 1) rfl)
      (pss_cons (ps_fld (pv 0) (pe_lst pa_nil) rfl)
      (pss_one (ps_fld (pv 0) (pe_lst pa_nil) rfl)))), ?_⟩
    refine ⟨v, rfl, _, rfl, x, C, dx, _, rfl, hx, U.cls, U.na_here, by show 0 < 1000; omega, ?_⟩
    refine ⟨Nat.zero_le _, fun ls hls => ?_⟩
    have hxl : x ≠ ls := fun z => by rw [← z, upd_same] at hls; cases hls
    refine ⟨_, rfl, x, C, dx, _, rfl, by rw [upd_ne hxl, upd_same], U.cls, U.na_steps, by show 1 < 1000; omega, ?_⟩
    refine ⟨Nat.zero_le _, fun lb hlb => ?_⟩
    have hxb : x ≠ lb := fun z => by rw [← z, upd_same] at hlb; cases hlb
    have hsb : ls ≠ lb := fun z => by rw [← z, upd_ne (Ne.symm hxl), upd_same] at hlb; cases hlb
    refine ⟨_, rfl, x, C, dx, _, rfl, by rw [upd_ne hxb, upd_same], U.cls, U.na_backs, by show 2 < 1000; omega, ?_⟩
    have hls0 : H ls = none := by rw [upd_ne (Ne.symm hxl)] at hls; exact hls
    have hlb0 : H lb = none := by rw [upd_ne (Ne.symm hxb), upd_ne (Ne.symm hsb), upd_ne (Ne.symm hxb)] at hlb; exact hlb
    have hkeep : ∀ b o, b ≠ x → H b = some o → upd (upd (upd (upd (upd H x (.ins C dx (putF "here" v []))) ls (.lst [])) x (.ins C dx (putF "steps" (.ref ls) (putF "here" v [])))) lb (.lst [])) x (.ins C dx (putF "backs" (.ref lb) (putF "steps" (.ref ls) (putF "here" v [])))) b = some o := fun b o hb e => by
      rw [upd_ne hb, upd_ne (ne_of_none e hlb0), upd_ne hb, upd_ne (ne_of_none e hls0), upd_ne hb]; exact e
    refine k ls lb _ hls0 hlb0 hkeep ⟨⟨v, [], [], by rw [upd_same]; rfl, ?_, ?_, hv.le ?_, ds_nil, ds_nil⟩, hsb⟩
    · rw [upd_ne (Ne.symm hxl), upd_ne hsb, upd_ne (Ne.symm hxl), upd_same]
    · rw [upd_ne (Ne.symm hxb), upd_same]
    · intro b xs e
      have nx : ∀ us : List V, H b = some (.tup us) → b ≠ x := fun us q z => by rw [z, hx] at q; cases q
      rcases e with (q | ⟨o, q⟩) | q
      · exact .inl (.inl (hkeep _ _ (fun z => by rw [z, hx] at q; cases q) q))
      · exact .inl (.inr ⟨o, hkeep _ _ (fun z => by rw [z, hx] at q; cases q) q⟩)
      · exact .inr q
theorem sc_Walk_do : FnScope ["self", "step"] ["self", "step"] (defScope (inClass (topS 33) 1)) := ⟨rfl, rfl, rfl, by decide +kernel, rfl, by decide +kernel, by decide +kernel⟩
def spDo (K : PySem.W.Frag) (C : Addr) : Sp := fun vs H Q _ => ∃ (a : WA) (W W2 : Wk) (s : Stp) (sv : V), vs = [.ref a.x, sv] ∧ WAt K C H a W ∧ SV K H s sv ∧ Does W s W2 ∧ ∀ H', Kept a H H' → WAt K C H' a W2 → Q .non H'
theorem ok_do (T : Top K mg) (D0 : Counts K w mg) (U : WTop K mg C) : C8.Met P w K mg base 65 C "do" (spDo K C) [] := by
  have c_back_step : C8.Cal P w K mg base 2 "back_step" (spBack K) [] := ok_back T
  have c_apply_step : C8.Cal P w K mg base 64 "apply_step" (spApply K) [] := ok_apply T D0
  refine met_of U.cls U.d_do sc_Walk_do (fun _ _ _ _ _ _ us hl => match us, hl with | [_, _], _ => rfl) (fun vs H Q E h => ?_) fun f cdv A outer sh H vs Q E hr h => ?_
  · obtain ⟨a, W, W2, s, sv, rfl, _⟩ := h; rfl
  · obtain ⟨a, W, W2, s, sv, rfl, hw, hs, hd, k⟩ := h
    refine ⟨_, (pss_cons (ps_expr (pe_bm PySem.F.plainAttrs_list PySem.F.slot_list_append PySem.F.type_list_append mt_append (pe_fld (pv 0) rfl) (pa_cons (C8.pe_c c_back_step hr (by omega) rfl (pa_cons (pe_fld (pv 0) rfl) (pa_cons (pv 1) pa_nil))) pa_nil)))
      (pss_cons (ps_expr (pe_bm PySem.F.plainAttrs_list PySem.F.slot_list_append PySem.F.type_list_append mt_append (pe_fld (pv 0) rfl) (pa_cons (pv 1) pa_nil)))
      (pss_one (ps_fld (pv 0) (C8.pe_c c_apply_step hr (by omega) rfl (pa_cons (pe_fld (pv 0) rfl) (pa_cons (pv 1) pa_nil))) rfl)))), ?_⟩
    obtain ⟨hv, xs, ys, e1, e2, e3, hT, hS, hB⟩ := hw.ex
    obtain ⟨nls, nlb⟩ := hw.xls
    cases hd with
    | @mk u u' t2 hp hc hg hl1 hl2 =>
      have hll : ys.length < sizeLine := Nat.lt_of_le_of_lt (by rw [hB.len]; exact hl2) (Nat.lt_of_lt_of_le (by omega) size5')
      have hll2 : xs.length < sizeLine := Nat.lt_of_le_of_lt (by rw [hS.len]; exact hl1) (Nat.lt_of_lt_of_le (by omega) size5')
      refine ⟨_, rfl, a.x, C, a.dx, _, _, rfl, e1, U.cls, U.na_backs, rfl, .inl ⟨rfl, ys, SqL.of e3⟩, _, rfl, a.x, C, a.dx, _, _, rfl, e1, U.cls, U.na_here, rfl, _, rfl, ?_⟩
      refine ⟨W.here, u, u', hv, sv, s, rfl, hT, hs, hp, hc, fun v' H1 s1 hv' => ?_⟩
      refine ⟨a.lb, ys, v', rfl, rfl, s1 _ _ e3, hll, ?_⟩
      have q2 : Kept a H (upd H1 a.lb (.lst (ys ++ [v']))) := fun b n1 n2 n3 o e => by rw [upd_ne n3]; exact s1 _ _ e
      have x2 : upd H1 a.lb (.lst (ys ++ [v'])) a.x = some (.ins C a.dx [("here", hv), ("steps", .ref a.ls), ("backs", .ref a.lb)]) := by rw [upd_ne nlb]; exact s1 _ _ e1
      have l2 : upd H1 a.lb (.lst (ys ++ [v'])) a.ls = some (.lst xs) := by rw [upd_ne hw.ne]; exact s1 _ _ e2
      refine ⟨_, rfl, a.x, C, a.dx, _, _, rfl, x2, U.cls, U.na_steps, rfl, .inl ⟨rfl, xs, SqL.of l2⟩, _, rfl, a.ls, xs, sv, rfl, rfl, l2, hll2, ?_⟩
      have q3 : Kept a H (upd (upd H1 a.lb (.lst (ys ++ [v']))) a.ls (.lst (xs ++ [sv]))) := fun b n1 n2 n3 o e => by rw [upd_ne n2]; exact q2 b n1 n2 n3 o e
      have x3 : upd (upd H1 a.lb (.lst (ys ++ [v']))) a.ls (.lst (xs ++ [sv])) a.x = some (.ins C a.dx [("here", hv), ("steps", .ref a.ls), ("backs", .ref a.lb)]) := by rw [upd_ne nls]; exact x2
      refine ⟨_, rfl, a.x, C, a.dx, _, _, rfl, x3, U.cls, U.na_here, rfl, _, rfl, ?_⟩
      have t3 := q3.tle hw
      refine ⟨W.here, t2, hv, sv, s, rfl, hT.le t3, D.le t3 _ _ hs, hg, fun v2 H4 s4 hv2 => ?_⟩
      refine ⟨_, rfl, a.x, C, a.dx, _, rfl, s4 _ _ x3, U.cls, U.na_here, by show 3 < 1000; omega, ?_⟩
      have t4 : TLe K H4 (upd H4 a.x (.ins C a.dx (putF "here" v2 [("here", hv), ("steps", .ref a.ls), ("backs", .ref a.lb)]))) := fun b us e => by
        rcases e with (q | ⟨o, q⟩) | q
        · exact .inl (.inl (by rw [upd_ne (fun z => by rw [z, s4 _ _ x3] at q; cases q)]; exact q))
        · exact .inl (.inr ⟨o, by rw [upd_ne (fun z => by rw [z, s4 _ _ x3] at q; cases q)]; exact q⟩)
        · exact .inr q
      have t14 : TLe K H1 (upd H4 a.x (.ins C a.dx (putF "here" v2 [("here", hv), ("steps", .ref a.ls), ("backs", .ref a.lb)]))) := by
        refine TLe.trans ?_ ((Same.tle s4).trans t4)
        intro b us e
        have hb : ∀ u, H1 b = some u → (∀ xs, u ≠ .lst xs) → upd (upd H1 a.lb (.lst (ys ++ [v']))) a.ls (.lst (xs ++ [sv])) b = some u := fun u q n => by
          rw [upd_ne (fun z => by rw [z, s1 _ _ e2] at q; cases q; exact n _ rfl), upd_ne (fun z => by rw [z, s1 _ _ e3] at q; cases q; exact n _ rfl)]; exact q
        rcases e with (q | ⟨o, q⟩) | q
        · exact .inl (.inl (hb _ q fun _ z => by cases z))
        · exact .inl (.inr ⟨o, hb _ q fun _ z => by cases z⟩)
        · exact .inr q
      have tT := (t3.trans (Same.tle s4)).trans t4
      refine k _ (fun b n1 n2 n3 o e => by rw [upd_ne n1]; exact s4 _ _ (q3 b n1 n2 n3 o e)) ⟨⟨v2, xs ++ [sv], ys ++ [v'], by rw [upd_same]; rfl, ?_, ?_, hv2.le t4, SVs.snoc (Ds.le tT _ _ hS) (D.le tT _ _ hs), SVs.snoc (Ds.le tT _ _ hB) (D.le t14 _ _ hv')⟩, hw.ne⟩
      · rw [upd_ne (Ne.symm nls)]; exact s4 _ _ upd_same
      · rw [upd_ne (Ne.symm nlb)]; exact s4 _ _ (by rw [upd_ne (Ne.symm hw.ne)]; exact upd_same)
end
end Td
end

section
set_option maxHeartbeats 1000000
/-! TdWk2: make_prime, spread_like, raise_prime, make_like. -/
namespace Td
open PySem PySem.Spec PyProof.Rows L2
theorem catA_path {K : PySem.W.Frag} {H : Hp} {p : List Nat} {n : Nat} {v : V} {b : Addr} {Q : VK} (hp : PV K H p v) (hb : SqT K H b [.int (n : Nat)]) (hl : p.length ≤ 100000) (k : ∀ v' H', Same H H' → PV K H' (p ++ [n]) v' → Q v' H') : rCatA K v (.ref b) H Q := by
  obtain ⟨a, rfl, hs⟩ := pv_inv hp
  refine ⟨a, b, _, _, rfl, rfl, hs, hb, by rw [List.length_map]; exact Nat.le_trans (by show p.length + 1 ≤ 100001; omega) size5', fun e => ?_, (fun _ e => by cases e), fun _ _ q hq => ?_⟩
  · have : p = [] := by simpa using e
    subst this
    exact k _ _ (.refl H) (pv_of hb)
  · refine k _ _ (Same.upd hq) (pv_of (SqT.of ?_))
    rw [upd_same, List.map_append]; rfl
section
variable {P : Program} {w : World} {K : PySem.W.Frag} {mg : Str → Option Value} {base : Heap} {C : Addr}
theorem sc_Walk_make_prime : FnScope ["self", "path", "node", "factor", "number"] ["self", "path"] (defScope (inClass (topS 33) 2)) := ⟨rfl, rfl, rfl, by decide +kernel, rfl, by decide +kernel, by decide +kernel⟩
def spMP (K : PySem.W.Frag) (C : Addr) (n : Nat) : Sp := fun vs H Q _ => ∃ (a : WA) (W W2 : Wk) (p : List Nat) (qv : V), vs = [.ref a.x, qv] ∧ WAt K C H a W ∧ PV K H p qv ∧ p.length + n ≤ 1000 ∧ MP n W p W2 ∧ ∀ H', Kept a H H' → WAt K C H' a W2 → Q .non H'
theorem ok_mp (T : Top K mg) (D0 : Counts K w mg) (U : WTop K mg C) : ∀ n, C8.Met P w K mg base (n + 66) C "make_prime" (spMP K C n) []
  | 0 => by
    refine met_of U.cls U.d_mp sc_Walk_make_prime (fun _ _ _ _ _ _ us hl => match us, hl with | [_, _], _ => rfl) (fun vs H Q E h => ?_) fun f cdv A outer sh H vs Q E hr h => ?_
    · obtain ⟨a, W, W2, p, qv, rfl, _⟩ := h; rfl
    · obtain ⟨a, W, W2, p, qv, rfl, _, _, _, hm, _⟩ := h; exact hm.elim
  | n + 1 => by
    have c_part_at : C8.Cal P w K mg base 1 "part_at" (spPart K) [] := ok_part T
    have c_least_factor : C8.Cal P w K mg base 1 "least_factor" spLeast [] := ok_least T
    have m_do : C8.Met P w K mg base 65 C "do" (spDo K C) [] := ok_do T D0 U
    have m_make_prime : C8.Met P w K mg base (n + 66) C "make_prime" (spMP K C n) [] := ok_mp T D0 U n
    refine met_of U.cls U.d_mp sc_Walk_make_prime (fun _ _ _ _ _ _ us hl => match us, hl with | [_, _], _ => rfl) (fun vs H Q E h => ?_) fun f cdv A outer sh H vs Q E hr h => ?_
    · obtain ⟨a, W, W2, p, qv, rfl, _⟩ := h; rfl
    · obtain ⟨a, W, W2, p, qv, rfl, hw, hp, hpl, hm, k⟩ := h
      refine ⟨_, (pss_cons (ps_set (i := 2) sc_Walk_make_prime.nd rfl (by first | exact Or.inl rfl | exact Or.inr rfl) (C8.pe_c c_part_at hr (by omega) rfl (pa_cons (pe_fld (pv 0) rfl) (pa_cons (pv 1) pa_nil))))
      (pss_cons (ps_if (pt_val (pe_callB call_isi (by rfl) T.n_isinstance (by decide +kernel) (pa_cons (pv 2) (pa_cons (pe_bltn (v := .ty "str") (u := .type "str") (by rfl) T.n_str (by decide +kernel) rfl) pa_nil)))) (pss_one ps_retN) pss_nil)
      (pss_cons (ps_set (i := 3) sc_Walk_make_prime.nd rfl (by first | exact Or.inl rfl | exact Or.inr rfl) (C8.pe_c c_least_factor hr (by omega) rfl (pa_cons (pe_callB call_len_seq (by rfl) T.n_len (by decide +kernel) (pa_cons (pv 2) pa_nil)) pa_nil)))
      (C8.pss_cut (ps_if (pt_cmpR op_lt (pv 3) (pe_callB call_len_seq (by rfl) T.n_len (by decide +kernel) (pa_cons (pv 2) pa_nil)) (nomark _)) (pss_one (ps_expr (C8.pe_mt m_do hr (by omega) (pv 0) (pa_cons (pe_tup (pa_cons pe_str (pa_cons (pv 1) (pa_cons (pv 3) pa_nil)))) pa_nil)))) pss_nil)
      (pss_one (ps_for PassesOwn.never rfl (pi_range1 (by rfl) T.n_range (pa_cons (pe_callB call_len_seq (by rfl) T.n_len (by decide +kernel) (pa_cons (C8.pe_c c_part_at hr (by omega) rfl (pa_cons (pe_fld (pv 0) rfl) (pa_cons (pv 1) pa_nil))) pa_nil)) pa_nil)) (pg_name (i := 4) sc_Walk_make_prime.nd rfl (by first | exact Or.inl rfl | exact Or.inr rfl)) (pss_one (ps_expr (C8.pe_mt m_make_prime hr (by omega) (pv 0) (pa_cons (pe_op op_catA (pv 1) (pe_tup (pa_cons (pv 4) pa_nil))) pa_nil)))))))))), ?_⟩
      obtain ⟨hv, xs, ys, e1, e2, e3, hT, hS, hB⟩ := hw.ex
      rcases hm with ⟨o, hpart, he⟩ | ⟨ts, us, q, W1, hpart, hq, hq4, hd, hp1, hL⟩
      · refine ⟨_, rfl, a.x, C, a.dx, _, _, rfl, e1, U.cls, U.na_here, rfl, _, rfl, W.here, _, hv, qv, p, rfl, hT, hp, hpart, fun v' hv' => ?_⟩
        refine ⟨_, rfl, _, _, _, _, true, rfl, .ty "str", hv'.tyStr, kit_ty (by decide +kernel), _, rfl, iteT ?_⟩
        exact k _ (.refl a H) (he ▸ hw)
      · refine ⟨_, rfl, a.x, C, a.dx, _, _, rfl, e1, U.cls, U.na_here, rfl, _, rfl, W.here, _, hv, qv, p, rfl, hT, hp, hpart, fun v' hv' => ?_⟩
        refine ⟨_, rfl, _, _, _, _, false, rfl, .ty "str", hv'.tyTup, kit_ty (by decide +kernel), _, rfl, iteF ?_⟩
        obtain ⟨b, zs, rfl, hsb, hlen, hbig, h2, _⟩ := hv'.node
        refine ⟨_, rfl, b, zs, rfl, .inr hsb, ts.length, q, by rw [hlen]; rfl, hq, hq4, ?_⟩
        refine ⟨fun σ' H' => Kept a H H' ∧ WAt K C H' a W1 ∧ ∃ x y z, σ' = [some (.ref a.x), some qv, x, y, z], ?_, ?_⟩
        · refine ⟨_, rfl, _, rfl, b, zs, rfl, .inr hsb, _, _, rfl, rfl, ?_⟩
          rw [hlen]
          rcases hd with ⟨hlt, hdo⟩ | ⟨hlt, rfl⟩
          · refine ⟨_, rfl, ite2 (fun h1 => ?_) fun h1 => absurd (by simpa using hlt) h1⟩
            refine ⟨_, rfl, a.x, a.dx, _, rfl, e1, rfl, _, rfl, _, rfl, by show 3 ≤ sizeLine; rw [sizeLine_eq]; decide, fun l hl => ?_⟩
            have s1 := Same.upd (o := .tup [.str "unflatten", qv, .int (q : Nat)]) hl
            refine ⟨a, W, W1, ⟨.unflat q, p⟩, _, rfl, hw.same s1, sv_of (s := ⟨.unflat q, p⟩) (SqT.of upd_same) (D.le (Same.tle s1) _ _ hp), hdo, fun H2 k2 w2 => ?_⟩
            exact ⟨(Same.kept s1).trans k2, w2, _, _, _, rfl⟩
          · refine ⟨_, rfl, ite2 (fun h1 => absurd (by simpa using h1) hlt) fun h1 => ?_⟩
            exact ⟨.refl a H, hw, _, _, _, rfl⟩
        · rintro σ' H1 ⟨k1, w1, x, y, z, rfl⟩
          obtain ⟨hv1, xs1, ys1, f1, f2, f3, hT1, hS1, hB1⟩ := w1.ex
          have hp' := D.le (k1.tle hw) _ _ hp
          refine ⟨_, rfl, a.x, C, a.dx, _, _, rfl, f1, U.cls, U.na_here, rfl, _, rfl, W1.here, _, hv1, qv, p, rfl, hT1, hp', hp1, fun v2 hv2 => ?_⟩
          obtain ⟨b2, zs2, rfl, hsb2, hlen2, hbig2, _⟩ := hv2.node
          refine ⟨b2, zs2, rfl, .inr hsb2, _, rfl, ?_⟩
          have hus : us.length ≤ 100000 := by rw [← hlen2]; omega
          rw [hlen2]
          refine ⟨by omega, by omega, ?_⟩
          rw [Int.toNat_natCast]
          refine for_range (lo := 0) (fun i σ H' => i ≤ us.length ∧ Kept a H H' ∧ ∃ (A : Wk) (y z : Option V), WAt K C H' a A ∧ Loop (fun i A B => MP n A (p ++ [i]) B) i us.length A W2 ∧ σ = [some (.ref a.x), some qv, x, y, z]) ⟨Nat.zero_le _, k1, W1, y, z, w1, hL, rfl⟩ ?_ ?_
          · rintro i σ H2 hi ⟨_, k2, A, y, z, w2, hLi, rfl⟩
            have hp2 := D.le (k2.tle hw) _ _ hp
            rw [Int.zero_add]
            obtain ⟨hv3, xs3, ys3, g1, g2, g3, hT3, hS3, hB3⟩ := w2.ex
            refine ⟨_, rfl, a.x, a.dx, _, rfl, g1, rfl, _, rfl, _, rfl, by show 1 ≤ sizeLine; rw [sizeLine_eq]; decide, fun l hl => ?_⟩
            have s3 := Same.upd (o := .tup [.int (i : Nat)]) hl
            refine catA_path (D.le (Same.tle s3) _ _ hp2) (SqT.of upd_same) (by omega) fun v4 H4 s4 hv4 => ?_
            generalize hm : us.length = m at hLi hi ⊢
            cases hLi with
            | nil => omega
            | @cons _ _ _ A1 _ h1 h2 h3 =>
              refine ⟨a, A, A1, p ++ [i], v4, rfl, w2.same (s3.trans s4), hv4, by rw [List.length_append]; simp; omega, h2, fun H5 k5 w5 => ?_⟩
              exact ⟨by omega, k2.trans ((Same.kept (s3.trans s4)).trans k5), A1, _, _, w5, h3, rfl⟩
          · rintro σ H2 ⟨_, k2, A, y, z, w2, hLi, rfl⟩
            have e : W2 = A := by
              generalize hm : us.length = m at hLi
              cases hLi with
              | nil => rfl
              | cons h => omega
            subst e
            exact k _ k2 w2
theorem sc_spread_like : FnScope ["walk", "path", "shape", "number", "outlet"] ["walk", "path", "shape"] (defScope (topS 37)) := ⟨rfl, rfl, rfl, by decide +kernel, rfl, by decide +kernel, by decide +kernel⟩
def spSL (K : PySem.W.Frag) (C : Addr) (n : Nat) : Sp := fun vs H Q _ => ∃ (a : WA) (W W2 : Wk) (p : List Nat) (t : Td.T) (qv sv : V), vs = [.ref a.x, qv, sv] ∧ WAt K C H a W ∧ PV K H p qv ∧ TVn K H t sv ∧ p.length + n ≤ 1000 ∧ SL n W p t W2 ∧ ∀ H', Kept a H H' → WAt K C H' a W2 → Q .non H'
theorem ok_sl (T : Top K mg) (D0 : Counts K w mg) (U : WTop K mg C) : ∀ n, C8.Cal P w K mg base (n + 66) "spread_like" (spSL K C n) []
  | 0 => by
    refine cal_of T.d_spread_like sc_spread_like (fun _ _ _ _ _ _ us hl => match us, hl with | [_, _, _], _ => rfl) (fun vs H Q E h => ?_) fun f cdv A outer sh H vs Q E hr h => ?_
    · obtain ⟨a, W, W2, p, t, qv, sv, rfl, _⟩ := h; rfl
    · obtain ⟨a, W, W2, p, t, qv, sv, rfl, _, _, _, _, hm, _⟩ := h; exact hm.elim
  | n + 1 => by
    have m_do : C8.Met P w K mg base 65 C "do" (spDo K C) [] := ok_do T D0 U
    have c_spread_like : C8.Cal P w K mg base (n + 66) "spread_like" (spSL K C n) [] := ok_sl T D0 U n
    refine cal_of T.d_spread_like sc_spread_like (fun _ _ _ _ _ _ us hl => match us, hl with | [_, _, _], _ => rfl) (fun vs H Q E h => ?_) fun f cdv A outer sh H vs Q E hr h => ?_
    · obtain ⟨a, W, W2, p, t, qv, sv, rfl, _⟩ := h; rfl
    · obtain ⟨a, W, W2, p, t, qv, sv, rfl, hw, hp, hv, hpl, hm, k⟩ := h
      refine ⟨_, (pss_one (ps_if (pt_not (pt_val (pe_callB call_isi (by rfl) T.n_isinstance (by decide +kernel) (pa_cons (pv 2) (pa_cons (pe_bltn (v := .ty "str") (u := .type "str") (by rfl) T.n_str (by decide +kernel) rfl) pa_nil))))) (pss_cons (ps_expr (C8.pe_mt m_do hr (by omega) (pv 0) (pa_cons (pe_tup (pa_cons pe_str (pa_cons (pv 1) (pa_cons (pe_callB call_len_seq (by rfl) T.n_len (by decide +kernel) (pa_cons (pv 2) pa_nil)) pa_nil)))) pa_nil)))
      (pss_one (ps_for PassesOwn.never rfl (pi_enumT (by rfl) T.n_enumerate (pa_cons (pv 2) pa_nil)) (pg_tup (by rfl) (pgs_cons (pg_name (i := 3) sc_spread_like.nd rfl (by first | exact Or.inl rfl | exact Or.inr rfl)) (pgs_cons (pg_name (i := 4) sc_spread_like.nd rfl (by first | exact Or.inl rfl | exact Or.inr rfl)) pgs_nil))) (pss_one (ps_expr (C8.pe_c c_spread_like hr (by omega) rfl (pa_cons (pv 0) (pa_cons (pe_op op_catA (pv 1) (pe_tup (pa_cons (pv 3) pa_nil))) (pa_cons (pv 4) pa_nil))))))))) pss_nil)), ?_⟩
      cases t with
      | leaf o =>
        refine ⟨_, rfl, _, _, _, _, true, rfl, .ty "str", hv.tyStr, kit_ty (by decide +kernel), _, rfl, iteF ?_⟩
        have hm : W2 = W := hm
        exact k _ (.refl a H) (hm ▸ hw)
      | node ts =>
        refine ⟨_, rfl, _, _, _, _, false, rfl, .ty "str", hv.tyTup, kit_ty (by decide +kernel), _, rfl, iteT ?_⟩
        obtain ⟨b, zs, rfl, hsb, hlen, hbig, h2, hx, ht⟩ := hv.node
        obtain ⟨hv0, xs, ys, e1, e2, e3, hT, hS, hB⟩ := hw.ex
        obtain ⟨W1, hdo, hL⟩ := hm
        refine ⟨_, rfl, a.x, a.dx, _, rfl, e1, rfl, _, rfl, _, rfl, b, zs, rfl, .inr hsb, by show 3 ≤ sizeLine; rw [sizeLine_eq]; decide, fun l hl => ?_⟩
        rw [hlen]
        have s1 := Same.upd (o := .tup [.str "spread", qv, .int (ts.length : Nat)]) hl
        refine ⟨a, W, W1, ⟨.spr ts.length, p⟩, _, rfl, hw.same s1, sv_of (s := ⟨.spr ts.length, p⟩) (SqT.of upd_same) (D.le (Same.tle s1) _ _ hp), hdo, fun H2 k2 w2 => ?_⟩
        have k12 : Kept a H H2 := (Same.kept s1).trans k2
        refine ⟨_, rfl, b, zs, rfl, (k12.tle hw) _ _ hsb, for_it walk_enumT (fun i σ H' => i ≤ ts.length ∧ Kept a H H' ∧ ∃ (A : Wk) (y z : Option V), WAt K C H' a A ∧ Loop (fun i A B => ∃ t, ts[i]? = some t ∧ SL n A (p ++ [i]) t B) i ts.length A W2 ∧ σ = [some (.ref a.x), some qv, some (.ref b), y, z]) ⟨Nat.zero_le _, k12, W1, _, _, w2, hL, rfl⟩ (fun i σ H' _ q => (q.2.1.tle hw) _ _ hsb) ?_ ?_⟩
        · rintro i x σ H3 H4 hi ⟨_, k3, A, y, z, w3, hLi, rfl⟩ ⟨T0, a0, b0, rfl, q1, rfl, q3, q4⟩
          cases q3
          have s4 : Same H3 (upd H3 T0 (.tup [.int (i : Nat), b0])) := Same.upd q1
          obtain ⟨t, ht1, ht2⟩ := hx i b0 q4
          refine ⟨T0, _, rfl, SqT.of upd_same, rfl, _, _, rfl, _, _, rfl, rfl, ?_⟩
          refine ⟨_, rfl, _, rfl, _, rfl, by show 1 ≤ sizeLine; rw [sizeLine_eq]; decide, fun l2 hl2 => ?_⟩
          have s5 := Same.upd (o := .tup [.int (i : Nat)]) hl2
          have le5 : TLe K H _ := (k3.tle hw).trans (Same.tle (s4.trans s5))
          refine catA_path (D.le le5 _ _ hp) (SqT.of upd_same) (by omega) fun v6 H6 s6 hv6 => ⟨_, rfl, ?_⟩
          rw [hlen] at hi
          generalize hmm : ts.length = m at hLi hi ⊢
          cases hLi with
          | nil => omega
          | @cons _ _ _ A1 _ h1 h2 h3 =>
            obtain ⟨t', ht', hsl⟩ := h2
            rw [ht1] at ht'
            cases ht'
            refine ⟨a, A, A1, p ++ [i], t, v6, b0, rfl, w3.same (s4.trans (s5.trans s6)), hv6, ht2.le (le5.trans (Same.tle s6)), by rw [List.length_append]; simp; omega, hsl, fun H7 k7 w7 => ?_⟩
            exact ⟨by omega, k3.trans ((Same.kept (s4.trans (s5.trans s6))).trans k7), A1, _, _, w7, h3, rfl⟩
        · rintro σ H3 ⟨_, k3, A, y, z, w3, hLi, rfl⟩
          rw [hlen] at hLi
          have e : W2 = A := by
            generalize hm : ts.length = m at hLi
            cases hLi with
            | nil => rfl
            | cons h => omega
          subst e
          exact k _ k3 w3
theorem sc_raise_prime : FnScope ["walk", "path", "size", "width", "number"] ["walk", "path", "size"] (defScope (topS 39)) := ⟨rfl, rfl, rfl, by decide +kernel, rfl, by decide +kernel, by decide +kernel⟩
def spRP (K : PySem.W.Frag) (C : Addr) (n : Nat) : Sp := fun vs H Q _ => ∃ (a : WA) (W W2 : Wk) (p : List Nat) (q : Nat) (qv : V), vs = [.ref a.x, qv, .int (q : Nat)] ∧ WAt K C H a W ∧ PV K H p qv ∧ p.length + n ≤ 1000 ∧ RP n W p q W2 ∧ ∀ H', Kept a H H' → WAt K C H' a W2 → Q .non H'
theorem ok_rp (T : Top K mg) (D0 : Counts K w mg) (U : WTop K mg C) : ∀ n, C8.Cal P w K mg base (n + 66) "raise_prime" (spRP K C n) []
  | 0 => by
    refine cal_of T.d_raise_prime sc_raise_prime (fun _ _ _ _ _ _ us hl => match us, hl with | [_, _, _], _ => rfl) (fun vs H Q E h => ?_) fun f cdv A outer sh H vs Q E hr h => ?_
    · obtain ⟨a, W, W2, p, t, qv, rfl, _⟩ := h; rfl
    · obtain ⟨a, W, W2, p, t, qv, rfl, _, _, _, hm, _⟩ := h; exact hm.elim
  | n + 1 => by
    have c_part_at : C8.Cal P w K mg base 1 "part_at" (spPart K) [] := ok_part T
    have m_do : C8.Met P w K mg base 65 C "do" (spDo K C) [] := ok_do T D0 U
    have c_raise_prime : C8.Cal P w K mg base (n + 66) "raise_prime" (spRP K C n) [] := ok_rp T D0 U n
    refine cal_of T.d_raise_prime sc_raise_prime (fun _ _ _ _ _ _ us hl => match us, hl with | [_, _, _], _ => rfl) (fun vs H Q E h => ?_) fun f cdv A outer sh H vs Q E hr h => ?_
    · obtain ⟨a, W, W2, p, t, qv, rfl, _⟩ := h; rfl
    · obtain ⟨a, W, W2, p, q, qv, rfl, hw, hp, hpl, hm, k⟩ := h
      refine ⟨_, (pss_cons (ps_set (i := 3) sc_raise_prime.nd rfl (by first | exact Or.inl rfl | exact Or.inr rfl) (pe_callB call_len_seq (by rfl) T.n_len (by decide +kernel) (pa_cons (C8.pe_c c_part_at hr (by omega) rfl (pa_cons (pe_fld (pv 0) rfl) (pa_cons (pv 1) pa_nil))) pa_nil)))
      (pss_one (ps_if (pt_cmpR op_ne (pv 3) (pv 2) (nomark _)) (pss_cons (ps_for PassesOwn.never rfl (pi_range1 (by rfl) T.n_range (pa_cons (pv 3) pa_nil)) (pg_name (i := 4) sc_raise_prime.nd rfl (by first | exact Or.inl rfl | exact Or.inr rfl)) (pss_one (ps_expr (C8.pe_c c_raise_prime hr (by omega) rfl (pa_cons (pv 0) (pa_cons (pe_op op_catA (pv 1) (pe_tup (pa_cons (pv 4) pa_nil))) (pa_cons (pv 2) pa_nil)))))))
      (pss_cons (ps_expr (C8.pe_mt m_do hr (by omega) (pv 0) (pa_cons (pe_tup (pa_cons pe_str (pa_cons (pv 1) pa_nil))) pa_nil)))
      (pss_one (ps_expr (C8.pe_mt m_do hr (by omega) (pv 0) (pa_cons (pe_tup (pa_cons pe_str (pa_cons (pv 1) (pa_cons (pv 2) pa_nil)))) pa_nil)))))) pss_nil))), ?_⟩
      obtain ⟨hv, xs, ys, e1, e2, e3, hT, hS, hB⟩ := hw.ex
      obtain ⟨ts, hpart, hm⟩ := hm
      refine ⟨_, rfl, a.x, C, a.dx, _, _, rfl, e1, U.cls, U.na_here, rfl, _, rfl, W.here, _, hv, qv, p, rfl, hT, hp, hpart, fun v' hv' => ?_⟩
      obtain ⟨b, zs, rfl, hsb, hlen, hbig, h2, _⟩ := hv'.node
      refine ⟨b, zs, rfl, .inr hsb, ?_⟩
      rw [hlen]
      refine ⟨_, rfl, _, rfl, rfl, _, rfl, ?_⟩
      rcases hm with ⟨hq, he⟩ | ⟨hq, W1, W3, hL, hd1, hd2⟩
      · refine iteNS (by rw [hq]) ?_
        exact k _ (.refl a H) (he ▸ hw)
      · refine ite2 (fun h1 => ?_) fun h1 => absurd (by rw [dec_int]; simp; omega) h1
        refine ⟨_, rfl, _, rfl, ?_⟩
        refine ⟨by omega, by omega, ?_⟩
        rw [Int.toNat_natCast]
        refine for_range (lo := 0) (fun i σ H' => i ≤ ts.length ∧ Kept a H H' ∧ ∃ (A : Wk) (y z : Option V), WAt K C H' a A ∧ Loop (fun i A B => RP n A (p ++ [i]) q B) i ts.length A W1 ∧ σ = [some (.ref a.x), some qv, some (.int (q : Nat)), y, z]) ⟨Nat.zero_le _, .refl a H, W, _, _, hw, hL, rfl⟩ ?_ ?_
        · rintro i σ H2 hi ⟨_, k2, A, y, z, w2, hLi, rfl⟩
          have hp2 := D.le (k2.tle hw) _ _ hp
          rw [Int.zero_add]
          refine ⟨_, rfl, _, rfl, _, rfl, by show 1 ≤ sizeLine; rw [sizeLine_eq]; decide, fun l hl => ?_⟩
          have s3 := Same.upd (o := .tup [.int (i : Nat)]) hl
          refine catA_path (D.le (Same.tle s3) _ _ hp2) (SqT.of upd_same) (by omega) fun v4 H4 s4 hv4 => ⟨_, rfl, ?_⟩
          generalize hm : ts.length = m at hLi hi ⊢
          cases hLi with
          | nil => omega
          | @cons _ _ _ A1 _ h1 h2 h3 =>
            refine ⟨a, A, A1, p ++ [i], q, v4, rfl, w2.same (s3.trans s4), hv4, by rw [List.length_append]; simp; omega, h2, fun H5 k5 w5 => ?_⟩
            exact ⟨by omega, k2.trans ((Same.kept (s3.trans s4)).trans k5), A1, _, _, w5, h3, rfl⟩
        · rintro σ H2 ⟨_, k2, A, y, z, w2, hLi, rfl⟩
          have e : W1 = A := by
            generalize hm : ts.length = m at hLi
            cases hLi with
            | nil => rfl
            | cons h => omega
          subst e
          obtain ⟨hv3, xs3, ys3, g1, g2, g3, hT3, hS3, hB3⟩ := w2.ex
          refine ⟨_, rfl, a.x, a.dx, _, rfl, g1, rfl, _, rfl, by show 2 ≤ sizeLine; rw [sizeLine_eq]; decide, fun l hl => ?_⟩
          have s1 := Same.upd (o := .tup [.str "flatten", qv]) hl
          have hp2 := D.le (k2.tle hw) _ _ hp
          refine ⟨a, W1, W3, ⟨.flat, p⟩, _, rfl, w2.same s1, sv_of (s := ⟨.flat, p⟩) (SqT.of upd_same) (D.le (Same.tle s1) _ _ hp2), hd1, fun H3 k3 w3 => ?_⟩
          obtain ⟨hv4, xs4, ys4, f1, f2, f3, hT4, hS4, hB4⟩ := w3.ex
          refine ⟨_, rfl, a.x, a.dx, _, rfl, f1, rfl, _, rfl, _, rfl, by show 3 ≤ sizeLine; rw [sizeLine_eq]; decide, fun l2 hl2 => ?_⟩
          have s2 := Same.upd (o := .tup [.str "unflatten", qv, .int (q : Nat)]) hl2
          have k23 : Kept a H H3 := k2.trans ((Same.kept s1).trans k3)
          refine ⟨a, W3, W2, ⟨.unflat q, p⟩, _, rfl, w3.same s2, sv_of (s := ⟨.unflat q, p⟩) (SqT.of upd_same) (D.le (Same.tle s2) _ _ (D.le (k23.tle hw) _ _ hp)), hd2, fun H5 k5 w5 => ?_⟩
          exact k _ (k23.trans ((Same.kept s2).trans k5)) w5
theorem sc_make_like : FnScope ["walk", "path", "shape", "number", "outlet"] ["walk", "path", "shape"] (defScope (topS 40)) := ⟨rfl, rfl, rfl, by decide +kernel, rfl, by decide +kernel, by decide +kernel⟩
def spML (K : PySem.W.Frag) (C : Addr) (n : Nat) : Sp := fun vs H Q _ => ∃ (a : WA) (W W2 : Wk) (p : List Nat) (t : Td.T) (qv sv : V), vs = [.ref a.x, qv, sv] ∧ WAt K C H a W ∧ PV K H p qv ∧ TVn K H t sv ∧ p.length + n ≤ 900 ∧ ML n W p t W2 ∧ ∀ H', Kept a H H' → WAt K C H' a W2 → Q .non H'
theorem ok_ml (T : Top K mg) (D0 : Counts K w mg) (U : WTop K mg C) : ∀ n, C8.Cal P w K mg base (n + 127) "make_like" (spML K C n) []
  | 0 => by
    refine cal_of T.d_make_like sc_make_like (fun _ _ _ _ _ _ us hl => match us, hl with | [_, _, _], _ => rfl) (fun vs H Q E h => ?_) fun f cdv A outer sh H vs Q E hr h => ?_
    · obtain ⟨a, W, W2, p, t, qv, sv, rfl, _⟩ := h; rfl
    · obtain ⟨a, W, W2, p, t, qv, sv, rfl, _, _, _, _, hm, _⟩ := h; exact hm.elim
  | n + 1 => by
    have c_raise_prime : C8.Cal P w K mg base 126 "raise_prime" (spRP K C 60) [] := ok_rp T D0 U 60
    have c_make_like : C8.Cal P w K mg base (n + 127) "make_like" (spML K C n) [] := ok_ml T D0 U n
    refine cal_of T.d_make_like sc_make_like (fun _ _ _ _ _ _ us hl => match us, hl with | [_, _, _], _ => rfl) (fun vs H Q E h => ?_) fun f cdv A outer sh H vs Q E hr h => ?_
    · obtain ⟨a, W, W2, p, t, qv, sv, rfl, _⟩ := h; rfl
    · obtain ⟨a, W, W2, p, t, qv, sv, rfl, hw, hp, hv, hpl, hm, k⟩ := h
      refine ⟨_, (pss_one (ps_if (pt_not (pt_val (pe_callB call_isi (by rfl) T.n_isinstance (by decide +kernel) (pa_cons (pv 2) (pa_cons (pe_bltn (v := .ty "str") (u := .type "str") (by rfl) T.n_str (by decide +kernel) rfl) pa_nil))))) (pss_cons (ps_expr (C8.pe_c c_raise_prime hr (by omega) rfl (pa_cons (pv 0) (pa_cons (pv 1) (pa_cons (pe_callB call_len_seq (by rfl) T.n_len (by decide +kernel) (pa_cons (pv 2) pa_nil)) pa_nil)))))
      (pss_one (ps_for PassesOwn.never rfl (pi_enumT (by rfl) T.n_enumerate (pa_cons (pv 2) pa_nil)) (pg_tup (by rfl) (pgs_cons (pg_name (i := 3) sc_make_like.nd rfl (by first | exact Or.inl rfl | exact Or.inr rfl)) (pgs_cons (pg_name (i := 4) sc_make_like.nd rfl (by first | exact Or.inl rfl | exact Or.inr rfl)) pgs_nil))) (pss_one (ps_expr (C8.pe_c c_make_like hr (by omega) rfl (pa_cons (pv 0) (pa_cons (pe_op op_catA (pv 1) (pe_tup (pa_cons (pv 3) pa_nil))) (pa_cons (pv 4) pa_nil))))))))) pss_nil)), ?_⟩
      cases t with
      | leaf o =>
        refine ⟨_, rfl, _, _, _, _, true, rfl, .ty "str", hv.tyStr, kit_ty (by decide +kernel), _, rfl, iteF ?_⟩
        have hm : W2 = W := hm
        exact k _ (.refl a H) (hm ▸ hw)
      | node ts =>
        refine ⟨_, rfl, _, _, _, _, false, rfl, .ty "str", hv.tyTup, kit_ty (by decide +kernel), _, rfl, iteT ?_⟩
        obtain ⟨b, zs, rfl, hsb, hlen, hbig, h2, hx, ht⟩ := hv.node
        obtain ⟨W1, hdo, hL⟩ := hm
        refine ⟨_, rfl, _, rfl, _, rfl, b, zs, rfl, .inr hsb, ?_⟩
        rw [hlen]
        refine ⟨a, W, W1, p, ts.length, qv, rfl, hw, hp, by omega, hdo, fun H2 k12 w2 => ?_⟩
        refine ⟨_, rfl, b, zs, rfl, (k12.tle hw) _ _ hsb, for_it walk_enumT (fun i σ H' => i ≤ ts.length ∧ Kept a H H' ∧ ∃ (A : Wk) (y z : Option V), WAt K C H' a A ∧ Loop (fun i A B => ∃ t, ts[i]? = some t ∧ ML n A (p ++ [i]) t B) i ts.length A W2 ∧ σ = [some (.ref a.x), some qv, some (.ref b), y, z]) ⟨Nat.zero_le _, k12, W1, _, _, w2, hL, rfl⟩ (fun i σ H' _ q => (q.2.1.tle hw) _ _ hsb) ?_ ?_⟩
        · rintro i x σ H3 H4 hi ⟨_, k3, A, y, z, w3, hLi, rfl⟩ ⟨T0, a0, b0, rfl, q1, rfl, q3, q4⟩
          cases q3
          have s4 : Same H3 (upd H3 T0 (.tup [.int (i : Nat), b0])) := Same.upd q1
          obtain ⟨t, ht1, ht2⟩ := hx i b0 q4
          refine ⟨T0, _, rfl, SqT.of upd_same, rfl, _, _, rfl, _, _, rfl, rfl, ?_⟩
          refine ⟨_, rfl, _, rfl, _, rfl, by show 1 ≤ sizeLine; rw [sizeLine_eq]; decide, fun l2 hl2 => ?_⟩
          have s5 := Same.upd (o := .tup [.int (i : Nat)]) hl2
          have le5 : TLe K H _ := (k3.tle hw).trans (Same.tle (s4.trans s5))
          refine catA_path (D.le le5 _ _ hp) (SqT.of upd_same) (by omega) fun v6 H6 s6 hv6 => ⟨_, rfl, ?_⟩
          rw [hlen] at hi
          generalize hmm : ts.length = m at hLi hi ⊢
          cases hLi with
          | nil => omega
          | @cons _ _ _ A1 _ h1 h2 h3 =>
            obtain ⟨t', ht', hsl⟩ := h2
            rw [ht1] at ht'
            cases ht'
            refine ⟨a, A, A1, p ++ [i], t, v6, b0, rfl, w3.same (s4.trans (s5.trans s6)), hv6, ht2.le (le5.trans (Same.tle s6)), by rw [List.length_append]; simp; omega, hsl, fun H7 k7 w7 => ?_⟩
            exact ⟨by omega, k3.trans ((Same.kept (s4.trans (s5.trans s6))).trans k7), A1, _, _, w7, h3, rfl⟩
        · rintro σ H3 ⟨_, k3, A, y, z, w3, hLi, rfl⟩
          rw [hlen] at hLi
          have e : W2 = A := by
            generalize hm : ts.length = m at hLi
            cases hLi with
            | nil => rfl
            | cons h => omega
          subst e
          exact k _ k3 w3
end
end Td
end

section
set_option maxHeartbeats 1000000
/-! TdEnds: the generator ends, as a family. -/
namespace Td
open PySem PySem.Spec PyProof.Rows L2 GenW
/-- the parts of such a body -/
def gbOf (st : List Stmt) : GBody := match st with
  | [.If test [.Expr (.Yield (some (.Tuple res rk rpos)) yp) p1] [pre, .For (.Tuple elts kk tp) (.Call (.Name _ q1) [te] [] q3) [.Expr (.YieldFrom (.Call (.Name fn cp) ces [] cpos) yp2) p2] [] p3] p0] =>
    ⟨test, res, rk, rpos, [pre], elts, kk, tp, te, fn, ces, q1, q3, cp, cpos, yp, p1, p2, yp2, p3, p0⟩
  | [.If test [.Expr (.Yield (some (.Tuple res rk rpos)) yp) p1] [.For (.Tuple elts kk tp) (.Call (.Name _ q1) [te] [] q3) [.Expr (.YieldFrom (.Call (.Name fn cp) ces [] cpos) yp2) p2] [] p3] p0] =>
    ⟨test, res, rk, rpos, [], elts, kk, tp, te, fn, ces, q1, q3, cp, cpos, yp, p1, p2, yp2, p3, p0⟩
  | _ => ⟨.Constant .none 0 ⟨0, 0, 0, 0⟩, [], 0, ⟨0, 0, 0, 0⟩, [], [], 0, ⟨0, 0, 0, 0⟩, .Constant .none 0 ⟨0, 0, 0, 0⟩, "", [], ⟨0, 0, 0, 0⟩, ⟨0, 0, 0, 0⟩, ⟨0, 0, 0, 0⟩, ⟨0, 0, 0, 0⟩, ⟨0, 0, 0, 0⟩, ⟨0, 0, 0, 0⟩, ⟨0, 0, 0, 0⟩, ⟨0, 0, 0, 0⟩, ⟨0, 0, 0, 0⟩, ⟨0, 0, 0, 0⟩⟩
def gb16 : GBody := gbOf (defBody (topS 16))
theorem gb16_stmts : gb16.stmts = defBody (topS 16) := rfl
/-- a generator def of the module, with defaults -/
structure GenAt (K : PySem.W.Frag) (mg : Str → Option Value) (x : Str) (st : Stmt) (dvs : List V) : Prop where
  ex : ∃ (f : Addr) (fd : FuncData), FunD K x x (defArgs st) (defBody st) (defScope st) dvs [] f fd ∧ mg x = some (.ref f)
/-- what K holds of a tuple -/
def KTup (K : PySem.W.Frag) (a : Addr) (xs : List V) : Prop := ∃ (o : Obj) (its : Array Value) (n : Nat), K.lookup a = some o ∧ o.cls = .type "tuple" ∧ o.data = .seq its n ∧ its.size ≤ sizeLine ∧ Vals xs its.toList
/-- what H0 knows of tuples, Hg knows plainly -/
def TLp (K : PySem.W.Frag) (H0 Hg : Hp) : Prop := ∀ a xs, SqT K H0 a xs → Hg a = some (.tup xs) ∨ KTup K a xs
theorem TLp.tle {K : PySem.W.Frag} {H0 Hg H : Hp} (h : TLp K H0 Hg) (t : TupLe Hg H) : TLe K H0 H := fun a xs e => by
  rcases h a xs e with q | q
  · exact .inl (t a xs q)
  · exact .inr q
theorem TLp.self {K : PySem.W.Frag} {H : Hp} : TLp K (tupsOf H) (tupsOf H) := fun a xs e => by
  rcases e with (q | ⟨o, q⟩) | q
  · exact .inl q
  · obtain ⟨ys, z⟩ := tupsOf_only _ _ q; cases z
  · exact .inr q
theorem tle_tupsOf {K : PySem.W.Frag} {H : Hp} : TLe K H (tupsOf H) := fun a xs e => by
  rcases e with q | q
  · exact .inl (.inl (tupsOf_rd q))
  · exact .inr q
/-- where such a generator stands: the tree, its value, first, step; where they are known -/
structure EI where
  t : T
  v : V
  f : Nat
  s : Nat
  H0 : Hp
def EI.leaf (i : EI) : Bool := match i.t with
  | .leaf _ => true
  | .node _ => false
def EI.kids (i : EI) : List T := match i.t with
  | .leaf _ => []
  | .node ts => ts
def EI.name (i : EI) : Str := match i.t with
  | .leaf o => o
  | .node _ => ⟨#[]⟩
open Classical in
noncomputable def EI.at_ (K : PySem.W.Frag) (i : EI) : Addr × List V := if h : ∃ q : Addr × List V, i.v = .ref q.1 ∧ SqT K i.H0 q.1 q.2 ∧ TVs K i.H0 i.kids q.2 then h.choose else (0, [])
theorem EI.at_spec {K : PySem.W.Frag} {i : EI} {ts : List T} (h : TVn K i.H0 i.t i.v) (e : i.t = .node ts) : i.v = .ref (i.at_ K).1 ∧ SqT K i.H0 (i.at_ K).1 (i.at_ K).2 ∧ TVs K i.H0 ts (i.at_ K).2 := by
  have ek : i.kids = ts := by unfold EI.kids; rw [e]
  subst ek
  have q : ∃ q : Addr × List V, i.v = .ref q.1 ∧ SqT K i.H0 q.1 q.2 ∧ TVs K i.H0 i.kids q.2 := by
    have := h.tv
    rw [e] at this
    obtain ⟨a, xs, h1, h2, h3⟩ := tv_node.mp this
    exact ⟨(a, xs), h1, h2, h3⟩
  unfold EI.at_
  rw [dif_pos q]
  exact q.choose_spec
noncomputable def EI.child (K : PySem.W.Frag) (i : EI) (j : Nat) : EI := ⟨i.kids.getD j (.leaf ⟨#[]⟩), (i.at_ K).2.getD j .non, i.f + i.s * j, i.s * i.kids.length, i.H0⟩
/-- what is known of it -/
structure EI.Ok (K : PySem.W.Frag) (i : EI) (Hg : Hp) : Prop where
  tv : TVn K i.H0 i.t i.v
  tl : TLp K i.H0 Hg
theorem EI.leaf_eq {i : EI} (h : i.leaf = true) : i.t = .leaf i.name := by
  unfold EI.leaf at h; unfold EI.name
  cases e : i.t with
  | leaf o => rfl
  | node ts => rw [e] at h; cases h
theorem EI.node_eq {i : EI} (h : i.leaf = false) : i.t = .node i.kids := by
  unfold EI.leaf at h; unfold EI.kids
  cases e : i.t with
  | leaf o => rw [e] at h; cases h
  | node ts => rfl
theorem EI.child_ok {K : PySem.W.Frag} {i : EI} {Hg : Hp} {j : Nat} (h : i.Ok K Hg) (hl : i.leaf = false) (hj : j < i.kids.length) : (i.child K j).Ok K Hg := by
  have e := EI.node_eq hl
  obtain ⟨h1, h2, h3⟩ := EI.at_spec h.tv e
  have hk : i.kids[j]? = some i.kids[j] := List.getElem?_eq_getElem hj
  obtain ⟨x, hx, htx⟩ := h3.getT hk
  have ho := h.tv.ok
  have hb := h.tv.big
  rw [e] at ho hb
  rw [cnt_node] at hb
  refine ⟨⟨?_, ?_, ?_⟩, h.tl⟩
  · show TV K i.H0 (i.kids.getD j _) ((i.at_ K).2.getD j .non)
    rw [List.getD_eq_getElem?_getD, List.getD_eq_getElem?_getD, hk, hx]; exact htx
  · show (i.kids.getD j _).ok
    rw [List.getD_eq_getElem?_getD, hk]; exact oks_get (ok_node.mp ho).2 hk
  · show (i.kids.getD j _).cnt ≤ _
    rw [List.getD_eq_getElem?_getD, hk]; exact Nat.le_trans (cnts_get hk) hb
theorem EI.dec {K : PySem.W.Frag} {i : EI} {j : Nat} (hl : i.leaf = false) (hj : j < i.kids.length) : (i.child K j).t.lev + 1 ≤ i.t.lev := by
  have hk : i.kids[j]? = some i.kids[j] := List.getElem?_eq_getElem hj
  show (i.kids.getD j _).lev + 1 ≤ _
  rw [List.getD_eq_getElem?_getD, hk, EI.node_eq hl, lev_node]
  have := levs_get hk
  show i.kids[j].lev + 1 ≤ _
  omega
def rowE (r : Nat × Nat × Str) : List V := [.int (r.1 : Nat), .int (r.2.1 : Nat), .str r.2.2]
def relE (r : Nat × Nat × Str) (h : Heap) (v : Value) : Prop := RowT (fun r _ xs => xs = rowE r) r h v
theorem tup_slots {h h' : Heap} {T : Addr} {its : Array Value} (e : IsTup h T its) (k : ∀ b o, h.get? b = some o → o.cls = .type "tuple" → (∃ v n, o.data = .seq v n) → ∃ sl, h'.get? b = some { o with slots := sl }) : IsTup h' T its := by
  obtain ⟨o, h1, h2, n, h3⟩ := e
  obtain ⟨sl, q⟩ := k T o h1 h2 ⟨_, _, h3⟩
  exact ⟨_, q, h2, n, h3⟩
section
variable {P : Program} {w : World} {K : PySem.W.Frag} {mg : Str → Option Value} {base : Heap}
theorem gsc_ends : GScope ["tree", "first", "step", "width", "number", "outlet"] ["tree", "first", "step"] (defScope (topS 16)) := ⟨rfl, rfl, rfl, by decide +kernel, rfl, by decide +kernel, by decide +kernel⟩
def gdEnds (P : Program) (w : World) (K : PySem.W.Frag) (mg : Str → Option Value) (base : Heap) (f : Addr) (cd : Value) : GD := ⟨P, w, K, mg, base, ["tree", "first", "step", "width", "number", "outlet"], "ends", defScope (topS 16), f, cd⟩
theorem lookup_all {p : NameKind → Bool} {y : Str} {k : NameKind} : ∀ {l : List (Str × NameKind)}, (l.all fun q => p q.2) = true → l.lookup y = some k → p k = true
  | [], _, e => by cases e
  | (x, k') :: l, h, e => by
    rw [List.all_cons, Bool.and_eq_true] at h
    rw [List.lookup_cons] at e
    split at e
    · cases e; exact h.1
    · exact lookup_all h.2 e
theorem noc_of {l : List (Str × NameKind)} (h : (l.all fun q => match q.2 with | .cell => false | .free => false | _ => true) = true) (y : Str) : l.lookup y ≠ some .cell ∧ l.lookup y ≠ some .free :=
  ⟨(fun e => nomatch (lookup_all (p := fun k => match k with | .cell => false | .free => false | _ => true) h e)), (fun e => nomatch (lookup_all (p := fun k => match k with | .cell => false | .free => false | _ => true) h e))⟩
theorem EI.at_len {K : PySem.W.Frag} {i : EI} (h : TVn K i.H0 i.t i.v) (e : i.leaf = false) : (i.at_ K).2.length = i.kids.length := (EI.at_spec h (EI.node_eq e)).2.2.length
noncomputable def famEnds (T : Top K mg) (M : Mod K mg base) {f : Addr} {fd : FuncData} {cd : Value} (tx : GText (gdEnds P w K mg base f cd) ["tree", "first", "step"] gb16.stmts fd) (bd : Binds K fd ["tree", "first", "step"] []) (hm : mg "ends" = some (.ref f)) (kp : PySem.W.keepIn K (.ref f) = true) :
    Fam (gdEnds P w K mg base f cd) gb16 ["tree", "first", "step"] fd EI (Nat × Nat × Str) where
  k := fun i => 2 + 4 * i.t.lev
  μ := fun i => i.t.lev
  leaf := EI.leaf
  len := fun i => i.kids.length
  child := fun i j => i.child K j
  row1 := fun i => (i.f, i.s, i.name)
  Row := fun i _ xs => xs = rowE (i.f, i.s, i.name)
  Args := fun i vs Hg => vs = [i.v, .int (i.f : Nat), .int (i.s : Nat)] ∧ i.Ok K Hg
  Loop := fun i σ Hg => i.leaf = false ∧ i.Ok K Hg ∧ ∃ y z, σ = [some i.v, some (.int (i.f : Nat)), some (.int (i.s : Nat)), some (.int ((i.s * i.kids.length : Nat) : Nat)), y, z]
  LoopJ := fun i j σ Hg => σ[4]? = some (some (.int (j : Nat))) ∧ σ[5]? = some (some ((i.at_ K).2.getD j .non))
  tree := fun i => (i.at_ K).1
  items := fun i => (i.at_ K).2
  rel := fun _ _ => relE
  ND := fun nd => nd = []
  ok := ⟨M, rfl, fun n => by
    show cellsFrom n (defScope (topS 16)).names [] = []
    rfl, by
    show ∀ y, (defScope (topS 16)).names.lookup y ≠ some .cell ∧ (defScope (topS 16)).names.lookup y ≠ some .free
    exact noc_of (by decide +kernel)⟩
  text := tx
  binds := bd
  mgf := hm
  kp := kp
  gl := fun L => rfl
  nd0 := rfl
  room := fun i => by omega
  dec := fun i j hl hj => by
    have := EI.dec (K := K) hl hj
    exact ⟨by omega, by omega⟩
  o_len := fun i vs Hg h => by rw [h.1]; rfl
  o_test := fun i vs Hg L own A outer s ⟨e, h⟩ => by
    subst e
    refine ⟨_, (pt_val (pe_callB call_isi (by rfl) T.n_isinstance (by decide +kernel) (pa_cons (pv 0) (pa_cons (pe_bltn (v := .ty "str") (u := .type "str") (by rfl) T.n_str (by decide +kernel) rfl) pa_nil)))), fun H Q tl q => ?_⟩
    have hv := h.tv.le (h.tl.tle tl)
    cases hl : i.leaf with
    | true =>
      rw [EI.leaf_eq hl] at hv
      rw [hl] at q
      exact ⟨_, rfl, _, _, _, _, true, rfl, .ty "str", hv.tyStr, kit_ty (by decide +kernel), _, rfl, q⟩
    | false =>
      rw [EI.node_eq hl] at hv
      rw [hl] at q
      exact ⟨_, rfl, _, _, _, _, false, rfl, .ty "str", hv.tyTup, kit_ty (by decide +kernel), _, rfl, q⟩
  o_row := fun i vs Hg L own A outer s hl ⟨e, h⟩ => by
    subst e
    refine ⟨_, (pa_cons (pv 1) (pa_cons (pv 2) (pa_cons (pv 0) pa_nil))), fun H Q tl q => ?_⟩
    have hv := h.tv.le (h.tl.tle tl)
    rw [EI.leaf_eq hl] at hv
    refine ⟨_, rfl, _, rfl, _, rfl, ?_⟩
    exact q _ (by show 3 ≤ sizeLine; rw [sizeLine_eq]; decide) (by rw [hv.leaf]; rfl)
  o_rel := fun i vs Hg L h T0 xs its hl ha hr rv ht _ hz => by
    subst hr
    exact ⟨T0, _, its, rfl, rfl, hz, rv, ht⟩
  relS := fun L Hg r h h' v k q => by
    obtain ⟨T0, xs, its, e, hr, hz, rv, ht⟩ := q
    exact ⟨T0, xs, its, e, hr, hz, rv, tup_slots ht k⟩
  relUp := fun L Lc Hg news r h v _ _ q => q
  o_pre := fun i vs Hg L own A outer s hl hr ⟨e, h⟩ => by
    subst e
    refine ⟨_, (pss_one (ps_set (i := 3) gsc_ends.nd rfl (by first | exact Or.inl rfl | exact Or.inr rfl) (pe_op op_mul (pv 2) (pe_callB call_len_seq (by rfl) T.n_len (by decide +kernel) (pa_cons (pv 0) pa_nil))))), fun H D tl q => ?_⟩
    obtain ⟨h1, h2, h3⟩ := EI.at_spec h.tv (EI.node_eq hl)
    have hb := h.tv
    rw [EI.node_eq hl] at hb
    obtain ⟨_, _, _, _, _, hbig, _⟩ := hb.node
    refine ⟨_, rfl, _, rfl, (i.at_ K).1, (i.at_ K).2, by rw [h1], .inr (h.tl.tle tl _ _ h2), _, _, rfl, rfl, .inr ?_, ?_⟩
    · rw [h3.length]; constructor <;> omega
    · refine q _ ⟨hl, h, none, none, ?_⟩
      rw [h3.length]; rfl
  o_te := fun i σ Hg L own A outer s ⟨hl, h, y, z, e⟩ => by
    subst e
    refine ⟨_, (pa_cons (pv 0) pa_nil), fun H Q tl q => ⟨_, rfl, ?_⟩⟩
    rw [(EI.at_spec h.tv (EI.node_eq hl)).1]
    exact q
  o_items := fun i σ Hg H ⟨hl, h, _⟩ tl => by
    obtain ⟨h1, h2, h3⟩ := EI.at_spec h.tv (EI.node_eq hl)
    exact ⟨h.tl.tle tl _ _ h2, h3.length⟩
  o_tgt := fun i j σ Hg L own A outer s x hl ⟨_, h, y, z, e⟩ hx => by
    subst e
    refine ⟨_, (pg_tup (by rfl) (pgs_cons (pg_name (i := 4) gsc_ends.nd rfl (by first | exact Or.inl rfl | exact Or.inr rfl)) (pgs_cons (pg_name (i := 5) gsc_ends.nd rfl (by first | exact Or.inl rfl | exact Or.inr rfl)) pgs_nil))), fun H T0 Q hT q => ?_⟩
    refine ⟨T0, _, rfl, SqT.of hT, rfl, _, _, rfl, _, _, rfl, rfl, ?_⟩
    refine q _ ⟨hl, h, _, _, rfl⟩ ⟨rfl, ?_⟩
    show some (some x) = _
    rw [List.getD_eq_getElem?_getD, hx]; rfl
  o_call := fun i j σ Hg L own A outer s hl hj ⟨_, h, y, z, e⟩ ⟨k4, k5⟩ => by
    subst e
    have hj4 : y = some (.int (j : Nat)) := by simpa using k4
    have hj5 : z = some ((i.at_ K).2.getD j .non) := by simpa using k5
    clear k4 k5
    subst hj4 hj5
    have hb := h.tv
    rw [EI.node_eq hl] at hb
    obtain ⟨_, _, _, _, _, hbig, _⟩ := hb.node
    refine ⟨_, (pa_cons (pv 5) (pa_cons (pe_op op_add (pv 1) (pe_op op_mul (pv 2) (pv 4))) (pa_cons (pv 3) pa_nil))), fun H Q tl q => ?_⟩
    refine ⟨_, rfl, _, rfl, _, rfl, _, rfl, _, _, rfl, rfl, .inr ⟨by omega, by omega⟩, _, _, rfl, rfl, _, rfl, ?_⟩
    refine q _ _ [] (fun p hp => by cases hp) (fun nd hnd => hnd) ⟨?_, EI.child_ok ⟨h.tv, ?_⟩ hl hj⟩
    · show _ = [(i.at_ K).2.getD j .non, .int ((i.f + i.s * j : Nat) : Nat), .int ((i.s * i.kids.length : Nat) : Nat)]
      push_cast
      rfl
    · exact h.tl
  blt := T.n_enumerate
  glE := fun L => rfl
  c_arg := fun L pos => rfl
  c_dbg := by decide +kernel
  c_te := fun L => rfl
  c_co := rfl
theorem ends_rows (T : Top K mg) (M : Mod K mg base) {f : Addr} {fd : FuncData} {cd : Value} (tx : GText (gdEnds P w K mg base f cd) ["tree", "first", "step"] gb16.stmts fd) (bd : Binds K fd ["tree", "first", "step"] []) (hm : mg "ends" = some (.ref f)) (kp : PySem.W.keepIn K (.ref f) = true) (t : Td.T) :
    ∀ i : EI, i.t = t → (famEnds T M tx bd hm kp).rows i = t.ends i.f i.s := by
  induction t using Td.T.ind with
  | h1 o =>
    intro i e
    have hl : i.leaf = true := by unfold EI.leaf; rw [e]
    have hn : i.name = o := by unfold EI.name; rw [e]
    rw [Fam.rows_leaf _ _ hl, T.ends]
    show [(i.f, i.s, i.name)] = _
    rw [hn]
  | h2 ts ih =>
    intro i e
    have hl : i.leaf = false := by unfold EI.leaf; rw [e]
    have hk : i.kids = ts := by unfold EI.kids; rw [e]
    rw [Fam.rows_node _ _ hl, T.ends]
    have key : ∀ n j, j + n = ts.length → (famEnds T M tx bd hm kp).from_ i j = endss (ts.drop j) (i.f + i.s * j) i.s (i.s * ts.length) := by
      intro n
      induction n with
      | zero =>
        intro j hj
        have hj : j = ts.length := by omega
        have e2 : (famEnds T M tx bd hm kp).from_ i j = [] := by rw [hj, ← hk]; exact Fam.from_last _ i
        rw [e2, hj, List.drop_length, endss]
      | succ n ih2 =>
        intro j hj
        have hjl : j < ts.length := by omega
        rw [Fam.from_step _ i j (by show j < i.kids.length; rw [hk]; exact hjl), ih2 (j + 1) (by omega), List.drop_eq_getElem_cons hjl, endss]
        have ec : ((i.child K j)).t = ts[j] := by
          show i.kids.getD j _ = _
          rw [hk, List.getD_eq_getElem?_getD, List.getElem?_eq_getElem hjl]; rfl
        have := ih ts[j] (List.getElem_mem hjl) (i.child K j) ec
        have e3 : (famEnds T M tx bd hm kp).rows ((famEnds T M tx bd hm kp).child i j) = ts[j].ends (i.f + i.s * j) (i.s * i.kids.length) := this
        rw [e3, hk, Nat.mul_add, Nat.mul_one, ← Nat.add_assoc]
    have := key ts.length 0 (by omega)
    rw [List.drop_zero, Nat.mul_zero, Nat.add_zero] at this
    exact this
theorem tvn_tupsOf {H : Hp} {u : Td.T} {v : V} : TVn K (tupsOf H) u v ↔ TVn K H u v := ⟨fun h => h.le (TLp.self.tle (tupsOf_le H)), fun h => h.le tle_tupsOf⟩
end
/-- the call ends(e) -/
theorem pgen_ends {X : Cx} (T : Top X.K X.mg) (M : Mod X.K X.mg X.base) (E : GenAt X.K X.mg "ends" (topS 16) [.int 0, .int 1]) {k : Nat} {es : List Expr} {p pos : Pos} {t : TA} (hr : Room 0 X.A) (hg : Gl X "ends") (ha : PA2 X es t)
    (hl : (backTo pos (starEach es X.env)).any (·.1) = false := by rfl) : PGen2 X k (.Call (.Name "ends" p) es [] pos) (fun _ _ => relE) (fun nd => nd = []) (fun σ H Q => t σ H fun vs H1 => ∃ (u : Td.T) (v : V), vs = [v] ∧ TVn X.K H1 u v ∧ 2 + 4 * u.lev ≤ k ∧ Q (u.ends 0 1) H1) := by
  obtain ⟨f, fd, F, hm⟩ := E.ex
  obtain ⟨ds, rds, bds⟩ := F.binds1 (ps := ["tree", "first", "step"]) 1 0 (by simp) rfl (fun T kV doc pm an cdv ct us its h1 h2 => match us, its, h1, h2 with | [_], [_, _], _, _ => ⟨_, rfl, rfl⟩)
  obtain ⟨ds0, rds0, bds0⟩ := F.binds1 (ps := ["tree", "first", "step"]) 3 2 (by simp) rfl (fun T kV doc pm an cdv ct us its h1 h2 => match us, its, h1, h2 with | [_, _, _], [_, _], _, _ => ⟨_, rfl, rfl⟩)
  obtain ⟨oc, od, dV, kV, doc, pm, an, cdv, ct, osl, e, lk, hcd, _, _⟩ := F.ex
  have e0 : ds0 = [] := by cases rds0; rfl
  subst e0
  have tx : GText (gdEnds X.prog X.w X.K X.mg X.base f cdv) ["tree", "first", "step"] gb16.stmts fd := ⟨⟨"ends", defArgs (topS 16), dV, kV, doc, pm, ct, oc, an, od, osl, e, e ▸ lk⟩, hcd, gsc_ends⟩
  have G := pgen2_call (k := k) (p := p) (pos := pos) (famEnds T M tx bds0 hm F.kp) rfl rfl rfl rfl hr bds rds hg hm ha hl (by decide +kernel)
  refine ⟨fun pins s σ H Q I h => G.run pins s σ H Q I ?_⟩
  have e : (fun (vs : List V) (H1 : Hp) => ∃ (u : Td.T) (v : V), vs = [v] ∧ TVn X.K H1 u v ∧ 2 + 4 * u.lev ≤ k ∧ Q (u.ends 0 1) H1) =
      fun vs H1 => ∃ i, (famEnds T M tx bds0 hm F.kp).Args i (vs ++ List.drop 0 [.int 0, .int 1]) (tupsOf H1) ∧ (famEnds T M tx bds0 hm F.kp).k i ≤ k ∧ Q ((famEnds T M tx bds0 hm F.kp).rows i) H1 := by
    funext vs H1
    refine propext ⟨?_, ?_⟩
    · rintro ⟨u, v, rfl, hv, hk, q⟩
      refine ⟨⟨u, v, 0, 1, tupsOf H1⟩, ⟨rfl, tvn_tupsOf.mpr hv, .self⟩, hk, ?_⟩
      rw [ends_rows T M tx bds0 hm F.kp u _ rfl]
      exact q
    · rintro ⟨i, ⟨e1, h1, h2⟩, hk, q⟩
      rw [ends_rows T M tx bds0 hm F.kp i.t i rfl] at q
      obtain ⟨t, v, f, s, H0⟩ := i
      have e1 : vs ++ [.int 0, .int 1] = [v, .int (f : Nat), .int (s : Nat)] := e1
      obtain ⟨y, rfl⟩ : ∃ y, vs = [y] := by
        have := congrArg List.length e1
        simp at this
        exact List.length_eq_one_iff.mp this
      simp at e1
      obtain ⟨rfl, e2, e3⟩ := e1
      have e2 : f = 0 := by omega
      have e3 : s = 1 := by omega
      subst e2 e3
      exact ⟨t, y, rfl, h1.le (h2.tle (tupsOf_le _)), hk, q⟩
  rw [← e]
  exact h
end Td
end

section
set_option maxHeartbeats 1000000
/-! TdEp: the generator end_paths, as a family. -/
namespace Td
open PySem PySem.Spec PyProof.Rows L2 GenW
/-! ### new tuples stand beyond the frame -/
theorem loc_lt {X : Cx} {pins : List (Addr × Obj)} {σ : L2.St} {H : Hp} {s : Shared} (I : Inv X pins σ H s) : X.env.locals < s.heap.objs.size := by
  obtain ⟨m, ⟨oL, es', ep, hoL, _⟩, _⟩ := I.loc
  exact Heap.lt_size hoL
theorem kfresh {X : Cx} {pins : List (Addr × Obj)} {σ : L2.St} {H : Hp} {s : Shared} (I : Inv X pins σ H s) : X.K.lookup s.heap.objs.size = none := by
  cases e : X.K.lookup s.heap.objs.size with
  | none => rfl
  | some o => exact absurd (Heap.lt_size (I.kIn _ _ e)) (Nat.lt_irrefl _)
section
variable {X : Cx} {es : List Expr} {t : TA} {pos : Pos}
def tTupL (K : PySem.W.Frag) (L : Addr) (t : TA) : TE := fun σ H Q => t σ H fun xs H1 => xs.length ≤ sizeLine ∧ ∀ p, H1 p = none → L < p → K.lookup p = none → Q (.ref p) (upd H1 p (.tup xs))
theorem pe_tupL {x1} (h : PA X es t) : PE X (.Tuple es x1 pos) (tTupL X.K X.env.locals t) := by
  refine ⟨fun pins s σ H Q I hq => ?_⟩
  refine wpAny_Tuple_spliced (thn (h.run pos pins s σ H _ I hq) fun us s1 ⟨xs, H1, I1, r, z, q⟩ => ⟨by rw [← r.length]; exact z, ?_⟩)
  have hf : H1 s1.heap.objs.size = none := I1.hok.fresh (Nat.le_refl _)
  refine ⟨.ref s1.heap.objs.size, upd H1 s1.heap.objs.size (.tup xs), I1.laid (t' := s1.toks) (fun b u e => Heap.get?_push_of_some _ e) (Nat.le_refl _) ?_, rfl, q _ hf (loc_lt I1) (kfresh I1)⟩
  exact ⟨z, us, r, ⟨_, Heap.get?_push_size _ rfl, rfl, _, rfl⟩⟩
/-- t + u, u not empty -/
def rCatL (K : PySem.W.Frag) (L : Addr) : R2 := fun x y H Q => ∃ a b xs ys, x = .ref a ∧ y = .ref b ∧ SqT K H a xs ∧ SqT K H b ys ∧ xs.length + ys.length ≤ sizeLine ∧ ys ≠ [] ∧
  (xs = [] → Q (.ref b) H) ∧ (xs ≠ [] → ∀ p, H p = none → L < p → K.lookup p = none → Q (.ref p) (upd H p (.tup (xs ++ ys))))
theorem op_catL : OpR X (binaryOp .Add) (rCatL X.K X.env.locals) := by
  intro pins s σ H x y v u Q I rx ry h
  obtain ⟨a, b, xs, ys, rfl, rfl, ha, hb, hz, hy, q0, q2⟩ := h
  by_cases hx : xs = []
  · exact op_catA pins s σ H _ _ v u Q I rx ry ⟨a, b, xs, ys, rfl, rfl, ha, hb, hz, q0, fun h => absurd hx h, fun h => absurd hx h⟩
  · cases rx
    cases ry
    obtain ⟨its, r1, p1, _⟩ := I.tuple ha
    obtain ⟨its2, r2, p2, _⟩ := I.tuple hb
    refine HT.cat_tup p1 p2 (fun z => hx (r1.nil_iff.mp z)) (fun z => absurd (r2.nil_iff.mp z) hy) (fun z => ?_) (by rw [← r1.length, ← r2.length]; exact hz)
    refine ⟨.ref s.heap.objs.size, _, I.laid (t' := s.toks) (o := .tup (xs ++ ys)) (fun b ob q => Heap.get?_push_of_some _ q) (Nat.le_refl _) ?_, rfl, q2 hx _ (I.hok.fresh (Nat.le_refl _)) (loc_lt I) (kfresh I)⟩
    exact ⟨by rw [List.length_append]; exact hz, _, r1.append r2, IsTup.new _ _⟩
end
def intVs (p : List Nat) : List V := p.map fun n => V.int (n : Nat)
structure PI extends EI where
  p : List Nat
noncomputable def PI.child (K : PySem.W.Frag) (i : PI) (j : Nat) : PI := ⟨i.toEI.child K j, i.p ++ [j]⟩
/-- where the path stands -/
def PAt (K : PySem.W.Frag) (Hg : Hp) (b : Addr) (p : List Nat) : Prop := (Hg b = some (.tup (intVs p)) ∨ KTup K b (intVs p)) ∧ ∀ xs, KTup K b xs → xs = intVs p
theorem ktup_fun {K : PySem.W.Frag} {b : Addr} {xs ys : List V} (h : KTup K b xs) (k : KTup K b ys) : (xs = [] ↔ ys = []) := by
  obtain ⟨o, its, n, h1, _, h2, _, h3⟩ := h
  obtain ⟨o', its', n', k1, _, k2, _, k3⟩ := k
  rw [h1] at k1; cases k1
  rw [h2] at k2; cases k2
  rw [← h3.nil_iff, ← k3.nil_iff]
def rowP (b : Addr) (r : List Nat × Nat × Nat) : List V := [.ref b, .int (r.2.1 : Nat), .int (r.2.2 : Nat)]
def relP (K : PySem.W.Frag) (L : Addr) (Hg : Hp) (r : List Nat × Nat × Nat) (h : Heap) (v : Value) : Prop :=
  ∃ T b, v = .ref T ∧ TupAt h T (rowP b r) ∧ ((TupAt h b (intVs r.1) ∧ (L < b ∨ Hg b = some (.tup (intVs r.1)))) ∨ KTup K b (intVs r.1))
theorem TupAt.slots {h h' : Heap} {b : Addr} {xs : List V} (e : TupAt h b xs) (k : ∀ b o, h.get? b = some o → o.cls = .type "tuple" → (∃ v n, o.data = .seq v n) → ∃ sl, h'.get? b = some { o with slots := sl }) : TupAt h' b xs := by
  obtain ⟨hz, its, rv, ht⟩ := e
  exact ⟨hz, its, rv, tup_slots ht k⟩
theorem addT_get {Hg : Hp} {news : List (Addr × List V)} {b : Addr} {xs : List V} (h : addT Hg news b = some (.tup xs)) : (∃ p ∈ news, p.1 = b) ∨ Hg b = some (.tup xs) := by
  unfold addT at h
  split at h
  · rename_i ys e
    refine .inl ?_
    have key : ∀ l : List (Addr × List V), l.lookup b = some ys → ∃ p ∈ l, p.1 = b := by
      intro l
      induction l with
      | nil => intro e; cases e
      | cons q l ih =>
        intro e
        obtain ⟨c, zs⟩ := q
        rw [List.lookup_cons] at e
        split at e
        · rename_i hb
          exact ⟨_, List.mem_cons_self, (beq_iff_eq.mp hb).symm⟩
        · obtain ⟨p, h1, h2⟩ := ih e
          exact ⟨p, List.mem_cons_of_mem _ h1, h2⟩
    exact key news e
  · exact .inr h
theorem addT_one {Hg : Hp} {q : Addr} {xs : List V} : addT Hg [(q, xs)] q = some (.tup xs) := by
  unfold addT
  simp
theorem addT_ne {Hg : Hp} {q b : Addr} {xs : List V} (h : b ≠ q) : addT Hg [(q, xs)] b = Hg b := by
  unfold addT
  have : List.lookup b [(q, xs)] = none := by simp [List.lookup, beq_eq_false_iff_ne.mpr h]
  rw [this]
section
variable {P : Program} {w : World} {K : PySem.W.Frag} {mg : Str → Option Value} {base : Heap}
def gb36 : GBody := gbOf (defBody (topS 36))
theorem gb36_stmts : gb36.stmts = defBody (topS 36) := rfl
theorem gsc_eps : GScope ["tree", "path", "first", "step", "number", "outlet"] ["tree", "path", "first", "step"] (defScope (topS 36)) := ⟨rfl, rfl, rfl, by decide +kernel, rfl, by decide +kernel, by decide +kernel⟩
def gdEps (P : Program) (w : World) (K : PySem.W.Frag) (mg : Str → Option Value) (base : Heap) (f : Addr) (cd : Value) : GD := ⟨P, w, K, mg, base, ["tree", "path", "first", "step", "number", "outlet"], "end_paths", defScope (topS 36), f, cd⟩
noncomputable def famEps (T : Top K mg) (M : Mod K mg base) {f : Addr} {fd : FuncData} {cd : Value} (tx : GText (gdEps P w K mg base f cd) ["tree", "path", "first", "step"] gb36.stmts fd) (bd : Binds K fd ["tree", "path", "first", "step"] []) (hm : mg "end_paths" = some (.ref f)) (kp : PySem.W.keepIn K (.ref f) = true) :
    Fam (gdEps P w K mg base f cd) gb36 ["tree", "path", "first", "step"] fd PI (List Nat × Nat × Nat) where
  k := fun i => 2 + 4 * i.t.lev
  μ := fun i => i.t.lev
  leaf := fun i => i.toEI.leaf
  len := fun i => i.kids.length
  child := fun i j => i.child K j
  row1 := fun i => (i.p, i.f, i.s)
  Row := fun i Hg xs => ∃ b, xs = rowP b (i.p, i.f, i.s) ∧ PAt K Hg b i.p
  Args := fun i vs Hg => ∃ b, vs = [i.v, .ref b, .int (i.f : Nat), .int (i.s : Nat)] ∧ PAt K Hg b i.p ∧ i.p.length + i.t.lev ≤ 1000 ∧ i.toEI.Ok K Hg
  Loop := fun i σ Hg => i.leaf = false ∧ i.Ok K Hg ∧ i.p.length + i.t.lev ≤ 1000 ∧ ∃ b y z, PAt K Hg b i.p ∧ σ = [some i.v, some (.ref b), some (.int (i.f : Nat)), some (.int (i.s : Nat)), y, z]
  LoopJ := fun i j σ Hg => σ[4]? = some (some (.int (j : Nat))) ∧ σ[5]? = some (some ((i.at_ K).2.getD j .non))
  tree := fun i => (i.at_ K).1
  items := fun i => (i.at_ K).2
  rel := relP K
  ND := fun _ => True
  ok := ⟨M, rfl, fun n => by
    show cellsFrom n (defScope (topS 36)).names [] = []
    rfl, by
    show ∀ y, (defScope (topS 36)).names.lookup y ≠ some .cell ∧ (defScope (topS 36)).names.lookup y ≠ some .free
    exact noc_of (by decide +kernel)⟩
  text := tx
  binds := bd
  mgf := hm
  kp := kp
  gl := fun L => rfl
  nd0 := trivial
  room := fun i => by omega
  dec := fun i j hl hj => by
    have : (i.child K j).t.lev + 1 ≤ i.t.lev := EI.dec (K := K) hl hj
    exact ⟨by omega, by omega⟩
  o_len := fun i vs Hg ⟨b, e, _⟩ => by rw [e]; rfl
  o_test := fun i vs Hg L own A outer s ⟨b, e, hb, hpl, h⟩ => by
    subst e
    refine ⟨_, (pt_val (pe_callB call_isi (by rfl) T.n_isinstance (by decide +kernel) (pa_cons (pv 0) (pa_cons (pe_bltn (v := .ty "str") (u := .type "str") (by rfl) T.n_str (by decide +kernel) rfl) pa_nil)))), fun H Q tl q => ?_⟩
    have hv := h.tv.le (h.tl.tle tl)
    cases hl : i.leaf with
    | true =>
      rw [EI.leaf_eq hl] at hv
      rw [hl] at q
      exact ⟨_, rfl, _, _, _, _, true, rfl, .ty "str", hv.tyStr, kit_ty (by decide +kernel), _, rfl, q⟩
    | false =>
      rw [EI.node_eq hl] at hv
      rw [hl] at q
      exact ⟨_, rfl, _, _, _, _, false, rfl, .ty "str", hv.tyTup, kit_ty (by decide +kernel), _, rfl, q⟩
  o_row := fun i vs Hg L own A outer s hl ⟨b, e, hb, hpl, h⟩ => by
    subst e
    refine ⟨_, (pa_cons (pv 1) (pa_cons (pv 2) (pa_cons (pv 3) pa_nil))), fun H Q tl q => ?_⟩
    refine ⟨_, rfl, _, rfl, _, rfl, ?_⟩
    exact q _ (by show 3 ≤ sizeLine; rw [sizeLine_eq]; decide) ⟨b, rfl, hb⟩
  o_rel := fun i vs Hg L h T0 xs its hl ⟨_, _, _, hpl, _⟩ hr rv ht hg hz => by
    obtain ⟨b, rfl, hb⟩ := hr
    refine ⟨T0, b, rfl, ⟨hz, its, rv, ht⟩, ?_⟩
    rcases hb.1 with hb | hb
    · obtain ⟨js, j1, j2⟩ := hg b _ hb
      refine .inl ⟨⟨?_, js, j1, j2⟩, .inr hb⟩
      show (intVs i.p).length ≤ sizeLine
      unfold intVs
      rw [List.length_map]
      have := size5'
      omega
    · exact .inr hb
  relS := fun L Hg r h h' v k q => by
    obtain ⟨T0, b, e, h1, h2⟩ := q
    refine ⟨T0, b, e, h1.slots k, ?_⟩
    rcases h2 with ⟨h2, h3⟩ | h2
    · exact .inl ⟨h2.slots k, h3⟩
    · exact .inr h2
  relUp := fun L Lc Hg news r h v hL hn q => by
    obtain ⟨T0, b, e, h1, h2⟩ := q
    refine ⟨T0, b, e, h1, ?_⟩
    rcases h2 with ⟨h2, h3⟩ | h2
    · refine .inl ⟨h2, ?_⟩
      rcases h3 with h3 | h3
      · exact .inl (Nat.lt_trans hL h3)
      · rcases addT_get h3 with ⟨p, hp, rfl⟩ | h3
        · exact .inl (hn p hp)
        · exact .inr h3
    · exact .inr h2
  o_pre := fun i vs Hg L own A outer s hl hr ⟨b, e, hb, hpl, h⟩ => by
    subst e
    exact ⟨_, pss_nil, fun H D tl q => q _ ⟨hl, h, hpl, b, none, none, hb, rfl⟩⟩
  o_te := fun i σ Hg L own A outer s ⟨hl, h, hpl, b, y, z, hb, e⟩ => by
    subst e
    refine ⟨_, (pa_cons (pv 0) pa_nil), fun H Q tl q => ⟨_, rfl, ?_⟩⟩
    rw [(EI.at_spec h.tv (EI.node_eq hl)).1]
    exact q
  o_items := fun i σ Hg H ⟨hl, h, _⟩ tl => by
    obtain ⟨h1, h2, h3⟩ := EI.at_spec h.tv (EI.node_eq hl)
    exact ⟨h.tl.tle tl _ _ h2, h3.length⟩
  o_tgt := fun i j σ Hg L own A outer s x hl ⟨_, h, hpl, b, y, z, hb, e⟩ hx => by
    subst e
    refine ⟨_, (pg_tup (by rfl) (pgs_cons (pg_name (i := 4) gsc_eps.nd rfl (by first | exact Or.inl rfl | exact Or.inr rfl)) (pgs_cons (pg_name (i := 5) gsc_eps.nd rfl (by first | exact Or.inl rfl | exact Or.inr rfl)) pgs_nil))), fun H T0 Q hT q => ?_⟩
    refine ⟨T0, _, rfl, SqT.of hT, rfl, _, _, rfl, _, _, rfl, rfl, ?_⟩
    refine q _ ⟨hl, h, hpl, b, _, _, hb, rfl⟩ ⟨rfl, ?_⟩
    show some (some x) = _
    rw [List.getD_eq_getElem?_getD, hx]; rfl
  o_call := fun i j σ Hg L own A outer s hl hj ⟨_, h, hpl, b, y, z, hb, e⟩ ⟨k4, k5⟩ => by
    subst e
    have hj4 : y = some (.int (j : Nat)) := by simpa using k4
    have hj5 : z = some ((i.at_ K).2.getD j .non) := by simpa using k5
    clear k4 k5
    subst hj4 hj5
    have hbn := h.tv
    rw [EI.node_eq hl] at hbn
    obtain ⟨_, _, _, _, _, hbig, _⟩ := hbn.node
    have hdec : (i.child K j).t.lev + 1 ≤ i.t.lev := EI.dec (K := K) hl hj
    obtain ⟨h1, h2, h3⟩ := EI.at_spec h.tv (EI.node_eq hl)
    refine ⟨_, (pa_cons (pv 5) (pa_cons (pe_op op_catL (pv 1) (pe_tupL (pa_cons (pv 4) pa_nil))) (pa_cons (pe_op op_add (pv 2) (pe_op op_mul (pv 3) (pv 4))) (pa_cons (pe_op op_mul (pv 3) (pe_callB call_len_seq (by rfl) T.n_len (by decide +kernel) (pa_cons (pv 0) pa_nil))) pa_nil)))), fun H Q tl q => ?_⟩
    refine ⟨_, rfl, _, rfl, _, rfl, by show 1 ≤ sizeLine; rw [sizeLine_eq]; decide, fun l hlN hlL hlK => ?_⟩
    have s1 : Same H (upd H l (.tup [.int (j : Nat)])) := Same.upd hlN
    have tlH : ∀ {H' : Hp}, Same H H' → TLe K i.H0 H' := fun s => (h.tl.tle tl).trans (Same.tle s)
    have hbH : SqT K H b (intVs i.p) := by
      rcases hb.1 with hb | hb
      · exact .inl (tl b _ hb)
      · exact .inr hb
    have hgl : ∀ {q : Addr}, H q = none → ∀ {c : Addr} {xs : List V}, Hg c = some (.tup xs) → c ≠ q := fun {q} hq {c xs} hc z => by
      rcases tl c xs hc with w | ⟨o, w⟩ <;> (rw [z, hq] at w; cases w)
    have fin : ∀ (q0 : Addr) (H2 : Hp), Same H H2 → H q0 = none → L < q0 → K.lookup q0 = none → H2 q0 = some (.tup (intVs (i.p ++ [j]))) → (∃ x : V, (some (.int ((i.f : Nat) : Int))) = some x) → Q [(i.at_ K).2.getD j .non, .ref q0, .int ((i.f + i.s * j : Nat) : Nat), .int ((i.s * i.kids.length : Nat) : Nat)] H2 := fun q0 H2 s2 n0 l0 kn e0 _ => by
      refine q _ H2 [(q0, intVs (i.p ++ [j]))] (fun p hp => ?_) (fun _ _ => trivial) ⟨q0, rfl, ⟨.inl addT_one, fun xs kt => by
        obtain ⟨o, its, n, h1, _⟩ := kt
        rw [kn] at h1; cases h1⟩, ?_, EI.child_ok ⟨h.tv, fun a xs e => ?_⟩ hl hj⟩
      · rw [List.mem_singleton.mp hp]; exact ⟨e0, l0⟩
      · show (i.p ++ [j]).length + (i.child K j).t.lev ≤ 1000
        rw [List.length_append, List.length_singleton]; omega
      · rcases h.tl a xs e with w | w
        · exact .inl (by rw [addT_ne (hgl n0 w)]; exact w)
        · exact .inr w
    have args : ∀ (q0 : Addr) (H2 : Hp), Same H H2 → H q0 = none → L < q0 → K.lookup q0 = none → H2 q0 = some (.tup (intVs (i.p ++ [j]))) → _ := fun q0 H2 s2 n0 l0 kn e0 => fin q0 H2 s2 n0 l0 kn e0 ⟨_, rfl⟩
    have hlz : (intVs i.p).length + [V.int (j : Nat)].length ≤ sizeLine := by
      unfold intVs
      rw [List.length_map]
      show i.p.length + 1 ≤ sizeLine
      have := size5'
      omega
    refine ⟨b, l, intVs i.p, [.int (j : Nat)], rfl, rfl, ?_, SqT.of upd_same, hlz, by simp, fun e => ?_, fun e q0 hq0 l0 kq0 => ?_⟩
    · exact Same.tle s1 b _ hbH
    · refine ⟨_, rfl, _, rfl, _, rfl, _, _, rfl, rfl, .inr ⟨by omega, by omega⟩, _, _, rfl, rfl, ?_⟩
      refine ⟨_, rfl, _, rfl, (i.at_ K).1, (i.at_ K).2, by rw [h1], .inr (tlH s1 _ _ h2), _, _, rfl, rfl, .inr ?_, ?_⟩
      · rw [h3.length]; constructor <;> omega
      · have ep : i.p = [] := by simpa [intVs] using e
        have := args l _ s1 hlN hlL hlK (by rw [upd_same, ep]; rfl)
        rw [h3.length]
        push_cast at this ⊢
        exact this
    · have s2 : Same H (upd (upd H l (.tup [.int (j : Nat)])) q0 (.tup (intVs i.p ++ [.int (j : Nat)]))) := s1.trans (Same.upd hq0)
      have n0 : H q0 = none := by
        cases w : H q0 with
        | none => rfl
        | some o => rw [s1 _ _ w] at hq0; cases hq0
      refine ⟨_, rfl, _, rfl, _, rfl, _, _, rfl, rfl, .inr ⟨by omega, by omega⟩, _, _, rfl, rfl, ?_⟩
      refine ⟨_, rfl, _, rfl, (i.at_ K).1, (i.at_ K).2, by rw [h1], .inr (tlH s2 _ _ h2), _, _, rfl, rfl, .inr ?_, ?_⟩
      · rw [h3.length]; constructor <;> omega
      · have := args q0 _ s2 n0 l0 kq0 (by rw [upd_same]; unfold intVs; rw [List.map_append]; rfl)
        rw [h3.length]
        push_cast at this ⊢
        exact this
  blt := T.n_enumerate
  glE := fun L => rfl
  c_arg := fun L pos => rfl
  c_dbg := by decide +kernel
  c_te := fun L => rfl
  c_co := rfl
theorem eps_rows (T : Top K mg) (M : Mod K mg base) {f : Addr} {fd : FuncData} {cd : Value} (tx : GText (gdEps P w K mg base f cd) ["tree", "path", "first", "step"] gb36.stmts fd) (bd : Binds K fd ["tree", "path", "first", "step"] []) (hm : mg "end_paths" = some (.ref f)) (kp : PySem.W.keepIn K (.ref f) = true) (t : Td.T) :
    ∀ i : PI, i.t = t → (famEps T M tx bd hm kp).rows i = t.eps i.p i.f i.s := by
  induction t using Td.T.ind with
  | h1 o =>
    intro i e
    have hl : i.leaf = true := by unfold EI.leaf; rw [e]
    rw [Fam.rows_leaf _ _ hl, T.eps]
    rfl
  | h2 ts ih =>
    intro i e
    have hl : i.leaf = false := by unfold EI.leaf; rw [e]
    have hk : i.kids = ts := by unfold EI.kids; rw [e]
    rw [Fam.rows_node _ _ hl, T.eps]
    have key : ∀ n j, j + n = ts.length → (famEps T M tx bd hm kp).from_ i j = epss (ts.drop j) i.p j (i.f + i.s * j) i.s (i.s * ts.length) := by
      intro n
      induction n with
      | zero =>
        intro j hj
        have hj : j = ts.length := by omega
        have e2 : (famEps T M tx bd hm kp).from_ i j = [] := by rw [hj, ← hk]; exact Fam.from_last _ i
        rw [e2, hj, List.drop_length, epss]
      | succ n ih2 =>
        intro j hj
        have hjl : j < ts.length := by omega
        rw [Fam.from_step _ i j (by show j < i.kids.length; rw [hk]; exact hjl), ih2 (j + 1) (by omega), List.drop_eq_getElem_cons hjl, epss]
        have ec : ((i.child K j)).t = ts[j] := by
          show i.kids.getD j _ = _
          rw [hk, List.getD_eq_getElem?_getD, List.getElem?_eq_getElem hjl]; rfl
        have := ih ts[j] (List.getElem_mem hjl) (i.child K j) ec
        have e3 : (famEps T M tx bd hm kp).rows ((famEps T M tx bd hm kp).child i j) = ts[j].eps (i.p ++ [j]) (i.f + i.s * j) (i.s * i.kids.length) := this
        rw [e3, hk, Nat.mul_add, Nat.mul_one, ← Nat.add_assoc]
    have := key ts.length 0 (by omega)
    rw [List.drop_zero, Nat.mul_zero, Nat.add_zero] at this
    exact this
end
/-- the call end_paths(e) -/
theorem pgen_eps {X : Cx} (T : Top X.K X.mg) (M : Mod X.K X.mg X.base) {a0 : Addr} (hk0 : KTup X.K a0 []) (E : GenAt X.K X.mg "end_paths" (topS 36) [.ref a0, .int 0, .int 1]) {k : Nat} {es : List Expr} {p pos : Pos} {t : TA} (hr : Room 0 X.A) (hg : Gl X "end_paths") (ha : PA2 X es t)
    (hl : (backTo pos (starEach es X.env)).any (·.1) = false := by rfl) : PGen2 X k (.Call (.Name "end_paths" p) es [] pos) (relP X.K) (fun _ => True) (fun σ H Q => t σ H fun vs H1 => ∃ (u : Td.T) (v : V), vs = [v] ∧ TVn X.K H1 u v ∧ u.lev ≤ 1000 ∧ 2 + 4 * u.lev ≤ k ∧ Q (u.eps [] 0 1) H1) := by
  obtain ⟨f, fd, F, hm⟩ := E.ex
  obtain ⟨ds, rds, bds⟩ := F.binds1 (ps := ["tree", "path", "first", "step"]) 1 0 (by simp) rfl (fun T kV doc pm an cdv ct us its h1 h2 => match us, its, h1, h2 with | [_], [_, _, _], _, _ => ⟨_, rfl, rfl⟩)
  obtain ⟨ds0, rds0, bds0⟩ := F.binds1 (ps := ["tree", "path", "first", "step"]) 4 3 (by simp) rfl (fun T kV doc pm an cdv ct us its h1 h2 => match us, its, h1, h2 with | [_, _, _, _], [_, _, _], _, _ => ⟨_, rfl, rfl⟩)
  obtain ⟨oc, od, dV, kV, doc, pm, an, cdv, ct, osl, e, lk, hcd, _, _⟩ := F.ex
  have e0 : ds0 = [] := by cases rds0; rfl
  subst e0
  have tx : GText (gdEps X.prog X.w X.K X.mg X.base f cdv) ["tree", "path", "first", "step"] gb36.stmts fd := ⟨⟨"end_paths", defArgs (topS 36), dV, kV, doc, pm, ct, oc, an, od, osl, e, e ▸ lk⟩, hcd, gsc_eps⟩
  have G := pgen2_call (k := k) (p := p) (pos := pos) (famEps T M tx bds0 hm F.kp) rfl rfl rfl rfl hr bds rds hg hm ha hl (by decide +kernel)
  refine ⟨fun pins s σ H Q I h => G.run pins s σ H Q I ?_⟩
  have e : (fun (vs : List V) (H1 : Hp) => ∃ (u : Td.T) (v : V), vs = [v] ∧ TVn X.K H1 u v ∧ u.lev ≤ 1000 ∧ 2 + 4 * u.lev ≤ k ∧ Q (u.eps [] 0 1) H1) =
      fun vs H1 => ∃ i, (famEps T M tx bds0 hm F.kp).Args i (vs ++ List.drop 0 [.ref a0, .int 0, .int 1]) (tupsOf H1) ∧ (famEps T M tx bds0 hm F.kp).k i ≤ k ∧ Q ((famEps T M tx bds0 hm F.kp).rows i) H1 := by
    funext vs H1
    refine propext ⟨?_, ?_⟩
    · rintro ⟨u, v, rfl, hv, hl, hk, q⟩
      refine ⟨⟨⟨u, v, 0, 1, tupsOf H1⟩, []⟩, ⟨a0, rfl, ⟨.inr hk0, fun xs kt => (ktup_fun kt hk0).mpr rfl⟩, by show 0 + u.lev ≤ 1000; omega, tvn_tupsOf.mpr hv, .self⟩, hk, ?_⟩
      rw [eps_rows T M tx bds0 hm F.kp u _ rfl]
      exact q
    · rintro ⟨i, ⟨b, e1, hp, hl, h1, h2⟩, hk, q⟩
      rw [eps_rows T M tx bds0 hm F.kp i.t i rfl] at q
      obtain ⟨⟨t, v, f, s, H0⟩, p⟩ := i
      have e1 : vs ++ [.ref a0, .int 0, .int 1] = [v, .ref b, .int (f : Nat), .int (s : Nat)] := e1
      obtain ⟨y, rfl⟩ : ∃ y, vs = [y] := by
        have := congrArg List.length e1
        simp at this
        exact List.length_eq_one_iff.mp this
      simp at e1
      obtain ⟨rfl, rfl, e2, e3⟩ := e1
      have e2 : f = 0 := by omega
      have e3 : s = 1 := by omega
      subst e2 e3
      have e4 : p = [] := by
        have := (hp.2 _ hk0).symm
        simpa [intVs] using this
      subst e4
      exact ⟨t, y, rfl, h1.le (h2.tle (tupsOf_le _)), (by have hl : 0 + t.lev ≤ 1000 := hl; omega), hk, q⟩
  rw [← e]
  exact h
end Td
end

section
set_option maxHeartbeats 1000000
/-! TdEq: is_equal, difference. -/
namespace Td
open PySem PySem.Spec PyProof.Rows L2 GenW
/-- a def that wakes generators, by its name -/
structure Cal2 (P : Program) (w : World) (K : PySem.W.Frag) (mg : Str → Option Value) (base : Heap) (k : Nat) (x : Str) (sp : Sp) : Prop where
  ex : ∃ (f : Addr) (fd : FuncData) (ps : List Str), FnOk2 P w K mg base k f fd ps sp ∧ mg x = some (.ref f) ∧ PySem.W.keepIn K (.ref f) = true ∧ Binds K fd ps []
section
variable {P : Program} {w : World} {K : PySem.W.Frag} {mg : Str → Option Value} {base : Heap}
theorem cal2_of {x : Str} {st : Stmt} {N ps : List Str} {k : Nat} {sp : Sp} (F : DefAt K mg x st) (S : FnScope N ps (defScope st))
    (hb : ∀ (kV doc pm : Value) (an : Option Addr) (cdv ct : Value) (us : List Value), us.length = ps.length → bindArgs (PySem.W.fnOf x x (defArgs st) (defBody st) (defScope st) .none kV doc pm an cdv ct) ⟨us, []⟩ = pure (ps.zip us))
    (len : ∀ vs H Q E, sp vs H Q E → vs.length = ps.length)
    (hbody : ∀ (f : Addr) (cdv : Value) (A : Around) (outer : List Env) (s : Shared) (H : Hp) (vs : List V) (Q : VK), PySem.W.codeIn K cdv x = true → Room k (A.deeper (envOfC x (defScope st) s.heap.objs.size f cdv)) → sp vs H Q (fun _ _ _ => False) →
      ∃ t, PSs2 (cxOf CX0 P w K mg base N x (defScope st) f cdv A outer (stuck s) H (fun _ _ _ => False)).nox (defBody st) t ∧ t { nx := fun _ H' => Q .non H', rt := Q } (L2.start N vs) H) : Cal2 P w K mg base (k + 1) x sp := by
  obtain ⟨f, oc, od, kV, doc, pm, an, cdv, ct, osl, hm, lk, hcd, kp⟩ := F.ex
  exact ⟨⟨f, _, ps, fn2_of lk hcd S len fun A outer s H vs Q hr hsp => hbody f cdv A outer s H vs Q hcd hr hsp, hm, kp, .all (hb kV doc pm an cdv ct)⟩⟩
end
section
variable {X : Cx} {k j : Nat} {x : Str} {sp : Sp} {p pos : Pos} {es : List Expr} {t : TA}
theorem FnOk2.mono {P : Program} {w : World} {K : PySem.W.Frag} {mg : Str → Option Value} {base : Heap} {k j : Nat} {f : Addr} {fd : FuncData} {ps : List Str} {sp : Sp} (F : FnOk2 P w K mg base k f fd ps sp) (h : k ≤ j) : FnOk2 P w K mg base j f fd ps sp :=
  ⟨F.len, fun A outer s H args us vs Q hr => F.run A outer s H args us vs Q (hr.mono h)⟩
theorem pe2_c (c : Cal2 X.prog X.w X.K X.mg X.base k x sp) (hr : Room j X.A) (hk : k ≤ j) (hg : Gl X x) (ha : PA2 X es t) (hl : (backTo pos (starEach es X.env)).any (·.1) = false := by rfl) (hdb : (x == ("__debug__" : Str)) = false := by decide) :
    PE2 X (.Call (.Name x p) es [] pos) (tCall sp [] (fun _ _ _ => False) t) := by
  obtain ⟨f, fd, ps, F, hm, kp, b⟩ := c.ex
  exact pe2_call F (hr.mono hk) hg hm kp b .nil ha hl hdb
end
/-- min(xs, default=d) of an empty list -/
theorem cr_minD0 {X : Cx} (hh : X.calm = true) (hu : X.A.units + 1 < cLine) : CallRK X (.builtin "min") [Str.ofString "default"] (fun vs zs H Q => ∃ a d, vs = [V.ref a] ∧ zs = [d] ∧ SqL X.K H a [] ∧ Q d H) := by
  intro pins s σ H xs zs us ws Q I r rz h
  obtain ⟨a, d, rfl, rfl, hs, q⟩ := h
  obtain ⟨its, rv, hl, _⟩ := I.list hs
  rw [Vals.ref1 r]
  obtain ⟨u, rfl, ru⟩ := vals1 rz
  cases rv
  exact PySem.W.min_list_default (xs := []) (as := []) (I.ok.hd hh) hl.isList (by first | exact .nil | exact True.intro | exact rfl) (by first | exact True.intro | exact .nil | (unfold PySem.W.AlikeAll; trivial) | simp [PySem.W.AlikeAll]) (by first | exact hu | (show X.A.units + 1 + 0 < cLine; exact hu)) (fun _ h' tk hk => ⟨d, H, I.kept hk, ru, q⟩) fun y ys i v h' tk bs e => by cases e
section
variable {P : Program} {w : World} {K : PySem.W.Frag} {mg : Str → Option Value} {base : Heap}
theorem sc_is_equal : FnScope ["one", "other", "first", "step", "owner", "row"] ["one", "other"] (defScope (topS 20)) := ⟨rfl, rfl, rfl, by decide +kernel, rfl, by decide +kernel, by decide +kernel⟩
theorem tupLe_same {Hg H H' : Hp} (t : TupLe Hg H) (s : Same H H') : TupLe Hg H' := fun b xs e => by
  rcases t b xs e with q | ⟨o, q⟩
  · exact .inl (s _ _ q)
  · exact .inr ⟨o, s _ _ q⟩
theorem tupLe_lst {Hg H : Hp} {D : Addr} {ys zs : List V} (t : TupLe Hg H) (h : H D = some (.lst ys)) : TupLe Hg (upd H D (.lst zs)) := fun b xs e => by
  rcases t b xs e with q | ⟨o, q⟩
  · exact .inl (by rw [upd_ne (fun z => by rw [z, h] at q; cases q)]; exact q)
  · exact .inr ⟨o, by rw [upd_ne (fun z => by rw [z, h] at q; cases q)]; exact q⟩
theorem same_upd {H H' : Hp} {D : Addr} {o : HO} (s : Same H H') (h : H D = none) : Same H (upd H' D o) := fun b u e => by rw [upd_ne (ne_of_none e h)]; exact s _ _ e
theorem tupLe_self {H : Hp} : TupLe (tupsOf H) H := tupsOf_le H
theorem all_bl {ys : List V} (h : ∀ y ∈ ys, y = .bl true) : ys = (List.replicate ys.length true).map V.bl := by
  rw [List.map_replicate]
  exact List.eq_replicate_iff.mpr ⟨rfl, h⟩
/-- rows that the loops see -/
theorem relE_row : ∀ (L : Nat) (Hg : Hp) r h v, relE r h v → RowT (fun r _ xs => xs = rowE r) r h v := fun _ _ _ _ _ q => q
def EqT (a b : Td.T) : Prop := ∀ r ∈ a.ends 0 1, ∀ q ∈ (b.taken r.1 r.2.1).ends 0 1, q.2.2 = r.2.2
/-- what a tree must be for the defs that take parts of it -/
structure TVb (K : PySem.W.Frag) (H : Hp) (t : Td.T) (v : V) : Prop where
  tv : TVn K H t v
  lev : t.lev ≤ 40
  ms : t.ms ≤ 2 ^ 40
theorem TVb.le {H H' : Hp} {t : Td.T} {v : V} (h : TVb K H t v) (l : TLe K H H') : TVb K H' t v := ⟨h.tv.le l, h.lev, h.ms⟩
theorem ends_pos (t : Td.T) : ∀ (f s : Nat), t.ok → 1 ≤ s → ∀ r ∈ t.ends f s, 1 ≤ r.2.1 := by
  induction t using Td.T.ind with
  | h1 o => intro f s _ hs r hr; rw [T.ends] at hr; rw [List.mem_singleton.mp hr]; exact hs
  | h2 ts ih =>
    intro f s ho hs r hr
    rw [T.ends] at hr
    have h2 := ok_node.mp ho
    have key : ∀ (us : List Td.T) (f w : Nat), (∀ u ∈ us, u ∈ ts) → 1 ≤ w → ∀ r ∈ endss us f s w, 1 ≤ r.2.1 := by
      intro us
      induction us with
      | nil => intro f w _ _ r hr; rw [endss] at hr; cases hr
      | cons u us ih2 =>
        intro f w hu hw r hr
        rw [endss] at hr
        rcases List.mem_append.mp hr with hr | hr
        · exact ih u (hu u List.mem_cons_self) _ _ (oks_mem h2.2 (hu u List.mem_cons_self)) hw r hr
        · exact ih2 _ _ (fun v hv => hu v (List.mem_cons_of_mem _ hv)) hw r hr
    exact key ts f _ (fun _ h => h) (Nat.mul_pos hs (by omega)) r hr
def spIsEqual (K : PySem.W.Frag) : Sp := fun vs H Q _ => ∃ (a b : Td.T) (v u : V), vs = [v, u] ∧ TVb K H a v ∧ TVb K H b u ∧ EqT a b ∧ (∀ f s, (b.taken f s).ok ∧ (b.taken f s).cnt ≤ 100000 ∧ (b.taken f s).lev ≤ 40) ∧ ∀ H', Same H H' → Q (.bl true) H'
theorem ok_is_equal (T : Top K mg) (M : Mod K mg base) (E : GenAt K mg "ends" (topS 16) [.int 0, .int 1]) : Cal2 P w K mg base 220 "is_equal" (spIsEqual K) := by
  have c_taken : C8.Cal P w K mg base 43 "taken" (spTaken K 41) [] := ok_taken T 41
  refine cal2_of T.d_is_equal sc_is_equal (fun _ _ _ _ _ _ us hl => match us, hl with | [_, _], _ => rfl) (fun vs H Q E h => ?_) fun f cdv A outer sh H vs Q _ hr h => ?_
  · obtain ⟨a, b, v, u, rfl, _⟩ := h; rfl
  · obtain ⟨a, b, v, u, rfl, ha, hb, he, hbt, k⟩ := h
    refine ⟨_, pss2_cons (ps2_forGen (k := 200) (RowP := fun r xs => xs = rowE r) (fun _ _ z => z) rfl (hr.mono (by omega)) relE_row (fun _ h => h) (pgen_ends T M E (hr.mono (by omega)) rfl (pa2_of (fun _ _ z => z) (pa_cons (pv 0) pa_nil)))
      (pg_tup (by rfl) (pgs_cons (pg_name (i := 2) sc_is_equal.nd rfl (by first | exact Or.inl rfl | exact Or.inr rfl)) (pgs_cons (pg_name (i := 3) sc_is_equal.nd rfl (by first | exact Or.inl rfl | exact Or.inr rfl)) (pgs_cons (pg_name (i := 4) sc_is_equal.nd rfl (by first | exact Or.inl rfl | exact Or.inr rfl)) pgs_nil))))
      (pss2_one (ps2_if (pt2_not (pt2_val (pe2_callB (fun _ _ z => z) (cr_all rfl) (by rfl) T.n_all (by decide +kernel) (pa2_cons (pe2_lcGen (k := 200) (RowP := fun r xs => xs = rowE r) (own := [("row", 5)]) (te := tOp rEq (tOp (rIxT K) (tVar 5) (tC (.int 2))) (tVar 4)) (fun _ _ z => z) rfl sc_is_equal.nd (hr.mono (by omega)) relE_row (fun _ h => h)
        (pgen_ends T M E (hr.mono (by omega)) rfl (pa2_of (fun _ _ z => z) (pa_cons (C8.pe_c c_taken hr (by omega) rfl (pa_cons (pv 1) (pa_cons (pv 2) (pa_cons (pv 3) pa_nil)))) pa_nil)))
        (blkOk_by (own := [("row", 5)]) (N := ["one", "other", "first", "step", "owner", "row"]) (sc := defScope (topS 20)) (by decide +kernel)) (fun _ _ _ _ _ => pg_name (i := 5) sc_is_equal.nd rfl (by first | exact Or.inl rfl | exact Or.inr rfl))
        (fun _ _ _ _ _ => pe_cmpR op_eq (pe_ix ix_tup (pv 5) pe_int (fun _ _ => rfl)) (pv 4) (nomark _))) pa2_nil))))
        (pss2_of (fun _ _ z => z) (pss_one (ps_ret pe_bl))) pss2_nil))) (pss2_one (ps2_of (fun _ _ z => z) (ps_ret pe_bl))), ?_⟩
    refine ⟨_, rfl, a, v, rfl, ha.tv, by have := ha.lev; omega, fun i σ H' => Same H H' ∧ ∃ x y z r, σ = [some v, some u, x, y, z, r], ⟨.refl H, _, _, _, _, rfl⟩, fun i σ H' _ p => tupLe_same tupLe_self p.1, ?_, ?_⟩
    · rintro i r σ H1 hr1 ⟨t1, x, y, z, r0, rfl⟩ T0 xs hT rfl
      have hmem : r ∈ a.ends 0 1 := List.mem_of_getElem? hr1
      have s1 : Same H1 (upd H1 T0 (.tup (rowE r))) := Same.upd hT
      refine ⟨T0, _, rfl, SqT.of upd_same, rfl, _, _, rfl, _, _, rfl, _, _, rfl, rfl, ?_⟩
      refine ⟨_, rfl, _, rfl, _, rfl, b, u, r.1, r.2.1, rfl, (hb.le (Same.tle (t1.trans s1))).tv, by have := hb.lev; omega, ends_pos a 0 1 ha.tv.ok (Nat.le_refl _) r hmem, fun v2 H2 s2 hv2 => ?_⟩
      obtain ⟨k1, k2, k3⟩ := hbt r.1 r.2.1
      refine ⟨b.taken r.1 r.2.1, v2, rfl, ⟨hv2, k1, k2⟩, by omega, fun D hD => ?_⟩
      have t2 : Same H2 (upd H2 D (.lst [])) := Same.upd hD
      refine ⟨fun i H' => Same H2 H' ∧ ∃ acc, H' D = some (.lst acc) ∧ acc.length = i ∧ ∀ y ∈ acc, y = .bl true, ⟨t2, [], upd_same, rfl, fun y hy => by cases hy⟩, fun i H' _ p => tupLe_same tupLe_self p.1, ?_, ?_⟩
      · rintro i q H3 hq ⟨t3, acc, e1, e2, e3⟩ T1 xs hT1 rfl
        have s3 : Same H3 (upd H3 T1 (.tup (rowE q))) := Same.upd hT1
        have hqm : q ∈ (b.taken r.1 r.2.1).ends 0 1 := List.mem_of_getElem? hq
        have hqr := he r hmem q hqm
        refine ⟨rfl, _, rfl, T1, _, _, _, rfl, rfl, SqT.of upd_same, atI_nat (j := 2) rfl, _, rfl, rfl, acc, s3 _ _ e1, ?_, same_upd (t3.trans s3) hD, _, upd_same, by simp [e2], ?_⟩
        · have h1 := (List.getElem?_eq_some_iff.mp hq).1
          rw [ends_len] at h1
          rw [e2]
          exact Nat.lt_of_lt_of_le (by omega) size5'
        · intro y hy
          rcases List.mem_append.mp hy with hy | hy
          · exact e3 y hy
          · rw [List.mem_singleton.mp hy, hqr]; simp
      · rintro H3 ⟨t3, acc, e1, e2, e3⟩
        refine ⟨D, List.replicate acc.length true, rfl, by rw [← all_bl e3]; exact SqL.of e1, ?_⟩
        have hand : (List.replicate acc.length true).all id = true := by simp
        rw [hand]
        refine ⟨_, rfl, iteF ?_⟩
        exact ⟨(t1.trans (s1.trans s2)).trans t3, _, _, _, _, rfl⟩
    · rintro σ H1 ⟨t1, x, y, z, r0, rfl⟩
      exact k _ t1
theorem sc_difference : FnScope ["one", "other", "found", "first", "step", "owner", "number", "width", "second"] ["one", "other"] (defScope (topS 21)) := ⟨rfl, rfl, rfl, by decide +kernel, rfl, by decide +kernel, by decide +kernel⟩
def spDifference (K : PySem.W.Frag) : Sp := fun vs H Q _ => ∃ (a b : Td.T) (v u : V), vs = [v, u] ∧ TVb K H a v ∧ TVb K H b u ∧ EqT a b ∧ (∀ f s, (b.taken f s).ok ∧ (b.taken f s).cnt ≤ 100000 ∧ (b.taken f s).lev ≤ 40) ∧ ∀ H', Same H H' → Q .non H'
theorem ok_difference (T : Top K mg) (M : Mod K mg base) (E : GenAt K mg "ends" (topS 16) [.int 0, .int 1]) : Cal2 P w K mg base 220 "difference" (spDifference K) := by
  have c_taken : C8.Cal P w K mg base 43 "taken" (spTaken K 41) [] := ok_taken T 41
  refine cal2_of T.d_difference sc_difference (fun _ _ _ _ _ _ us hl => match us, hl with | [_, _], _ => rfl) (fun vs H Q E h => ?_) fun f cdv A outer sh H vs Q _ hr h => ?_
  · obtain ⟨a, b, v, u, rfl, _⟩ := h; rfl
  · obtain ⟨a, b, v, u, rfl, ha, hb, he, hbt, k⟩ := h
    refine ⟨_, pss2_cons (ps2_of (fun _ _ z => z) (ps_set (i := 2) sc_difference.nd rfl (by first | exact Or.inl rfl | exact Or.inr rfl) (pe_lst pa_nil)))
      (pss2_cons (ps2_forGen (k := 200) (RowP := fun r xs => xs = rowE r) (fun _ _ z => z) rfl (hr.mono (by omega)) relE_row (fun _ h => h) (pgen_ends T M E (hr.mono (by omega)) rfl (pa2_of (fun _ _ z => z) (pa_cons (pv 0) pa_nil)))
      (pg_tup (by rfl) (pgs_cons (pg_name (i := 3) sc_difference.nd rfl (by first | exact Or.inl rfl | exact Or.inr rfl)) (pgs_cons (pg_name (i := 4) sc_difference.nd rfl (by first | exact Or.inl rfl | exact Or.inr rfl)) (pgs_cons (pg_name (i := 5) sc_difference.nd rfl (by first | exact Or.inl rfl | exact Or.inr rfl)) pgs_nil))))
      (pss2_one (ps2_forGen (k := 200) (RowP := fun r xs => xs = rowE r) (fun _ _ z => z) rfl (hr.mono (by omega)) relE_row (fun _ h => h) (pgen_ends T M E (hr.mono (by omega)) rfl (pa2_of (fun _ _ z => z) (pa_cons (C8.pe_c c_taken hr (by omega) rfl (pa_cons (pv 1) (pa_cons (pv 3) (pa_cons (pv 4) pa_nil)))) pa_nil)))
        (pg_tup (by rfl) (pgs_cons (pg_name (i := 6) sc_difference.nd rfl (by first | exact Or.inl rfl | exact Or.inr rfl)) (pgs_cons (pg_name (i := 7) sc_difference.nd rfl (by first | exact Or.inl rfl | exact Or.inr rfl)) (pgs_cons (pg_name (i := 8) sc_difference.nd rfl (by first | exact Or.inl rfl | exact Or.inr rfl)) pgs_nil))))
        (pss2_of (fun _ _ z => z) (pss_one (ps_if (pt_cmpR op_ne (pv 8) (pv 5) (nomark _)) (pss_one (ps_expr (pe_bm PySem.F.plainAttrs_list PySem.F.slot_list_append PySem.F.type_list_append mt_append (pv 2) (pa_cons (pe_op op_add (pv 3) (pe_op op_mul (pv 4) (pv 6))) pa_nil)))) pss_nil))))))
      (pss2_one (ps2_of (fun _ _ z => z) (ps_ret (pe_callBK (cr_minD0 rfl (hu_of hr)) (by rfl) T.n_min (by decide +kernel) (pa_cons (pv 2) pa_nil) (pk_cons pe_non pk_nil)))))), ?_⟩
    refine ⟨Nat.zero_le _, fun D0 hD0 => ?_⟩
    have s0 : Same H (upd H D0 (.lst [])) := Same.upd hD0
    refine ⟨_, rfl, a, v, rfl, (ha.le (Same.tle s0)).tv, by have := ha.lev; omega, fun i σ H' => Same (upd H D0 (.lst [])) H' ∧ ∃ x y z n m q, σ = [some v, some u, some (.ref D0), x, y, z, n, m, q], ⟨.refl _, _, _, _, _, _, _, rfl⟩, fun i σ H' _ p => tupLe_same tupLe_self p.1, ?_, ?_⟩
    · rintro i r σ H1 hr1 ⟨t1, x, y, z, n, m, q0, rfl⟩ T0 xs hT rfl
      have hmem : r ∈ a.ends 0 1 := List.mem_of_getElem? hr1
      have s1 : Same H1 (upd H1 T0 (.tup (rowE r))) := Same.upd hT
      refine ⟨T0, _, rfl, SqT.of upd_same, rfl, _, _, rfl, _, _, rfl, _, _, rfl, rfl, ?_⟩
      refine ⟨_, rfl, _, rfl, _, rfl, b, u, r.1, r.2.1, rfl, (hb.le (Same.tle (s0.trans (t1.trans s1)))).tv, by have := hb.lev; omega, ends_pos a 0 1 ha.tv.ok (Nat.le_refl _) r hmem, fun v2 H2 s2 hv2 => ?_⟩
      obtain ⟨k1, k2, k3⟩ := hbt r.1 r.2.1
      refine ⟨b.taken r.1 r.2.1, v2, rfl, ⟨hv2, k1, k2⟩, by omega, fun i σ H' => Same H2 H' ∧ ∃ n m q, σ = [some v, some u, some (.ref D0), some (.int (r.1 : Nat)), some (.int (r.2.1 : Nat)), some (.str r.2.2), n, m, q], ⟨.refl _, _, _, _, rfl⟩, fun i σ H' _ p => tupLe_same tupLe_self p.1, ?_, ?_⟩
      · rintro i q σ H3 hq ⟨t3, n, m, q0, rfl⟩ T1 xs hT1 rfl
        have s3 : Same H3 (upd H3 T1 (.tup (rowE q))) := Same.upd hT1
        have hqr := he r hmem q (List.mem_of_getElem? hq)
        refine ⟨T1, _, rfl, SqT.of upd_same, rfl, _, _, rfl, _, _, rfl, _, _, rfl, rfl, ?_⟩
        refine ⟨_, rfl, _, rfl, rfl, _, rfl, ?_⟩
        refine iteNS (by rw [hqr]) ?_
        exact ⟨t3.trans s3, _, _, _, rfl⟩
      · rintro σ H3 ⟨t3, n, m, q0, rfl⟩
        exact ⟨(t1.trans (s1.trans s2)).trans t3, _, _, _, _, _, _, rfl⟩
    · rintro σ H1 ⟨t1, x, y, z, n, m, q, rfl⟩
      refine ⟨_, rfl, D0, .non, rfl, rfl, SqL.of (t1 _ _ upd_same), ?_⟩
      exact k _ (s0.trans t1)
end
end Td
end

section
set_option maxHeartbeats 2000000
/-! TdLam: sorted by a lambda that swaps two numbers of a row. -/
namespace Td
open PySem PySem.Spec PyProof.Rows L2
/-- (row[1], row[0]) -/
def keyB (p1 p2 p3 p4 p5 p6 p7 : Pos) (k1 k2 k3 : Nat) : Expr := .Tuple [.Subscript (.Name "row" p1) (.Constant (.int 1) k1 p2) p3, .Subscript (.Name "row" p4) (.Constant (.int 0) k2 p5) p6] k3 p7
section
variable {prog : Program} {w : World} {A : Around} {s : Shared} {E : Value → Shared → Prop}
theorem row_ix {env : Env} {m : Str → Option Value} {T : Addr} {its : Array Value} {v : Value} {i : Nat} {p1 p2 p3 : Pos} {k1 : Nat} {Q : Value → Shared → Prop} (hk : env.scope.kind = .function) (hl : env.scope.names.lookup ("row" : Str) = some .local) (hn : s.heap.Ns env.locals m) (hm : m "row" = some (.ref T))
    (ht : IsTup s.heap T its) (hi : its[i]? = some v) (hi2 : i < 1000) (q : ∀ t, Q v { s with toks := t }) : wpAny (model prog w) A (eval (.Subscript (.Name "row" p1) (.Constant (.int (i : Nat)) k1 p2) p3) env) Q E s := by
  refine Subscript_ (wpAny_Name (wpAny_loadName_local hk hl hn hm ?_) (by decide +kernel))
  refine wpAny_Constant_int ?_
  have ht2 : IsTup ({ s with toks := s.toks + 1 } : Shared).heap T its := ht
  have hz : i < its.size := (Array.getElem?_eq_some_iff.mp hi).1
  refine subscriptTail_builtinR (s := { s with toks := s.toks + 1 }) (x := v) (T := "tuple") (id := "tuple.__getitem__") ht2.typeIs slot_tuple_getitem.lookup (getItem_tuple (s := { s with toks := s.toks + 1 }) (j := i) (Q := fun r s' => r = v ∧ Q r s') ht2 (by omega) (by omega) (seqIndex_of (by omega) (by omega)) hi ⟨rfl, q _⟩) rfl
theorem key_turn {f c' T : Addr} {qual : Str} {params : Arguments} {scope : Scope} {cl : List (Str × Addr)} {pm ctv y z : Value} {i j : Int} {t u : Tok} {p1 p2 p3 p4 p5 p6 p7 : Pos} {k1 k2 k3 : Nat} (hroom : A.depth < recursionLimit)
    (ho : s.heap.get? f = some (PySem.W.kla_obj "<lambda>" qual params (keyB p1 p2 p3 p4 p5 p6 p7 k1 k2 k3) scope cl pm c' ctv)) (hcd : s.heap.CodeRec (.ref c') qual) (hlim : s.heap.NoLimit) (hk : scope.kind = .function) (hco : scope.isCoroutine = false) (hgen : scope.isGenerator = false)
    (hcell : ∀ x ∈ scope.names, x.2 ≠ .cell) (hrow : scope.names.lookup ("row" : Str) = some .local) (hbind : ∀ v : Value, bindArgs (PySem.W.kla_fn "<lambda>" qual params (keyB p1 p2 p3 p4 p5 p6 p7 k1 k2 k3) scope cl pm (.ref c') ctv) ⟨[v], []⟩ = pure [(("row" : Str), v)])
    (ht : IsTup s.heap T #[.int i t, .int j u, y, z]) : wpAny (model prog w) A (call (.ref f) [.ref T]) (PySem.W.KeyPure (.tuple [.int j, .int i]) s) (fun _ _ => False) s := by
  have rc : codeAny (model prog w) A (.call (.ref f) ⟨[.ref T], []⟩) (fun r s' => ∃ u, r = .ok (.ret u) ∧ PySem.W.KeyPure (.tuple [.int j, .int i]) s u s') s := by
    refine PySem.W.kla_callFunE hroom ho rfl hco hgen rfl hcd ?_
    rw [hbind]
    refine wpAny_pure (wpAny_newFunctionEnv hcell (fun x hx => by rw [List.mem_singleton.mp hx]; exact hrow) (fun h₁ hns hsb => ⟨hlim.fresh _ hsb, ?_⟩) hk)
    have kp : ∀ b o, s.heap.get? b = some o → h₁.get? b = some o := fun b o e => hsb.extBut b o (Nat.ne_of_lt (Heap.lt_size e)) (Heap.get?_push_of_some _ e)
    refine PySem.W.kla_codeExpr ?_
    unfold keyB
    have ht1 : IsTup h₁ T #[.int i t, .int j u, y, z] := by
      obtain ⟨o, h1, h2⟩ := ht
      exact ⟨o, kp _ _ h1, h2⟩
    refine wpAny_Tuple_spliced (spliced_more (row_ix (i := 1) hk hrow hns rfl ht1 rfl (by omega) fun t1 => ?_))
    refine spliced_more (row_ix (i := 0) hk hrow hns rfl ht1 rfl (by omega) fun t2 => ?_)
    refine spliced_none ⟨by show 2 ≤ sizeLine; rw [sizeLine_eq]; decide, _, rfl, ?_⟩
    refine ⟨_, _, rfl, fun b o e => Heap.get?_push_of_some _ (kp b o e), ?_⟩
    exact .tuple (Heap.get?_push_size _ rfl) rfl rfl (.cons (as := []) (.int _ _) (.cons (as := []) (.int _ _) .nil))
  refine wpAny_call (codeAny_mono rc fun r s' hq => ?_)
  obtain ⟨u, rfl, h⟩ := hq
  exact h
end
def tSortLam (K : PySem.W.Frag) (T : List (Addr × Str)) (te : TE) : TE := fun σ H Q => te σ H fun x H0 => LamX.Tabs T H0 ∧ ∃ (l : Addr) (xs : List V), x = .ref l ∧ SqL K H0 l xs ∧ (∀ x ∈ xs, ∃ t i j y z, x = V.ref t ∧ H0 t = some (.tup [.int i, .int j, y, z])) ∧
  ∀ (H1 : Hp) (ys : List V) (p : Addr), LamX.ExtN H0 H1 → LamX.Tabs T H1 → ys.Perm xs → H1 p = none → Q (.ref p) (upd H1 p (.lst ys))
theorem eachIs_fst {R : Value → Value × Int × Int → Prop} (h : ∀ v x, R v x → v = x.1) : ∀ {out : List Value} {bs : List (Value × Int × Int)}, PySem.W.EachIs R out bs → out = bs.map (·.1)
  | _, _, .nil => rfl
  | _, _, .cons a b => by rw [List.map_cons, h _ _ a, eachIs_fst h b]
theorem pe_sortLam {X : Cx} {e : Expr} {te : TE} {T : List (Addr × Str)} {c P : Addr} {params : Arguments} {scope : Scope} {p pos kpos lpos p1 p2 p3 p4 p5 p6 p7 : Pos} {k1 k2 k3 k : Nat} (TB : LamX.TabB X.base X.mg c P) (hcode : X.env.code = .ref c) (hmT : (P, X.env.qual ++ "<lambda>") ∈ T)
    (hu : ∀ q ∈ T, q.1 = P → q.2 = X.env.qual ++ "<lambda>") (hr : Room k X.A) (hdef : defaultsOf params X.env = ([], [])) (hfree : ∀ y ∈ scope.names, y.2 = .free → ∃ c, X.env.cells.lookup y.1 = some c) (hk : scope.kind = .function) (hco : scope.isCoroutine = false) (hgen : scope.isGenerator = false)
    (hcell : ∀ x ∈ scope.names, x.2 ≠ .cell) (hrow : scope.names.lookup ("row" : Str) = some .local) (hbind : ∀ (cl : List (Str × Addr)) (pm ctv cv v : Value), bindArgs (PySem.W.kla_fn "<lambda>" (X.env.qual ++ "<lambda>") params (keyB p1 p2 p3 p4 p5 p6 p7 k1 k2 k3) scope cl pm cv ctv) ⟨[v], []⟩ = pure [(("row" : Str), v)])
    (hg : Gl X "sorted") (hm : X.mg "sorted" = none) (he : PE X e te)
    (hst : backTo pos (starEach [e] X.env) = [(false, eval e X.env)] := by rfl) :
    PE X (.Call (.Name "sorted" p) [e] [⟨some "key", .Lambda params (keyB p1 p2 p3 p4 p5 p6 p7 k1 k2 k3) scope lpos, kpos⟩] pos) (tSortLam X.K T te) := by
  refine ⟨fun pins s σ H Q I h => ?_⟩
  have hv : bootBuiltins ("sorted" : Str) = some (.builtin "sorted") := by decide +kernel
  refine wpAny_Call_Name_kw (ld_blt I hg hm hv ?_ (by decide +kernel) (by decide +kernel))
  refine PyProof.Rows.callWith_kw ?_ (by rw [hst] <;> rfl) (by rw [hst] <;> rfl) rfl rfl
  rw [hst]
  refine Calls.spliced_cons (thn (he.run pins s σ H _ I h) fun u s1 ⟨x, H0, I0, r1, hT, l, xs, e1, hs, hx, q⟩ => Calls.spliced_nil ?_)
  subst e1
  obtain rfl : u = Value.ref l := r1
  show wpAny _ _ (evalAll [(do let v ← eval (.Lambda params (keyB p1 p2 p3 p4 p5 p6 p7 k1 k2 k3) scope lpos) X.env; standAt pos; pure v)]) _ _ s1
  refine wpAny_evalAll_cons (wpAny_bind (LamX.lam_make2 I0 TB hcode hmT hu hT hdef hfree fun f c' pm ctv H1 s' I1 hE hT1 hf hfn hfr hc' => wpAny_bind (wpAny_standAt (wpAny_pure (wpAny_evalAll_nil ?_)))))
  show wpAny _ _ (call (.builtin "sorted") [.ref l] [(Str.ofString "key", .ref f)]) _ _ s'
  have hs1 : SqL X.K H1 l xs := by
    rcases hs with (z | ⟨o, z⟩) | z
    · exact .inl (.inl (hE _ _ z (fun ps w => by cases w)))
    · exact .inl (.inr ⟨o, hE _ _ z (fun ps w => by cases w)⟩)
    · exact .inr z
  obtain ⟨its, rv, hl, hz⟩ := I1.list hs1
  obtain ⟨e2, e3⟩ := refs_back rv fun x m => by
    obtain ⟨t, _, _, _, _, e, _⟩ := hx x m
    exact ⟨t, e⟩
  have facts : ∀ v ∈ its, ∃ (T : Addr) (i j : Int) (t u : Tok) (y z : Value), v = .ref T ∧ IsTup s'.heap T #[.int i t, .int j u, y, z] := fun v hv => by
    obtain ⟨t, rfl⟩ := e3 v hv
    have hm : V.ref t ∈ xs := by rw [e2]; exact List.mem_map.mpr ⟨_, hv, rfl⟩
    obtain ⟨t', i, j, y, z, e, ht⟩ := hx _ hm
    cases e
    obtain ⟨_, its2, r2, ht2⟩ := I1.hok _ _ (hE _ _ ht (fun ps w => by cases w))
    cases r2 with
    | cons a1 r2 =>
      cases r2 with
      | cons a2 r2 =>
        cases r2 with
        | cons a3 r2 =>
          cases r2 with
          | cons a4 r2 =>
            cases r2
            obtain ⟨t1, rfl⟩ := a1
            obtain ⟨t2, rfl⟩ := a2
            exact ⟨t, i, j, t1, t2, _, _, rfl, ht2⟩
  obtain ⟨⟨oc, cvs, tq, hoc, hdc, hvc⟩, _, _⟩ := I1.hok c' _ hc'
  -- with each item its numbers
  have bsx : ∃ bs : List (Value × Int × Int), bs.map (·.1) = its ∧ ∀ b ∈ bs, ∃ (T : Addr) (t u : Tok) (y z : Value), b.1 = .ref T ∧ IsTup s'.heap T #[.int b.2.1 t, .int b.2.2 u, y, z] := by
    have key : ∀ vs : List Value, (∀ v ∈ vs, v ∈ its) → ∃ bs : List (Value × Int × Int), bs.map (·.1) = vs ∧ ∀ b ∈ bs, ∃ (T : Addr) (t u : Tok) (y z : Value), b.1 = .ref T ∧ IsTup s'.heap T #[.int b.2.1 t, .int b.2.2 u, y, z] := by
      intro vs
      induction vs with
      | nil => intro _; exact ⟨[], rfl, fun b hb => by cases hb⟩
      | cons v vs ih =>
        intro hv
        obtain ⟨bs, e, hb⟩ := ih fun v' h' => hv v' (List.mem_cons_of_mem _ h')
        obtain ⟨T0, i, j, t, u, y, z, ev, ht⟩ := facts v (hv v List.mem_cons_self)
        refine ⟨(v, i, j) :: bs, by rw [List.map_cons, e], fun b hb' => ?_⟩
        rcases List.mem_cons.mp hb' with rfl | hb'
        · exact ⟨T0, t, u, y, z, ev, ht⟩
        · exact hb b hb'
    exact key its fun _ h => h
  obtain ⟨bs, ebs, hbs⟩ := bsx
  have hlen : bs.length = its.length := by rw [← ebs, List.length_map]
  have hlz : its.length ≤ sizeLine := by rw [← rv.length]; exact hz
  refine PySem.W.sorted_key_data (s := s') (f := .ref f) (b := false) (vs := its) (bs := bs) (R := fun v x => v = x.1 ∧ ∃ (T : Addr) (t u : Tok) (y z : Value), x.1 = .ref T ∧ IsTup s'.heap T #[.int x.2.1 t, .int x.2.2 u, y, z]) (fun x => .tuple [.int x.2.2, .int x.2.1]) hl.isList ?_ ?_ ?_ (by rw [hlen]; exact hlz) ?_ (PyProof.Rows.ksk_s1 _ _) (fun _ => PyProof.Rows.ksk_l1 _ _) (fun _ => PyProof.Rows.ksk_t1 _ _) ?_ ?_
  · have key : ∀ bs : List (Value × Int × Int), (∀ b ∈ bs, ∃ (T : Addr) (t u : Tok) (y z : Value), b.1 = .ref T ∧ IsTup s'.heap T #[.int b.2.1 t, .int b.2.2 u, y, z]) → PySem.W.EachIs (fun v x => v = x.1 ∧ ∃ (T : Addr) (t u : Tok) (y z : Value), x.1 = .ref T ∧ IsTup s'.heap T #[.int x.2.1 t, .int x.2.2 u, y, z]) (bs.map (·.1)) bs := by
      intro bs
      induction bs with
      | nil => intro _; exact .nil
      | cons b bs ih => intro h; exact .cons ⟨rfl, h b List.mem_cons_self⟩ (ih fun b' h' => h b' (List.mem_cons_of_mem _ h'))
    rw [← ebs]
    exact key bs hbs
  · intro d hd d' hd'
    obtain ⟨x, _, rfl⟩ := List.mem_map.mp hd
    obtain ⟨y, _, rfl⟩ := List.mem_map.mp hd'
    simp [PySem.W.alike, PySem.W.alikeAll]
  · refine .inl fun d hd => ?_
    obtain ⟨x, _, rfl⟩ := List.mem_map.mp hd
    exact ⟨_, _, rfl⟩
  · intro x _
    have : (PyData.tuple [.int x.2.2, .int x.2.1]).depth ≤ 10 := by simp [PyData.depth, PyData.depthAll]
    have := hr.un
    omega
  · rintro v x ⟨e, T0, t, u, y, z, ev, ht⟩ _ hh tk hk2
    rw [e, ev]
    have ht2 : IsTup hh T0 #[.int x.2.1 t, .int x.2.2 u, y, z] := by
      obtain ⟨o, h1, h2⟩ := ht
      exact ⟨o, hk2 _ _ h1, h2⟩
    exact key_turn (s := { s' with heap := hh, toks := tk }) hr.depth (hk2 _ _ hf) ⟨c', oc, cvs, tq, rfl, hk2 _ _ hoc, hdc, hvc⟩ (I1.nolimit.keeps hk2) hk hco hgen hcell hrow (fun v => hbind _ _ _ _ v) ht2
  · intro out cc h' tk hk2 hn ho hol hR
    have eo : out = (bs.mergeSort (PySem.W.dataLe false fun x => .tuple [.int x.2.2, .int x.2.1])).map (·.1) := eachIs_fst (fun v x h => h.1) hR
    have hperm : out.Perm its := by rw [eo, ← ebs]; exact (List.mergeSort_perm _ _).map _
    have e4 : ∀ u ∈ out, ∃ a, u = Value.ref a := fun u hu => e3 u (hperm.mem_iff.mp hu)
    refine ⟨.ref _, upd H1 (s'.heap.objs.size + 1) (.lst (out.map backV)), I1.laid hk2 (Nat.le_succ _) ⟨?_, out, cc, vals_back e4, ho⟩, rfl, q H1 _ _ hE hT1 ?_ (I1.hok.fresh (Nat.le_succ _))⟩
    · rw [List.length_map, hperm.length_eq]; exact hlz
    · rw [e2]; exact hperm.map backV
end Td
end

section
set_option maxHeartbeats 2000000
/-! TdCom: common. -/
namespace Td
open PySem PySem.Spec PyProof.Rows L2 GenW
/-- the def common, with its code object at c -/
structure ComAt (K : PySem.W.Frag) (mg : Str → Option Value) (c : Addr) : Prop where
  ex : ∃ (f : Addr) (oc : Value) (od : Option Addr) (kV doc pm : Value) (an : Option Addr) (ct : Value) (osl : Array (Option Value)), mg "common" = some (.ref f) ∧
    K.lookup f = some ⟨oc, od, .func (PySem.W.fnOf "common" "common" (defArgs (topS 35)) (defBody (topS 35)) (defScope (topS 35)) .none kV doc pm an (.ref c) ct), osl⟩ ∧ PySem.W.codeIn K (.ref c) "common" = true ∧ PySem.W.keepIn K (.ref f) = true
def lamQ : Str := "common.<locals>.<lambda>"
theorem lamQ_eq : (("common" : Str) ++ (".<locals>." : Str)) ++ ("<lambda>" : Str) = lamQ := by decide +kernel
/-- the table of common's code object -/
abbrev TabC (P : Addr) : List (Addr × Str) := [(P, lamQ)]
theorem ExtN.same {H H' : Hp} (s : Same H H') : LamX.ExtN H H' := fun b o e _ => s b o e
theorem extN_tle {K : PySem.W.Frag} {H H' : Hp} (e : LamX.ExtN H H') : TLe K H H' := fun a xs h => by
  rcases h with (h | ⟨o, h⟩) | h
  · exact .inl (.inl (e _ _ h fun ps z => by cases z))
  · exact .inl (.inr ⟨o, e _ _ h fun ps z => by cases z⟩)
  · exact .inr h
/-- a row of common -/
def rowC (r : Nat × Nat × Str × Str) : List V := [.int (r.1 : Nat), .int (r.2.1 : Nat), .str r.2.2.1, .str r.2.2.2]
section
variable {P : Program} {w : World} {K : PySem.W.Frag} {mg : Str → Option Value} {base : Heap}
theorem sc_common : FnScope ["one", "other", "found", "first", "step", "left", "number", "width", "right"] ["one", "other"] (defScope (topS 35)) := ⟨rfl, rfl, rfl, by decide +kernel, rfl, by decide +kernel, by decide +kernel⟩
def spCommon (K : PySem.W.Frag) (Pt : Addr) : Sp := fun vs H Q _ => ∃ (a b : Td.T) (v u : V), vs = [v, u] ∧ TVb K H a v ∧ TVb K H b u ∧ (cmn a b).length ≤ 100000 ∧ LamX.Tabs (TabC Pt) H ∧ (∀ f s, (b.taken f s).ok ∧ (b.taken f s).cnt ≤ 100000 ∧ (b.taken f s).lev ≤ 40) ∧
  ∀ (H' : Hp) (p : Addr) (ys : List V), LamX.ExtN H H' → LamX.Tabs (TabC Pt) H' → H' p = some (.lst ys) → ys.length = (cmn a b).length → (∀ y ∈ ys, ∃ t r, y = V.ref t ∧ r ∈ cmn a b ∧ H' t = some (.tup (rowC r))) → Q (.ref p) H'
theorem ok_common (T : Top K mg) (M : Mod K mg base) (E : GenAt K mg "ends" (topS 16) [.int 0, .int 1]) {c Pt : Addr} (CA : ComAt K mg c) (TB : LamX.TabB base mg c Pt) : Cal2 P w K mg base 220 "common" (spCommon K Pt) := by
  have c_taken : C8.Cal P w K mg base 43 "taken" (spTaken K 41) [] := ok_taken T 41
  obtain ⟨f, oc, od, kV, doc, pm, an, ct, osl, hm, lk, hcd, kp⟩ := CA.ex
  refine ⟨⟨f, _, ["one", "other"], fn2_of lk hcd sc_common (fun vs H Q E h => ?_) fun A outer sh H vs Q hr h => ?_, hm, kp, .all fun us hl => match us, hl with | [_, _], _ => rfl⟩⟩
  · obtain ⟨a, b, v, u, rfl, _⟩ := h; rfl
  · obtain ⟨a, b, v, u, rfl, ha, hb, hlen, hT, hbt, k⟩ := h
    refine ⟨_, pss2_cons (ps2_of (fun _ _ z => z) (ps_set (i := 2) sc_common.nd rfl (by first | exact Or.inl rfl | exact Or.inr rfl) (pe_lst pa_nil)))
      (pss2_cons (ps2_forGen (k := 200) (RowP := fun r xs => xs = rowE r) (fun _ _ z => z) rfl (hr.mono (by omega)) relE_row (fun _ h => h) (pgen_ends T M E (hr.mono (by omega)) rfl (pa2_of (fun _ _ z => z) (pa_cons (pv 0) pa_nil)))
      (pg_tup (by rfl) (pgs_cons (pg_name (i := 3) sc_common.nd rfl (by first | exact Or.inl rfl | exact Or.inr rfl)) (pgs_cons (pg_name (i := 4) sc_common.nd rfl (by first | exact Or.inl rfl | exact Or.inr rfl)) (pgs_cons (pg_name (i := 5) sc_common.nd rfl (by first | exact Or.inl rfl | exact Or.inr rfl)) pgs_nil))))
      (pss2_one (ps2_forGen (k := 200) (RowP := fun r xs => xs = rowE r) (fun _ _ z => z) rfl (hr.mono (by omega)) relE_row (fun _ h => h) (pgen_ends T M E (hr.mono (by omega)) rfl (pa2_of (fun _ _ z => z) (pa_cons (C8.pe_c c_taken hr (by omega) rfl (pa_cons (pv 1) (pa_cons (pv 3) (pa_cons (pv 4) pa_nil)))) pa_nil)))
        (pg_tup (by rfl) (pgs_cons (pg_name (i := 6) sc_common.nd rfl (by first | exact Or.inl rfl | exact Or.inr rfl)) (pgs_cons (pg_name (i := 7) sc_common.nd rfl (by first | exact Or.inl rfl | exact Or.inr rfl)) (pgs_cons (pg_name (i := 8) sc_common.nd rfl (by first | exact Or.inl rfl | exact Or.inr rfl)) pgs_nil))))
        (pss2_of (fun _ _ z => z) (pss_one (ps_expr (pe_bm PySem.F.plainAttrs_list PySem.F.slot_list_append PySem.F.type_list_append mt_append (pv 2) (pa_cons (pe_tup (pa_cons (pe_op op_add (pv 3) (pe_op op_mul (pv 4) (pv 6))) (pa_cons (pe_op op_mul (pv 4) (pv 7)) (pa_cons (pv 5) (pa_cons (pv 8) pa_nil))))) pa_nil))))))))
      (pss2_one (ps2_of (fun _ _ z => z) (ps_ret (pe_sortLam (T := TabC Pt) TB rfl (List.mem_singleton.mpr (Prod.ext rfl lamQ_eq)) (fun q hq _ => by rw [List.mem_singleton.mp hq]; exact lamQ_eq.symm) hr rfl (fun y hy e => by rw [List.mem_singleton.mp hy] at e; cases e) rfl rfl rfl (by decide +kernel) (by decide +kernel) (fun _ _ _ _ _ => rfl) rfl T.n_sorted (pv 2)))))), ?_⟩
    refine ⟨Nat.zero_le _, fun D0 hD0 => ?_⟩
    have s0 : Same H (upd H D0 (.lst [])) := Same.upd hD0
    -- what the list holds
    let Acc : Nat → Hp → List V → Prop := fun n H' acc => acc.length = n ∧ ∀ y ∈ acc, ∃ t r, y = V.ref t ∧ r ∈ cmn a b ∧ H' t = some (.tup (rowC r)) ∧ t ≠ D0
    let cnt : Nat → Nat := fun i => (((a.ends 0 1).take i).map fun r => ((b.taken r.1 r.2.1).ends 0 1).length).sum
    have hcnt : cnt (a.ends 0 1).length = (cmn a b).length := by
      show (((a.ends 0 1).take _).map _).sum = _
      unfold cmn
      rw [List.take_length, List.length_flatMap]
      congr 1
      apply List.map_congr_left
      intro r _
      rw [List.length_map]
    have hcs : ∀ i r, (a.ends 0 1)[i]? = some r → cnt (i + 1) = cnt i + ((b.taken r.1 r.2.1).ends 0 1).length := fun i r e => by
      show (((a.ends 0 1).take (i + 1)).map _).sum = _
      rw [List.take_succ, e, List.map_append, List.sum_append]
      simp [cnt]
    have hcm : ∀ i, cnt i ≤ (cmn a b).length := fun i => by
      rw [← hcnt]
      show (((a.ends 0 1).take i).map _).sum ≤ (((a.ends 0 1).take _).map _).sum
      rw [List.take_length]
      conv => rhs; rw [← List.take_append_drop i (a.ends 0 1)]
      rw [List.map_append, List.sum_append]
      exact Nat.le_add_right _ _
    refine ⟨_, rfl, a, v, rfl, (ha.le (Same.tle s0)).tv, by have := ha.lev; omega, fun i σ H' => Same H H' ∧ ∃ acc x y z n m q, H' D0 = some (.lst acc) ∧ Acc (cnt i) H' acc ∧ σ = [some v, some u, some (.ref D0), x, y, z, n, m, q], ⟨s0, [], _, _, _, _, _, _, upd_same, ⟨rfl, fun y hy => by cases hy⟩, rfl⟩, fun i σ H' _ p => ?_, ?_, ?_⟩
    · intro b0 xs e
      have e1 := tupsOf_le _ b0 xs e
      obtain ⟨t1, acc, _, _, _, _, _, _, hD, _, _⟩ := p
      have nD : b0 ≠ D0 := fun z => by rcases e1 with q | ⟨o, q⟩ <;> (rw [z, upd_same] at q; cases q)
      rcases e1 with q | ⟨o, q⟩
      · rw [upd_ne nD] at q; exact .inl (t1 _ _ q)
      · rw [upd_ne nD] at q; exact .inr ⟨o, t1 _ _ q⟩
    · rintro i r σ H1 hr1 ⟨t1, acc, x, y, z, n, m, q0, hD, hacc, rfl⟩ T0 xs hT0 rfl
      have hmem : r ∈ a.ends 0 1 := List.mem_of_getElem? hr1
      have s1 : Same H1 (upd H1 T0 (.tup (rowE r))) := Same.upd hT0
      refine ⟨T0, _, rfl, SqT.of upd_same, rfl, _, _, rfl, _, _, rfl, _, _, rfl, rfl, ?_⟩
      refine ⟨_, rfl, _, rfl, _, rfl, b, u, r.1, r.2.1, rfl, (hb.le (Same.tle (t1.trans s1))).tv, by have := hb.lev; omega, ends_pos a 0 1 ha.tv.ok (Nat.le_refl _) r hmem, fun v2 H2 s2 hv2 => ?_⟩
      obtain ⟨k1, k2, k3⟩ := hbt r.1 r.2.1
      have hDH2 : H2 D0 = some (.lst acc) := s2 _ _ (s1 _ _ hD)
      refine ⟨b.taken r.1 r.2.1, v2, rfl, ⟨hv2, k1, k2⟩, by omega, fun j σ H' => Same H H' ∧ TupLe (tupsOf H2) H' ∧ ∃ acc n m q, H' D0 = some (.lst acc) ∧ Acc (cnt i + j) H' acc ∧ σ = [some v, some u, some (.ref D0), some (.int (r.1 : Nat)), some (.int (r.2.1 : Nat)), some (.str r.2.2), n, m, q],
        ⟨t1.trans (s1.trans s2), tupLe_self, acc, _, _, _, hDH2, ⟨hacc.1, fun y hy => by obtain ⟨t, q, e1, e2, e3, e4⟩ := hacc.2 y hy; exact ⟨t, q, e1, e2, s2 _ _ (s1 _ _ e3), e4⟩⟩, rfl⟩, fun i σ H' _ p => p.2.1, ?_, ?_⟩
      · rintro j q σ H3 hq ⟨t3, tl3, acc, n, m, q0, hD3, hacc, rfl⟩ T1 xs hT1 rfl
        have s3 : Same H3 (upd H3 T1 (.tup (rowE q))) := Same.upd hT1
        have hqm : q ∈ (b.taken r.1 r.2.1).ends 0 1 := List.mem_of_getElem? hq
        have hjl := (List.getElem?_eq_some_iff.mp hq).1
        have hcl : cnt i + j < (cmn a b).length := by
          have := hcm (i + 1)
          rw [hcs i r hr1] at this
          omega
        have hrow : (r.1 + r.2.1 * q.1, r.2.1 * q.2.1, r.2.2, q.2.2) ∈ cmn a b := by
          unfold cmn
          exact List.mem_flatMap.mpr ⟨r, hmem, List.mem_map.mpr ⟨q, hqm, rfl⟩⟩
        have hstep : r.2.1 ≤ 2 ^ 40 := by
          obtain ⟨F, S, _, e2, _, e4, _⟩ := ends_own a ha.tv.ok 0 1 r hmem
          rw [e2, Nat.one_mul]; exact Nat.le_trans e4 ha.ms
        have hCM : ∀ x : Int, CMul ((r.2.1 : Nat) : Int) x := fun x => .inl ⟨by omega, by omega⟩
        refine ⟨T1, _, rfl, SqT.of upd_same, rfl, _, _, rfl, _, _, rfl, _, _, rfl, rfl, ?_⟩
        refine ⟨_, rfl, .inl ⟨rfl, acc, SqL.of (s3 _ _ hD3)⟩, _, rfl, _, rfl, _, rfl, _, _, rfl, rfl, hCM _, _, _, rfl, rfl, ?_⟩
        refine ⟨_, rfl, _, rfl, _, _, rfl, rfl, hCM _, _, rfl, _, rfl, by show 4 ≤ sizeLine; rw [sizeLine_eq]; decide, fun R hR => ?_⟩
        have s4 : Same (upd H3 T1 (.tup (rowE q))) (upd (upd H3 T1 (.tup (rowE q))) R (.tup (rowC (r.1 + r.2.1 * q.1, r.2.1 * q.2.1, r.2.2, q.2.2)))) := Same.upd hR
        have hD4 := s4 _ _ (s3 _ _ hD3)
        have hRD : R ≠ D0 := fun z => by rw [z, s3 _ _ hD3] at hR; cases hR
        refine ⟨D0, acc, .ref R, rfl, rfl, hD4, by rw [hacc.1]; exact Nat.lt_of_lt_of_le (by omega) size5', ?_⟩
        refine ⟨same_upd ((t3.trans s3).trans s4) hD0, tupLe_lst (tupLe_same tl3 (s3.trans s4)) hD4, acc ++ [.ref R], _, _, _, upd_same, ⟨by rw [List.length_append, hacc.1]; rfl, fun y hy => ?_⟩, rfl⟩
        rcases List.mem_append.mp hy with hy | hy
        · obtain ⟨t, q, e1, e2, e3, e4⟩ := hacc.2 y hy
          exact ⟨t, q, e1, e2, by rw [upd_ne e4]; exact s4 _ _ (s3 _ _ e3), e4⟩
        · rw [List.mem_singleton.mp hy]
          exact ⟨R, _, rfl, hrow, by rw [upd_ne hRD]; exact upd_same, hRD⟩
      · rintro σ H3 ⟨t3, tl3, acc, n, m, q0, hD3, hacc, rfl⟩
        rw [← hcs i r hr1] at hacc
        exact ⟨t3, acc, _, _, _, _, _, _, hD3, hacc, rfl⟩
    · rintro σ H1 ⟨t1, acc, x, y, z, n, m, q, hD, hacc, rfl⟩
      rw [hcnt] at hacc
      refine ⟨_, rfl, hT.ext t1, D0, acc, rfl, SqL.of hD, fun y hy => ?_, fun H2 ys p hE hT2 hperm hp => ?_⟩
      · obtain ⟨t, r, e1, _, e3, _⟩ := hacc.2 y hy
        exact ⟨t, _, _, _, _, e1, e3⟩
      · refine k _ p ys ((ExtN.same t1).trans (hE.trans (ExtN.same (Same.upd hp)))) (hT2.ext (Same.upd hp)) upd_same (by rw [hperm.length_eq, hacc.1]) fun y hy => ?_
        obtain ⟨t, r, e1, e2, e3, _⟩ := hacc.2 y (hperm.mem_iff.mp hy)
        exact ⟨t, r, e1, e2, Same.upd hp _ _ (hE _ _ e3 fun ps z => by cases z)⟩
end
end Td
end

section
set_option maxHeartbeats 1000000
/-! TdFor2: for over a list that an expression gives which wakes generators. -/
namespace Td
open PySem PySem.Spec PyProof.Rows L2 GenW
structure PI2 (X : Cx) (tg iter : Expr) (wi : TI) : Prop where
  run : ∀ (pins : List (Addr × Obj)) (s : Shared) (σ : L2.St) (H : Hp) (R : It → Hp → Prop), Inv2 X pins σ H s → wi σ H R → any2 (model X.prog X.w) X.A (forIter iter X.env)
    (fun itv s2 => GKeep s s2 ∧ ∃ t2 : Shared, PIE X pins σ tg R itv t2 ∧ s2.heap = t2.heap ∧ s2.os = t2.os) F0 s
section
variable {X : Cx} {pos : Pos}
theorem ps2_forP {tg iter : Expr} {body : List Stmt} {wi : TI} {g : TG} {tb : TS} (hx : Calm X) (hc : X.calm = true) (hi : PI2 X tg iter wi) (hg : PG X tg g) (hb : PSs2 X body tb)
    (hs : ∀ x, foldedSetIterable iter X.env x = pure x := by intro _; rfl) : PS2 X (.For tg iter body [] pos) (tFor wi g tb) := by
  refine ⟨fun pins s σ H D I h => ?_⟩
  refine a2_For1 (a2_thn (hi.run pins s σ H _ I h) fun itv s2 ⟨g2, t2, h2, hh2, ho2⟩ => ?_) hs
  obtain ⟨it, fp, tn, J, H2, e, I2, T, st2, f2, W, ⟨m0, w0⟩, turn⟩ := h2
  subst e
  rw [← hh2] at st2
  replace I2 : Inv2 X pins σ H2 s2 := inv2_of I2 hh2 ho2
  have stat : ∀ {H' : Hp}, (∀ b ∈ fp, H' b = none) → ∀ b ∈ fp, FpOk X pins H' b := fun hn b hb => ⟨hn b hb, (f2 b hb).2⟩
  refine c2_forLoop (fun n s' => GKeep s s' ∧ ∃ i σ' H', Inv2 X pins σ' H' s' ∧ tn i s'.heap ∧ (∀ b ∈ fp, H' b = none) ∧ W i n σ' H') ?_ m0 ⟨g2, 0, σ, H2, I2, st2, fun b hb => (f2 b hb).1, w0⟩
  rintro n s3 ⟨g3, i, σ3, H3, I3, st3, fr3, w3⟩
  rcases turn i n σ3 H3 w3 with ⟨stop, qn⟩ | ⟨go, N, hN, step⟩
  · have T0 : wpAny (model X.prog X.w) X.A (nextFor tg (.ref it)) (fun r s1 => r = none ∧ Inv X pins σ3 H3 s1) (fun _ _ => False) (stuck s3) :=
      wp_nextFor (fun _ _ z => z) (thn (T.done X rfl rfl rfl hc i pins (stuck s3) σ3 H3 (fun _ _ => False) I3 (stat fr3) st3 stop) fun r s1 ⟨hr, I⟩ => by subst hr; exact ⟨rfl, I⟩)
    refine a2_thn (imp T0 (fun _ _ ⟨_, I⟩ => I.bare) fun _ _ z => z) fun r s4 ⟨g4, t4, ⟨hr, I4⟩, h4, o4⟩ => ?_
    subst hr
    exact ⟨_, rfl, g3.trans g4, σ3, H3, inv2_of I4 h4 o4, qn⟩
  · have T1 : wpAny (model X.prog X.w) X.A (nextFor tg (.ref it)) (fun r s2 => ∃ u x H', r = some u ∧ Inv X pins σ3 H' s2 ∧ RelV x u ∧ J.yld i H3 x H' ∧ tn (i + 1) s2.heap ∧ ∀ b ∈ fp, H' b = none) (fun _ _ => False) (stuck s3) :=
      wp_nextFor (fun _ _ z => z) (thn (T.item X rfl rfl rfl hc i pins (stuck s3) σ3 H3 (fun _ _ => False) I3 (stat fr3) st3 go) fun r s1 ⟨u, hr, h1⟩ => by
        subst hr
        exact thn h1 fun _ s2 ⟨x, H', z⟩ => ⟨u, x, H', rfl, z⟩)
    refine a2_thn (imp T1 (fun _ _ ⟨_, _, _, _, I, _⟩ => I.bare) fun _ _ z => z) fun r s5 ⟨g5, t5, ⟨u, x, H5, hr, I5, r5, y5, st5, fr5⟩, h5, o5⟩ => ?_
    subst hr
    rw [← h5] at st5
    replace I5 : Inv2 X pins σ3 H5 s5 := inv2_of I5 h5 o5
    have I5' := I5.pinned (stat fr5) (T.obj _ _ st5)
    refine a2_thn (imp (hg.run _ (stuck s5) σ3 H5 x u _ I5' r5 (step x H5 y5)) (fun _ _ ⟨_, _, I, _⟩ => I.bare) hx) fun _ s6 ⟨g6, t6, ⟨σ6, H6, I6, q6⟩, h6, o6⟩ => ?_
    replace I6 : Inv2 X _ σ6 H6 s6 := inv2_of I6 h6 o6
    have g36 := ((g3.trans g5).trans g6)
    refine a2_thn (hb.run _ s6 σ6 H6 _ I6 q6) fun f s7 ⟨g7, q7⟩ => ?_
    have again : ∀ {σ7 : L2.St} {H7 : Hp}, Inv2 X (pins ++ pinsAt fp s5.heap) σ7 H7 s7 → N σ7 H7 → ∃ m, m < n ∧ (GKeep s s7 ∧ ∃ i σ' H', Inv2 X pins σ' H' s7 ∧ tn i s7.heap ∧ (∀ b ∈ fp, H' b = none) ∧ W i m σ' H') := fun {σ7 H7} I7 n7 => by
      obtain ⟨m', hm, w7⟩ := hN σ7 H7 n7
      refine ⟨m', hm, g36.trans g7, i + 1, σ7, H7, I7.unpinned, T.keep _ _ _ st5 fun b hb o e => (I7.pin (b, o) (List.mem_append_right _ (List.mem_append_right _ (mem_pinsAt hb e)))).1, fun b hb => ?_, w7⟩
      obtain ⟨o, e, d⟩ := T.obj _ _ st5 b hb
      exact (I7.pin (b, o) (List.mem_append_right _ (List.mem_append_right _ (mem_pinsAt hb e)))).2.1
    cases f with
    | next => obtain ⟨σ7, H7, I7, n7⟩ := q7; exact again I7 n7
    | cont => obtain ⟨σ7, H7, I7, n7⟩ := q7; exact again I7 n7
    | brk => obtain ⟨σ7, H7, I7, q7⟩ := q7; exact ⟨_, rfl, g36.trans g7, σ7, H7, I7.unpinned, q7⟩
    | ret v => obtain ⟨x7, σ7, H7, I7, r7, q7⟩ := q7; exact ⟨_, rfl, g36.trans g7, x7, σ7, H7, I7.unpinned, r7, q7⟩
theorem pi2_list {tg l : Expr} {tl : TE} (hx : Calm X) (hl : PE2 X l tl) : PI2 X tg l (iList X.K tl) := by
  refine ⟨fun pins s σ H R I h => ?_⟩
  unfold forIter
  refine a2_bind (a2_thn (hl.run pins s σ H _ I h) fun u s1 ⟨g1, x, H1, I1, r1, a, e, ⟨xs, hq⟩, q⟩ => a2_bind (a2_at (a2_holding ?_)))
  subst e
  cases r1
  have W : wpAny (model X.prog X.w) X.A (pyIter (.ref a)) (PIE X pins σ tg R) X.xe (stuck s1) := by
    obtain ⟨its, rv, p, hz⟩ := Inv.list I1 hq
    refine wpAny_pyIter_list p.isList ?_
    refine ⟨(stuck s1).heap.objs.size, [(stuck s1).heap.objs.size], _, _, H1, rfl, Inv.kept I1 (t' := s1.toks) fun b o e => Heap.get?_push_of_some _ e, turn_list a _, ⟨_, Heap.get?_push_size _ rfl, rfl, rfl⟩, fun b hb => ?_, q⟩
    have e : b = (stuck s1).heap.objs.size := by simpa using hb
    subst e
    exact Inv.fpOk I1 (Nat.le_refl _) (I1.hok.fresh (Nat.le_refl _))
  refine a2_thn (imp W (fun _ _ ⟨_, _, _, _, _, _, I, _⟩ => I.bare) hx) fun itv s2 ⟨g2, t2, h2, hh2, ho2⟩ => ?_
  exact ⟨g1.trans g2, t2, h2, hh2, ho2⟩
end
end Td
end

section
set_option maxHeartbeats 2000000
/-! TdRef: refined. -/
namespace Td
open PySem PySem.Spec PyProof.Rows L2 GenW
theorem eps_facts (t : Td.T) : ∀ (p : List Nat) (f s : Nat), t.ok → 1 ≤ s → (t.eps p f s).length = t.cnt ∧ ∀ r ∈ t.eps p f s, r.1.length ≤ p.length + t.lev ∧ 1 ≤ r.2.2 := by
  induction t using Td.T.ind with
  | h1 o =>
    intro p f s _ hs
    rw [T.eps, T.cnt]
    refine ⟨rfl, fun r hr => ?_⟩
    rw [List.mem_singleton.mp hr]
    exact ⟨Nat.le_add_right _ _, hs⟩
  | h2 ts ih =>
    intro p f s ho hs
    have h2 := ok_node.mp ho
    rw [T.eps, cnt_node, lev_node]
    have key : ∀ (us : List Td.T) (i f w : Nat), (∀ u ∈ us, u ∈ ts) → 1 ≤ w → (epss us p i f s w).length = cnts us ∧ ∀ r ∈ epss us p i f s w, r.1.length ≤ p.length + (1 + levs ts) ∧ 1 ≤ r.2.2 := by
      intro us
      induction us with
      | nil => intro i f w _ _; rw [epss, cnts]; exact ⟨rfl, fun r hr => by cases hr⟩
      | cons u us ih2 =>
        intro i f w hu hw
        rw [epss, cnts]
        have a1 := ih u (hu u List.mem_cons_self) (p ++ [i]) f w (oks_mem h2.2 (hu u List.mem_cons_self)) hw
        have a2 := ih2 (i + 1) (f + s) w (fun v hv => hu v (List.mem_cons_of_mem _ hv)) hw
        refine ⟨by rw [List.length_append, a1.1, a2.1], fun r hr => ?_⟩
        rcases List.mem_append.mp hr with hr | hr
        · have := a1.2 r hr
          rw [List.length_append, List.length_singleton] at this
          have := levs_mem (hu u List.mem_cons_self)
          omega
        · exact a2.2 r hr
    exact key ts 0 f _ (fun _ h => h) (Nat.mul_pos hs (by omega))
def RowH (K : PySem.W.Frag) (r : List Nat × Nat × Nat) (T : Addr) (H' : Hp) : Prop := ∃ b, H' T = some (.tup (rowP b r)) ∧ SqT K H' b (intVs r.1)
theorem relP_S {K : PySem.W.Frag} : ∀ L Hg r (h h' : Heap) v, (∀ b o, h.get? b = some o → o.cls = .type "tuple" → (∃ v n, o.data = .seq v n) → ∃ sl, h'.get? b = some { o with slots := sl }) → relP K L Hg r h v → relP K L Hg r h' v := by
  intro L Hg r h h' v k q
  obtain ⟨T0, b, e, h1, h2⟩ := q
  refine ⟨T0, b, e, h1.slots k, ?_⟩
  rcases h2 with ⟨h2, h3⟩ | h2
  · exact .inl ⟨h2.slots k, h3⟩
  · exact .inr h2
theorem relP_row {K : PySem.W.Frag} : ∀ (L : Nat) (Hg : Hp) r (h : Heap) v, relP K L Hg r h v → ∃ T, v = .ref T ∧ ∀ (H' : Hp), L < T → (∀ b xs, L < b → TupAt h b xs → H' b = some (.tup xs)) → (∀ b xs, Hg b = some (.tup xs) → Rd H' b (.tup xs)) → RowH K r T H' := by
  intro L Hg r h v ⟨T0, b, e, h1, h2⟩
  refine ⟨T0, e, fun H' hl k1 k2 => ⟨b, k1 _ _ hl h1, ?_⟩⟩
  rcases h2 with ⟨h2, h3 | h3⟩ | h2
  · exact .inl (.inl (k1 _ _ h3 h2))
  · exact .inl (k2 _ _ h3)
  · exact .inr h2
section
variable {P : Program} {w : World} {K : PySem.W.Frag} {mg : Str → Option Value} {base : Heap} {C : Addr}
theorem sc_refined : FnScope ["tree", "other", "walk", "path", "first", "step"] ["tree", "other"] (defScope (topS 38)) := ⟨rfl, rfl, rfl, by decide +kernel, rfl, by decide +kernel, by decide +kernel⟩
def spRefined (K : PySem.W.Frag) (C : Addr) : Sp := fun vs H Q _ => ∃ (a b : Td.T) (W : Wk) (v u : V), vs = [v, u] ∧ TVb K H a v ∧ TVb K H b u ∧ (∀ f s, (b.taken f s).ok ∧ (b.taken f s).cnt ≤ 100000 ∧ (b.taken f s).lev ≤ 40) ∧ RF a b W ∧
  ∀ (H' : Hp) (wa : WA), Same H H' → (H wa.x = none ∧ H wa.ls = none ∧ H wa.lb = none) → WAt K C H' wa W → Q (.ref wa.x) H'
theorem ok_refined (T : Top K mg) (M : Mod K mg base) (D0 : Counts K w mg) (U : WTop K mg C) {a0 : Addr} (hk0 : KTup K a0 []) (E : GenAt K mg "end_paths" (topS 36) [.ref a0, .int 0, .int 1]) : Cal2 P w K mg base 220 "refined" (spRefined K C) := by
  have c_taken : C8.Cal P w K mg base 43 "taken" (spTaken K 41) [] := ok_taken T 41
  have c_Walk : C8.Mak P w K mg base 1 "Walk" C (spInit K C) [] := ok_init T U
  have c_spread_like : C8.Cal P w K mg base 126 "spread_like" (spSL K C 60) [] := ok_sl T D0 U 60
  have m_make_prime : C8.Met P w K mg base 126 C "make_prime" (spMP K C 60) [] := ok_mp T D0 U 60
  refine cal2_of T.d_refined sc_refined (fun _ _ _ _ _ _ us hl => match us, hl with | [_, _], _ => rfl) (fun vs H Q E h => ?_) fun f cdv A outer sh H vs Q _ hr h => ?_
  · obtain ⟨a, b, W, v, u, rfl, _⟩ := h; rfl
  · obtain ⟨a, b, W, v, u, rfl, ha, hb, hbt, hRF, k⟩ := h
    refine ⟨_, pss2_cons (ps2_of (fun _ _ z => z) (ps_set (i := 2) sc_refined.nd rfl (by first | exact Or.inl rfl | exact Or.inr rfl) (C8.pe_mk c_Walk hr (by omega) rfl (pa_cons (pv 0) pa_nil))))
      (pss2_cons (ps2_forP (fun _ _ z => z) rfl (pi2_list (fun _ _ z => z) (pe2_listGen (k := 200) (RowH := RowH K) (fun _ _ z => z) rfl (hr.mono (by omega)) relP_S relP_row (pgen_eps T M hk0 E (hr.mono (by omega)) rfl (pa2_of (fun _ _ z => z) (pa_cons (pv 0) pa_nil))) rfl T.n_list (by decide +kernel)))
        (pg_tup (by rfl) (pgs_cons (pg_name (i := 3) sc_refined.nd rfl (by first | exact Or.inl rfl | exact Or.inr rfl)) (pgs_cons (pg_name (i := 4) sc_refined.nd rfl (by first | exact Or.inl rfl | exact Or.inr rfl)) (pgs_cons (pg_name (i := 5) sc_refined.nd rfl (by first | exact Or.inl rfl | exact Or.inr rfl)) pgs_nil))))
        (pss2_of (fun _ _ z => z) (pss_one (ps_expr (C8.pe_c c_spread_like hr (by omega) rfl (pa_cons (pv 2) (pa_cons (pv 3) (pa_cons (C8.pe_c c_taken hr (by omega) rfl (pa_cons (pv 1) (pa_cons (pv 4) (pa_cons (pv 5) pa_nil)))) pa_nil))))))))
      (pss2_of (fun _ _ z => z) (pss_cons (ps_expr (C8.pe_mt m_make_prime hr (by omega) (pv 2) (pa_cons (pe_tup pa_nil) pa_nil))) (pss_one (ps_ret (pv 2)))))), ?_⟩
    obtain ⟨W1, hL, hMP⟩ := hRF
    have hef := eps_facts a [] 0 1 ha.tv.ok (Nat.le_refl _)
    refine ⟨_, rfl, fun x dx hx hdx hne => ?_⟩
    have sx : Same H (upd (upd H dx (.own x)) x (.ins C dx [])) := (Same.upd hdx).trans (Same.upd (by rw [upd_ne (Ne.symm hne)]; exact hx))
    refine ⟨x, dx, a, v, rfl, upd_same, ha.tv.le (Same.tle sx), fun ls lb H1 hl1 hl2 hk1 hw1 => ⟨rfl, ?_⟩⟩
    have s1 : Same H H1 := fun c o e => hk1 c o (ne_of_none e hx) (sx _ _ e)
    have un : ∀ {c : Addr}, upd (upd H dx (.own x)) x (.ins C dx []) c = none → H c = none := fun {c} e => by
      cases q : H c with
      | none => rfl
      | some o => rw [sx _ _ q] at e; cases e
    have hf1 : H ls = none ∧ H lb = none := ⟨un hl1, un hl2⟩
    refine ⟨_, rfl, a, v, rfl, (ha.le (Same.tle s1)).tv, by have := ha.lev; omega, by have := ha.lev; omega, by rw [hef.1]; exact Nat.le_trans ha.tv.big size5, fun S Ts H2 hS hk2 hS2 hTl hrow => ?_⟩
    have s2 : Same H1 H2 := hk2
    have w2 := hw1.same s2
    refine ⟨S, rfl, ⟨_, SqL.of hS2⟩, for_it (walk_list (xs := Ts.map V.ref)) (fun i σ H' => Kept ⟨x, dx, ls, lb⟩ H2 H' ∧ ∃ (A : Wk) (y z q : Option V), WAt K C H' ⟨x, dx, ls, lb⟩ A ∧ LoopL (fun r A B => SL 60 A r.1 (b.taken r.2.1 r.2.2) B) ((a.eps [] 0 1).drop i) A W1 ∧ σ = [some v, some u, some (.ref x), y, z, q]) ⟨.refl _ _, _, none, none, none, w2, by rw [List.drop_zero]; exact hL, rfl⟩ (fun i σ H' _ p => ?_) ?_ ?_⟩
    · obtain ⟨k3, _⟩ := p
      obtain ⟨_, _, _, e1, e2, e3, _⟩ := hw1.ex
      exact SqL.of (k3 S (fun z => by rw [z] at hS; rw [hS] at e1; cases e1) (fun z => by rw [z] at hS; rw [hS] at e2; cases e2) (fun z => by rw [z] at hS; rw [hS] at e3; cases e3) _ hS2)
    · rintro i y0 σ H3 H4 hi ⟨k3, A, y, z, q, w3, hLi, rfl⟩ ⟨rfl, hy⟩
      rw [List.length_map, hTl] at hi
      obtain ⟨T0, hT0⟩ : ∃ T0, Ts[i]? = some T0 := ⟨_, List.getElem?_eq_getElem (by omega)⟩
      rw [List.getElem?_map, hT0] at hy
      cases hy
      have hr0 : (a.eps [] 0 1)[i]? = some (a.eps [] 0 1)[i] := List.getElem?_eq_getElem hi
      have hd : (a.eps [] 0 1).drop i = (a.eps [] 0 1)[i] :: (a.eps [] 0 1).drop (i + 1) := List.drop_eq_getElem_cons hi
      rw [hd] at hLi
      revert hr0 hLi
      generalize (a.eps [] 0 1)[i] = r
      intro hLi hr0
      have hrf := hef.2 r (List.mem_of_getElem? hr0)
      obtain ⟨b0, hTr, hp0⟩ := hrow i r T0 hr0 hT0
      have t3 := k3.tle w2
      refine ⟨T0, _, rfl, t3 _ _ (SqT.of hTr), rfl, _, _, rfl, _, _, rfl, _, _, rfl, rfl, ?_⟩
      have t23 := (Same.tle (K := K) (s1.trans s2)).trans t3
      refine ⟨_, rfl, _, rfl, _, rfl, _, rfl, _, rfl, b, u, r.2.1, r.2.2, rfl, (hb.le t23).tv, by have := hb.lev; omega, hrf.2, fun v2 H5 s5 hv2 => ?_⟩
      obtain ⟨k1, k2', k3'⟩ := hbt r.2.1 r.2.2
      cases hLi with
      | @cons _ _ _ A1 _ h1 h2 =>
        refine ⟨⟨x, dx, ls, lb⟩, A, A1, r.1, b.taken r.2.1 r.2.2, .ref b0, v2, rfl, w3.same s5, pv_of (Same.tle s5 _ _ (t3 _ _ hp0)), ⟨hv2, k1, k2'⟩, by have := hrf.1; have := ha.lev; simp at *; omega, h1, fun H6 k6 w6 => ?_⟩
        exact ⟨k3.trans ((Same.kept s5).trans k6), A1, _, _, _, w6, h2, rfl⟩
    · rintro σ H3 ⟨k3, A, y, z, q, w3, hLi, rfl⟩
      rw [List.length_map, hTl, List.drop_length] at hLi
      cases hLi
      obtain ⟨_, _, _, e1, _⟩ := w3.ex
      refine ⟨_, rfl, x, dx, _, rfl, e1, rfl, Nat.zero_le _, fun l hl => ?_⟩
      have s4 := Same.upd (o := .tup []) hl
      refine ⟨⟨x, dx, ls, lb⟩, W1, W, [], .ref l, rfl, w3.same s4, pv_of (SqT.of upd_same), by simp, hMP, fun H5 k5 w5 => ?_⟩
      refine ⟨_, rfl, k H5 ⟨x, dx, ls, lb⟩ (fun c o e => ?_) ⟨hx, hf1.1, hf1.2⟩ w5⟩
      exact (k3.trans ((Same.kept s4).trans k5)) c (ne_of_none e hx) (ne_of_none e hf1.1) (ne_of_none e hf1.2) o (s2 _ _ (s1 _ _ e))
end
end Td
end

section
set_option maxHeartbeats 2000000
/-! TdSb: steps_between. -/
namespace Td
open PySem PySem.Spec PyProof.Rows L2 GenW
section
variable {X : Cx} {pos : Pos}
theorem ps2_par {i j : Nat} {x y : Str} {a b : Expr} {ta : TA} {px py pt : Pos} {kt k2 : Nat} {pt2 : Pos} (hc : X.calm = true) (hN : X.N.Nodup) (hi : X.N[i]? = some x) (hj : X.N[j]? = some y) (hij : i ≠ j)
    (hx : X.env.scope.names.lookup x = some .local) (hy : X.env.scope.names.lookup y = some .local) (ha : PA2 X [a, b] ta)
    (hw : swappedStores [.Tuple [.Name x px, .Name y py] kt pt] (.Tuple [a, b] k2 pt2) X.env = pure (some [x, y]))
    (hs : swapsWithSole [.Tuple [.Name x px, .Name y py] kt pt] (.Tuple [a, b] k2 pt2) pos.line X.env = pure false := by rfl) :
    PS2 X (.Assign [.Tuple [.Name x px, .Name y py] kt pt] (.Tuple [a, b] k2 pt2) pos) (tPar i j ta) := by
  refine ⟨fun pins s σ H D I h => ?_⟩
  rw [exec_Assign_arm]
  refine a2_bind (a2_at ?_)
  rw [hs]
  refine a2_bind (a2_pure ?_)
  rw [if_neg (by decide)]
  refine a2_bind ?_
  rw [arm_eval_Tuple]
  refine a2_bind (a2_at (a2_bind (a2_thn (ha.run _ pins s σ H _ I h) fun us s1 ⟨g1, vs, H1, I1, r1, v, w, e1, q1⟩ => ?_)))
  subst e1
  obtain ⟨u1, u2, rfl, rv, rw'⟩ : ∃ u1 u2, us = [u1, u2] ∧ RelV v u1 ∧ RelV w u2 := by
    cases r1 with
    | cons p q =>
      cases q with
      | cons p' q' =>
        cases q'
        exact ⟨_, _, rfl, p, p'⟩
  have w0 : wpAny (model X.prog X.w) X.A (newTuple [u1, u2]) (fun u s2 => ∃ T, u = .ref T ∧ Inv X pins σ H1 s2 ∧ IsTup s2.heap T #[u1, u2] ∧ ∀ b o, s1.heap.get? b = some o → b ≠ T) (fun _ _ => False) (stuck s1) := by
    refine wpAny_newTuple ⟨_, rfl, Inv.kept I1 (t' := s1.toks) fun b o e => Heap.get?_push_of_some _ e, IsTup.new _ _, fun b o e => Nat.ne_of_lt (Heap.lt_size e)⟩ (by show 2 ≤ sizeLine; rw [sizeLine_eq]; decide)
  refine a2_thn (imp w0 (fun _ _ ⟨_, _, I, _⟩ => I.bare) fun _ _ z => z) fun u s2 ⟨g2, t2, ⟨T, eu, I2, hT, hn⟩, h2, o2⟩ => ?_
  subst eu
  rw [← h2] at hT
  replace I2 : Inv2 X pins σ H1 s2 := inv2_of I2 h2 o2
  rw [hw]
  refine a2_bind (a2_pure ?_)
  have w1 : wpAny (model X.prog X.w) X.A (do rule "assign.swapped-stores"; let items ← unpackItems (.ref T) 2 none; assignInOrder [fun v => bindName X.env y v, fun v => bindName X.env x v] items.reverse; pure Flow.next) (fun f s3 => f = Flow.next ∧ Inv X pins ((σ.set i (some v)).set j (some w)) H1 s3) (fun _ _ => False) (stuck s2) := by
    refine wpAny_bind (wpAny_rule (wpAny_bind (unpackItems_tuple (items := #[u1, u2]) (I.ok.hd hc) hT fun h' hx' => ?_)))
    have I3 := Inv.kept I2 (h' := h') (t' := s2.toks) fun b o e => hx' b o (Nat.ne_of_lt (Heap.lt_size e)) e
    show wpAny _ _ (assignInOrder [fun v => bindName X.env y v, fun v => bindName X.env x v] [u2, u1] >>= fun _ => pure Flow.next) _ _ _
    refine wpAny_bind (assignInOrder_cons (wpAny_bindName (store_ok I3 hN hj (.inl hy) rw' (fun s2 I4 => ?_) (.inr hy))))
    refine assignInOrder_cons (wpAny_bindName (store_ok I4 hN hi (.inl hx) rv (fun s3 I5 => assignInOrder_nil (wpAny_pure ?_)) (.inr hx)))
    rw [List.set_comm _ _ (Ne.symm hij)] at I5
    exact ⟨rfl, I5⟩
  refine a2_thn (imp w1 (fun _ _ ⟨_, I⟩ => I.bare) fun _ _ z => z) fun f s3 ⟨g3, t3, ⟨ef, I3⟩, h3, o3⟩ => ?_
  subst ef
  exact ⟨(g1.trans g2).trans g3, _, H1, inv2_of I3 h3 o3, q1⟩
end
theorem Ds.reverse {K : PySem.W.Frag} {H : Hp} : ∀ {ds : List PyData} {xs : List V}, Ds K H ds xs → Ds K H ds.reverse xs.reverse
  | [], xs, h => by rw [ds_nil_inv h]; exact ds_nil
  | d :: ds, xs, h => by
    obtain ⟨y, ys, rfl, h1, h2⟩ := ds_inv h
    rw [List.reverse_cons, List.reverse_cons]
    exact Ds.append (Ds.reverse h2) (ds_cons h1 ds_nil)
/-- a def that wakes generators, by its name, with its own form -/
structure Cal2S (P : Program) (w : World) (K : PySem.W.Frag) (mg : Str → Option Value) (base : Heap) (k : Nat) (x : Str) (st : Stmt) (ps : List Str) (sp : Sp) : Prop where
  ex : ∃ (f : Addr) (kV doc pm : Value) (an : Option Addr) (cdv ct : Value), FnOk2 P w K mg base k f (PySem.W.fnOf x x (defArgs st) (defBody st) (defScope st) .none kV doc pm an cdv ct) ps sp ∧ mg x = some (.ref f) ∧ PySem.W.keepIn K (.ref f) = true
section
variable {P : Program} {w : World} {K : PySem.W.Frag} {mg : Str → Option Value} {base : Heap}
theorem cal2s_of {x : Str} {st : Stmt} {N ps : List Str} {k : Nat} {sp : Sp} (F : DefAt K mg x st) (S : FnScope N ps (defScope st))
    (len : ∀ vs H Q E, sp vs H Q E → vs.length = ps.length)
    (hbody : ∀ (f : Addr) (cdv : Value) (A : Around) (outer : List Env) (s : Shared) (H : Hp) (vs : List V) (Q : VK), PySem.W.codeIn K cdv x = true → Room k (A.deeper (envOfC x (defScope st) s.heap.objs.size f cdv)) → sp vs H Q (fun _ _ _ => False) →
      ∃ t, PSs2 (cxOf CX0 P w K mg base N x (defScope st) f cdv A outer (stuck s) H (fun _ _ _ => False)).nox (defBody st) t ∧ t { nx := fun _ H' => Q .non H', rt := Q } (L2.start N vs) H) : Cal2S P w K mg base (k + 1) x st ps sp := by
  obtain ⟨f, oc, od, kV, doc, pm, an, cdv, ct, osl, hm, lk, hcd, kp⟩ := F.ex
  exact ⟨⟨f, kV, doc, pm, an, cdv, ct, fn2_of lk hcd S len fun A outer s H vs Q hr hsp => hbody f cdv A outer s H vs Q hcd hr hsp, hm, kp⟩⟩
theorem Cal2S.cal {x : Str} {st : Stmt} {ps : List Str} {k : Nat} {sp : Sp} (c : Cal2S P w K mg base k x st ps sp)
    (hb : ∀ (kV doc pm : Value) (an : Option Addr) (cdv ct : Value) (us : List Value), us.length = ps.length → bindArgs (PySem.W.fnOf x x (defArgs st) (defBody st) (defScope st) .none kV doc pm an cdv ct) ⟨us, []⟩ = pure (ps.zip us)) : Cal2 P w K mg base k x sp := by
  obtain ⟨f, kV, doc, pm, an, cdv, ct, F, hm, kp⟩ := c.ex
  exact ⟨⟨f, _, ps, F, hm, kp, .all (hb kV doc pm an cdv ct)⟩⟩
end
/-- taking parts stays small -/
def TkB (b : Td.T) : Prop := ∀ f s, (b.taken f s).ok ∧ (b.taken f s).cnt ≤ 100000 ∧ (b.taken f s).lev ≤ 40
section
variable {P : Program} {w : World} {K : PySem.W.Frag} {mg : Str → Option Value} {base : Heap} {C : Addr}
theorem WAt.kept {H H' : Hp} {a g : WA} {W G : Wk} (w : WAt K C H a W) (v : WAt K C H g G) (k : Kept a H H') (n1 : g.x ≠ a.x ∧ g.x ≠ a.ls ∧ g.x ≠ a.lb) (n2 : g.ls ≠ a.x ∧ g.ls ≠ a.ls ∧ g.ls ≠ a.lb) (n3 : g.lb ≠ a.x ∧ g.lb ≠ a.ls ∧ g.lb ≠ a.lb) : WAt K C H' g G := by
  obtain ⟨hv, xs, ys, e1, e2, e3, h1, h2, h3⟩ := v.ex
  have t := k.tle w
  exact ⟨⟨hv, xs, ys, k _ n1.1 n1.2.1 n1.2.2 _ e1, k _ n2.1 n2.2.1 n2.2.2 _ e2, k _ n3.1 n3.2.1 n3.2.2 _ e3, h1.le t, Ds.le t _ _ h2, Ds.le t _ _ h3⟩, v.ne⟩
theorem sc_steps_between : FnScope ["one", "other", "item", "rows", "row", "walk", "goal"] ["one", "other"] (defScope (topS 41)) := ⟨rfl, rfl, rfl, by decide +kernel, rfl, by decide +kernel, by decide +kernel⟩
def spSB (K : PySem.W.Frag) (Pt : Addr) : Sp := fun vs H Q _ => ∃ (a b : Td.T) (ss : List Stp) (v u : V), vs = [v, u] ∧ TVb K H a v ∧ TVb K H b u ∧ TkB a ∧ TkB b ∧ SB a b ss ∧ ss.length ≤ 100000 ∧ 0 < (cmn a b).length ∧ LamX.Tabs (TabC Pt) H ∧
  ∀ (H' : Hp) (p : Addr) (xs : List V), LamX.ExtN H H' → LamX.Tabs (TabC Pt) H' → H' p = some (.lst xs) → SVs K H' ss xs → Q (.ref p) H'
theorem ok_sbS (T : Top K mg) (M : Mod K mg base) (D0 : Counts K w mg) (U : WTop K mg C) {a0 c Pt : Addr} (hk0 : KTup K a0 []) (E : GenAt K mg "ends" (topS 16) [.int 0, .int 1]) (E2 : GenAt K mg "end_paths" (topS 36) [.ref a0, .int 0, .int 1]) (CA : ComAt K mg c) (TB : LamX.TabB base mg c Pt) :
    Cal2S P w K mg base 221 "steps_between" (topS 41) ["one", "other"] (spSB K Pt) := by
  have c_difference : Cal2 P w K mg base 220 "difference" (spDifference K) := ok_difference T M E
  have c_common : Cal2 P w K mg base 220 "common" (spCommon K Pt) := ok_common T M E CA TB
  have c_refined : Cal2 P w K mg base 220 "refined" (spRefined K C) := ok_refined T M D0 U hk0 E2
  have c_factors_of : C8.Cal P w K mg base 1 "factors_of" spFactors [] := ok_factors T
  have c_make_like : C8.Cal P w K mg base 187 "make_like" (spML K C 60) [] := ok_ml T D0 U 60
  refine cal2s_of T.d_steps_between sc_steps_between (fun vs H Q E h => ?_) fun f cdv A outer sh H vs Q _ hr h => ?_
  · obtain ⟨a, b, ss, v, u, rfl, _⟩ := h; rfl
  · obtain ⟨a, b, ss, v, u, rfl, ha, hb, hka, hkb, hSB, hsl, hc0, hT, k⟩ := h
    refine ⟨_, pss2_cons (ps2_set (i := 2) sc_steps_between.nd rfl (by first | exact Or.inl rfl | exact Or.inr rfl) (pe2_c c_difference hr (by omega) rfl (pa2_of (fun _ _ z => z) (pa_cons (pv 0) (pa_cons (pv 1) pa_nil)))))
      (pss2_cons (ps2_of (fun _ _ z => z) (ps_if (pt_cmpR op_notN (pv 2) pe_non (nomark _)) (pss_one ps_never) pss_nil))
      (pss2_cons (ps2_set (i := 3) sc_steps_between.nd rfl (by first | exact Or.inl rfl | exact Or.inr rfl) (pe2_c c_common hr (by omega) rfl (pa2_of (fun _ _ z => z) (pa_cons (pv 0) (pa_cons (pv 1) pa_nil)))))
      (pss2_cons (ps2_of (fun _ _ z => z) (ps_if (pt_cmpR op_gt (pe_callB call_len_seq (by rfl) T.n_len (by decide +kernel) (pa_cons (pv 3) pa_nil)) (C8.pe_gc rfl T.g_MOST_ENDS) (nomark _)) (pss_one ps_never) pss_nil))
      (pss2_cons (ps2_of (fun _ _ z => z) (ps_if (pt_cmpR op_gt (pe_callB (cr_max rfl) (by rfl) T.n_max (by decide +kernel) (pa_cons (pe_lc (own := [("row", 4)]) (te := tCB (rLS K) (tCons (tCall spFactors [] C8.E0 (tCons (tOp (rIxT K) (tVar 4) (tC (.int 1))) tNil)) tNil)) (by rfl) sc_steps_between.nd (pi_list (pv 3)) (blkOk_by (own := [("row", 4)]) (N := ["one", "other", "item", "rows", "row", "walk", "goal"]) (sc := (defScope (topS 41))) (by decide +kernel)) (fun _ _ _ _ _ => (pg_name (i := 4) sc_steps_between.nd rfl (by first | exact Or.inl rfl | exact Or.inr rfl))) (fun _ _ _ _ _ => pts_nil) (fun _ _ _ _ _ => (pe_callB call_len_seq (by rfl) T.n_len (by decide +kernel) (pa_cons (C8.pe_c c_factors_of hr (by omega) rfl (pa_cons (pe_ix ix_tup (pv 4) pe_int (fun _ _ => rfl)) pa_nil)) pa_nil)))) pa_nil)) (C8.pe_gc rfl T.g_MOST_LEVELS) (nomark _)) (pss_one ps_never) pss_nil))
      (pss2_cons (ps2_par (i := 5) (j := 6) (by rfl) sc_steps_between.nd rfl rfl (by decide) rfl rfl (pa2_cons (pe2_c c_refined hr (by omega) rfl (pa2_of (fun _ _ z => z) (pa_cons (pv 0) (pa_cons (pv 1) pa_nil)))) (pa2_cons (pe2_c c_refined hr (by omega) rfl (pa2_of (fun _ _ z => z) (pa_cons (pv 1) (pa_cons (pv 0) pa_nil)))) pa2_nil)) (by rfl))
      (pss2_of (fun _ _ z => z) (pss_cons (ps_expr (C8.pe_c c_make_like hr (by omega) rfl (pa_cons (pv 5) (pa_cons (pe_tup pa_nil) (pa_cons (pe_fld (pv 6) rfl) pa_nil)))))
        (pss_one (ps_ret (pe_lst (StX.pa_star (pe_fld (pv 5) rfl) (StX.pa_star (pe_revL (pe_fld (pv 6) rfl)) pa_nil)))))))))))), ?_⟩
    obtain ⟨heq, hlen, hfit, W, G, W2, hW, hG, hML, rfl⟩ := hSB
    refine ⟨_, rfl, _, rfl, a, b, v, u, rfl, ha, hb, heq, hkb, fun H1 s1 => ?_⟩
    refine ⟨_, rfl, rfl, _, rfl, ite2 (fun h1 => absurd h1 (by decide)) fun _ => ?_⟩
    refine ⟨_, rfl, _, rfl, a, b, v, u, rfl, ha.le (Same.tle s1), hb.le (Same.tle s1), by omega, hT.ext s1, hkb, fun H2 p ys hE hT2 hp hyl hys => ?_⟩
    have e02 : LamX.ExtN H H2 := (ExtN.same s1).trans hE
    refine ⟨_, rfl, p, ys, rfl, .inl (SqL.of hp), _, _, rfl, rfl, _, rfl, ite2 (fun h1 => absurd h1 (by simp; omega)) fun _ => ?_⟩
    refine ⟨_, rfl, p, rfl, ⟨ys, SqL.of hp⟩, fun D hD => ?_⟩
    refine lc_pure (K := K) (walk_list (xs := ys)) hD (by rw [hyl]; exact Nat.le_trans (by omega) size5) (fun H' s => SqL.of (s _ _ hp)) (fun i H x H' e => e.1 ▸ .refl _) (fun i v _ => ∃ n : Nat, v = .int (n : Nat) ∧ n ≤ 40) (fun i v H H' _ h => h) (fun i x H3 H' k' hi s3 ⟨e, ex⟩ hk => ?_) fun zs H3 s3 hl hzl hR => ?_
    · subst e
      obtain ⟨t, r, rfl, hr1, ht⟩ := hys x (List.mem_of_getElem? ex)
      obtain ⟨f1, f2⟩ := hfit r hr1
      refine ⟨rfl, _, rfl, t, rowC r, _, _, rfl, rfl, SqT.of (s3 _ _ ht), atI_nat (j := 1) rfl, r.2.1, rfl, f1, Nat.lt_of_lt_of_le f2 (by decide), fun q xs H4 hq hq2 sq hpow => ⟨q, xs, rfl, .inl (SqL.of hq2), hk _ _ sq ⟨xs.length, rfl, ?_⟩⟩⟩
      have : 2 ^ xs.length < 2 ^ 40 := Nat.lt_of_le_of_lt hpow f2
      have := (Nat.pow_lt_pow_iff_right (by omega : 1 < 2)).mp this
      omega
    obtain ⟨ns, hns, hn40⟩ : ∃ ns : List Nat, zs = (ns.map fun n => ((n : Nat) : Int)).map V.int ∧ ∀ n ∈ ns, n ≤ 40 := by
      have key : ∀ zs : List V, (∀ z ∈ zs, ∃ n : Nat, z = .int (n : Nat) ∧ n ≤ 40) → ∃ ns : List Nat, zs = (ns.map fun n => ((n : Nat) : Int)).map V.int ∧ ∀ n ∈ ns, n ≤ 40 := by
        intro zs
        induction zs with
        | nil => intro _; exact ⟨[], rfl, fun n hn => by cases hn⟩
        | cons z zs ih =>
          intro h
          obtain ⟨ns, e, hb⟩ := ih fun z' h' => h z' (List.mem_cons_of_mem _ h')
          obtain ⟨n, rfl, hn⟩ := h z List.mem_cons_self
          refine ⟨n :: ns, by rw [e]; rfl, fun m hm => ?_⟩
          rcases List.mem_cons.mp hm with rfl | hm
          · exact hn
          · exact hb m hm
      refine key zs fun z hz => ?_
      obtain ⟨i, hi, e⟩ := List.mem_iff_getElem.mp hz
      exact hR i z (by rw [List.getElem?_eq_getElem hi, e])
    refine ⟨D, ns.map fun n => ((n : Nat) : Int), rfl, by rw [← hns]; exact SqL.of hl, ?_, fun m hm hall => ?_⟩
    · have : zs.length = ns.length := by rw [hns]; simp
      rw [List.length_map]; omega
    obtain ⟨n, hn, rfl⟩ := List.mem_map.mp hm
    refine ⟨_, _, rfl, rfl, _, rfl, ite2 (fun h1 => absurd h1 (by have := hn40 n hn; simp; omega)) fun _ => ?_⟩
    have e03 : LamX.ExtN H H3 := e02.trans (ExtN.same s3)
    have l03 := extN_tle (K := K) e03
    refine ⟨_, rfl, _, rfl, a, b, W, v, u, rfl, ha.le l03, hb.le l03, hkb, hW, fun H4 wa s4 hf4 w4 => ?_⟩
    refine ⟨_, rfl, _, rfl, b, a, G, u, v, rfl, hb.le (l03.trans (Same.tle s4)), ha.le (l03.trans (Same.tle s4)), hka, hG, fun H5 ga s5 hf5 w5 => ⟨_, _, rfl, ?_⟩⟩
    refine ⟨_, rfl, Nat.zero_le _, fun l hl6 => ?_⟩
    have s6 : Same H5 (upd H5 l (.tup [])) := Same.upd hl6
    obtain ⟨gv, _, _, g1, _, _, hgT, _⟩ := w5.ex
    refine ⟨_, rfl, ga.x, C, ga.dx, _, _, rfl, s6 _ _ g1, U.cls, U.na_here, rfl, ?_⟩
    refine ⟨wa, W, W2, [], G.here, .ref l, gv, rfl, (w4.same s5).same s6, pv_of (SqT.of upd_same), hgT.le (Same.tle s6), by simp, hML, fun H7 k7 w7 => ?_⟩
    have wx4 := w4.ex
    obtain ⟨_, _, _, x1, x2, x3, _⟩ := wx4
    have nn : ∀ {c d : Addr} {o : HO}, H4 c = none → H4 d = some o → c ≠ d := fun hc hd z => by rw [z, hd] at hc; cases hc
    have w8 : WAt K C H7 ga G := WAt.kept ((w4.same s5).same s6) (w5.same s6) k7 ⟨nn hf5.1 x1, nn hf5.1 x2, nn hf5.1 x3⟩ ⟨nn hf5.2.1 x1, nn hf5.2.1 x2, nn hf5.2.1 x3⟩ ⟨nn hf5.2.2 x1, nn hf5.2.2 x2, nn hf5.2.2 x3⟩
    obtain ⟨_, xs, _, y1, y2, _, _, hxs, _⟩ := w7.ex
    obtain ⟨_, _, bs, z1, _, z3, _, _, hbs⟩ := w8.ex
    refine ⟨_, rfl, wa.x, C, wa.dx, _, _, rfl, y1, U.cls, U.na_steps, rfl, wa.ls, xs, rfl, .inr (SqL.of y2), ?_⟩
    refine ⟨_, rfl, ga.x, C, ga.dx, _, _, rfl, z1, U.cls, U.na_backs, rfl, ga.lb, bs, rfl, SqL.of z3, fun q hq => ?_⟩
    refine ⟨q, bs.reverse, rfl, .inr (SqL.of upd_same), ?_, fun pp hpp => ?_⟩
    · have e1 := hxs.len
      have e2 := hbs.len
      have := size5
      simp only [List.length_append, List.length_reverse] at hsl ⊢
      simp
      omega
    have s9 : Same H7 (upd H7 q (.lst bs.reverse)) := Same.upd hq
    have s10 := Same.upd (o := .lst (xs ++ (bs.reverse ++ []))) hpp
    have eN : ∀ c o, H c = some o → (∀ ps, o ≠ .tbl ps) → H7 c = some o := fun c o e n => by
      have q3 := e03 _ _ e n
      have q4 := s4 _ _ q3
      exact k7 c (fun z => by rw [z] at q3; rw [hf4.1] at q3; cases q3) (fun z => by rw [z] at q3; rw [hf4.2.1] at q3; cases q3) (fun z => by rw [z] at q3; rw [hf4.2.2] at q3; cases q3) o (s6 _ _ (s5 _ _ q4))
    have eT : ∀ c o, H3 c = some o → H7 c = some o := fun c o q3 => by
      have q4 := s4 _ _ q3
      exact k7 c (fun z => by rw [z] at q3; rw [hf4.1] at q3; cases q3) (fun z => by rw [z] at q3; rw [hf4.2.1] at q3; cases q3) (fun z => by rw [z] at q3; rw [hf4.2.2] at q3; cases q3) o (s6 _ _ (s5 _ _ q4))
    have hT10 : LamX.Tabs (TabC Pt) (upd (upd H7 q (.lst bs.reverse)) pp (.lst (xs ++ (bs.reverse ++ [])))) := (((hT2.ext s3).ext eT).ext s9).ext s10
    refine k _ pp _ (LamX.ExtN.trans eN (ExtN.same (s9.trans s10))) hT10 upd_same ?_
    · have l10 := (Same.tle (K := K) s9).trans (Same.tle s10)
      unfold SVs
      rw [List.map_append, List.map_reverse]
      have key : ∀ zs : List V, zs = bs.reverse → Ds K (upd (upd H7 q (.lst bs.reverse)) pp (.lst (xs ++ (bs.reverse ++ [])))) (G.backs.map Stp.dat).reverse zs := by
        rintro _ rfl
        exact Ds.reverse (Ds.le l10 _ _ hbs)
      exact Ds.append (Ds.le l10 _ _ hxs) (key _ (List.append_nil _))
end
end Td
end

section
set_option maxHeartbeats 1000000
/-! TdLw1: the law's bag: pull, of. -/
namespace Td
open PySem PySem.Spec PyProof.Rows L2
/-- the bag of numbers, as it stands -/
structure BagAt (K : PySem.W.Frag) (ns : List Int) (B S : Addr) (H : Hp) : Prop where
  ex : ∃ (i : Nat) (big : Int) (seed : Nat), H B = some (.lst [.ref S, .int (i : Nat), .int big, .int (seed : Nat)]) ∧ 0 ≤ big ∧ seed < 2147483647
  sq : SqL K H S (ns.map V.int)
  ne : B ≠ S
/-- all but the bag stays -/
def KeptB (B : Addr) (H H' : Hp) : Prop := ∀ b o, b ≠ B → H b = some o → H' b = some o
section
variable {K : PySem.W.Frag} {ns : List Int} {B S : Addr} {H H' H2 : Hp}
theorem KeptB.refl (B : Addr) (H : Hp) : KeptB B H H := fun _ _ _ h => h
theorem KeptB.trans (a : KeptB B H H') (b : KeptB B H' H2) : KeptB B H H2 := fun c o n e => b c o n (a c o n e)
theorem Same.keptB (s : Same H H') : KeptB B H H' := fun b o _ e => s b o e
theorem KeptB.tle (k : KeptB B H H') (b : BagAt K ns B S H) : TLe K H H' := fun a xs h => by
  obtain ⟨i, big, seed, e, _⟩ := b.ex
  rcases h with (h | ⟨o, h⟩) | h
  · exact .inl (.inl (k _ _ (fun z => by rw [z, e] at h; cases h) h))
  · exact .inl (.inr ⟨o, k _ _ (fun z => by rw [z, e] at h; cases h) h⟩)
  · exact .inr h
theorem BagAt.same (b : BagAt K ns B S H) (s : Same H H') : BagAt K ns B S H' := by
  obtain ⟨i, big, seed, e, h⟩ := b.ex
  exact ⟨⟨i, big, seed, s _ _ e, h⟩, (by
    rcases b.sq with (q | ⟨o, q⟩) | q
    · exact .inl (.inl (s _ _ q))
    · exact .inl (.inr ⟨o, s _ _ q⟩)
    · exact .inr q), b.ne⟩
theorem BagAt.upd {i : Nat} {big : Int} {seed : Nat} {H0 : Hp} (b : BagAt K ns B S H) (k : KeptB B H H0) (h1 : 0 ≤ big) (h2 : seed < 2147483647) : BagAt K ns B S (L2.upd H0 B (.lst [.ref S, .int (i : Nat), .int big, .int (seed : Nat)])) := by
  refine ⟨⟨i, big, seed, upd_same, h1, h2⟩, ?_, b.ne⟩
  rcases b.sq with (q | ⟨o, q⟩) | q
  · exact .inl (.inl (by rw [upd_ne (Ne.symm b.ne)]; exact k _ _ (Ne.symm b.ne) q))
  · exact .inl (.inr ⟨o, by rw [upd_ne (Ne.symm b.ne)]; exact k _ _ (Ne.symm b.ne) q⟩)
  · exact .inr q
theorem keptB_upd {H0 : Hp} {o : HO} (k : KeptB B H H0) : KeptB B H (L2.upd H0 B o) := fun b u n e => by rw [upd_ne n]; exact k b u n e
end
theorem mod_small (x : Int) : ∃ s : Nat, x % 2147483647 = (s : Nat) ∧ s < 2147483647 := by
  have h1 := Int.emod_nonneg x (by omega : (2147483647 : Int) ≠ 0)
  have h2 := Int.emod_lt_of_pos x (by omega : (0 : Int) < 2147483647)
  exact ⟨(x % 2147483647).toNat, by omega, by omega⟩
theorem mod_nat (x : Int) {n : Nat} (h : 1 ≤ n) : ∃ s : Nat, x % (n : Nat) = (s : Nat) ∧ s < n := by
  have h1 := Int.emod_nonneg x (by omega : ((n : Nat) : Int) ≠ 0)
  have h2 := Int.emod_lt_of_pos x (by omega : (0 : Int) < (n : Nat))
  exact ⟨(x % (n : Nat)).toNat, by omega, by omega⟩
section
variable {P : Program} {w : World} {K : PySem.W.Frag} {mg : Str → Option Value} {base : Heap}
theorem sc_law_pull : FnScope ["_law_bag_here", "_law_amount", "_law_cell", "_law_got", "_law_seed"] ["_law_bag_here", "_law_amount"] (defScope (topS 44)) := ⟨rfl, rfl, rfl, by decide +kernel, rfl, by decide +kernel, by decide +kernel⟩
def spPull (K : PySem.W.Frag) (ns : List Int) (B S : Addr) : Sp := fun vs H Q _ => ∃ n : Nat, vs = [.ref B, .int (n : Nat)] ∧ 1 ≤ n ∧ n ≤ 1000000 ∧ BagAt K ns B S H ∧ ∀ (k : Nat) H', k < n → KeptB B H H' → BagAt K ns B S H' → Q (.int (k : Nat)) H'
theorem ok_pull (T : Top K mg) {ns : List Int} {B S : Addr} : C8.Cal P w K mg base 1 "_law_pull" (spPull K ns B S) [] := by
  refine cal_of T.d_law_pull sc_law_pull (fun _ _ _ _ _ _ us hl => match us, hl with | [_, _], _ => rfl) (fun vs H Q E h => ?_) fun f cdv A outer sh H vs Q E hr h => ?_
  · obtain ⟨n, rfl, _⟩ := h; rfl
  · obtain ⟨n, rfl, hn, hn2, hB, k⟩ := h
    refine ⟨_, (C8.pss_cut (ps_if (PW.pt (pw_and (pt_cmpR op_eq (pe_ix ix_list (pv 0) pe_int (fun _ _ => rfl)) pe_int (nomark _)) (pw_and1 (pt_cmpR op_lt (pe_ix ix_list (pv 0) pe_int (fun _ _ => rfl)) (pe_callB call_len_seq (by rfl) T.n_len (by decide +kernel) (pa_cons (pe_ix ix_list (pv 0) pe_int (fun _ _ => rfl)) pa_nil)) (nomark _))))) (pss_cons (ps_set (i := 2) sc_law_pull.nd rfl (by first | exact Or.inl rfl | exact Or.inr rfl) (pe_ix ix_list (pe_ix ix_list (pv 0) pe_int (fun _ _ => rfl)) (pe_ix ix_list (pv 0) pe_int (fun _ _ => rfl)) (fun _ _ => rfl)))
      (pss_cons (ps_asg (pe_op op_add (pe_ix ix_list (pv 0) pe_int (fun _ _ => rfl)) pe_int) (pg_sub (pv 0) pe_int set_list))
      (pss_one (ps_if (pt_cmpR op_ge (pv 2) (pe_op op_pow pe_int pe_int) (nomark _)) (pss_one (ps_asg (pv 2) (pg_sub (pv 0) pe_int set_list))) (pss_one (ps_asg (pe_op op_mod (pe_op op_add (pe_op op_add (pe_op op_mul (pe_ix ix_list (pv 0) pe_int (fun _ _ => rfl)) pe_int) (pe_op op_mul (pe_op op_mod (pv 2) pe_int) pe_int)) pe_int) pe_int) (pg_sub (pv 0) pe_int set_list))))))) pss_nil)
      (C8.pss_cut (ps_if (pt_cmpR op_gt (pe_ix ix_list (pv 0) pe_int (fun _ _ => rfl)) pe_int (nomark _)) (pss_cons (ps_set (i := 3) sc_law_pull.nd rfl (by first | exact Or.inl rfl | exact Or.inr rfl) (pe_op op_mod (pe_ix ix_list (pv 0) pe_int (fun _ _ => rfl)) (pv 1)))
      (pss_cons (ps_asg (pe_op op_fdiv (pe_ix ix_list (pv 0) pe_int (fun _ _ => rfl)) (pv 1)) (pg_sub (pv 0) pe_int set_list))
      (pss_one (ps_ret (pv 3))))) pss_nil)
      (pss_cons (ps_set (i := 4) sc_law_pull.nd rfl (by first | exact Or.inl rfl | exact Or.inr rfl) (pe_ix ix_list (pv 0) pe_int (fun _ _ => rfl)))
      (pss_cons (ps_asg (pe_op op_mod (pe_op op_add (pe_op op_add (pe_op op_mul (pv 4) (pv 4)) (pe_op op_mul (pv 4) pe_int)) pe_int) pe_int) (pg_sub (pv 0) pe_int set_list))
      (pss_one (ps_ret (pe_op op_mod (pe_op op_add (pe_op op_fdiv (pe_ix ix_list (pv 0) pe_int (fun _ _ => rfl)) pe_int) (pe_op op_mul (pe_op op_mod (pe_ix ix_list (pv 0) pe_int (fun _ _ => rfl)) pe_int) pe_int)) (pv 1)))))))), ?_⟩
    obtain ⟨i, big, seed, e1, h1, h2⟩ := hB.ex
    refine ⟨fun σ' H' => KeptB B H H' ∧ BagAt K ns B S H' ∧ ∃ x y z, σ' = [some (.ref B), some (.int (n : Nat)), x, y, z], ?_, ?_⟩
    · refine ⟨_, rfl, B, _, _, _, rfl, rfl, SqL.of e1, rfl, rfl, _, rfl, ite2 (fun c => ?_) fun c => ?_⟩
      · refine ⟨_, rfl, B, _, _, _, rfl, rfl, SqL.of e1, rfl, _, rfl, B, _, _, _, rfl, rfl, SqL.of e1, rfl, S, _, rfl, .inl hB.sq, _, _, rfl, rfl, _, rfl, ite2 (fun c2 => ?_) fun c2 => ?_⟩
        · have hi : i < ns.length := by simpa using c2
          have hcell : (ns.map V.int)[i]? = some (.int ns[i]) := by simp [hi]
          refine ⟨_, rfl, B, _, _, _, rfl, rfl, SqL.of e1, rfl, _, rfl, B, _, _, _, rfl, rfl, SqL.of e1, rfl, S, _, _, _, rfl, rfl, hB.sq, atI_nat hcell, ?_⟩
          refine ⟨_, rfl, B, _, _, _, rfl, rfl, SqL.of e1, rfl, _, _, rfl, rfl, _, rfl, B, _, 1, 1, rfl, rfl, e1, rfl, ?_⟩
          refine ⟨_, rfl, _, _, rfl, rfl, ⟨by omega, by omega, by decide⟩, _, _, rfl, rfl, _, rfl, ite2 (fun c3 => ?_) fun c3 => ?_⟩
          · have hc3 : (10 ^ (18 : Int).toNat : Int) ≤ ns[i] := by simpa using c3
            have hc4 : (0 : Int) ≤ ns[i] := Int.le_trans (by decide) hc3
            refine ⟨_, rfl, _, rfl, B, _, 2, 2, rfl, rfl, upd_same, rfl, ?_⟩
            exact ⟨keptB_upd (keptB_upd (.refl _ _)), BagAt.upd (i := i + 1) hB (keptB_upd (.refl _ _)) hc4 h2, _, _, _, rfl⟩
          · refine ⟨_, rfl, B, _, _, _, rfl, rfl, SqL.of upd_same, rfl, _, _, rfl, rfl, .inr ⟨by omega, by omega⟩, _, rfl, _, _, rfl, rfl, by omega, _, _, rfl, rfl, .inr ⟨by omega, by omega⟩, _, _, rfl, rfl, _, _, rfl, rfl, _, _, rfl, rfl, by omega, ?_⟩
            obtain ⟨sd, es, hs⟩ := mod_small (((seed : Nat) : Int) * 39373 + ns[i] % 2147483563 * 40692 + 3)
            dsimp only
            rw [es]
            refine ⟨_, rfl, B, _, 3, 3, rfl, rfl, upd_same, rfl, ?_⟩
            exact ⟨keptB_upd (keptB_upd (.refl _ _)), BagAt.upd (i := i + 1) hB (keptB_upd (.refl _ _)) h1 hs, _, _, _, rfl⟩
        · exact ⟨.refl _ _, hB, _, _, _, rfl⟩
      · exact ⟨.refl _ _, hB, _, _, _, rfl⟩
    · rintro σ' H1 ⟨k1, hB1, x, y, z, rfl⟩
      obtain ⟨i, big, seed, e1, h1, h2⟩ := hB1.ex
      refine ⟨fun σ' H' => H' = H1 ∧ ∃ x y z, σ' = [some (.ref B), some (.int (n : Nat)), x, y, z], ?_, ?_⟩
      · refine ⟨_, rfl, B, _, _, _, rfl, rfl, SqL.of e1, rfl, _, _, rfl, rfl, _, rfl, ite2 (fun c => ?_) fun c => ?_⟩
        · refine ⟨_, rfl, B, _, _, _, rfl, rfl, SqL.of e1, rfl, _, rfl, _, _, rfl, rfl, by omega, ?_⟩
          obtain ⟨g, eg, hg⟩ := mod_nat big hn
          dsimp only
          rw [eg]
          refine ⟨_, rfl, B, _, _, _, rfl, rfl, SqL.of e1, rfl, _, rfl, _, _, rfl, rfl, ⟨by omega, by omega⟩, _, rfl, B, _, 2, 2, rfl, rfl, e1, rfl, ?_⟩
          refine ⟨_, rfl, k g _ hg (k1.trans (keptB_upd (.refl _ _))) (BagAt.upd hB1 (.refl _ _) (Int.ediv_nonneg h1 (by omega)) h2)⟩
        · exact ⟨rfl, _, _, _, rfl⟩
      · rintro σ' H2 ⟨rfl, x, y, z, rfl⟩
        refine ⟨_, rfl, B, _, _, _, rfl, rfl, SqL.of e1, rfl, ?_⟩
        refine ⟨_, rfl, _, rfl, _, _, rfl, rfl, .inl ⟨by omega, by omega⟩, _, rfl, _, _, rfl, rfl, .inr ⟨by omega, by omega⟩, _, _, rfl, rfl, _, _, rfl, rfl, _, _, rfl, rfl, by omega, ?_⟩
        obtain ⟨sd, es, hs⟩ := mod_small (((seed : Nat) : Int) * (seed : Nat) + ((seed : Nat) : Int) * 48271 + 1442695041)
        dsimp only
        rw [es]
        refine ⟨_, rfl, B, _, 3, 3, rfl, rfl, e1, rfl, ?_⟩
        refine ⟨_, rfl, B, _, _, _, rfl, rfl, SqL.of upd_same, rfl, _, _, rfl, rfl, ⟨by omega, by omega⟩, _, rfl, B, _, _, _, rfl, rfl, SqL.of upd_same, rfl, _, _, rfl, rfl, by omega, _, _, rfl, rfl, .inr ⟨by omega, by omega⟩, _, _, rfl, rfl, _, rfl, _, _, rfl, rfl, by omega, ?_⟩
        obtain ⟨g, eg, hg⟩ := mod_nat (((sd : Nat) : Int) / 83 + ((sd : Nat) : Int) % 8209 * 53) hn
        dsimp only
        rw [eg]
        exact k g _ hg (k1.trans (keptB_upd (.refl _ _))) (BagAt.upd hB1 (.refl _ _) h1 hs)
end
end Td
end

section
set_option maxHeartbeats 1000000
/-! TdLw2: the law's gcd, every, levels, part. -/
namespace Td
open PySem PySem.Spec PyProof.Rows L2
section
variable {P : Program} {w : World} {K : PySem.W.Frag} {mg : Str → Option Value} {base : Heap}
theorem sc_law_gcd : FnScope ["_law_one_z", "_law_other_z"] ["_law_one_z", "_law_other_z"] (defScope (topS 51)) := ⟨rfl, rfl, rfl, by decide +kernel, rfl, by decide +kernel, by decide +kernel⟩
theorem ok_lgcd (T : Top K mg) : C8.Cal P w K mg base 1 "_law_gcd" spDivisor [] := by
  refine cal_of T.d_law_gcd sc_law_gcd (fun _ _ _ _ _ _ us hl => match us, hl with | [_, _], _ => rfl) (fun vs H Q E h => ?_) fun f cdv A outer s H vs Q E hr h => ?_
  · obtain ⟨a, b, rfl, _⟩ := h; rfl
  · obtain ⟨a, b, rfl, k⟩ := h
    refine ⟨_, (pss_cons (ps_while PassesOwn.never (pt_cmpR op_ne (pv 1) pe_int (nomark _)) (pss_one (ps_par (i := 0) (j := 1) (by rfl) sc_law_gcd.nd rfl rfl (by decide) rfl rfl (pa_cons (pv 1) (pa_cons (pe_op op_mod (pv 0) (pv 1)) pa_nil)) (by rfl))))
      (pss_one (ps_ret (pv 0)))), ?_⟩
    refine while_by (fun σ H' => H' = H ∧ ∃ x y : Nat, σ = [some (.int x), some (.int y)] ∧ Nat.gcd x y = Nat.gcd a b) (fun σ _ => match σ with | [_, some (.int y)] => y.toNat | _ => 0) ⟨rfl, a, b, rfl, rfl⟩ ?_ ?_
    · rintro σ H' ⟨rfl, x, y, rfl, e⟩
      refine ⟨_, rfl, rfl, _, rfl, ?_⟩
      refine ite2 (fun hc => ?_) fun hc => ?_
      · have hy : 0 < y := by
          have : y ≠ 0 := by simpa using hc
          omega
        refine ⟨_, rfl, _, rfl, _, rfl, _, _, rfl, rfl, by omega, _, _, rfl, ?_⟩
        have em : ((x : Int) % (y : Int)) = ((x % y : Nat) : Int) := by omega
        refine ⟨⟨rfl, y, x % y, by show [some (V.int (y : Int)), some (V.int ((x : Int) % (y : Int)))] = _; rw [em], ?_⟩, ?_⟩
        · rw [← e, Nat.gcd_comm x y, Nat.gcd_rec y x, Nat.gcd_comm]
        · show ((x : Int) % (y : Int)).toNat < ((y : Int)).toNat
          have := Nat.mod_lt x hy
          rw [em]; omega
      · have hy : y = 0 := by simpa using hc
        subst hy
        rw [Nat.gcd_zero_right] at e
        subst e
        exact ⟨_, rfl, k⟩
    · rintro σ H' Q1 Q2 hm ⟨v, e1, e2, b, e4, q⟩
      exact ⟨v, e1, e2, b, e4, hm _ _ q⟩
theorem sc_law_every : FnScope ["_law_tree_here", "_law_first", "_law_step", "_law_shared", "_law_found", "_law_k", "_law_item"] ["_law_tree_here", "_law_first", "_law_step"] (defScope (topS 52)) := ⟨rfl, rfl, rfl, by decide +kernel, rfl, by decide +kernel, by decide +kernel⟩
theorem ok_every (T : Top K mg) : ∀ n, C8.Cal P w K mg base (n + 2) "_law_every" (spTaken K n) []
  | 0 => by
    refine cal_of T.d_law_every sc_law_every (fun _ _ _ _ _ _ us hl => match us, hl with | [_, _, _], _ => rfl) (fun vs H Q E h => ?_) fun f cdv A outer s H vs Q E hr h => ?_
    · obtain ⟨t, v, f, s, rfl, _⟩ := h; rfl
    · obtain ⟨t, v, f, s, rfl, _, hl, _⟩ := h; omega
  | n + 1 => by
    have c_law_gcd : C8.Cal P w K mg base 1 "_law_gcd" spDivisor [] := ok_lgcd T
    have c_law_every : C8.Cal P w K mg base (n + 2) "_law_every" (spTaken K n) [] := ok_every T n
    refine cal_of T.d_law_every sc_law_every (fun _ _ _ _ _ _ us hl => match us, hl with | [_, _, _], _ => rfl) (fun vs H Q E h => ?_) fun fa cdv A outer sh H vs Q E hr h => ?_
    · obtain ⟨t, v, f, s, rfl, _⟩ := h; rfl
    · obtain ⟨t, v, f, s, rfl, hv, hlev, hs1, k⟩ := h
      refine ⟨_, (pss_cons (ps_if (pt_not (pt_val (pe_callB call_isi (by rfl) T.n_isinstance (by decide +kernel) (pa_cons (pv 0) (pa_cons (pe_bltn (v := .ty "tuple") (u := .type "tuple") (by rfl) T.n_tuple (by decide +kernel) rfl) pa_nil))))) (pss_one (ps_ret (pv 0))) pss_nil)
      (pss_cons (ps_set (i := 3) sc_law_every.nd rfl (by first | exact Or.inl rfl | exact Or.inr rfl) (C8.pe_c c_law_gcd hr (by omega) rfl (pa_cons (pe_callB call_len_seq (by rfl) T.n_len (by decide +kernel) (pa_cons (pv 0) pa_nil)) (pa_cons (pv 2) pa_nil))))
      (pss_cons (ps_set (i := 4) sc_law_every.nd rfl (by first | exact Or.inl rfl | exact Or.inr rfl) (pe_lst pa_nil))
      (pss_cons (ps_for PassesOwn.never rfl (pi_range1 (by rfl) T.n_range (pa_cons (pe_op op_fdiv (pe_callB call_len_seq (by rfl) T.n_len (by decide +kernel) (pa_cons (pv 0) pa_nil)) (pv 3)) pa_nil)) (pg_name (i := 5) sc_law_every.nd rfl (by first | exact Or.inl rfl | exact Or.inr rfl)) (pss_cons (ps_set (i := 6) sc_law_every.nd rfl (by first | exact Or.inl rfl | exact Or.inr rfl) (pe_op op_add (pv 1) (pe_op op_mul (pv 2) (pv 5))))
      (pss_one (ps_expr (pe_bm PySem.F.plainAttrs_list PySem.F.slot_list_append PySem.F.type_list_append mt_append (pv 4) (pa_cons (C8.pe_c c_law_every hr (by omega) rfl (pa_cons (pe_ix ix_tup (pv 0) (pe_op op_mod (pv 6) (pe_callB call_len_seq (by rfl) T.n_len (by decide +kernel) (pa_cons (pv 0) pa_nil))) (fun _ _ => rfl)) (pa_cons (pe_op op_fdiv (pv 6) (pe_callB call_len_seq (by rfl) T.n_len (by decide +kernel) (pa_cons (pv 0) pa_nil))) (pa_cons (pe_op op_fdiv (pv 2) (pv 3)) pa_nil)))) pa_nil))))))
      (pss_one (ps_ret (pe_ifExp (pt_cmpR op_gt (pe_callB call_len_seq (by rfl) T.n_len (by decide +kernel) (pa_cons (pv 4) pa_nil)) pe_int (nomark _)) (pe_callTy call_tuple_of (by rfl) T.n_tuple (by decide +kernel) (pa_cons (pv 4) pa_nil)) (pe_ix ix_list (pv 4) pe_int (fun _ _ => rfl))))))))), ?_⟩
      cases t with
      | leaf o =>
        refine ⟨_, rfl, _, _, _, _, false, rfl, .ty "tuple", hv.tyStr, kit_ty (by decide +kernel), _, rfl, iteT ⟨_, rfl, ?_⟩⟩
        exact k v H (.refl H) (by rw [taken_leaf]; exact hv.tv)
      | node ts =>
        refine ⟨_, rfl, _, _, _, _, true, rfl, .ty "tuple", hv.tyTup, kit_ty (by decide +kernel), _, rfl, iteF ?_⟩
        obtain ⟨a, xs, rfl, hs, hlen, hbig, h2, hx, ht⟩ := hv.node
        have hc0 : 0 < Nat.gcd ts.length s := Nat.gcd_pos_of_pos_right _ hs1
        have hck : Nat.gcd ts.length s ≤ ts.length := Nat.gcd_le_left _ (by omega)
        refine ⟨_, rfl, a, xs, rfl, .inr hs, _, rfl, xs.length, s, rfl, ?_⟩
        rw [hlen]
        refine ⟨by decide, fun p hp => ?_⟩
        have ediv : ((ts.length : Nat) : Int) / ((Nat.gcd ts.length s : Nat) : Int) = ((ts.length / Nat.gcd ts.length s : Nat) : Int) := rfl
        have hm1 : 1 ≤ ts.length / Nat.gcd ts.length s := (Nat.le_div_iff_mul_le hc0).mpr (by omega)
        have hmk : ts.length / Nat.gcd ts.length s ≤ ts.length := Nat.div_le_self _ _
        refine ⟨_, rfl, a, xs, rfl, .inr (Same.tle (Same.upd hp) a xs hs), _, rfl, _, _, rfl, rfl, ⟨by omega, by omega⟩, _, rfl, ?_⟩
        rw [hlen]
        have hjN : (((ts.length : Nat) : Int) / ((Nat.gcd ts.length s : Nat) : Int)).toNat = ts.length / Nat.gcd ts.length s := by rw [ediv]; exact Int.toNat_natCast _
        refine ⟨by rw [ediv]; omega, by rw [ediv]; omega, ?_⟩
        refine for_range (lo := 0) (fun i σ H' => i ≤ ts.length / Nat.gcd ts.length s ∧ Same H H' ∧ ∃ (acc : List V) (v6 v7 : Option V), σ = [some (.ref a), some (.int f), some (.int s), some (.int (Nat.gcd ts.length s : Nat)), some (.ref p), v6, v7] ∧ H' p = some (.lst acc) ∧ acc.length = i ∧
          ∀ (j : Nat) y, acc[j]? = some y → TV K H' (tkI ts f s j) y) ⟨Nat.zero_le _, Same.upd hp, [], none, none, rfl, upd_same, rfl, fun j y e => by simp at e⟩ ?_ ?_
        · rintro i σ H1 hi ⟨_, s1, acc, v6, v7, rfl, hl, hal, hR⟩
          rw [hjN] at hi
          refine ⟨_, rfl, _, rfl, _, rfl, _, _, rfl, rfl, .inr ⟨by omega, by omega⟩, _, _, rfl, rfl, ?_⟩
          have eitem : ((f : Nat) : Int) + ((s : Nat) : Int) * (0 + (i : Int)) = ((f + s * i : Nat) : Int) := by push_cast; rw [Int.zero_add]
          dsimp only
          rw [eitem]
          have hlt : (f + s * i) % ts.length < ts.length := Nat.mod_lt _ (by omega)
          obtain ⟨t, e1⟩ : ∃ t, ts[(f + s * i) % ts.length]? = some t := ⟨_, List.getElem?_eq_getElem hlt⟩
          obtain ⟨x, e2, hvx⟩ := ht _ t e1
          refine ⟨_, rfl, .inl ⟨rfl, _, SqL.of hl⟩, _, rfl, _, rfl, _, rfl, a, xs, rfl, .inr (Same.tle s1 a xs hs), _, _, rfl, rfl, by omega, ?_⟩
          rw [hlen]
          refine ⟨a, xs, _, x, rfl, rfl, Same.tle s1 a xs hs, atI_nat e2, ?_⟩
          refine ⟨_, rfl, _, rfl, a, xs, rfl, .inr (Same.tle s1 a xs hs), _, _, rfl, rfl, ⟨by omega, by omega⟩, ?_⟩
          rw [hlen]
          refine ⟨_, rfl, _, rfl, _, _, rfl, rfl, ⟨by omega, by omega⟩, ?_⟩
          have hsc : 1 ≤ s / Nat.gcd ts.length s := (Nat.le_div_iff_mul_le hc0).mpr (by rw [Nat.one_mul]; exact Nat.gcd_le_right _ hs1)
          have hlt2 : t.lev < n := by
            have := levs_get e1
            rw [lev_node] at hlev
            omega
          refine ⟨t, x, (f + s * i) / ts.length, s / Nat.gcd ts.length s, rfl, hvx.le (Same.tle s1), hlt2, hsc, fun y H2 s2 hy => ?_⟩
          have hl2 := s2 _ _ hl
          refine ⟨p, acc, y, rfl, rfl, hl2, Nat.lt_of_lt_of_le (by omega) size5, ?_⟩
          refine ⟨by omega, same_lst hp (s1.trans s2), acc ++ [y], _, _, rfl, upd_same, by simp [hal], fun j z e => ?_⟩
          rcases Nat.lt_or_ge j acc.length with q | q
          · rw [List.getElem?_append_left q] at e
            exact (hR j z e).le (TLe.trans (Same.tle s2) (tle_lst hl2))
          · rw [List.getElem?_append_right q] at e
            have ej : j = i := by
              have := (List.getElem?_eq_some_iff.mp e).1
              simp at this; omega
            subst ej
            rw [hal, Nat.sub_self] at e
            cases e
            rw [tkI_get e1]
            exact hy.le (tle_lst hl2)
        · rintro σ H1 ⟨_, s1, acc, v6, v7, rfl, hl, hal, hR⟩
          rw [hjN] at hal
          refine ⟨_, rfl, p, acc, rfl, .inl (SqL.of hl), _, _, rfl, rfl, _, rfl, ?_⟩
          refine ite2 (fun hc => ?_) fun hc => ?_
          · refine ⟨_, rfl, p, acc, rfl, .inl ⟨SqL.of hl, fun q hq => ?_⟩⟩
            refine k _ _ (s1.trans (Same.upd hq)) ?_
            have h1 : acc.length ≠ 1 := fun z => by
              have hc : (1 : Int) < ((acc.length : Nat) : Int) := by simpa using hc
              omega
            rw [taken_node]
            have e : mkT ((List.range (ts.length / Nat.gcd ts.length s)).map (tkI ts f s)) = .node ((List.range (ts.length / Nat.gcd ts.length s)).map (tkI ts f s)) := by
              have hL : ((List.range (ts.length / Nat.gcd ts.length s)).map (tkI ts f s)).length ≠ 1 := by rw [List.length_map, List.length_range, ← hal]; exact h1
              revert hL
              generalize (List.range (ts.length / Nat.gcd ts.length s)).map (tkI ts f s) = L
              intro hL
              match L, hL with
              | [], _ => rfl
              | [t], h => exact absurd rfl h
              | _ :: _ :: _, _ => rfl
            rw [e]
            refine tv_node.mpr ⟨q, acc, rfl, SqT.of upd_same, .of_get (by rw [List.length_map, List.length_range, hal]) fun i t x e1 e2 => ?_⟩
            rw [List.getElem?_map, List.getElem?_range (by have := (List.getElem?_eq_some_iff.mp e2).1; omega)] at e1
            cases e1
            exact (hR i x e2).le (tle_new hq)
          · have h1 : acc.length = 1 := by
              have hc : ((acc.length : Nat) : Int) ≤ 1 := by simpa using hc
              omega
            obtain ⟨y, rfl⟩ : ∃ y, acc = [y] := List.length_eq_one_iff.mp h1
            refine ⟨_, rfl, p, [y], 0, y, rfl, rfl, SqL.of hl, atI_nat (j := 0) rfl, ?_⟩
            refine k y H1 s1 ?_
            have h0 := hR 0 y rfl
            rw [taken_node, ← hal]
            exact h0
theorem sc_law_levels : FnScope ["_law_tree_here", "_law_one_z"] ["_law_tree_here"] (defScope (topS 50)) := ⟨rfl, rfl, rfl, by decide +kernel, rfl, by decide +kernel, by decide +kernel⟩
theorem ok_llevels (T : Top K mg) : ∀ n, C8.Cal P w K mg base (n + 1) "_law_levels" (spLevels K n) []
  | 0 => by
    refine cal_of T.d_law_levels sc_law_levels (fun _ _ _ _ _ _ us hl => match us, hl with | [_], _ => rfl) (fun vs H Q E h => ?_) fun f cdv A outer s H vs Q E hr h => ?_
    · obtain ⟨t, v, rfl, _⟩ := h; rfl
    · obtain ⟨t, v, rfl, _, hl, _⟩ := h; omega
  | n + 1 => by
    have c_law_levels : C8.Cal P w K mg base (n + 1) "_law_levels" (spLevels K n) [] := ok_llevels T n
    refine cal_of T.d_law_levels sc_law_levels (fun _ _ _ _ _ _ us hl => match us, hl with | [_], _ => rfl) (fun vs H Q E h => ?_) fun f cdv A outer s H vs Q E hr h => ?_
    · obtain ⟨t, v, rfl, _⟩ := h; rfl
    · obtain ⟨t, v, rfl, hv, hlev, k⟩ := h
      refine ⟨_, (pss_one (ps_ret (pe_ifExp (pt_val (pe_callB call_isi (by rfl) T.n_isinstance (by decide +kernel) (pa_cons (pv 0) (pa_cons (pe_bltn (v := .ty "tuple") (u := .type "tuple") (by rfl) T.n_tuple (by decide +kernel) rfl) pa_nil)))) (pe_op op_add pe_int (pe_callB (cr_max rfl) (by rfl) T.n_max (by decide +kernel) (pa_cons (pe_lc (own := [("_law_one_z", 1)]) (by rfl) sc_law_levels.nd (pi_tup (pv 0)) (blkOk_by (own := [("_law_one_z", 1)]) (N := ["_law_tree_here", "_law_one_z"]) (sc := defScope (topS 50)) (by decide +kernel)) (fun _ _ _ _ _ => (pg_name (i := 1) sc_law_levels.nd rfl (by first | exact Or.inl rfl | exact Or.inr rfl))) (fun _ _ _ _ _ => pts_nil) (fun _ _ _ _ _ => (C8.pe_c c_law_levels hr (by omega) rfl (pa_cons (pv 1) pa_nil)))) pa_nil))) pe_int))), ?_⟩
      cases t with
      | leaf o =>
        refine ⟨_, rfl, _, _, _, _, false, rfl, .ty "tuple", hv.tyStr, kit_ty (by decide +kernel), _, rfl, iteF ?_⟩
        have := k H (.refl H)
        rw [T.lev] at this
        exact this
      | node ts =>
        refine ⟨_, rfl, _, _, _, _, true, rfl, .ty "tuple", hv.tyTup, kit_ty (by decide +kernel), _, rfl, iteT ?_⟩
        obtain ⟨a, xs, rfl, hs, hlen, hbig, h2, hx, ht⟩ := hv.node
        refine ⟨_, rfl, a, rfl, ⟨xs, hs⟩, fun D hD => ?_⟩
        refine lc_pure (K := K) walk_tup hD (Nat.le_trans (by omega) size5) (fun H' s => Same.tle s a xs hs) (fun i H x H' e => e.1 ▸ .refl _)
          (fun i v _ => ∃ t, ts[i]? = some t ∧ v = .int (t.lev : Nat)) (fun i v H H' _ h => h) (fun i x H1 H' k' hi s1 ⟨e, ex⟩ hk => ?_) fun ys H' s1 hl hyl hR => ?_
        · subst e
          obtain ⟨t, e1, hv1⟩ := hx i x ex
          refine ⟨rfl, _, rfl, t, x, rfl, hv1.le (Same.tle s1), ?_, fun H'' s2 => hk _ _ s2 ⟨t, e1, rfl⟩⟩
          have := levs_get e1
          rw [lev_node] at hlev
          omega
        · refine ⟨D, ts.map fun t => (t.lev : Int), rfl, ?_, by rw [List.length_map]; omega, fun m hm hall => ?_⟩
          · rw [List.map_map, ← ys_map (f := V.int ∘ fun t => (t.lev : Int)) (by omega) hR]
            exact SqL.of hl
          · obtain ⟨t, ht1, e1⟩ := List.mem_map.mp hm
            obtain ⟨u, hu1, e2⟩ := levs_att (ts := ts) (by intro z; rw [z] at h2; simp at h2)
            have b1 := hall (u.lev : Int) (List.mem_map.mpr ⟨u, hu1, rfl⟩)
            have b2 := levs_mem ht1
            have em : m = ((levs ts : Nat) : Int) := by omega
            subst em
            refine ⟨_, _, rfl, rfl, ?_⟩
            have := k H' s1
            rw [lev_node] at this
            have e3 : (1 : Int) + ((levs ts : Nat) : Int) = ((1 + levs ts : Nat) : Int) := by push_cast; rfl
            show Q (.int (1 + ((levs ts : Nat) : Int))) H'
            rw [e3]
            exact this
theorem sc_law_part : FnScope ["_law_tree_here", "_law_path", "_law_k"] ["_law_tree_here", "_law_path"] (defScope (topS 56)) := ⟨rfl, rfl, rfl, by decide +kernel, rfl, by decide +kernel, by decide +kernel⟩
theorem ok_lpart (T : Top K mg) : C8.Cal P w K mg base 1 "_law_part" (spPart K) [] := by
  refine cal_of T.d_law_part sc_law_part (fun _ _ _ _ _ _ us hl => match us, hl with | [_, _], _ => rfl) (fun vs H Q E h => ?_) fun fa cdv A outer sh H vs Q E hr h => ?_
  · obtain ⟨t, u, v, pv, p, rfl, _⟩ := h; rfl
  · obtain ⟨t, u, v, pv, p, rfl, hv, hp, hpart, k⟩ := h
    obtain ⟨a, rfl, hs⟩ := pv_inv hp
    refine ⟨_, (pss_cons (ps_for PassesOwn.never rfl (pi_tup (pv 1)) (pg_name (i := 2) sc_law_part.nd rfl (by first | exact Or.inl rfl | exact Or.inr rfl)) (pss_cons (ps_if (PW.pt (pw_or (pt_not (pt_val (pe_callB call_isi (by rfl) T.n_isinstance (by decide +kernel) (pa_cons (pv 0) (pa_cons (pe_bltn (v := .ty "tuple") (u := .type "tuple") (by rfl) T.n_tuple (by decide +kernel) rfl) pa_nil))))) (pw_or1 (pt_not (pt_chain op_le op_lt pe_int (pv 2) (pe_callB call_len_seq (by rfl) T.n_len (by decide +kernel) (pa_cons (pv 0) pa_nil))))))) (pss_one (ps_ret pe_non)) pss_nil)
      (pss_one (ps_set (i := 0) sc_law_part.nd rfl (by first | exact Or.inl rfl | exact Or.inr rfl) (pe_ix ix_tup (pv 0) (pv 2) (fun _ _ => rfl))))))
      (pss_one (ps_ret (pv 0)))), ?_⟩
    refine ⟨_, rfl, a, rfl, ⟨_, hs⟩, ?_⟩
    refine for_tup (fun i σ H' => H' = H ∧ ∃ (u' : Td.T) (v' : V) (x : Option V), σ = [some v', some (.ref a), x] ∧ TVn K H u' v' ∧ u'.part (p.drop i) = some u) ⟨rfl, t, v, none, rfl, hv, hpart⟩ (fun i σ H' _ h => h.1 ▸ hs) ?_ ?_
    · rintro i x σ H' hi ⟨rfl, u', v', x0, rfl, hv', hpt⟩
      rw [List.getElem?_map] at hi
      cases q : p[i]? with
      | none => rw [q] at hi; cases hi
      | some n =>
        rw [q] at hi; cases hi
        have hil := (List.getElem?_eq_some_iff.mp q).1
        have hd : p.drop i = n :: p.drop (i + 1) := by
          rw [List.drop_eq_getElem_cons hil, (List.getElem?_eq_some_iff.mp q).2]
        rw [hd] at hpt
        obtain ⟨ts, c, rfl, hc, hpc⟩ := part_cons hpt
        obtain ⟨b, xs, rfl, hsb, hlen, hbig, h2, hx, ht⟩ := hv'.node
        obtain ⟨y, hy, hvy⟩ := ht n c hc
        have hn : n < xs.length := (List.getElem?_eq_some_iff.mp hy).1
        refine ⟨_, rfl, _, _, _, _, true, rfl, .ty "tuple", hv'.tyTup, kit_ty (by decide +kernel), _, rfl, iteF ?_⟩
        refine ⟨_, rfl, _, _, rfl, rfl, _, rfl, ?_⟩
        refine ite2 (fun hc1 => ?_) fun hc1 => ?_
        · refine ⟨_, rfl, b, xs, rfl, .inr hsb, _, _, rfl, rfl, _, rfl, ?_⟩
          dsimp only
          rw [decide_eq_true (show (n : Int) < ((xs.length : Nat) : Int) from by omega)]
          refine iteF ?_
          refine ⟨_, rfl, _, rfl, b, xs, _, y, rfl, rfl, hsb, atI_nat hy, ?_⟩
          exact ⟨rfl, c, y, _, rfl, hvy, hpc⟩
        · exfalso; apply hc1; simp
    · rintro σ H' ⟨rfl, u', v', x0, rfl, hv', hpt⟩
      rw [List.length_map, List.drop_length, T.part] at hpt
      cases hpt
      exact ⟨_, rfl, k _ hv'⟩
end
end Td
end

section
set_option maxHeartbeats 1000000
/-! TdLw3: the law's put, ends, paths, of. -/
namespace Td
open PySem PySem.Spec PyProof.Rows L2
section
variable {K : PySem.W.Frag} {H : Hp} {Q : VK}
theorem slA_of {a : Addr} {xs : List V} {lo hi : Option Int} (h : SqT K H a xs) (k : ∀ b H', Same H H' → SqT K H' b (cutV xs lo hi) → Q (.ref b) H') : rSlA K (.ref a) lo hi H Q := by
  refine ⟨a, xs, rfl, h, fun e => k a H (.refl H) ?_, fun _ p hp => k p _ (Same.upd hp) (SqT.of upd_same)⟩
  unfold cutV
  rw [e.1, e.2, List.drop_zero, Nat.sub_zero, List.take_length]
  exact h
theorem catA_of {a b : Addr} {xs ys : List V} (ha : SqT K H a xs) (hb : SqT K H b ys) (hz : xs.length + ys.length ≤ sizeLine) (k : ∀ c H', Same H H' → SqT K H' c (xs ++ ys) → Q (.ref c) H') : rCatA K (.ref a) (.ref b) H Q := by
  refine ⟨a, b, xs, ys, rfl, rfl, ha, hb, hz, fun e => ?_, fun _ e => ?_, fun _ _ p hp => k p _ (Same.upd hp) (SqT.of upd_same)⟩
  · subst e; exact k b H (.refl H) hb
  · subst e; exact k a H (.refl H) (by rw [List.append_nil]; exact ha)
theorem cut_to {xs : List V} {i : Nat} (h : i ≤ xs.length) : cutV xs none (some (i : Nat)) = xs.take i := by
  unfold cutV
  rw [HT.sIx_none, HT.sIx_nat, List.drop_zero, Nat.sub_zero, Nat.min_eq_left h]
theorem cut_from {xs : List V} {i : Nat} (h : i ≤ xs.length) : cutV xs (some (i : Nat)) none = xs.drop i := by
  unfold cutV
  rw [HT.sIx_none, HT.sIx_nat, Nat.min_eq_left h, List.take_of_length_le (by rw [List.length_drop]; omega)]
theorem set_cut {α : Type} {xs : List α} {i : Nat} {y : α} (h : i < xs.length) : (xs.take i ++ [y]) ++ xs.drop (i + 1) = xs.set i y := by
  apply List.ext_getElem?
  intro j
  rw [List.append_assoc, List.getElem?_append, List.length_take, Nat.min_eq_left (by omega), List.getElem?_set]
  by_cases h1 : j < i
  · rw [if_pos h1, if_neg (by omega), List.getElem?_take, if_pos h1]
  · rw [if_neg h1]
    by_cases h2 : i = j
    · subst h2
      rw [if_pos rfl, if_pos h, Nat.sub_self]; rfl
    · rw [if_neg h2, List.singleton_append, show j - i = (j - i - 1) + 1 by omega, List.getElem?_cons_succ, List.getElem?_drop]
      congr 1
      omega
end
/-- rows of ends in the heap -/
inductive RowsE (H : Hp) : List (Nat × Nat × Str) → List V → Prop
  | nil : RowsE H [] []
  | cons {r : Nat × Nat × Str} {rs : List (Nat × Nat × Str)} {T : Addr} {xs : List V} : H T = some (.tup ([.int (r.1 : Nat), .int (r.2.1 : Nat), .str r.2.2])) → RowsE H rs xs → RowsE H (r :: rs) (.ref T :: xs)
section
variable {H H' : Hp} {rs qs : List (Nat × Nat × Str)} {xs ys : List V}
theorem RowsE.same (h : RowsE H rs xs) (s : Same H H') : RowsE H' rs xs := by
  induction h with
  | nil => exact .nil
  | cons a _ ih => exact .cons (s _ _ a) ih
theorem RowsE.append (h : RowsE H rs xs) (k : RowsE H qs ys) : RowsE H (rs ++ qs) (xs ++ ys) := by
  induction h with
  | nil => exact k
  | cons a _ ih => exact .cons a ih
theorem RowsE.len (h : RowsE H rs xs) : xs.length = rs.length := by
  induction h with
  | nil => rfl
  | cons _ _ ih => rw [List.length_cons, List.length_cons, ih]
theorem RowsE.get {i : Nat} {x : V} (h : RowsE H rs xs) (e : xs[i]? = some x) : ∃ r T, rs[i]? = some r ∧ x = .ref T ∧ H T = some (.tup ([.int (r.1 : Nat), .int (r.2.1 : Nat), .str r.2.2])) := by
  induction h generalizing i with
  | nil => simp at e
  | @cons r rs T xs a _ ih =>
    cases i with
    | zero => simp at e; subst e; exact ⟨r, T, rfl, rfl, a⟩
    | succ i => simp at e; obtain ⟨r, T, h1, h2⟩ := ih e; exact ⟨r, T, by simpa using h1, h2⟩
end
theorem endss_take : ∀ {ts : List Td.T} {i : Nat} {t : Td.T} (f s w : Nat), ts[i]? = some t → endss (ts.take (i + 1)) f s w = endss (ts.take i) f s w ++ t.ends (f + s * i) w
  | [], i, t, f, s, w, h => by simp at h
  | u :: ts, 0, t, f, s, w, h => by
    simp at h; subst h
    simp [endss]
  | u :: ts, i + 1, t, f, s, w, h => by
    simp at h
    rw [List.take_succ_cons, List.take_succ_cons, endss, endss]
    dsimp only
    rw [endss_take (f + s) s w h, List.append_assoc, Nat.mul_add, Nat.mul_one, Nat.add_comm (s * i), ← Nat.add_assoc]
section
variable {P : Program} {w : World} {K : PySem.W.Frag} {mg : Str → Option Value} {base : Heap}
theorem sc_law_put : FnScope ["_law_tree_here", "_law_path", "_law_node", "_law_inner"] ["_law_tree_here", "_law_path", "_law_node"] (defScope (topS 54)) := ⟨rfl, rfl, rfl, by decide +kernel, rfl, by decide +kernel, by decide +kernel⟩
theorem ok_lput (T : Top K mg) : ∀ n, C8.Cal P w K mg base (n + 1) "_law_put" (spPut K n) []
  | 0 => by
    refine cal_of T.d_law_put sc_law_put (fun _ _ _ _ _ _ us hl => match us, hl with | [_, _, _], _ => rfl) (fun vs H Q E h => ?_) fun f cdv A outer s H vs Q E hr h => ?_
    · obtain ⟨t, c, u, v, pv, nv, p, rfl, _⟩ := h; rfl
    · obtain ⟨t, c, u, v, pv, nv, p, rfl, _, _, _, _, hl, _⟩ := h; omega
  | n + 1 => by
    have c_law_put : C8.Cal P w K mg base (n + 1) "_law_put" (spPut K n) [] := ok_lput T n
    refine cal_of T.d_law_put sc_law_put (fun _ _ _ _ _ _ us hl => match us, hl with | [_, _, _], _ => rfl) (fun vs H Q E h => ?_) fun fa cdv A outer sh H vs Q E hr h => ?_
    · obtain ⟨t, c, u, v, pv, nv, p, rfl, _⟩ := h; rfl
    · obtain ⟨t, c, u, v, pv, nv, p, rfl, hv, hp, hu, hpart, hpn, hp60, k⟩ := h
      obtain ⟨a, rfl, hs⟩ := pv_inv hp
      refine ⟨_, (pss_cons (ps_if (pt_cmpR (op_eqD hr.units) (pv 1) (pe_tup pa_nil) (nomark _)) (pss_one (ps_ret (pv 2))) pss_nil)
      (pss_cons (ps_set (i := 3) sc_law_put.nd rfl (by first | exact Or.inl rfl | exact Or.inr rfl) (C8.pe_c c_law_put hr (by omega) rfl (pa_cons (pe_ix ix_tup (pv 0) (pe_ix ix_tup (pv 1) pe_int (fun _ _ => rfl)) (fun _ _ => rfl)) (pa_cons (pe_slice sl_tupA (pv 1) (po_some pe_int) po_none) (pa_cons (pv 2) pa_nil)))))
      (pss_one (ps_ret (pe_op op_catA (pe_op op_catA (pe_slice sl_tupA (pv 0) po_none (po_some (pe_ix ix_tup (pv 1) pe_int (fun _ _ => rfl)))) (pe_tup (pa_cons (pv 3) pa_nil))) (pe_slice sl_tupA (pv 0) (po_some (pe_op op_add (pe_ix ix_tup (pv 1) pe_int (fun _ _ => rfl)) pe_int)) po_none)))))), ?_⟩
      refine ⟨_, rfl, Nat.zero_le _, fun q hq => ?_⟩
      have s1 : Same H (upd H q (.tup [])) := Same.upd hq
      refine ⟨pathD p, .tuple [], (D.le (Same.tle s1) _ _ hp).dp, .tup (SqT.of upd_same) .nil, path_shaped p, by decide, _, rfl, ?_⟩
      rw [path_eqv]
      refine ite2 (fun hc => ?_) fun hc => ?_
      · have hp0 : p = [] := by simpa using hc
        subst hp0
        refine ⟨_, rfl, k _ _ s1 ?_⟩
        rw [T.put]
        exact hu.le (Same.tle s1)
      · cases p with
        | nil => exact absurd rfl (show ¬ (([] : List Nat) = []) from fun _ => hc (by simp))
        | cons i p =>
          obtain ⟨ts, c', rfl, hc', hpc⟩ := part_cons hpart
          have hv1 := hv.le (Same.tle s1)
          obtain ⟨b, xs, rfl, hsb, hlen, hbig, h2, hx, ht⟩ := hv1.node
          obtain ⟨y, hy, hvy⟩ := ht i c' hc'
          have hil : i < xs.length := (List.getElem?_eq_some_iff.mp hy).1
          have hp0 : ((i :: p).map fun n => V.int (n : Nat))[0]? = some (.int (i : Nat)) := rfl
          have hs1 := Same.tle (K := K) s1 _ _ hs
          refine ⟨_, rfl, _, rfl, a, _, _, _, rfl, rfl, hs1, atI_nat hp0, b, xs, _, y, rfl, rfl, hsb, atI_nat hy, ?_⟩
          refine ⟨_, rfl, _, rfl, ?_⟩
          dsimp only [tNoPart]
          refine slA_of hs1 fun pa H2 s2 hpa => ?_
          rw [show (1 : Int) = ((1 : Nat) : Int) from rfl, cut_from (by simp)] at hpa
          have s12 := s1.trans s2
          refine ⟨_, rfl, c', c, u, y, .ref pa, nv, p, rfl, hvy.le (Same.tle s2), pv_of hpa, hu.le (Same.tle s12), hpc, by simp at hpn; omega, by simp at hp60; omega, fun v' H4 s4 tv => ?_⟩
          have s14 := s12.trans s4
          have hs4 := Same.tle (K := K) s14 _ _ hs
          have hb4 := Same.tle (K := K) (s2.trans s4) _ _ hsb
          refine ⟨_, rfl, _, rfl, a, _, _, _, rfl, rfl, hs4, atI_nat hp0, _, rfl, ?_⟩
          dsimp only [tNoPart]
          refine slA_of hb4 fun b1 H5 s5 hb5 => ?_
          rw [cut_to (by omega)] at hb5
          refine ⟨_, rfl, by show 1 ≤ sizeLine; rw [sizeLine_eq]; decide, fun l hl => ?_⟩
          have s6 := Same.upd (o := .tup [v']) hl
          have hz := size5
          refine catA_of (Same.tle s6 _ _ hb5) (SqT.of upd_same) (by rw [List.length_take]; simp; omega) fun c1 H7 s7 hc7 => ?_
          have s57 := (s5.trans s6).trans s7
          refine ⟨_, rfl, _, rfl, a, _, _, _, rfl, rfl, Same.tle s57 _ _ hs4, atI_nat hp0, _, _, rfl, rfl, _, rfl, ?_⟩
          dsimp only [tNoPart]
          refine slA_of (Same.tle s57 _ _ hb4) fun b2 H8 s8 hb8 => ?_
          rw [show ((i : Nat) : Int) + 1 = ((i + 1 : Nat) : Int) from rfl, cut_from (by omega)] at hb8
          refine catA_of (Same.tle s8 _ _ hc7) hb8 (by rw [List.length_append, List.length_take, List.length_drop]; simp; omega) fun c2 H9 s9 hc9 => ?_
          rw [set_cut hil] at hc9
          refine k _ _ (s14.trans ((s57.trans s8).trans s9)) ?_
          rw [T.put, hc']
          refine tv_node.mpr ⟨c2, _, rfl, hc9, .of_get (by rw [List.length_set, List.length_set]; omega) fun j t x e1 e2 => ?_⟩
          have l9 : TLe K H4 H9 := Same.tle ((s57.trans s8).trans s9)
          rw [List.getElem?_set] at e1 e2
          by_cases hij : i = j
          · subst hij
            rw [if_pos rfl, if_pos (by omega)] at e1 e2
            cases e1; cases e2
            exact tv.le l9
          · rw [if_neg hij] at e1 e2
            obtain ⟨t', e3, hv3⟩ := hx j x e2
            rw [e1] at e3; cases e3
            exact (hv3.le ((Same.tle (s2.trans s4)).trans l9)).tv
theorem sc_law_ends : FnScope ["_law_tree_here", "_law_first", "_law_step", "_law_found", "_law_k"] ["_law_tree_here", "_law_first", "_law_step"] (defScope (topS 49)) := ⟨rfl, rfl, rfl, by decide +kernel, rfl, by decide +kernel, by decide +kernel⟩
def spEnds (K : PySem.W.Frag) (n : Nat) : Sp := fun vs H Q _ => ∃ (t : T) (v : V) (f s : Nat), vs = [v, .int (f : Nat), .int (s : Nat)] ∧ TVn K H t v ∧ t.lev < n ∧ ∀ (p : Addr) (xs : List V) H', Same H H' → H p = none → H' p = some (.lst xs) → RowsE H' (t.ends f s) xs → Q (.ref p) H'
theorem ok_lends (T : Top K mg) : ∀ n, C8.Cal P w K mg base (n + 1) "_law_ends" (spEnds K n) []
  | 0 => by
    refine cal_of T.d_law_ends sc_law_ends (fun _ _ _ _ _ _ us hl => match us, hl with | [_, _, _], _ => rfl) (fun vs H Q E h => ?_) fun f cdv A outer s H vs Q E hr h => ?_
    · obtain ⟨t, v, f, s, rfl, _⟩ := h; rfl
    · obtain ⟨t, v, f, s, rfl, _, hl, _⟩ := h; omega
  | n + 1 => by
    have c_law_ends : C8.Cal P w K mg base (n + 1) "_law_ends" (spEnds K n) [] := ok_lends T n
    refine cal_of T.d_law_ends sc_law_ends (fun _ _ _ _ _ _ us hl => match us, hl with | [_, _, _], _ => rfl) (fun vs H Q E h => ?_) fun fa cdv A outer sh H vs Q E hr h => ?_
    · obtain ⟨t, v, f, s, rfl, _⟩ := h; rfl
    · obtain ⟨t, v, f, s, rfl, hv, hlev, k⟩ := h
      refine ⟨_, (pss_cons (ps_if (pt_not (pt_val (pe_callB call_isi (by rfl) T.n_isinstance (by decide +kernel) (pa_cons (pv 0) (pa_cons (pe_bltn (v := .ty "tuple") (u := .type "tuple") (by rfl) T.n_tuple (by decide +kernel) rfl) pa_nil))))) (pss_one (ps_ret (pe_lst (pa_cons (pe_tup (pa_cons (pv 1) (pa_cons (pv 2) (pa_cons (pv 0) pa_nil)))) pa_nil)))) pss_nil)
      (pss_cons (ps_set (i := 3) sc_law_ends.nd rfl (by first | exact Or.inl rfl | exact Or.inr rfl) (pe_lst pa_nil))
      (pss_cons (ps_for PassesOwn.never rfl (pi_range1 (by rfl) T.n_range (pa_cons (pe_callB call_len_seq (by rfl) T.n_len (by decide +kernel) (pa_cons (pv 0) pa_nil)) pa_nil)) (pg_name (i := 4) sc_law_ends.nd rfl (by first | exact Or.inl rfl | exact Or.inr rfl)) (pss_one (ps_set (i := 3) sc_law_ends.nd rfl (by first | exact Or.inl rfl | exact Or.inr rfl) (pe_op op_cat (pv 3) (C8.pe_c c_law_ends hr (by omega) rfl (pa_cons (pe_ix ix_tup (pv 0) (pv 4) (fun _ _ => rfl)) (pa_cons (pe_op op_add (pv 1) (pe_op op_mul (pv 2) (pv 4))) (pa_cons (pe_op op_mul (pv 2) (pe_callB call_len_seq (by rfl) T.n_len (by decide +kernel) (pa_cons (pv 0) pa_nil))) pa_nil))))))))
      (pss_one (ps_ret (pv 3)))))), ?_⟩
      cases t with
      | leaf o =>
        refine ⟨_, rfl, _, _, _, _, false, rfl, .ty "tuple", hv.tyStr, kit_ty (by decide +kernel), _, rfl, iteT ?_⟩
        obtain rfl := hv.leaf
        refine ⟨_, rfl, _, rfl, _, rfl, by show 3 ≤ sizeLine; rw [sizeLine_eq]; decide, fun l hl => ⟨by show 1 ≤ sizeLine; rw [sizeLine_eq]; decide, fun p hp => ?_⟩⟩
        have s1 := Same.upd (o := .tup [.int (f : Nat), .int (s : Nat), .str o]) hl
        have s2 := Same.upd (o := .lst [.ref l]) hp
        refine k p _ _ (s1.trans s2) (by
          cases e : H p with
          | none => rfl
          | some o => rw [s1 _ _ e] at hp; cases hp) upd_same ?_
        rw [T.ends]
        exact .cons (s2 _ _ upd_same) .nil
      | node ts =>
        refine ⟨_, rfl, _, _, _, _, true, rfl, .ty "tuple", hv.tyTup, kit_ty (by decide +kernel), _, rfl, iteF ?_⟩
        obtain ⟨a, xs, rfl, hs, hlen, hbig, h2, hx, ht⟩ := hv.node
        refine ⟨Nat.zero_le _, fun p hp => ?_⟩
        have s0 := Same.upd (o := .lst []) hp
        refine ⟨_, rfl, a, xs, rfl, .inr (Same.tle s0 _ _ hs), _, rfl, ?_⟩
        rw [hlen]
        refine ⟨by omega, by omega, ?_⟩
        rw [Int.toNat_natCast]
        refine for_range (lo := 0) (fun i σ H' => i ≤ ts.length ∧ Same H H' ∧ ∃ (q : Addr) (acc : List V) (z : Option V), H q = none ∧ σ = [some (.ref a), some (.int (f : Nat)), some (.int (s : Nat)), some (.ref q), z] ∧ H' q = some (.lst acc) ∧ RowsE H' (endss (ts.take i) f s (s * ts.length)) acc) ⟨Nat.zero_le _, s0, p, [], none, hp, rfl, upd_same, by rw [List.take_zero, endss]; exact .nil⟩ ?_ ?_
        · rintro i σ H1 hi ⟨_, s1, q, acc, z, hq, rfl, hl, hR⟩
          rw [Int.zero_add]
          obtain ⟨t, e1⟩ : ∃ t, ts[i]? = some t := ⟨_, List.getElem?_eq_getElem hi⟩
          obtain ⟨x, e2, hvx⟩ := ht i t e1
          refine ⟨_, rfl, _, rfl, _, rfl, a, xs, _, x, rfl, rfl, Same.tle s1 _ _ hs, atI_nat e2, ?_⟩
          refine ⟨_, rfl, _, rfl, _, rfl, _, _, rfl, rfl, .inr ⟨by omega, by omega⟩, _, _, rfl, rfl, ?_⟩
          refine ⟨_, rfl, _, rfl, a, xs, rfl, .inr (Same.tle s1 _ _ hs), _, _, rfl, rfl, .inr ⟨by omega, by omega⟩, ?_⟩
          have hlt : t.lev < n := by
            have := levs_get e1
            rw [lev_node] at hlev
            omega
          refine ⟨t, x, f + s * i, s * ts.length, by rw [hlen]; rfl, hvx.le (Same.tle s1), hlt, fun p2 ys H2 s2 hp2 hl2 hR2 => ?_⟩
          have hb := hv.big
          rw [cnt_node] at hb
          have hc := cnts_take e1
          have hz := size5
          have ha := hR.len
          rw [endss_len _ _ _ _ (fun t _ f s => ends_len t f s)] at ha
          have hy := hR2.len
          rw [ends_len] at hy
          refine ⟨q, p2, acc, ys, rfl, rfl, s2 _ _ hl, hl2, by omega, fun p3 hp3 => ?_⟩
          have s3 := Same.upd (o := .lst (acc ++ ys)) hp3
          refine ⟨by omega, (s1.trans s2).trans s3, p3, acc ++ ys, _, ?_, rfl, upd_same, ?_⟩
          · cases e : H p3 with
            | none => rfl
            | some o => rw [s2 _ _ (s1 _ _ e)] at hp3; cases hp3
          · rw [endss_take f s _ e1]
            exact ((hR.same s2).same s3).append (hR2.same s3)
        · rintro σ H1 ⟨_, s1, q, acc, z, hq, rfl, hl, hR⟩
          rw [List.take_length] at hR
          refine ⟨_, rfl, k q acc H1 s1 hq hl ?_⟩
          rw [T.ends]; exact hR
end
end Td
end

section
set_option maxHeartbeats 1000000
/-! TdLw4: the law's paths, of. -/
namespace Td
open PySem PySem.Spec PyProof.Rows L2
/-- paths with their parts, in the heap -/
def PathsE (K : PySem.W.Frag) (H : Hp) (t : T) (p0 : List Nat) (xs : List V) : Prop := ∀ x ∈ xs, ∃ (T : Addr) (qv uv : V) (q : List Nat) (u : Td.T), x = .ref T ∧ H T = some (.tup [qv, uv]) ∧ PV K H (p0 ++ q) qv ∧ t.part q = some u ∧ TVn K H u uv
theorem PathsE.same {K : PySem.W.Frag} {H H' : Hp} {t : T} {p0 : List Nat} {xs : List V} (h : PathsE K H t p0 xs) (s : Same H H') : PathsE K H' t p0 xs := fun x hx => by
  obtain ⟨T, qv, uv, q, u, e1, e2, e3, e4, e5⟩ := h x hx
  exact ⟨T, qv, uv, q, u, e1, s _ _ e2, D.le (Same.tle s) _ _ e3, e4, e5.le (Same.tle s)⟩
theorem none_of {H H' : Hp} {p : Addr} (s : Same H H') (h : H' p = none) : H p = none := by
  cases e : H p with
  | none => rfl
  | some o => rw [s _ _ e] at h; cases h
section
variable {P : Program} {w : World} {K : PySem.W.Frag} {mg : Str → Option Value} {base : Heap}
theorem sc_law_paths : FnScope ["_law_tree_here", "_law_path", "_law_found", "_law_k"] ["_law_tree_here", "_law_path"] (defScope (topS 53)) := ⟨rfl, rfl, rfl, by decide +kernel, rfl, by decide +kernel, by decide +kernel⟩
def spPaths (K : PySem.W.Frag) (n : Nat) : Sp := fun vs H Q _ => ∃ (t : T) (v qv : V) (p0 : List Nat), vs = [v, qv] ∧ TVn K H t v ∧ PV K H p0 qv ∧ t.lev < n ∧ p0.length + t.lev ≤ 1000 ∧ ∀ (p : Addr) (xs : List V) H', Same H H' → H p = none → H' p = some (.lst xs) → xs.length + 1 ≤ 2 * t.cnt → xs ≠ [] → PathsE K H' t p0 xs → Q (.ref p) H'
theorem ok_lpaths (T : Top K mg) : ∀ n, C8.Cal P w K mg base (n + 1) "_law_paths" (spPaths K n) []
  | 0 => by
    refine cal_of T.d_law_paths sc_law_paths (fun _ _ _ _ _ _ us hl => match us, hl with | [_, _], _ => rfl) (fun vs H Q E h => ?_) fun f cdv A outer s H vs Q E hr h => ?_
    · obtain ⟨t, v, qv, p0, rfl, _⟩ := h; rfl
    · obtain ⟨t, v, qv, p0, rfl, _, _, hl, _⟩ := h; omega
  | n + 1 => by
    have c_law_paths : C8.Cal P w K mg base (n + 1) "_law_paths" (spPaths K n) [] := ok_lpaths T n
    refine cal_of T.d_law_paths sc_law_paths (fun _ _ _ _ _ _ us hl => match us, hl with | [_, _], _ => rfl) (fun vs H Q E h => ?_) fun fa cdv A outer sh H vs Q E hr h => ?_
    · obtain ⟨t, v, qv, p0, rfl, _⟩ := h; rfl
    · obtain ⟨t, v, qv, p0, rfl, hv, hp, hlev, hpl, k⟩ := h
      refine ⟨_, (pss_cons (ps_set (i := 2) sc_law_paths.nd rfl (by first | exact Or.inl rfl | exact Or.inr rfl) (pe_lst (pa_cons (pe_tup (pa_cons (pv 1) (pa_cons (pv 0) pa_nil))) pa_nil)))
      (pss_cons (ps_if (pt_val (pe_callB call_isi (by rfl) T.n_isinstance (by decide +kernel) (pa_cons (pv 0) (pa_cons (pe_bltn (v := .ty "tuple") (u := .type "tuple") (by rfl) T.n_tuple (by decide +kernel) rfl) pa_nil)))) (pss_one (ps_for PassesOwn.never rfl (pi_range1 (by rfl) T.n_range (pa_cons (pe_callB call_len_seq (by rfl) T.n_len (by decide +kernel) (pa_cons (pv 0) pa_nil)) pa_nil)) (pg_name (i := 3) sc_law_paths.nd rfl (by first | exact Or.inl rfl | exact Or.inr rfl)) (pss_one (ps_set (i := 2) sc_law_paths.nd rfl (by first | exact Or.inl rfl | exact Or.inr rfl) (pe_op op_cat (pv 2) (C8.pe_c c_law_paths hr (by omega) rfl (pa_cons (pe_ix ix_tup (pv 0) (pv 3) (fun _ _ => rfl)) (pa_cons (pe_op op_catA (pv 1) (pe_tup (pa_cons (pv 3) pa_nil))) pa_nil)))))))) pss_nil)
      (pss_one (ps_ret (pv 2))))), ?_⟩
      refine ⟨_, rfl, _, rfl, by show 2 ≤ sizeLine; rw [sizeLine_eq]; decide, fun l hl => ⟨by show 1 ≤ sizeLine; rw [sizeLine_eq]; decide, fun p hpn => ?_⟩⟩
      have s1 := Same.upd (o := .tup [qv, v]) hl
      have s2 := Same.upd (o := .lst [.ref l]) hpn
      have s12 := s1.trans s2
      have hpH : H p = none := none_of s1 hpn
      have h0 : PathsE K (upd (upd H l (.tup [qv, v])) p (.lst [.ref l])) t p0 [.ref l] := fun x hx => by
        rw [List.mem_singleton.mp hx]
        exact ⟨l, qv, v, [], t, rfl, s2 _ _ upd_same, by rw [List.append_nil]; exact D.le (Same.tle s12) _ _ hp, part_nil, hv.le (Same.tle s12)⟩
      cases t with
      | leaf o =>
        refine ⟨_, rfl, _, _, _, _, false, rfl, .ty "tuple", (hv.le (Same.tle s12)).tyStr, kit_ty (by decide +kernel), _, rfl, iteF ?_⟩
        exact ⟨_, rfl, k p _ _ s12 hpH upd_same (by rw [T.cnt]; simp) (by simp) h0⟩
      | node ts =>
        refine ⟨_, rfl, _, _, _, _, true, rfl, .ty "tuple", (hv.le (Same.tle s12)).tyTup, kit_ty (by decide +kernel), _, rfl, iteT ?_⟩
        obtain ⟨a, xs, rfl, hs, hlen, hbig, h2, hx, ht⟩ := hv.node
        refine ⟨_, rfl, a, xs, rfl, .inr (Same.tle s12 _ _ hs), _, rfl, ?_⟩
        rw [hlen]
        refine ⟨by omega, by omega, ?_⟩
        rw [Int.toNat_natCast]
        refine for_range (lo := 0) (fun i σ H' => i ≤ ts.length ∧ Same H H' ∧ ∃ (q : Addr) (acc : List V) (z : Option V), H q = none ∧ σ = [some (.ref a), some qv, some (.ref q), z] ∧ H' q = some (.lst acc) ∧ acc.length + i ≤ 1 + 2 * cnts (ts.take i) ∧ acc ≠ [] ∧ PathsE K H' (.node ts) p0 acc) ⟨Nat.zero_le _, s12, p, [.ref l], none, hpH, rfl, upd_same, by simp, by simp, h0⟩ ?_ ?_
        · rintro i σ H1 hi ⟨_, s3, q, acc, z, hq, rfl, hl3, hac, hne, hR⟩
          rw [Int.zero_add]
          obtain ⟨t, e1⟩ : ∃ t, ts[i]? = some t := ⟨_, List.getElem?_eq_getElem hi⟩
          obtain ⟨x, e2, hvx⟩ := ht i t e1
          refine ⟨_, rfl, _, rfl, _, rfl, a, xs, _, x, rfl, rfl, Same.tle s3 _ _ hs, atI_nat e2, ?_⟩
          refine ⟨_, rfl, _, rfl, by show 1 ≤ sizeLine; rw [sizeLine_eq]; decide, fun l2 hl2 => ?_⟩
          have s4 := Same.upd (o := .tup [.int (i : Nat)]) hl2
          refine catA_path (D.le (Same.tle (s3.trans s4)) _ _ hp) (SqT.of upd_same) (by omega) fun qv2 H5 s5 hqv2 => ?_
          have hlt : t.lev < n ∧ t.lev + 1 ≤ 1 + levs ts := by
            have := levs_get e1
            rw [lev_node] at hlev
            omega
          rw [lev_node] at hpl
          have s35 := (s3.trans s4).trans s5
          refine ⟨t, x, qv2, p0 ++ [i], rfl, hvx.le (Same.tle s35), hqv2, hlt.1, by rw [List.length_append, List.length_singleton]; omega, fun p2 ys H6 s6 hp2 hl6 hyl hyn hR6 => ?_⟩
          have hb := hv.big
          rw [cnt_node] at hb
          have hc := cnts_take e1
          have hz := size5
          have hz2 : 200001 ≤ sizeLine := by rw [sizeLine_eq]; decide
          refine ⟨q, p2, acc, ys, rfl, rfl, s6 _ _ ((s4.trans s5) _ _ hl3), hl6, by omega, fun p3 hp3 => ?_⟩
          have s7 := Same.upd (o := .lst (acc ++ ys)) hp3
          have s36 := s35.trans s6
          refine ⟨by omega, s36.trans s7, p3, acc ++ ys, _, none_of s36 hp3, rfl, upd_same, by rw [List.length_append, hc.1]; omega, by simp [hne], fun y hy => ?_⟩
          rcases List.mem_append.mp hy with hy | hy
          · exact (hR.same (((s4.trans s5).trans s6).trans s7)) y hy
          · obtain ⟨T0, qv0, uv, q0, u, f1, f2, f3, f4, f5⟩ := (hR6.same s7) y hy
            exact ⟨T0, qv0, uv, i :: q0, u, f1, f2, by rw [List.append_assoc] at f3; exact f3, by rw [part_node e1]; exact f4, f5⟩
        · rintro σ H1 ⟨_, s3, q, acc, z, hq, rfl, hl3, hac, hne, hR⟩
          rw [List.take_length] at hac
          refine ⟨_, rfl, k q acc H1 s3 hq hl3 (by rw [cnt_node]; omega) hne hR⟩
theorem sc_law_of : FnScope ["_law_bag_here", "_law_things"] ["_law_bag_here", "_law_things"] (defScope (topS 45)) := ⟨rfl, rfl, rfl, by decide +kernel, rfl, by decide +kernel, by decide +kernel⟩
/-- one of a sequence -/
def spOf (K : PySem.W.Frag) (ns : List Int) (B S : Addr) : Sp := fun vs H Q _ => ∃ (l : Addr) (xs : List V), vs = [.ref B, .ref l] ∧ l ≠ B ∧ (SqL K H l xs ∨ SqT K H l xs) ∧ xs ≠ [] ∧ xs.length ≤ 1000000 ∧ BagAt K ns B S H ∧ ∀ (v : V) H', v ∈ xs → KeptB B H H' → BagAt K ns B S H' → Q v H'
theorem ok_of (T : Top K mg) {ns : List Int} {B S : Addr} : C8.Cal P w K mg base 2 "_law_of" (spOf K ns B S) [] := by
  have c_law_pull : C8.Cal P w K mg base 1 "_law_pull" (spPull K ns B S) [] := ok_pull T
  refine cal_of T.d_law_of sc_law_of (fun _ _ _ _ _ _ us hl => match us, hl with | [_, _], _ => rfl) (fun vs H Q E h => ?_) fun f cdv A outer sh H vs Q E hr h => ?_
  · obtain ⟨l, xs, rfl, _⟩ := h; rfl
  · obtain ⟨l, xs, rfl, hlB, hs, hne, hxl, hB, k⟩ := h
    refine ⟨_, (pss_one (ps_ret (pe_ix (IxR.or ix_list ix_tup) (pv 1) (C8.pe_c c_law_pull hr (by omega) rfl (pa_cons (pv 0) (pa_cons (pe_callB call_len_seq (by rfl) T.n_len (by decide +kernel) (pa_cons (pv 1) pa_nil)) pa_nil))) (fun _ _ => rfl)))), ?_⟩
    have hpos : 0 < xs.length := List.length_pos_iff.mpr hne
    refine ⟨_, rfl, _, rfl, _, rfl, l, xs, rfl, hs, xs.length, rfl, by omega, hxl, hB, fun i H' hi k1 hB1 => ?_⟩
    have hx : xs[i]? = some xs[i] := List.getElem?_eq_getElem hi
    rcases hs with hs | hs
    · refine .inl ⟨l, xs, _, _, rfl, rfl, ?_, atI_nat hx, k _ _ (List.getElem_mem hi) k1 hB1⟩
      rcases hs with (q | ⟨o, q⟩) | q
      · exact .inl (.inl (k1 _ _ hlB q))
      · exact .inl (.inr ⟨o, k1 _ _ hlB q⟩)
      · exact .inr q
    · exact .inr ⟨l, xs, _, _, rfl, rfl, k1.tle hB _ _ hs, atI_nat hx, k _ _ (List.getElem_mem hi) k1 hB1⟩
/-- one sign of a text -/
def spOfS (K : PySem.W.Frag) (ns : List Int) (B S : Addr) : Sp := fun vs H Q _ => ∃ (z : Str), vs = [.ref B, .str z] ∧ z.cps.toList ≠ [] ∧ z.length ≤ 1000 ∧ BagAt K ns B S H ∧ ∀ (c : Nat) H', c ∈ z.cps.toList → KeptB B H H' → BagAt K ns B S H' → Q (.str ⟨#[c]⟩) H'
theorem ok_ofS (T : Top K mg) {ns : List Int} {B S : Addr} : C8.Cal P w K mg base 2 "_law_of" (spOfS K ns B S) [] := by
  have c_law_pull : C8.Cal P w K mg base 1 "_law_pull" (spPull K ns B S) [] := ok_pull T
  refine cal_of T.d_law_of sc_law_of (fun _ _ _ _ _ _ us hl => match us, hl with | [_, _], _ => rfl) (fun vs H Q E h => ?_) fun f cdv A outer sh H vs Q E hr h => ?_
  · obtain ⟨z, rfl, _⟩ := h; rfl
  · obtain ⟨z, rfl, hne, hzl, hB, k⟩ := h
    refine ⟨_, (pss_one (ps_ret (pe_ix ix_str (pv 1) (C8.pe_c c_law_pull hr (by omega) rfl (pa_cons (pv 0) (pa_cons (pe_callB call_len_str (by rfl) T.n_len (by decide +kernel) (pa_cons (pv 1) pa_nil)) pa_nil))) (fun _ _ => rfl)))), ?_⟩
    have hzz : z.length = z.cps.toList.length := by simp [Str.length]
    have hpos : 0 < z.cps.toList.length := List.length_pos_iff.mpr hne
    have hz5 := size5
    refine ⟨_, rfl, _, rfl, _, rfl, z, rfl, by omega, z.length, rfl, by omega, by omega, hB, fun i H' hi k1 hB1 => ?_⟩
    rw [hzz] at hi
    have hx : z.cps.toList[i]? = some z.cps.toList[i] := List.getElem?_eq_getElem hi
    exact ⟨z, _, _, rfl, rfl, by omega, atI_nat hx, k _ _ (List.getElem_mem hi) k1 hB1⟩
end
end Td
end

section
set_option maxHeartbeats 2000000
/-! TdLw5: owners that can be compared; the law's after_step. -/
namespace Td
open PySem PySem.Spec PyProof.Rows L2
mutual
/-- all owners are texts that may be compared -/
def T.sok : T → Prop
  | .leaf o => PyData.strOk o = true
  | .node ts => soks ts
def soks : List T → Prop
  | [] => True
  | t :: ts => t.sok ∧ soks ts
end
theorem soks_iff {ts : List T} : soks ts ↔ ∀ t ∈ ts, t.sok := by
  induction ts with
  | nil => unfold soks; simp
  | cons u ts ih => unfold soks; rw [ih]; simp
theorem sok_node {ts : List T} : (T.node ts).sok ↔ ∀ t ∈ ts, t.sok := by rw [T.sok, soks_iff]
/-- by the owners -/
theorem sok_own (t : T) : t.ok → (t.sok ↔ ∀ n, PyData.strOk (t.own n) = true) := by
  induction t using T.ind with
  | h1 o => intro _; rw [T.sok]; exact ⟨fun h n => by rw [own_leaf]; exact h, fun h => by have := h 0; rwa [own_leaf] at this⟩
  | h2 ts ih =>
    intro h
    obtain ⟨h2, ho⟩ := ok_node.mp h
    rw [sok_node]
    constructor
    · intro hs n
      obtain ⟨c, hc⟩ := get_mod (ts := ts) (by omega) n
      rw [own_node hc]
      exact (ih c (List.mem_of_getElem? hc) (oks_get ho hc)).mp (hs c (List.mem_of_getElem? hc)) _
    · intro hs t ht
      obtain ⟨i, hi, e⟩ := List.mem_iff_getElem.mp ht
      have hc : ts[i]? = some t := by rw [List.getElem?_eq_getElem hi, e]
      refine (ih t ht (oks_mem ho ht)).mpr fun n => ?_
      have := hs (i + ts.length * n)
      rw [own_node (c := t) (by rw [Nat.add_mul_mod_self_left, Nat.mod_eq_of_lt hi]; exact hc), Nat.add_mul_div_left _ _ (by omega), Nat.div_eq_of_lt hi, Nat.zero_add] at this
      exact this
theorem sok_of_own {t u : T} (ht : t.ok) (hu : u.ok) (h : ∀ n, t.own n = u.own n) (hs : t.sok) : u.sok := (sok_own u hu).mpr fun n => by rw [← h]; exact (sok_own t ht).mp hs n
theorem enc_node {ts : List T} : (T.node ts).enc = .tuple (encs ts) := by rw [T.enc]
theorem enc_leaf {o : Str} : (T.leaf o).enc = .str o := by rw [T.enc]
theorem enc_lay (t : T) : t.sok → t.enc.canLay0 = true := by
  induction t using T.ind with
  | h1 o => intro h; rw [enc_leaf]; rw [T.sok] at h; simpa [PyData.canLay0] using h
  | h2 ts ih =>
    intro h
    rw [enc_node]
    have key : ∀ us : List T, (∀ u ∈ us, u ∈ ts) → PyData.canLayAll0 (encs us) = true := by
      intro us
      induction us with
      | nil => intro _; simp [encs, PyData.canLayAll0]
      | cons u us ih2 =>
        intro hu
        rw [encs, PyData.canLayAll0, ih u (hu u List.mem_cons_self) (sok_node.mp h u (hu u List.mem_cons_self)), ih2 fun v hv => hu v (List.mem_cons_of_mem _ hv)]
        rfl
    rw [PyData.canLay0]
    exact key ts fun _ h => h
theorem enc_depth (t : T) : t.enc.depth ≤ t.lev + 1 := by
  induction t using T.ind with
  | h1 o => rw [enc_leaf]; simp [PyData.depth]
  | h2 ts ih =>
    rw [enc_node, lev_node]
    have key : ∀ us : List T, (∀ u ∈ us, u ∈ ts) → PyData.depthAll (encs us) ≤ levs ts + 1 := by
      intro us
      induction us with
      | nil => intro _; simp [encs, PyData.depthAll]
      | cons u us ih2 =>
        intro hu
        rw [encs, PyData.depthAll]
        have h1 := ih u (hu u List.mem_cons_self)
        have h2 := levs_mem (hu u List.mem_cons_self)
        have h3 := ih2 fun v hv => hu v (List.mem_cons_of_mem _ hv)
        omega
    rw [PyData.depth]
    have := key ts fun _ h => h
    omega
theorem enc_shaped {t : T} (h : t.sok) (hl : t.lev ≤ 60) : SeqAt.shaped t.enc = true := by
  unfold SeqAt.shaped
  rw [enc_lay t h, decide_eq_true (by have := enc_depth t; omega)]
  rfl
theorem enc_self {t : T} (h : t.sok) : PyData.eqv t.enc t.enc = true := SeqAt.eqv_refl _ (enc_lay t h)
theorem encs_leafs (o : Str) : ∀ ts : List T, PyData.eqvAll (encs ts) (List.replicate ts.length (.str o)) = true ↔ ∀ t ∈ ts, t = .leaf o
  | [] => by simp [encs, PyData.eqvAll]
  | t :: ts => by
    rw [encs, List.length_cons, List.replicate_succ, PyData.eqvAll, Bool.and_eq_true, encs_leafs o ts]
    have h : PyData.eqv t.enc (.str o) = true ↔ t = .leaf o := by
      cases t with
      | leaf o' => rw [enc_leaf]; simp [PyData.eqv]
      | node us => rw [enc_node]; simp [PyData.eqv]
    rw [h]
    simp
def T.sz : T → Nat
  | .leaf _ => 0
  | .node ts => ts.length
theorem sizes_eqv (m : Nat) : ∀ ts : List T, PyData.eqvAll (ts.map fun t => .int (t.sz : Nat)) (List.replicate ts.length (.int (m : Nat))) = true ↔ ∀ t ∈ ts, t.sz = m
  | [] => by simp [PyData.eqvAll]
  | t :: ts => by
    rw [List.map_cons, List.length_cons, List.replicate_succ, PyData.eqvAll, Bool.and_eq_true, sizes_eqv m ts]
    simp [PyData.eqv]
    intro _
    omega
theorem ints_shaped (ns : List Int) : SeqAt.shaped (.list (ns.map fun n => PyData.int n)) = true := by
  have : (PyData.canLay0 (.list (ns.map fun n => PyData.int n)) = true) ∧ (PyData.list (ns.map fun n => PyData.int n)).depth ≤ 64 := by
    induction ns with
    | nil => exact ⟨by decide, by decide⟩
    | cons n p ih =>
      simp only [List.map_cons, PyData.canLay0, PyData.canLayAll0, PyData.depth, PyData.depthAll, Bool.true_and] at ih ⊢
      exact ⟨ih.1, by omega⟩
  unfold SeqAt.shaped
  rw [this.1, decide_eq_true this.2]; rfl
theorem dp_ints {K : PySem.W.Frag} {H : Hp} : ∀ ns : List Int, DpAll K H (ns.map V.int) (ns.map fun n => PyData.int n)
  | [] => .nil
  | n :: ns => .cons (.int n) (dp_ints ns)
section
variable {P : Program} {w : World} {K : PySem.W.Frag} {mg : Str → Option Value} {base : Heap}
theorem sc_law_after_step : FnScope ["_law_tree_here", "_law_step", "_law_word", "_law_path", "_law_node", "_law_many", "_law_k", "_law_sizes", "_law_one_z"] ["_law_tree_here", "_law_step"] (defScope (topS 57)) := ⟨rfl, rfl, rfl, by decide +kernel, rfl, by decide +kernel, by decide +kernel⟩
def spAfter (K : PySem.W.Frag) : Sp := fun vs H Q _ => ∃ (t u : T) (v sv : V) (s : Stp), vs = [v, sv] ∧ TVn K H t v ∧ SV K H s sv ∧ t.part s.path = some u ∧ t.sok ∧ t.cnt ≤ 1000 ∧ t.lev ≤ 50 ∧ s.path.length ≤ 60 ∧ (∀ q, s.kd = .spr q → q ≤ 400) ∧
  (∀ u', Chg s.kd u u' → ∀ v' H', Same H H' → TV K H' (t.put s.path u') v' → Q v' H') ∧ ((∀ u', ¬ Chg s.kd u u') → ∀ H', Same H H' → Q .non H')
theorem ok_after (T : Top K mg) : C8.Cal P w K mg base 63 "_law_after_step" (spAfter K) [] := by
  have c_law_part : C8.Cal P w K mg base 1 "_law_part" (spPart K) [] := ok_lpart T
  have c_law_put : C8.Cal P w K mg base 62 "_law_put" (spPut K 61) [] := ok_lput T 61
  refine cal_of T.d_law_after_step sc_law_after_step (fun _ _ _ _ _ _ us hl => match us, hl with | [_, _], _ => rfl) (fun vs H Q E h => ?_) fun f cdv A outer sh H vs Q E hr h => ?_
  · obtain ⟨t, u, v, sv, s, rfl, _⟩ := h; rfl
  · obtain ⟨t, u, v, sv, ⟨kd, p⟩, rfl, hv, hsv, hpart, hsok, hcnt, hlev, hpl, hspr, kY, kN⟩ := h
    obtain ⟨sa, qv, rfl, hs, hpv⟩ := sv_inv hsv
    refine ⟨_, (pss_cons (ps_par (i := 2) (j := 3) (by rfl) sc_law_after_step.nd rfl rfl (by decide) rfl rfl (pa_cons (pe_ix ix_tup (pv 1) pe_int (fun _ _ => rfl)) (pa_cons (pe_ix ix_tup (pv 1) pe_int (fun _ _ => rfl)) pa_nil)) (by rfl))
      (pss_cons (ps_set (i := 4) sc_law_after_step.nd rfl (by first | exact Or.inl rfl | exact Or.inr rfl) (C8.pe_c c_law_part hr (by omega) rfl (pa_cons (pv 0) (pa_cons (pv 3) pa_nil))))
      (pss_cons (ps_if (pt_cmpR op_isN (pv 4) pe_non (nomark _)) (pss_one (ps_ret pe_non)) pss_nil)
      (pss_cons (ps_if (pt_cmpR op_eq (pv 2) pe_str (nomark _)) (pss_one (ps_ret (pe_ifExp (PW.pt (pw_and (pt_not (pt_val (pe_callB call_isi (by rfl) T.n_isinstance (by decide +kernel) (pa_cons (pv 4) (pa_cons (pe_bltn (v := .ty "tuple") (u := .type "tuple") (by rfl) T.n_tuple (by decide +kernel) rfl) pa_nil))))) (pw_and1 (pt_cmpR op_gt (pe_ix ix_tup (pv 1) pe_int (fun _ _ => rfl)) pe_int (nomark _))))) (C8.pe_c c_law_put hr (by omega) rfl (pa_cons (pv 0) (pa_cons (pv 3) (pa_cons (pe_op op_repT (pe_tup (pa_cons (pv 4) pa_nil)) (pe_ix ix_tup (pv 1) pe_int (fun _ _ => rfl))) pa_nil)))) pe_non))) pss_nil)
      (pss_cons (ps_if (pt_not (pt_val (pe_callB call_isi (by rfl) T.n_isinstance (by decide +kernel) (pa_cons (pv 4) (pa_cons (pe_bltn (v := .ty "tuple") (u := .type "tuple") (by rfl) T.n_tuple (by decide +kernel) rfl) pa_nil))))) (pss_one (ps_ret pe_non)) pss_nil)
      (pss_cons (ps_if (pt_cmpR op_eq (pv 2) pe_str (nomark _)) (pss_one (ps_ret (pe_ifExp (PW.pt (pw_and (pt_not (pt_val (pe_callB call_isi (by rfl) T.n_isinstance (by decide +kernel) (pa_cons (pe_ix ix_tup (pv 4) pe_int (fun _ _ => rfl)) (pa_cons (pe_bltn (v := .ty "tuple") (u := .type "tuple") (by rfl) T.n_tuple (by decide +kernel) rfl) pa_nil))))) (pw_and1 (pt_cmpR (op_eqD hr.units) (pv 4) (pe_op op_repT (pe_tup (pa_cons (pe_ix ix_tup (pv 4) pe_int (fun _ _ => rfl)) pa_nil)) (pe_callB call_len_seq (by rfl) T.n_len (by decide +kernel) (pa_cons (pv 4) pa_nil))) (nomark _))))) (C8.pe_c c_law_put hr (by omega) rfl (pa_cons (pv 0) (pa_cons (pv 3) (pa_cons (pe_ix ix_tup (pv 4) pe_int (fun _ _ => rfl)) pa_nil)))) pe_non))) pss_nil)
      (pss_cons (ps_if (pt_cmpR op_eq (pv 2) pe_str (nomark _)) (pss_cons (ps_set (i := 5) sc_law_after_step.nd rfl (by first | exact Or.inl rfl | exact Or.inr rfl) (pe_ix ix_tup (pv 1) pe_int (fun _ _ => rfl)))
      (pss_cons (ps_if (PW.pt (pw_or (pt_cmpR op_lt (pv 5) pe_int (nomark _)) (pw_or (pt_cmpR op_ne (pe_op op_mod (pe_callB call_len_seq (by rfl) T.n_len (by decide +kernel) (pa_cons (pv 4) pa_nil)) (pv 5)) pe_int (nomark _)) (pw_or1 (pt_cmpR op_eq (pe_callB call_len_seq (by rfl) T.n_len (by decide +kernel) (pa_cons (pv 4) pa_nil)) (pv 5) (nomark _)))))) (pss_one (ps_ret pe_non)) pss_nil)
      (pss_one (ps_ret (C8.pe_c c_law_put hr (by omega) rfl (pa_cons (pv 0) (pa_cons (pv 3) (pa_cons (pe_callTy call_tuple_of (by rfl) T.n_tuple (by decide +kernel) (pa_cons (pe_lc (own := [("_law_k", 6)]) (te := (tStepT K (tVar 4) (tVar 6) (tVar 5))) (by rfl) sc_law_after_step.nd (pi_range1 (by rfl) T.n_range (pa_cons (pv 5) pa_nil)) (blkOk_by (own := [("_law_k", 6)]) (N := ["_law_tree_here", "_law_step", "_law_word", "_law_path", "_law_node", "_law_many", "_law_k", "_law_sizes", "_law_one_z"]) (sc := defScope (topS 57)) (by decide +kernel)) (fun _ _ _ _ _ => (pg_name (i := 6) sc_law_after_step.nd rfl (by first | exact Or.inl rfl | exact Or.inr rfl))) (fun _ _ _ _ _ => pts_nil) (fun _ _ _ _ _ => (pe_stepT (pv 4) (pv 6) (pv 5)))) pa_nil)) pa_nil)))))))) pss_nil)
      (pss_cons (ps_setLc (i := 7) (own := [("_law_one_z", 8)]) (te := (tIf (tB (tCB (rIsi K) (tCons (tVar 8) (tCons (tC (.ty "tuple")) tNil)))) (tCB (rLS K) (tCons (tVar 8) tNil)) (tC (.int 0)))) (by rfl) sc_law_after_step.nd rfl rfl (sw_true rfl rfl rfl (by decide +kernel)) (pi_tup (pv 4)) (blkOk_by (own := [("_law_one_z", 8)]) (N := ["_law_tree_here", "_law_step", "_law_word", "_law_path", "_law_node", "_law_many", "_law_k", "_law_sizes", "_law_one_z"]) (sc := defScope (topS 57)) (by decide +kernel)) (fun _ _ _ _ _ => (pg_name (i := 8) sc_law_after_step.nd rfl (by first | exact Or.inl rfl | exact Or.inr rfl))) (fun _ _ _ _ _ => pts_nil) (fun _ _ _ _ _ => (pe_ifExp (pt_val (pe_callB call_isi (by rfl) T.n_isinstance (by decide +kernel) (pa_cons (pv 8) (pa_cons (pe_bltn (v := .ty "tuple") (u := .type "tuple") (by rfl) T.n_tuple (by decide +kernel) rfl) pa_nil)))) (pe_callB call_len_seq (by rfl) T.n_len (by decide +kernel) (pa_cons (pv 8) pa_nil)) pe_int)))
      (pss_cons (ps_if (PW.pt (pw_or (pt_cmpR op_eq (pe_ix ix_list (pv 7) pe_int (fun _ _ => rfl)) pe_int (nomark _)) (pw_or1 (pt_cmpR (op_neD hr.units) (pv 7) (pe_op op_rep (pe_lst (pa_cons (pe_ix ix_list (pv 7) pe_int (fun _ _ => rfl)) pa_nil)) (pe_callB call_len_seq (by rfl) T.n_len (by decide +kernel) (pa_cons (pv 7) pa_nil))) (nomark _))))) (pss_one (ps_ret pe_non)) pss_nil)
      (pss_one (ps_ret (C8.pe_c c_law_put hr (by omega) rfl (pa_cons (pv 0) (pa_cons (pv 3) (pa_cons (pe_callTy call_tuple_of (by rfl) T.n_tuple (by decide +kernel) (pa_cons (pe_lc (own := [("_law_k", 6)]) (te := (tOp (rIxT K) (tOp (rIxT K) (tVar 4) (tOp (rI (fun _ j => 0 < j) fun i j => .int (i % j)) (tVar 6) (tCB (rLS K) (tCons (tVar 4) tNil)))) (tOp (rI CDiv fun i j => .int (i / j)) (tVar 6) (tCB (rLS K) (tCons (tVar 4) tNil))))) (by rfl) sc_law_after_step.nd (pi_range1 (by rfl) T.n_range (pa_cons (pe_op op_mul (pe_ix ix_list (pv 7) pe_int (fun _ _ => rfl)) (pe_callB call_len_seq (by rfl) T.n_len (by decide +kernel) (pa_cons (pv 4) pa_nil))) pa_nil)) (blkOk_by (own := [("_law_k", 6)]) (N := ["_law_tree_here", "_law_step", "_law_word", "_law_path", "_law_node", "_law_many", "_law_k", "_law_sizes", "_law_one_z"]) (sc := defScope (topS 57)) (by decide +kernel)) (fun _ _ _ _ _ => (pg_name (i := 6) sc_law_after_step.nd rfl (by first | exact Or.inl rfl | exact Or.inr rfl))) (fun _ _ _ _ _ => pts_nil) (fun _ _ _ _ _ => (pe_ix ix_tup (pe_ix ix_tup (pv 4) (pe_op op_mod (pv 6) (pe_callB call_len_seq (by rfl) T.n_len (by decide +kernel) (pa_cons (pv 4) pa_nil))) (fun _ _ => rfl)) (pe_op op_fdiv (pv 6) (pe_callB call_len_seq (by rfl) T.n_len (by decide +kernel) (pa_cons (pv 4) pa_nil))) (fun _ _ => rfl)))) pa_nil)) pa_nil))))))))))))))), ?_⟩
    refine ⟨_, rfl, sa, _, _, _, rfl, rfl, hs, atI_nat (j := 0) rfl, _, rfl, sa, _, _, _, rfl, rfl, hs, atI_nat (j := 1) rfl, _, _, rfl, ?_⟩
    refine ⟨_, rfl, _, rfl, t, u, v, qv, p, rfl, hv, hpv, hpart, fun nv hnv => ?_⟩
    refine ⟨_, rfl, rfl, _, rfl, ite2 (fun h1 => absurd (of_decide_eq_true h1) (tv_non hnv.tv)) fun _ => ?_⟩
    have huo := hnv.ok
    have hpl : p.length ≤ 60 := hpl
    cases kd with
    | spr q =>
      refine ⟨_, rfl, rfl, _, rfl, ite2 (fun _ => ?_) fun h1 => absurd rfl h1⟩
      cases u with
      | leaf o =>
        refine ⟨_, rfl, _, _, _, _, false, rfl, .ty "tuple", hnv.tyStr, kit_ty (by decide +kernel), _, rfl, iteT ?_⟩
        refine ⟨_, rfl, sa, _, _, _, rfl, rfl, hs, atI_nat (j := 2) rfl, _, _, rfl, rfl, _, rfl, ite2 (fun c => ?_) fun c => ?_⟩
        · have hq : 2 ≤ q := by
            have : (1 : Int) < (q : Nat) := by simpa using c
            omega
          have hq4 := hspr q rfl
          refine ⟨_, rfl, _, rfl, _, rfl, by show 1 ≤ sizeLine; rw [sizeLine_eq]; decide, fun l hl => ?_⟩
          have s1 := Same.upd (o := .tup [nv]) hl
          refine ⟨_, rfl, sa, _, _, _, rfl, rfl, Same.tle s1 _ _ hs, atI_nat (j := 2) rfl, l, _, _, rfl, rfl, SqT.of upd_same, by simp, by omega, by omega, by simp, fun l2 hl2 => ?_⟩
          have s2 := Same.upd (o := .tup (List.replicate ((q : Nat) : Int).toNat [nv]).flatten) hl2
          have s12 := s1.trans s2
          refine ⟨t, .leaf o, .node (List.replicate q (.leaf o)), v, qv, .ref l2, p, rfl, hv.le (Same.tle s12), Td.D.le (Same.tle s12) _ _ hpv, ?_, hpart, by omega, hpl, fun v' H' s3 tv => kY _ (.spr hq hq4) v' H' (s12.trans s3) tv⟩
          refine tv_node.mpr ⟨l2, List.replicate q nv, rfl, SqT.of (by rw [upd_same, flat_rep]; rfl), .of_get (by simp) fun i t' x e1 e2 => ?_⟩
          rw [List.getElem?_replicate] at e1 e2
          split at e1
          · rename_i hi
            rw [if_pos hi] at e2
            cases e1; cases e2
            exact hnv.tv.le (Same.tle s12)
          · cases e1
        · refine kN (fun u' hc => ?_) _ (.refl H)
          cases hc with
          | spr h2 h4 => exact c (by simp; omega)
      | node ts =>
        refine ⟨_, rfl, _, _, _, _, true, rfl, .ty "tuple", hnv.tyTup, kit_ty (by decide +kernel), _, rfl, iteF ?_⟩
        exact kN (fun u' hc => by cases hc) _ (.refl H)
    | gath =>
      refine ⟨_, rfl, rfl, _, rfl, ite2 (fun h1 => absurd h1 (show ¬ (decide ((V.str "gather") = V.str "spread") = true) by decide +kernel)) fun _ => ?_⟩
      cases u with
      | leaf o =>
        refine ⟨_, rfl, _, _, _, _, false, rfl, .ty "tuple", hnv.tyStr, kit_ty (by decide +kernel), _, rfl, iteT ?_⟩
        exact kN (fun u' hc => by cases hc) _ (.refl H)
      | node ts =>
        refine ⟨_, rfl, _, _, _, _, true, rfl, .ty "tuple", hnv.tyTup, kit_ty (by decide +kernel), _, rfl, iteF ?_⟩
        refine ⟨_, rfl, rfl, _, rfl, ite2 (fun _ => ?_) fun h1 => absurd rfl h1⟩
        obtain ⟨a, xs, rfl, hsx, hlen, hbig, h2, hx, ht⟩ := hnv.node
        obtain ⟨t0, ht0⟩ : ∃ t0, ts[0]? = some t0 := ⟨_, List.getElem?_eq_getElem (by omega)⟩
        obtain ⟨x0, hx0, hv0⟩ := ht 0 t0 ht0
        cases t0 with
        | node us =>
          refine ⟨_, rfl, a, xs, _, x0, rfl, rfl, hsx, atI_nat (j := 0) hx0, _, _, _, _, true, rfl, .ty "tuple", hv0.tyTup, kit_ty (by decide +kernel), _, rfl, iteF ?_⟩
          refine kN (fun u' hc => ?_) _ (.refl H)
          cases hc with
          | gath h2 hall => exact absurd (hall _ (List.mem_of_getElem? ht0)) (by simp)
        | leaf o =>
          refine ⟨_, rfl, a, xs, _, x0, rfl, rfl, hsx, atI_nat (j := 0) hx0, _, _, _, _, false, rfl, .ty "tuple", hv0.tyStr, kit_ty (by decide +kernel), _, rfl, iteT ?_⟩
          have hx0s := hv0.leaf
          subst hx0s
          refine ⟨_, rfl, _, rfl, a, xs, _, _, rfl, rfl, hsx, atI_nat (j := 0) hx0, by show 1 ≤ sizeLine; rw [sizeLine_eq]; decide, fun l hl => ?_⟩
          have s1 := Same.upd (o := .tup [.str o]) hl
          have hc1 : ts.length ≤ 1000 := by
            have h1 := len_le_cnts (ok_node.mp huo).2
            have h3 := cnt_part hpart
            rw [cnt_node] at h3
            omega
          refine ⟨_, rfl, a, xs, rfl, .inr (Same.tle s1 _ _ hsx), l, _, _, rfl, rfl, SqT.of upd_same, by simp, by omega, by omega, by simp, fun l2 hl2 => ?_⟩
          have s2 := Same.upd (o := .tup (List.replicate ((xs.length : Nat) : Int).toNat [V.str o]).flatten) hl2
          have s12 := s1.trans s2
          have hrep : SqT K (upd (upd H l (.tup [.str o])) l2 (.tup (List.replicate ((xs.length : Nat) : Int).toNat [V.str o]).flatten)) l2 (List.replicate ts.length (V.str o)) := SqT.of (by rw [upd_same, flat_rep, hlen]; rfl)
          have hus : (Td.T.node ts).sok := by
            have hh : ∀ (p : List Nat) (t u : Td.T), t.sok → t.part p = some u → u.sok := by
              intro p
              induction p with
              | nil => intro t u h e; rw [part_nil] at e; cases e; exact h
              | cons i p ih =>
                intro t u h e
                obtain ⟨ts', c, rfl, hc, hp'⟩ := part_cons e
                exact ih c u (sok_node.mp h c (List.mem_of_getElem? hc)) hp'
            exact hh p t _ hsok hpart
          have hul : (Td.T.node ts).lev ≤ 60 := by have := lev_part hpart; omega
          have hso : PyData.strOk o = true := by have := sok_node.mp hus _ (List.mem_of_getElem? ht0); rwa [T.sok] at this
          have dpr : ∀ n : Nat, DpAll K (upd (upd H l (.tup [.str o])) l2 (.tup (List.replicate ((xs.length : Nat) : Int).toNat [V.str o]).flatten)) (List.replicate n (V.str o)) (List.replicate n (.str o)) := by
            intro n
            induction n with
            | zero => exact .nil
            | succ n ih => rw [List.replicate_succ, List.replicate_succ]; exact .cons (.str o) ih
          have shr : SeqAt.shaped (.tuple (List.replicate ts.length (.str o))) = true := by
            have h1 := enc_shaped (t := .node (List.replicate ts.length (.leaf o))) (sok_node.mpr fun t ht => by rw [List.eq_of_mem_replicate ht, T.sok]; exact hso) (by
              rw [lev_node]
              have : levs (List.replicate ts.length (Td.T.leaf o)) ≤ 0 := levs_le fun t ht => by rw [List.eq_of_mem_replicate ht, T.lev]; exact Nat.le_refl _
              omega)
            rw [enc_node, encs_map, List.map_replicate, enc_leaf] at h1
            exact h1
          refine ⟨(Td.T.node ts).enc, .tuple (List.replicate ts.length (.str o)), D.dp (K := K) _ _ (hnv.le (Same.tle s12)).tv, .tup hrep (dpr _), enc_shaped hus hul, shr, _, rfl, ?_⟩
          rw [enc_node]
          show ite _ _ _
          have hev : PyData.eqv (.tuple (encs ts)) (.tuple (List.replicate ts.length (.str o))) = true ↔ ∀ t ∈ ts, t = .leaf o := by
            rw [← encs_leafs o ts]
            simp [PyData.eqv]
          refine ite2 (fun c => ?_) fun c => ?_
          · have hall := hev.mp c
            refine ⟨_, rfl, _, rfl, _, rfl, a, xs, _, _, rfl, rfl, Same.tle s12 _ _ hsx, atI_nat (j := 0) hx0, ?_⟩
            exact ⟨t, .node ts, .leaf o, v, qv, .str o, p, rfl, hv.le (Same.tle s12), Td.D.le (Same.tle s12) _ _ hpv, tv_leaf.mpr rfl, hpart, by omega, hpl, fun v' H' s3 tv => kY _ (.gath h2 hall) v' H' (s12.trans s3) tv⟩
          · refine kN (fun u' hc => ?_) _ s12
            cases hc with
            | @gath _ o' h2' hall =>
              have := hall _ (List.mem_of_getElem? ht0)
              cases this
              exact c (hev.mpr hall)
    | unflat q =>
      refine ⟨_, rfl, rfl, _, rfl, ite2 (fun h1 => absurd h1 (show ¬ (decide ((V.str "unflatten") = V.str "spread") = true) by decide +kernel)) fun _ => ?_⟩
      cases u with
      | leaf o =>
        refine ⟨_, rfl, _, _, _, _, false, rfl, .ty "tuple", hnv.tyStr, kit_ty (by decide +kernel), _, rfl, iteT ?_⟩
        exact kN (fun u' hc => by cases hc) _ (.refl H)
      | node ts =>
        refine ⟨_, rfl, _, _, _, _, true, rfl, .ty "tuple", hnv.tyTup, kit_ty (by decide +kernel), _, rfl, iteF ?_⟩
        refine ⟨_, rfl, rfl, _, rfl, ite2 (fun h1 => absurd h1 (show ¬ (decide ((V.str "unflatten") = V.str "gather") = true) by decide +kernel)) fun _ => ?_⟩
        refine ⟨_, rfl, rfl, _, rfl, ite2 (fun _ => ?_) fun h1 => absurd rfl h1⟩
        obtain ⟨a, xs, e0, hsx, hvs⟩ := tv_node.mp hnv.tv
        subst e0
        have hlen := hvs.length
        have h2 := (ok_node.mp huo).1
        have hbig : ts.length ≤ 1000 := by
          have h1 := len_le_cnts (ok_node.mp huo).2
          have h3 := cnt_part hpart
          rw [cnt_node] at h3
          omega
        refine ⟨_, rfl, sa, _, _, _, rfl, rfl, hs, atI_nat (j := 2) rfl, ?_⟩
        refine ⟨_, rfl, _, _, rfl, rfl, _, rfl, ite2 (fun c => iteT (kN (fun u' hc => ?_) _ (.refl H))) fun c => ?_⟩
        · have c : (q : Int) < 2 := by simpa using c
          cases hc; omega
        have hq : 2 ≤ q := by
          have c : ¬ (q : Int) < 2 := by simpa using c
          omega
        refine ⟨_, rfl, a, xs, rfl, .inr hsx, _, rfl, _, _, rfl, rfl, by omega, rfl, _, rfl, ite2 (fun c2 => iteT (kN (fun u' hc => ?_) _ (.refl H))) fun c2 => ?_⟩
        · cases hc with
          | @unflat _ _ d _ _ hl =>
            have e : ((xs.length : Nat) : Int) % (q : Int) = 0 := by
              rw [hlen, hl]; push_cast; exact Int.mul_emod_left _ _
            have c2 : ¬ ((xs.length : Nat) : Int) % (q : Int) = 0 := by simpa using c2
            exact c2 e
        have hmod : ((xs.length : Nat) : Int) % (q : Int) = 0 := by simpa using c2
        refine ⟨_, rfl, a, xs, rfl, .inr hsx, _, rfl, rfl, _, rfl, ite2 (fun c3 => kN (fun u' hc => ?_) _ (.refl H)) fun c3 => ?_⟩
        · cases hc with
          | @unflat _ _ d _ hd hl =>
            have c3 : ((xs.length : Nat) : Int) = (q : Int) := by simpa using c3
            have : 2 * q ≤ d * q := Nat.mul_le_mul_right _ hd
            omega
        have hne : xs.length ≠ q := fun z => c3 (by simp [z])
        have hmodN : ts.length % q = 0 := by
          rw [hlen] at hmod
          exact_mod_cast hmod
        obtain ⟨d, hd⟩ := Nat.dvd_of_mod_eq_zero hmodN
        have hl : ts.length = d * q := by rw [hd, Nat.mul_comm]
        have hd2 : 2 ≤ d := by
          rcases Nat.lt_or_ge d 2 with z | z
          · have : d = 0 ∨ d = 1 := by omega
            rcases this with z | z
            · rw [z, Nat.mul_zero] at hd; omega
            · rw [z, Nat.mul_one] at hd; omega
          · exact z
        have hqle : q ≤ ts.length := by rw [hl]; exact Nat.le_mul_of_pos_left q (by omega)
        refine ⟨_, rfl, _, rfl, _, rfl, _, rfl, by omega, by omega, fun D hD => ?_⟩
        have eqn : ((q : Nat) : Int).toNat = q := Int.toNat_natCast _
        refine lc_pure (K := K) (walk_range (lo := 0)) hD (Nat.le_trans (by omega) size5) (fun _ _ => trivial) (fun i H x H' e => e.1 ▸ .refl _)
          (fun r v H => TV K H (.node (pickT ts r q d)) v) (fun r v H H' l h => h.le l) (fun i x H1 H' k' hi s1 ⟨e, ex⟩ hk => ?_) fun ys H' s1 hl2 hyl hR => ?_
        · subst e ex
          rw [eqn] at hi
          refine ⟨rfl, _, rfl, _, rfl, _, rfl, a, xs, i, q, d, rfl, ?_, rfl, Same.tle s1 a xs hsx, hq, hi, by omega, by omega, fun p hp => hk _ _ (Same.upd hp) ?_⟩
          · show V.int (0 + (i : Int)) = V.int (i : Int)
            rw [Int.zero_add]
          · exact tv_node.mpr ⟨p, _, rfl, SqT.of upd_same, (pick_tvs hvs _).le (TLe.trans (Same.tle s1) (tle_new hp))⟩
        · rw [eqn] at hyl
          refine ⟨D, ys, rfl, .inl ⟨SqL.of hl2, fun l hl3 => ?_⟩⟩
          have s12 := s1.trans (Same.upd (o := .tup ys) hl3)
          refine ⟨t, .node ts, .node (unflatT ts q d), v, qv, .ref l, p, rfl, hv.le (Same.tle s12), Td.D.le (Same.tle s12) _ _ hpv, ?_, hpart, by omega, hpl, fun v' H3 s3 tv => kY _ (.unflat hq hd2 hl) v' H3 (s12.trans s3) tv⟩
          refine tv_node.mpr ⟨l, ys, rfl, SqT.of upd_same, .of_get (by unfold unflatT; rw [List.length_map, List.length_range]; exact hyl) fun i t x e1 e2 => ?_⟩
          have hi : i < q := by have := (List.getElem?_eq_some_iff.mp e2).1; omega
          unfold unflatT at e1
          rw [List.getElem?_map, List.getElem?_range hi] at e1
          cases e1
          exact (hR i x e2).le (tle_new hl3)
    | flat =>
      refine ⟨_, rfl, rfl, _, rfl, ite2 (fun h1 => absurd h1 (show ¬ (decide ((V.str "flatten") = V.str "spread") = true) by decide +kernel)) fun _ => ?_⟩
      cases u with
      | leaf o =>
        refine ⟨_, rfl, _, _, _, _, false, rfl, .ty "tuple", hnv.tyStr, kit_ty (by decide +kernel), _, rfl, iteT ?_⟩
        exact kN (fun u' hc => by cases hc) _ (.refl H)
      | node ts =>
        refine ⟨_, rfl, _, _, _, _, true, rfl, .ty "tuple", hnv.tyTup, kit_ty (by decide +kernel), _, rfl, iteF ?_⟩
        refine ⟨_, rfl, rfl, _, rfl, ite2 (fun h1 => absurd h1 (show ¬ (decide ((V.str "flatten") = V.str "gather") = true) by decide +kernel)) fun _ => ?_⟩
        refine ⟨_, rfl, rfl, _, rfl, ite2 (fun h1 => absurd h1 (show ¬ (decide ((V.str "flatten") = V.str "unflatten") = true) by decide +kernel)) fun _ => ?_⟩
        obtain ⟨a, xs, rfl, hsx, hlen, hbig, h2, hx, ht⟩ := hnv.node
        have hkb := hnv.big
        refine ⟨_, rfl, a, rfl, ⟨xs, hsx⟩, fun D hD => ?_⟩
        refine lc_pure (K := K) walk_tup hD (Nat.le_trans (by omega) size5) (fun H' s => Same.tle s a xs hsx) (fun i H x H' e => e.1 ▸ .refl _)
          (fun i v _ => ∃ t, ts[i]? = some t ∧ v = .int (t.sz : Nat)) (fun i v H H' _ h => h) (fun i x H1 H' k' hi s1 ⟨e, ex⟩ hk => ?_) fun ys H1 s1 hl hyl hR => ?_
        · subst e
          obtain ⟨t, e1, hv1⟩ := hx i x ex
          have hv2 := hv1.le (Same.tle s1)
          cases t with
          | leaf o => exact ⟨rfl, _, rfl, _, _, _, _, false, rfl, .ty "tuple", hv2.tyStr, kit_ty (by decide +kernel), _, rfl, iteF (hk _ _ (.refl _) ⟨_, e1, rfl⟩)⟩
          | node us =>
            refine ⟨rfl, _, rfl, _, _, _, _, true, rfl, .ty "tuple", hv2.tyTup, kit_ty (by decide +kernel), _, rfl, iteT ?_⟩
            obtain ⟨b, zs, rfl, hsb, hzl, _⟩ := hv2.node
            exact ⟨_, rfl, b, zs, rfl, .inr hsb, hk _ _ (.refl _) ⟨_, e1, by rw [hzl]; rfl⟩⟩
        have hys : ys = (ts.map fun t => ((t.sz : Nat) : Int)).map V.int := by
          rw [List.map_map]
          exact ys_map (f := V.int ∘ fun t => ((t.sz : Nat) : Int)) (by omega) hR
        obtain ⟨t0, ht0⟩ : ∃ t0, ts[0]? = some t0 := ⟨_, List.getElem?_eq_getElem (by omega)⟩
        have hy0 : ys[0]? = some (.int (t0.sz : Nat)) := by rw [hys, List.getElem?_map, List.getElem?_map, ht0]; rfl
        have hL : SqL K H1 D ys := SqL.of hl
        refine ⟨_, rfl, D, ys, _, _, rfl, rfl, hL, atI_nat (j := 0) hy0, rfl, _, rfl, ite2 (fun c => iteT (kN (fun u' hc => ?_) _ s1)) fun c => ?_⟩
        · cases hc with
          | flat hq hall =>
            obtain ⟨us, rfl, hus⟩ := hall t0 (List.mem_of_getElem? ht0)
            have c : (Td.T.node us).sz = 0 := by simpa using c
            have c : us.length = 0 := c
            omega
        refine ⟨_, rfl, _, rfl, D, ys, _, _, rfl, rfl, hL, atI_nat (j := 0) hy0, by show 1 ≤ sizeLine; rw [sizeLine_eq]; decide, fun L hLn => ?_⟩
        have s2 := Same.upd (o := .lst [.int (t0.sz : Nat)]) hLn
        have hz5 := size5
        refine ⟨_, rfl, D, ys, rfl, .inl (SqL.of (s2 _ _ hl)), L, _, _, rfl, rfl, upd_same, by omega, by omega, by simp; omega, fun R hRn => ?_⟩
        have s3 := Same.upd (o := .lst (List.replicate ((ys.length : Nat) : Int).toNat [V.int (t0.sz : Nat)]).flatten) hRn
        have s23 := s2.trans s3
        have e1 : ys.length = ts.length := by omega
        have dd : (ts.map fun t => ((t.sz : Nat) : Int)).map (fun n => PyData.int n) = ts.map fun t => .int (t.sz : Nat) := by rw [List.map_map]; rfl
        have dr : (List.replicate ts.length ((t0.sz : Nat) : Int)).map (fun n => PyData.int n) = List.replicate ts.length (.int (t0.sz : Nat)) := by rw [List.map_replicate]
        have hdp1 : Dp K (upd (upd H1 L (.lst [.int (t0.sz : Nat)])) R (.lst (List.replicate ((ys.length : Nat) : Int).toNat [V.int (t0.sz : Nat)]).flatten)) (.ref D) (.list (ts.map fun t => .int (t.sz : Nat))) := by
          refine .lst (SqL.of (s23 _ _ hl)) ?_
          rw [hys, ← dd]; exact dp_ints _
        have hdp2 : Dp K (upd (upd H1 L (.lst [.int (t0.sz : Nat)])) R (.lst (List.replicate ((ys.length : Nat) : Int).toNat [V.int (t0.sz : Nat)]).flatten)) (.ref R) (.list (List.replicate ts.length (.int (t0.sz : Nat)))) := by
          refine .lst (xs := (List.replicate ts.length ((t0.sz : Nat) : Int)).map V.int) (SqL.of (by rw [upd_same, flat_rep, Int.toNat_natCast, e1, List.map_replicate])) ?_
          rw [← dr]; exact dp_ints _
        refine ⟨_, _, hdp1, hdp2, by rw [← dd]; exact ints_shaped _, by rw [← dr]; exact ints_shaped _, _, rfl, ?_⟩
        have hev : PyData.eqv (.list (ts.map fun t => .int (t.sz : Nat))) (.list (List.replicate ts.length (.int (t0.sz : Nat)))) = true ↔ ∀ t ∈ ts, t.sz = t0.sz := by
          rw [← sizes_eqv t0.sz ts]; simp [PyData.eqv]
        refine ite2 (fun c2 => kN (fun u' hc => ?_) _ (s1.trans s23)) fun c2 => ?_
        · cases hc with
          | flat hq hall =>
            have : ∀ t ∈ ts, t.sz = t0.sz := fun t htm => by
              obtain ⟨us, rfl, hus⟩ := hall t htm
              obtain ⟨us0, rfl, hus0⟩ := hall t0 (List.mem_of_getElem? ht0)
              show us.length = us0.length
              omega
            rw [hev.mpr this] at c2
            exact absurd c2 (by decide)
        have hall0 : ∀ t ∈ ts, t.sz = t0.sz := hev.mp (by simpa using c2)
        have hz0 : t0.sz ≠ 0 := fun z => c (by simp [z])
        have hall : ∀ t ∈ ts, ∃ us, t = .node us ∧ us.length = t0.sz := fun t htm => by
          have := hall0 t htm
          cases t with
          | leaf o => exact absurd (show (0 : Nat) = t0.sz from this) (fun z => hz0 z.symm)
          | node us => exact ⟨us, rfl, this⟩
        have hok := (ok_node.mp huo).2
        have hq2 : 2 ≤ t0.sz := by
          obtain ⟨us, e, hus⟩ := hall t0 (List.mem_of_getElem? ht0)
          have := oks_mem hok (List.mem_of_getElem? ht0)
          rw [e] at this
          have := (ok_node.mp this).1
          omega
        have hfs := flat_size hok hall
        rw [cnt_node] at hkb
        have hq5 : t0.sz ≤ 100000 := by
          have : 1 * t0.sz ≤ ts.length * t0.sz := Nat.mul_le_mul_right _ (by omega)
          omega
        have s13 := s1.trans s23
        refine ⟨_, rfl, _, rfl, _, rfl, D, ys, _, _, rfl, rfl, SqL.of (s23 _ _ hl), atI_nat (j := 0) hy0, _, rfl, a, xs, rfl, .inr (Same.tle s13 _ _ hsx), _, _, rfl, rfl, .inl ⟨by omega, by omega⟩, ?_⟩
        rw [hlen]
        have emul : ((t0.sz : Nat) : Int) * ((ts.length : Nat) : Int) = ((t0.sz * ts.length : Nat) : Int) := by push_cast; rfl
        have hml : t0.sz * ts.length ≤ 100000 := by rw [Nat.mul_comm]; omega
        dsimp only
        rw [emul]
        refine ⟨_, rfl, by omega, by omega, fun D2 hD2 => ?_⟩
        rw [Int.toNat_natCast]
        refine lc_pure (K := K) (walk_range (lo := 0)) hD2 (Nat.le_trans hml size5) (fun _ _ => trivial) (fun i H x H' e => e.1 ▸ .refl _)
          (fun j v H => TV K H (flatI ts j) v) (fun r v H H' l h => h.le l) (fun j x H4 H' k' hj s4 ⟨e, ex⟩ hk => ?_) fun zs H4 s4 hl4 hzl hR4 => ?_
        · subst e ex
          dsimp only
          rw [Int.zero_add]
          have hsx4 := Same.tle (K := K) (s13.trans s4) _ _ hsx
          have hjm : j % ts.length < ts.length := Nat.mod_lt _ (by omega)
          have hjd : j / ts.length < t0.sz := by rw [Nat.div_lt_iff_lt_mul (by omega)]; exact hj
          obtain ⟨x, hxj⟩ : ∃ x, xs[j % ts.length]? = some x := ⟨_, List.getElem?_eq_getElem (by omega)⟩
          obtain ⟨t', e3, hv1⟩ := hx _ x hxj
          obtain ⟨us, rfl, hus⟩ := hall t' (List.mem_of_getElem? e3)
          have hv2 := hv1.le (Same.tle (s13.trans s4))
          obtain ⟨b, zs, rfl, hsb, hzl, _, _, hz1, hz2⟩ := hv2.node
          obtain ⟨u, hu⟩ : ∃ u, us[j / ts.length]? = some u := ⟨_, List.getElem?_eq_getElem (by omega)⟩
          obtain ⟨z, hz, hvz⟩ := hz2 _ u hu
          refine ⟨rfl, _, rfl, _, rfl, _, rfl, a, xs, rfl, .inr hsx4, _, _, rfl, rfl, by omega, ?_⟩
          rw [hlen]
          refine ⟨a, xs, _, _, rfl, rfl, hsx4, atI_nat (j := j % ts.length) hxj, _, rfl, _, rfl, a, xs, rfl, .inr hsx4, _, _, rfl, rfl, ⟨by omega, by omega⟩, ?_⟩
          rw [hlen]
          refine ⟨b, zs, _, z, rfl, rfl, hsb, atI_nat (j := j / ts.length) hz, hk _ _ (.refl _) ?_⟩
          unfold flatI
          rw [show ts.getD (j % ts.length) (.node []) = .node us from by rw [List.getD_eq_getElem?_getD, e3]; rfl]
          show TV K _ (us.getD _ _) z
          rw [List.getD_eq_getElem?_getD, hu]
          exact hvz.tv
        · refine ⟨D2, zs, rfl, .inl ⟨SqL.of hl4, fun l hl5 => ?_⟩⟩
          have s15 := (s13.trans s4).trans (Same.upd (o := .tup zs) hl5)
          refine ⟨t, .node ts, .node (flatT ts t0.sz), v, qv, .ref l, p, rfl, hv.le (Same.tle s15), Td.D.le (Same.tle s15) _ _ hpv, ?_, hpart, by omega, hpl, fun v' H6 s6 tv => kY _ (.flat hq2 hall) v' H6 (s15.trans s6) tv⟩
          refine tv_node.mpr ⟨l, zs, rfl, SqT.of upd_same, .of_get (by unfold flatT; rw [List.length_map, List.length_range, hzl]; exact Int.toNat_natCast _) fun i t x e1 e2 => ?_⟩
          have hi : i < t0.sz * ts.length := by have := (List.getElem?_eq_some_iff.mp e2).1; rw [hzl, Int.toNat_natCast] at this; exact this
          unfold flatT at e1
          rw [List.getElem?_map, List.getElem?_range hi] at e1
          cases e1
          exact (hR4 i x e2).le (tle_new hl5)
end
end Td
end

section
set_option maxHeartbeats 1000000
/-! TdP8: what a step makes of a tree: ends, levels, owners. -/
namespace Td
open PySem PySem.Spec PyProof.Rows L2
theorem lev_put {t u c : T} {p : List Nat} {B : Nat} (h : t.part p = some u) (h1 : t.lev ≤ B) (h2 : p.length + c.lev ≤ B) : (t.put p c).lev ≤ B := by
  induction p generalizing t B with
  | nil => rw [put_nil]; simpa using h2
  | cons i p ih =>
    obtain ⟨ts, x, rfl, hx, hp⟩ := part_cons h
    rw [put_cons hx, lev_node]
    rw [lev_node] at h1
    rw [List.length_cons] at h2
    have : levs (ts.set i (x.put p c)) ≤ B - 1 := levs_le fun t ht => by
      rcases List.mem_or_eq_of_mem_set ht with q | q
      · have := levs_mem q; omega
      · rw [q]
        refine ih hp ?_ (by omega)
        have := levs_get hx; omega
    omega
/-- how much wider a step makes an end -/
def Kd.fac : Kd → Nat
  | .spr q => q
  | _ => 1
structure ChgF (kd : Kd) (u u' : T) : Prop where
  ok : u'.ok
  cnt : u'.cnt ≤ u.cnt + kd.fac
  lev : u'.lev ≤ u.lev + 1
  own : ∀ n, u.own n = u'.own n
  ms : u'.ms ≤ u.ms * kd.fac
theorem chg_facts {kd : Kd} {u u' : T} (ho : u.ok) (hc : Chg kd u u') : ChgF kd u u' := by
  cases hc with
  | @flat ts q hq hall =>
    obtain ⟨h2, hoo⟩ := ok_node.mp ho
    have r := rel_flat h2 hq hoo hall
    refine ⟨r.ok, by rw [r.cnt]; exact Nat.le_add_right _ _, ?_, r.sem.own, by show _ ≤ _ * 1; rw [Nat.mul_one]; exact r.ms⟩
    rw [lev_node, lev_node]
    have : levs (flatT ts q) ≤ levs ts := levs_le fun t ht => by
      obtain ⟨us, h1, h3⟩ := flat_mem hall ht
      have := levs_mem h1
      rw [lev_node] at this
      have := levs_mem h3
      omega
    omega
  | @unflat ts q c hq hc hl =>
    obtain ⟨h2, hoo⟩ := ok_node.mp ho
    have r := rel_unflat hq hc hl hoo
    refine ⟨r.ok, by rw [r.cnt]; exact Nat.le_add_right _ _, ?_, r.sem.own, by show _ ≤ _ * 1; rw [Nat.mul_one]; exact r.ms⟩
    rw [lev_node, lev_node]
    have : levs (unflatT ts q c) ≤ 1 + levs ts := levs_le fun t ht => by
      obtain ⟨us, rfl, _, h3⟩ := unflat_mem hl ht
      rw [lev_node]
      have : levs us ≤ levs ts := levs_le fun t ht => levs_mem (h3 t ht)
      omega
    omega
  | @gath ts o h2 hall =>
    refine ⟨by rw [T.ok]; trivial, ?_, by rw [T.lev]; omega, fun n => ?_, ?_⟩
    · have := cnt_pos _ ho
      rw [T.cnt]; omega
    · obtain ⟨c, hc⟩ := get_mod (ts := ts) (by omega) n
      rw [own_node hc, hall c (List.mem_of_getElem? hc), own_leaf, own_leaf]
    · rw [ms_leaf]
      have := ms_pos _ ho
      show 1 ≤ _ * 1
      omega
  | @spr o q h2 h4 =>
    refine ⟨ok_node.mpr ⟨by rw [List.length_replicate]; exact h2, oks_iff.mpr fun t ht => by rw [List.eq_of_mem_replicate ht, T.ok]; trivial⟩, ?_, ?_, fun n => ?_, ?_⟩
    · rw [cnt_node, cnts_rep]; show q ≤ _ + q; omega
    · rw [lev_node]
      have : levs (List.replicate q (T.leaf o)) ≤ 0 := levs_le fun t ht => by rw [List.eq_of_mem_replicate ht, T.lev]; exact Nat.le_refl _
      omega
    · obtain ⟨c, hc⟩ := get_mod (ts := List.replicate q (T.leaf o)) (by rw [List.length_replicate]; omega) n
      rw [own_node hc, List.eq_of_mem_replicate (List.mem_of_getElem? hc), own_leaf, own_leaf]
    · rw [ms_node, List.length_replicate, mss_rep, ms_leaf]; show q * 1 ≤ 1 * q; omega
/-- the whole tree after a step -/
theorem put_facts {kd : Kd} {t u u' : T} {p : List Nat} (ho : t.ok) (hp : t.part p = some u) (hc : Chg kd u u') : (t.put p u').ok ∧ (t.put p u').cnt ≤ t.cnt + kd.fac ∧ (t.put p u').lev ≤ t.lev + 1 ∧ (∀ n, t.own n = (t.put p u').own n) ∧ (t.put p u').ms ≤ t.ms * kd.fac := by
  have huo := ok_part' hp ho
  have f := chg_facts huo hc
  have hf1 : 1 ≤ kd.fac := by
    cases hc with
    | spr h2 _ => exact Nat.le_trans (by decide) h2
    | flat => exact Nat.le_refl _
    | unflat => exact Nat.le_refl _
    | gath => exact Nat.le_refl _
  refine ⟨okT_put hp ho f.ok, ?_, lev_put hp (by omega) (by have := lev_part hp; have := f.lev; omega), own_put hp ho f.own, ms_put hp ho (Nat.le_mul_of_pos_right _ hf1) ?_⟩
  · have := cnt_put (c := u') hp
    have := f.cnt
    omega
  · have h1 := ms_part hp
    calc t.wd p * u'.ms ≤ t.wd p * (u.ms * kd.fac) := Nat.mul_le_mul_left _ f.ms
      _ = t.wd p * u.ms * kd.fac := by rw [Nat.mul_assoc]
      _ ≤ t.ms * kd.fac := Nat.mul_le_mul_right _ h1
end Td
end

section
set_option maxHeartbeats 1000000
/-! TdLw6: the law's outcome, replay. -/
namespace Td
open PySem PySem.Spec PyProof.Rows L2
theorem chg_fun {kd : Kd} {u a b : T} (h : Chg kd u a) (k : Chg kd u b) (h2 : u.ok) : a = b := by
  cases h with
  | @flat ts q hq hall =>
    cases k with
    | @flat _ q' hq' hall' =>
      obtain ⟨h2, _⟩ := ok_node.mp h2
      obtain ⟨t, ht⟩ : ∃ t, ts[0]? = some t := ⟨_, List.getElem?_eq_getElem (by omega)⟩
      obtain ⟨us, e, h1⟩ := hall t (List.mem_of_getElem? ht)
      obtain ⟨us', e', h1'⟩ := hall' t (List.mem_of_getElem? ht)
      rw [e] at e'; cases e'
      rw [← h1, ← h1']
  | @unflat ts q c hq hc hl =>
    cases k with
    | @unflat _ _ c' _ hc' hl' =>
      have : c = c' := Nat.eq_of_mul_eq_mul_right (by omega : 0 < q) (hl.symm.trans hl')
      rw [this]
  | @gath ts o h2 hall =>
    cases k with
    | @gath _ o' h2' hall' =>
      obtain ⟨t, ht⟩ : ∃ t, ts[0]? = some t := ⟨_, List.getElem?_eq_getElem (by omega)⟩
      rw [← hall t (List.mem_of_getElem? ht), hall' t (List.mem_of_getElem? ht)]
  | spr => cases k; rfl
section
variable {P : Program} {w : World} {K : PySem.W.Frag} {mg : Str → Option Value} {base : Heap}
theorem sc_law_outcome : FnScope ["_law_tree_here", "_law_step", "_law_later"] ["_law_tree_here", "_law_step"] (defScope (topS 59)) := ⟨rfl, rfl, rfl, by decide +kernel, rfl, by decide +kernel, by decide +kernel⟩
def spOutcome (K : PySem.W.Frag) : Sp := fun vs H Q _ => ∃ (t u : T) (v sv : V) (s : Stp), vs = [v, sv] ∧ TVn K H t v ∧ SV K H s sv ∧ t.part s.path = some u ∧ t.sok ∧ t.cnt ≤ 1000 ∧ t.lev ≤ 50 ∧ s.path.length ≤ 60 ∧ s.kd.fac ≤ 400 ∧
  ∀ (T : Addr) (z : Str) (x : V) H', Same H H' → H' T = some (.tup [.str z, x]) → (z = "value" → ∃ u', Chg s.kd u u' ∧ TVn K H' (t.put s.path u') x ∧ (t.put s.path u').cnt ≤ 400 ∧ (t.put s.path u').lev ≤ 40) → Q (.ref T) H'
theorem ok_outcome (T : Top K mg) : C8.Cal P w K mg base 64 "_law_outcome" (spOutcome K) [] := by
  have c_law_after_step : C8.Cal P w K mg base 63 "_law_after_step" (spAfter K) [] := ok_after T
  have c_law_ends : C8.Cal P w K mg base 62 "_law_ends" (spEnds K 61) [] := ok_lends T 61
  have c_law_levels : C8.Cal P w K mg base 62 "_law_levels" (spLevels K 61) [] := ok_llevels T 61
  refine cal_of T.d_law_outcome sc_law_outcome (fun _ _ _ _ _ _ us hl => match us, hl with | [_, _], _ => rfl) (fun vs H Q E h => ?_) fun f cdv A outer sh H vs Q E hr h => ?_
  · obtain ⟨t, u, v, sv, s, rfl, _⟩ := h; rfl
  · obtain ⟨t, u, v, sv, s, rfl, hv, hsv, hpart, hsok, hcnt, hlev, hpl, hfac, k⟩ := h
    refine ⟨_, (pss_cons (ps_set (i := 2) sc_law_outcome.nd rfl (by first | exact Or.inl rfl | exact Or.inr rfl) (C8.pe_c c_law_after_step hr (by omega) rfl (pa_cons (pv 0) (pa_cons (pv 1) pa_nil))))
      (pss_cons (ps_if (pt_cmpR op_isN (pv 2) pe_non (nomark _)) (pss_one (ps_ret (pe_tup (pa_cons pe_str (pa_cons pe_int pa_nil))))) pss_nil)
      (pss_cons (ps_if (pt_cmpR op_gt (pe_callB call_len_seq (by rfl) T.n_len (by decide +kernel) (pa_cons (C8.pe_c c_law_ends hr (by omega) rfl (pa_cons (pv 2) (pa_cons pe_int (pa_cons pe_int pa_nil)))) pa_nil)) pe_int (nomark _)) (pss_one (ps_ret (pe_tup (pa_cons pe_str (pa_cons pe_int pa_nil))))) pss_nil)
      (pss_one (ps_ret (pe_ifExp (pt_cmpR op_gt (C8.pe_c c_law_levels hr (by omega) rfl (pa_cons (pv 2) pa_nil)) pe_int (nomark _)) (pe_tup (pa_cons pe_str (pa_cons pe_int pa_nil))) (pe_tup (pa_cons pe_str (pa_cons (pv 2) pa_nil))))))))), ?_⟩
    have h2s : ∀ x : V, [x, x].length ≤ sizeLine := fun _ => by show 2 ≤ sizeLine; rw [sizeLine_eq]; decide
    refine ⟨_, rfl, _, rfl, t, u, v, sv, s, rfl, hv, hsv, hpart, hsok, hcnt, hlev, hpl, fun q hq => by rw [hq] at hfac; exact hfac, fun u' hc v' H' s1 tv => ?_, fun hn H' s1 => ?_⟩
    · obtain ⟨p1, p2, p3, p4, p5⟩ := put_facts hv.ok hpart hc
      have hv' : TVn K H' (t.put s.path u') v' := ⟨tv, p1, by omega⟩
      refine ⟨_, rfl, rfl, _, rfl, ite2 (fun h1 => absurd (of_decide_eq_true h1) (tv_non tv)) fun _ => ?_⟩
      refine ⟨_, rfl, t.put s.path u', v', 0, 1, rfl, hv', by omega, fun pa xs H2 s2 hpa hxs hR => ?_⟩
      have hl := hR.len
      rw [ends_len] at hl
      refine ⟨pa, xs, rfl, .inl (SqL.of hxs), _, _, rfl, rfl, _, rfl, ite2 (fun c => ?_) fun c => ?_⟩
      · refine ⟨h2s .non, fun l hl2 => k l "TooLarge" (.int 400) _ ((s1.trans s2).trans (Same.upd hl2)) upd_same fun z => absurd z (by decide +kernel)⟩
      · have c : ¬ (400 : Int) < ((xs.length : Nat) : Int) := by simpa using c
        refine ⟨_, rfl, t.put s.path u', v', rfl, hv'.le (Same.tle s2), by omega, fun H3 s3 => ?_⟩
        refine ⟨_, _, rfl, rfl, _, rfl, ite2 (fun c2 => ?_) fun c2 => ?_⟩
        · refine ⟨h2s .non, fun l hl2 => k l "TooLarge" (.int 40) _ (((s1.trans s2).trans s3).trans (Same.upd hl2)) upd_same fun z => absurd z (by decide +kernel)⟩
        · have c2 : ¬ (40 : Int) < (((t.put s.path u').lev : Nat) : Int) := by simpa using c2
          refine ⟨_, rfl, h2s .non, fun l hl2 => k l "value" v' _ (((s1.trans s2).trans s3).trans (Same.upd hl2)) upd_same fun _ => ⟨u', hc, hv'.le (Same.tle ((s2.trans s3).trans (Same.upd hl2))), by omega, by omega⟩⟩
    · refine ⟨_, rfl, rfl, _, rfl, ite2 (fun _ => ?_) fun h1 => absurd (by rfl) h1⟩
      exact ⟨h2s .non, fun l hl2 => k l "BadStep" (.int 0) _ (s1.trans (Same.upd hl2)) upd_same fun z => absurd z (by decide +kernel)⟩
theorem sc_law_replay : FnScope ["_law_one_z", "_law_other_z", "_law_steps", "_law_most", "_law_here", "_law_step"] ["_law_one_z", "_law_other_z", "_law_steps", "_law_most"] (defScope (topS 62)) := ⟨rfl, rfl, rfl, by decide +kernel, rfl, by decide +kernel, by decide +kernel⟩
def spReplay (K : PySem.W.Frag) : Sp := fun vs H Q _ => ∃ (a b : Td.T) (ss : List Stp) (v u : V) (l : Addr) (xs : List V) (N m : Nat), vs = [v, u, .ref l, .int (m : Nat)] ∧ TVn K H a v ∧ TVn K H b u ∧ H l = some (.lst xs) ∧ SVs K H ss xs ∧ Tr N a ss b ∧ N ≤ m ∧ N ≤ 400 ∧ a.cnt ≤ 400 ∧ a.lev ≤ 40 ∧ a.sok ∧ b.sok ∧ b.lev ≤ 40 ∧ ∀ H', Same H H' → Q (.bl true) H'
theorem ok_replay (T : Top K mg) : C8.Cal P w K mg base 64 "_law_replay" (spReplay K) [] := by
  have c_law_after_step : C8.Cal P w K mg base 63 "_law_after_step" (spAfter K) [] := ok_after T
  have c_law_ends : C8.Cal P w K mg base 62 "_law_ends" (spEnds K 61) [] := ok_lends T 61
  have c_law_levels : C8.Cal P w K mg base 62 "_law_levels" (spLevels K 61) [] := ok_llevels T 61
  refine cal_of T.d_law_replay sc_law_replay (fun _ _ _ _ _ _ us hl => match us, hl with | [_, _, _, _], _ => rfl) (fun vs H Q E h => ?_) fun f cdv A outer sh H vs Q E hr h => ?_
  · obtain ⟨a, b, ss, v, u, l, xs, N, m, rfl, _⟩ := h; rfl
  · obtain ⟨a, b, ss, v, u, l, xs, N, m, rfl, hv, hu, hl, hss, htr, hNm, hN, hac, hal, has, hbs, hbl, k⟩ := h
    refine ⟨_, (pss_cons (ps_set (i := 4) sc_law_replay.nd rfl (by first | exact Or.inl rfl | exact Or.inr rfl) (pv 0))
      (pss_cons (ps_for PassesOwn.never rfl (pi_list (pv 2)) (pg_name (i := 5) sc_law_replay.nd rfl (by first | exact Or.inl rfl | exact Or.inr rfl)) (pss_cons (ps_if (PW.pt (pw_or (pt_not (pt_val (pe_callB call_isi (by rfl) T.n_isinstance (by decide +kernel) (pa_cons (pv 5) (pa_cons (pe_bltn (v := .ty "tuple") (u := .type "tuple") (by rfl) T.n_tuple (by decide +kernel) rfl) pa_nil))))) (pw_or (pt_cmpR op_notIn_seq (pe_callB call_len_seq (by rfl) T.n_len (by decide +kernel) (pa_cons (pv 5) pa_nil)) (pe_lst (pa_cons pe_int (pa_cons pe_int pa_nil))) (by rfl)) (pw_or1 (pt_cmpR op_notIn_seq (pe_ix ix_tup (pv 5) pe_int (fun _ _ => rfl)) (pe_lst (pa_cons pe_str (pa_cons pe_str (pa_cons pe_str (pa_cons pe_str pa_nil))))) (by rfl)))))) (pss_one (ps_ret pe_bl)) pss_nil)
      (pss_cons (ps_if (PW.pt (pw_or (pt_cmpR op_ne (pe_callB call_len_seq (by rfl) T.n_len (by decide +kernel) (pa_cons (pv 5) pa_nil)) (pe_op op_sub pe_int (pe_callTy call_int1 (by rfl) T.n_int (by decide +kernel) (pa_cons (pe_cmpR op_in_seq (pe_ix ix_tup (pv 5) pe_int (fun _ _ => rfl)) (pe_lst (pa_cons pe_str (pa_cons pe_str pa_nil))) (by rfl)) pa_nil))) (nomark _)) (pw_or1 (pt_not (pt_val (pe_callB call_isi (by rfl) T.n_isinstance (by decide +kernel) (pa_cons (pe_ix ix_tup (pv 5) pe_int (fun _ _ => rfl)) (pa_cons (pe_bltn (v := .ty "tuple") (u := .type "tuple") (by rfl) T.n_tuple (by decide +kernel) rfl) pa_nil)))))))) (pss_one (ps_ret pe_bl)) pss_nil)
      (pss_cons (ps_set (i := 4) sc_law_replay.nd rfl (by first | exact Or.inl rfl | exact Or.inr rfl) (C8.pe_c c_law_after_step hr (by omega) rfl (pa_cons (pv 4) (pa_cons (pv 5) pa_nil))))
      (pss_one (ps_if (PW.pt (pw_or (pt_cmpR op_isN (pv 4) pe_non (nomark _)) (pw_or (pt_cmpR op_gt (pe_callB call_len_seq (by rfl) T.n_len (by decide +kernel) (pa_cons (C8.pe_c c_law_ends hr (by omega) rfl (pa_cons (pv 4) (pa_cons pe_int (pa_cons pe_int pa_nil)))) pa_nil)) (pv 3) (nomark _)) (pw_or1 (pt_cmpR op_gt (C8.pe_c c_law_levels hr (by omega) rfl (pa_cons (pv 4) pa_nil)) pe_int (nomark _)))))) (pss_one (ps_ret pe_bl)) pss_nil))))))
      (pss_one (ps_ret (pe_cmpR (op_eqD hr.units) (pv 4) (pv 1) (nomark _)))))), ?_⟩
    refine ⟨_, rfl, ?_⟩
    refine ⟨_, rfl, l, rfl, ⟨_, SqL.of hl⟩, for_it (walk_list (xs := xs)) (fun i σ H' => i ≤ ss.length ∧ Same H H' ∧ ∃ (t : Td.T) (tv : V) (z : Option V), σ = [some v, some u, some (.ref l), some (.int (m : Nat)), some tv, z] ∧ TVn K H' t tv ∧ t.cnt ≤ 400 ∧ t.lev ≤ 40 ∧ t.sok ∧ Tr N t (ss.drop i) b) ⟨Nat.zero_le _, .refl H, a, v, none, rfl, hv, hac, hal, has, htr⟩ (fun i σ H' _ p => SqL.of (p.2.1 _ _ hl)) ?_ ?_⟩
    · rintro i x σ H1 H2 hi ⟨_, s1, t, tv, z, rfl, hvt, hc, hl4, hs, hT⟩ ⟨rfl, hx⟩
      rw [hss.len] at hi
      have hd : ss.drop i = ss[i] :: ss.drop (i + 1) := List.drop_eq_getElem_cons hi
      rw [hd] at hT
      obtain ⟨d0, hd0, hdx⟩ := Ds.get hss hx
      have hsi : d0 = ss[i].dat := by
        rw [List.getElem?_map, List.getElem?_eq_getElem hi] at hd0
        exact (Option.some.inj hd0).symm
      rw [hsi] at hdx
      obtain ⟨t1, hg, hc1, hT2⟩ : ∃ t1, Goes t ss[i] t1 ∧ t1.cnt ≤ N ∧ Tr N t1 (ss.drop (i + 1)) b := by
        cases hT with
        | cons h1 h2 h3 => exact ⟨_, h1, h2, h3⟩
      clear hT hd
      revert hg hdx
      generalize ss[i] = s
      intro hdx hg
      obtain ⟨kd, p⟩ := s
      obtain ⟨⟨u0, u1, hpart, hchg, rfl⟩, gok, gcnt, glev, gpath⟩ := hg
      have gpath : p.length ≤ 60 := gpath
      have hsv1 : SV K H2 ⟨kd, p⟩ x := D.le (Same.tle s1) _ _ hdx
      obtain ⟨sa, qv, rfl, hsa, hpv⟩ := sv_inv hsv1
      obtain ⟨qa, rfl, hqs⟩ := pv_inv hpv
      have hspr : ∀ q, kd = .spr q → q ≤ 400 := fun q e => by subst e; cases hchg; assumption
      have huo := ok_part' hpart hvt.ok
      have f1 : inV (V.int (((V.str kd.word :: V.ref qa :: kd.argV).length : Nat) : Int)) [.int 2, .int 3] = true := by
        cases kd <;> first | exact (by decide +kernel : inV (V.int 2) [.int 2, .int 3] = true) | exact (by decide +kernel : inV (V.int 3) [.int 2, .int 3] = true)
      have f2 : inV (V.str kd.word) [.str "flatten", .str "unflatten", .str "gather", .str "spread"] = true := by
        cases kd <;> first | exact (by decide +kernel : inV (V.str "flatten") [V.str "flatten", .str "unflatten", .str "gather", .str "spread"] = true) | exact (by decide +kernel : inV (V.str "unflatten") [V.str "flatten", .str "unflatten", .str "gather", .str "spread"] = true) | exact (by decide +kernel : inV (V.str "gather") [V.str "flatten", .str "unflatten", .str "gather", .str "spread"] = true) | exact (by decide +kernel : inV (V.str "spread") [V.str "flatten", .str "unflatten", .str "gather", .str "spread"] = true)
      have f3 : V.int (((V.str kd.word :: V.ref qa :: kd.argV).length : Nat) : Int) = V.int (3 - if inV (V.str kd.word) [.str "flatten", .str "gather"] = true then 1 else 0) := by
        cases kd <;> first | exact (by decide +kernel : V.int 2 = V.int (3 - if inV (V.str "flatten") [V.str "flatten", .str "gather"] = true then 1 else 0)) | exact (by decide +kernel : V.int 3 = V.int (3 - if inV (V.str "unflatten") [V.str "flatten", .str "gather"] = true then 1 else 0)) | exact (by decide +kernel : V.int 2 = V.int (3 - if inV (V.str "gather") [V.str "flatten", .str "gather"] = true then 1 else 0)) | exact (by decide +kernel : V.int 3 = V.int (3 - if inV (V.str "spread") [V.str "flatten", .str "gather"] = true then 1 else 0))
      refine ⟨_, rfl, _, _, _, _, true, rfl, .ty "tuple", SqT.tyx hsa, kit_ty (by decide +kernel), _, rfl, iteF ?_⟩
      refine ⟨_, rfl, sa, _, rfl, .inr hsa, by show 2 ≤ sizeLine; rw [sizeLine_eq]; decide, fun L1 hL1 => ?_⟩
      have q1 := Same.upd (o := .lst [.int 2, .int 3]) hL1
      refine ⟨L1, _, rfl, .inl (SqL.of upd_same), rfl, rfl, _, rfl, ite2 (fun h1 => absurd h1 (by simp only [if_true, Bool.not_eq_true]; rw [show inV _ _ = true from f1]; decide)) fun _ => ?_⟩
      refine ⟨_, rfl, sa, _, _, _, rfl, rfl, Same.tle q1 _ _ hsa, atI_nat (j := 0) rfl, by show 4 ≤ sizeLine; rw [sizeLine_eq]; decide, fun L2 hL2 => ?_⟩
      have q2 := Same.upd (o := .lst [.str "flatten", .str "unflatten", .str "gather", .str "spread"]) hL2
      refine ⟨L2, _, rfl, .inl (SqL.of upd_same), rfl, rfl, _, rfl, ite2 (fun h1 => absurd h1 (by simp only [if_true, Bool.not_eq_true]; rw [show inV _ _ = true from f2]; decide)) fun _ => ?_⟩
      have q12 := q1.trans q2
      refine ⟨_, rfl, sa, _, rfl, .inr (Same.tle q12 _ _ hsa), _, rfl, sa, _, _, _, rfl, rfl, Same.tle q12 _ _ hsa, atI_nat (j := 0) rfl, by show 2 ≤ sizeLine; rw [sizeLine_eq]; decide, fun L3 hL3 => ?_⟩
      have q3 := Same.upd (o := .lst [.str "flatten", .str "gather"]) hL3
      have q13 := q12.trans q3
      refine ⟨L3, _, rfl, .inl (SqL.of upd_same), rfl, rfl, .inr ⟨_, rfl, _, _, rfl, rfl, rfl, _, rfl, ite2 (fun h1 => absurd h1 (by
        have f4 := f3
        simp only [Bool.false_eq_true, if_false]
        rw [decide_eq_true f4]; decide)) fun _ => ?_⟩⟩
      refine ⟨_, rfl, sa, _, _, _, rfl, rfl, Same.tle q13 _ _ hsa, atI_nat (j := 1) rfl, _, _, _, _, true, rfl, .ty "tuple", SqT.tyx (Same.tle q13 _ _ hqs), kit_ty (by decide +kernel), _, rfl, iteF ?_⟩
      refine ⟨_, rfl, _, rfl, t, u0, tv, .ref sa, ⟨kd, p⟩, rfl, hvt.le (Same.tle q13), D.le (Same.tle q13) _ _ hsv1, hpart, hs, by omega, by omega, gpath, hspr, fun u2 hc2 v' H4 s4 tvv => ?_, fun hn => absurd hchg (hn u1)⟩
      have e2 := chg_fun hchg hc2 huo
      subst e2
      have gcnt : (t.put p u1).cnt ≤ 400 := gcnt
      have gl : (t.put p u1).lev ≤ 40 := glev
      have hv' : TVn K H4 (t.put p u1) v' := ⟨tvv, gok, by omega⟩
      refine ⟨_, rfl, rfl, _, rfl, ite2 (fun h1 => absurd (of_decide_eq_true h1) (tv_non tvv)) fun _ => ?_⟩
      refine ⟨_, rfl, t.put p u1, v', 0, 1, rfl, hv', by omega, fun pa ys H5 s5 hpa hys hR => ?_⟩
      have hyl := hR.len
      rw [ends_len] at hyl
      have hcN : (t.put p u1).cnt ≤ N := hc1
      refine ⟨pa, ys, rfl, .inl (SqL.of hys), _, rfl, _, _, rfl, rfl, _, rfl, ite2 (fun c => absurd c (by simp; omega)) fun _ => ?_⟩
      refine ⟨_, rfl, t.put p u1, v', rfl, hv'.le (Same.tle s5), by omega, fun H6 s6 => ?_⟩
      refine ⟨_, _, rfl, rfl, _, rfl, ite2 (fun c => absurd c (by simp; omega)) fun _ => ?_⟩
      have s16 := ((q13.trans s4).trans s5).trans s6
      exact ⟨by omega, s1.trans s16, t.put p u1, v', _, rfl, hv'.le (Same.tle (s5.trans s6)), gcnt, gl, sok_of_own hvt.ok gok (put_facts hvt.ok hpart hchg).2.2.2.1 hs, hT2⟩
    · rintro σ H1 ⟨_, s1, t, tv, z, rfl, hvt, hc, hl4, hs, hT⟩
      rw [hss.len, List.drop_length] at hT
      cases hT
      refine ⟨_, rfl, _, rfl, b.enc, b.enc, D.dp (K := K) _ _ hvt.tv, D.dp (K := K) _ _ (hu.le (Same.tle s1)).tv, enc_shaped hs (by omega), enc_shaped hs (by omega), ?_⟩
      rw [enc_self hs]
      exact k _ s1
end
end Td
end

section
set_option maxHeartbeats 1000000
/-! TdLw7: the law's drawn_step, resplit. -/
namespace Td
open PySem PySem.Spec PyProof.Rows L2
/-- a comprehension that keeps some -/
theorem lc_sel {K : PySem.W.Frag} {J : It} {n : Nat} {G : Hp → Prop} {Y : Nat → Hp → V → Hp → Prop} (w : Walk J n G Y) {g : TG} {tc : TT} {te : TE} {vs : List Nat} {σ : L2.St} {H1 : Hp} {D : Addr} {Qd : Hp → Prop} (hD : H1 D = none) (hn : n ≤ sizeLine)
    (hG : ∀ H, Same H1 H → G H) (hY : ∀ i H x H', Y i H x H' → Same H H') (R : V → Hp → Prop) (hR : ∀ v H H', TLe K H H' → R v H → R v H')
    (hs : ∀ i x H H' (k : V → Hp → Prop) (k0 : Hp → Prop), i < n → Same H1 H → Y i H x H' → (∀ y H'', Same H' H'' → R y H'' → k y H'') → (∀ H'', Same H' H'' → k0 H'') → g x (wipe σ vs) H' fun σ2 H2 => wipe σ2 vs = wipe σ vs ∧ tc σ2 H2 fun b H3 => if b = true then te σ2 H3 k else k0 H3)
    (hd : ∀ ys H, Same H1 H → H D = some (.lst ys) → ys.length ≤ n → (∀ y ∈ ys, R y H) → Qd H) :
    ∃ W : Nat → Nat → Hp → Prop, (∃ m, W 0 m (upd H1 D (.lst []))) ∧ ∀ i m H, W i m H →
      (J.stop i H ∧ Qd H) ∨ (J.go i H ∧ ∃ Nx : Hp → Prop, (∀ H', Nx H' → ∃ m', m' < m ∧ W (i + 1) m' H') ∧ ∀ x H', J.yld i H x H' → g x (wipe σ vs) H' fun σ2 H2 => wipe σ2 vs = wipe σ vs ∧ tc σ2 H2 fun b H3 =>
        if b = true then te σ2 H3 fun y H4 => ∃ acc, H4 D = some (.lst acc) ∧ acc.length < sizeLine ∧ Nx (upd H4 D (.lst (acc ++ [y]))) else Nx H3) := by
  refine lc_it w (fun i H => Same H1 H ∧ ∃ acc, H D = some (.lst acc) ∧ acc.length ≤ i ∧ ∀ y ∈ acc, R y H) ⟨Same.upd hD, [], upd_same, Nat.le_refl _, fun y e => by cases e⟩ (fun i H _ p => hG H p.1) (fun i x H H' hi p hy => ?_) fun H ⟨s, acc, h1, h2, h3⟩ => hd acc H s h1 h2 h3
  obtain ⟨s, acc, h1, h2, h3⟩ := p
  have sY := hY i H x H' hy
  refine hs i x H H' _ _ hi s hy (fun y H'' s2 r => ?_) fun H'' s2 => ⟨s.trans (sY.trans s2), acc, s2 _ _ (sY _ _ h1), by omega, fun y hy => hR _ _ _ (Same.tle (sY.trans s2)) (h3 y hy)⟩
  have hD2 : H'' D = some (.lst acc) := s2 _ _ (sY _ _ h1)
  refine ⟨acc, hD2, by omega, same_lst hD (s.trans (sY.trans s2)), acc ++ [y], upd_same, by simp; omega, fun z hz => ?_⟩
  rcases List.mem_append.mp hz with hz | hz
  · exact hR _ _ _ (tle_lst hD2) (hR _ _ _ (Same.tle (sY.trans s2)) (h3 z hz))
  · rw [List.mem_singleton.mp hz]; exact hR _ _ _ (tle_lst hD2) r
theorem svs_ex {K : PySem.W.Frag} {H : Hp} : ∀ gs : List V, (∀ x ∈ gs, ∃ s : Stp, SV K H s x) → ∃ ss : List Stp, SVs K H ss gs
  | [], _ => ⟨[], ds_nil⟩
  | x :: gs, h => by
    obtain ⟨s, hs⟩ := h x List.mem_cons_self
    obtain ⟨ss, hss⟩ := svs_ex gs fun y hy => h y (List.mem_cons_of_mem _ hy)
    exact ⟨s :: ss, ds_cons hs hss⟩
theorem path_lay (p : List Nat) : PyData.canLay0 (pathD p) = true ∧ (pathD p).depth ≤ 2 := by
  unfold pathD
  induction p with
  | nil => exact ⟨by decide, by decide⟩
  | cons n p ih =>
    simp only [List.map_cons, PyData.canLay0, PyData.canLayAll0, PyData.depth, PyData.depthAll, Bool.true_and] at ih ⊢
    exact ⟨ih.1, by omega⟩
theorem dat_lay (s : Stp) : PyData.canLay0 s.dat = true ∧ s.dat.depth ≤ 3 := by
  obtain ⟨h1, h2⟩ := path_lay s.path
  have hw : PyData.strOk s.kd.word = true := by
    cases s.kd with
    | flat => exact (by decide +kernel : PyData.strOk "flatten" = true)
    | unflat q => exact (by decide +kernel : PyData.strOk "unflatten" = true)
    | gath => exact (by decide +kernel : PyData.strOk "gather" = true)
    | spr q => exact (by decide +kernel : PyData.strOk "spread" = true)
  unfold Stp.dat
  generalize hwd : s.kd.word = wd at hw
  cases s.kd <;> simp only [Kd.args, PyData.canLay0, PyData.canLayAll0, PyData.depth, PyData.depthAll, h1, hw, Bool.and_true, Bool.true_and] <;> exact ⟨trivial, by omega⟩
theorem dats_shaped (ss : List Stp) : SeqAt.shaped (.list (ss.map Stp.dat)) = true := by
  have : (PyData.canLay0 (.list (ss.map Stp.dat)) = true) ∧ (PyData.list (ss.map Stp.dat)).depth ≤ 64 := by
    induction ss with
    | nil => exact ⟨by decide, by decide⟩
    | cons s p ih =>
      obtain ⟨h1, h2⟩ := dat_lay s
      simp only [List.map_cons, PyData.canLay0, PyData.canLayAll0, PyData.depth, PyData.depthAll, h1, Bool.true_and] at ih ⊢
      exact ⟨ih.1, by omega⟩
  unfold SeqAt.shaped
  rw [this.1, decide_eq_true this.2]; rfl
section
variable {P : Program} {w : World} {K : PySem.W.Frag} {mg : Str → Option Value} {base : Heap}
theorem sc_law_drawn_step : FnScope ["_law_bag_here", "_law_tree_here", "_law_path", "_law_node", "_law_word", "_law_many", "_law_k", "_law_ways", "_law_good", "_law_way"] ["_law_bag_here", "_law_tree_here"] (defScope (topS 58)) := ⟨rfl, rfl, rfl, by decide +kernel, rfl, by decide +kernel, by decide +kernel⟩
def spDrawn (K : PySem.W.Frag) (ns : List Int) (B S : Addr) : Sp := fun vs H Q _ => ∃ (t : T) (v : V), vs = [.ref B, v] ∧ TVn K H t v ∧ t.sok ∧ t.cnt ≤ 1000 ∧ t.lev ≤ 50 ∧ BagAt K ns B S H ∧
  ∀ (sv : V) (s : Stp) (u : T) H', KeptB B H H' → BagAt K ns B S H' → SV K H' s sv → t.part s.path = some u → s.kd.fac ≤ 5 → s.path.length ≤ 60 → Q sv H'
theorem ok_drawn (T : Top K mg) {ns : List Int} {B S : Addr} : C8.Cal P w K mg base 64 "_law_drawn_step" (spDrawn K ns B S) [] := by
  have c_law_after_step : C8.Cal P w K mg base 63 "_law_after_step" (spAfter K) [] := ok_after T
  have c_law_paths : C8.Cal P w K mg base 62 "_law_paths" (spPaths K 61) [] := ok_lpaths T 61
  have c_law_of : C8.Cal P w K mg base 2 "_law_of" (spOf K ns B S) [] := ok_of T
  have c_law_pull : C8.Cal P w K mg base 1 "_law_pull" (spPull K ns B S) [] := ok_pull T
  refine cal_of T.d_law_drawn_step sc_law_drawn_step (fun _ _ _ _ _ _ us hl => match us, hl with | [_, _], _ => rfl) (fun vs H Q E h => ?_) fun f cdv A outer sh H vs Q E hr h => ?_
  · obtain ⟨t, v, rfl, _⟩ := h; rfl
  · obtain ⟨t, v, rfl, hv, hsok, hcnt, hlev, hB, k⟩ := h
    refine ⟨_, (pss_cons (ps_asg (C8.pe_c c_law_of hr (by omega) rfl (pa_cons (pv 0) (pa_cons (C8.pe_c c_law_paths hr (by omega) rfl (pa_cons (pv 1) (pa_cons (pe_tup pa_nil) pa_nil))) pa_nil))) (pg_tup (by rfl) (pgs_cons (pg_name (i := 2) sc_law_drawn_step.nd rfl (by first | exact Or.inl rfl | exact Or.inr rfl)) (pgs_cons (pg_name (i := 3) sc_law_drawn_step.nd rfl (by first | exact Or.inl rfl | exact Or.inr rfl)) pgs_nil))))
      (pss_cons (ps_if (pt_not (pt_val (pe_callB call_isi (by rfl) T.n_isinstance (by decide +kernel) (pa_cons (pv 3) (pa_cons (pe_bltn (v := .ty "tuple") (u := .type "tuple") (by rfl) T.n_tuple (by decide +kernel) rfl) pa_nil))))) (pss_cons (ps_set (i := 4) sc_law_drawn_step.nd rfl (by first | exact Or.inl rfl | exact Or.inr rfl) (C8.pe_c c_law_of hr (by omega) rfl (pa_cons (pv 0) (pa_cons (pe_lst (pa_cons pe_str (pa_cons pe_str (pa_cons pe_str (pa_cons pe_str pa_nil))))) pa_nil))))
      (pss_one (ps_ret (pe_ifExp (pt_cmpR op_eq (pv 4) pe_str (nomark _)) (pe_tup (pa_cons (pv 4) (pa_cons (pv 2) (pa_cons (pe_op op_add pe_int (C8.pe_c c_law_pull hr (by omega) rfl (pa_cons (pv 0) (pa_cons pe_int pa_nil)))) pa_nil)))) (pe_tup (pa_cons (pv 4) (pa_cons (pv 2) pa_nil))))))) pss_nil)
      (pss_cons (ps_setLc (i := 5) (own := [("_law_k", 6)]) (te := (tVar 6)) (tt := (tTest (tOp rEq (tOp (rI (fun _ j => 0 < j) fun i j => .int (i % j)) (tCB (rLS K) (tCons (tVar 3) tNil)) (tVar 6)) (tC (.int 0))))) (by rfl) sc_law_drawn_step.nd rfl rfl (sw_true rfl rfl rfl (by decide +kernel)) (pi_range2 (by rfl) T.n_range (pa_cons pe_int (pa_cons (pe_callB call_len_seq (by rfl) T.n_len (by decide +kernel) (pa_cons (pv 3) pa_nil)) pa_nil))) (blkOk_by (own := [("_law_k", 6)]) (N := ["_law_bag_here", "_law_tree_here", "_law_path", "_law_node", "_law_word", "_law_many", "_law_k", "_law_ways", "_law_good", "_law_way"]) (sc := defScope (topS 58)) (by decide +kernel)) (fun _ _ _ _ _ => (pg_name (i := 6) sc_law_drawn_step.nd rfl (by first | exact Or.inl rfl | exact Or.inr rfl))) (fun _ _ _ _ _ => (pts_one (pt_cmpR op_eq (pe_op op_mod (pe_callB call_len_seq (by rfl) T.n_len (by decide +kernel) (pa_cons (pv 3) pa_nil)) (pv 6)) pe_int (nomark _)))) (fun _ _ _ _ _ => (pv 6)))
      (pss_cons (ps_set (i := 7) sc_law_drawn_step.nd rfl (by first | exact Or.inl rfl | exact Or.inr rfl) (pe_lst (pa_cons (pe_tup (pa_cons pe_str (pa_cons (pv 2) pa_nil))) (pa_cons (pe_tup (pa_cons pe_str (pa_cons (pv 2) pa_nil))) (pa_cons (pe_tup (pa_cons pe_str (pa_cons (pv 2) (pa_cons (C8.pe_c c_law_of hr (by omega) rfl (pa_cons (pv 0) (pa_cons (pe_op op_cat (pv 5) (pe_lst (pa_cons pe_int (pa_cons pe_int pa_nil)))) pa_nil))) pa_nil)))) pa_nil)))))
      (pss_cons (ps_setLc (i := 8) (own := [("_law_way", 9)]) (te := (tVar 9)) (tt := (tTest (tOp (fun x y H Q => y = .non ∧ Q (.bl (!decide (x = .non))) H) (tCall (spAfter K) [] C8.E0 (tCons (tVar 1) (tCons (tVar 9) tNil))) (tC .non)))) (by rfl) sc_law_drawn_step.nd rfl rfl (sw_true rfl rfl rfl (by decide +kernel)) (pi_list (pv 7)) (blkOk_by (own := [("_law_way", 9)]) (N := ["_law_bag_here", "_law_tree_here", "_law_path", "_law_node", "_law_word", "_law_many", "_law_k", "_law_ways", "_law_good", "_law_way"]) (sc := defScope (topS 58)) (by decide +kernel)) (fun _ _ _ _ _ => (pg_name (i := 9) sc_law_drawn_step.nd rfl (by first | exact Or.inl rfl | exact Or.inr rfl))) (fun _ _ _ _ _ => (pts_one (pt_cmpR op_notN (C8.pe_c c_law_after_step hr (by omega) rfl (pa_cons (pv 1) (pa_cons (pv 9) pa_nil))) pe_non (nomark _)))) (fun _ _ _ _ _ => (pv 9)))
      (pss_one (ps_ret (pe_ifExp (PW.pt (pw_and (pt_cmpR (op_neD hr.units) (pv 8) (pe_lst pa_nil) (nomark _)) (pw_and1 (pt_cmpR op_gt (C8.pe_c c_law_pull hr (by omega) rfl (pa_cons (pv 0) (pa_cons pe_int pa_nil))) pe_int (nomark _))))) (C8.pe_c c_law_of hr (by omega) rfl (pa_cons (pv 0) (pa_cons (pv 8) pa_nil))) (C8.pe_c c_law_of hr (by omega) rfl (pa_cons (pv 0) (pa_cons (pv 7) pa_nil))))))))))), ?_⟩
    have hB1 : ∀ {H' : Hp}, Same H H' → BagAt K ns B S H' := fun s => hB.same s
    have bne : ∀ {H' : Hp} {p : Addr}, BagAt K ns B S H' → H' p = none → p ≠ B := fun b e z => by
      obtain ⟨i, big, seed, e1, _⟩ := b.ex
      rw [z, e1] at e; cases e
    have hz := size5
    refine ⟨_, rfl, _, rfl, Nat.zero_le _, fun q hq => ?_⟩
    have s1 : Same H (upd H q (.tup [])) := Same.upd hq
    refine ⟨t, v, .ref q, [], rfl, hv.le (Same.tle s1), pv_of (SqT.of upd_same), by omega, by simp; omega, fun p xs H2 s2 hp hl hxl hne hR => ?_⟩
    have hB2 := hB1 (s1.trans s2)
    have kB2 : KeptB B H H2 := Same.keptB (s1.trans s2)
    refine ⟨p, xs, rfl, bne (hB1 s1) hp, .inl (SqL.of hl), hne, by omega, hB2, fun x H3 hx k3 hB3 => ?_⟩
    obtain ⟨Ta, qv, uv, q', u, rfl, hT, hpv, hpart, huv⟩ := hR x hx
    have l3 := k3.tle hB2
    have hpv := Td.D.le l3 _ _ hpv
    have huv := huv.le l3
    have hv := hv.le (TLe.trans (Same.tle (s1.trans s2)) l3)
    have kB3 := kB2.trans k3
    refine ⟨_, _, rfl, l3 _ _ (SqT.of hT), rfl, qv, [uv], rfl, uv, [], rfl, rfl, ?_⟩
    rw [List.nil_append] at hpv
    have hpl : q'.length ≤ 60 := by
      have := lev_part hpart
      omega
    clear hR hx hl hT
    cases u with
    | leaf o =>
      refine ⟨_, rfl, _, _, _, _, false, rfl, .ty "tuple", huv.tyStr, kit_ty (by decide +kernel), _, rfl, iteT ?_⟩
      refine ⟨_, rfl, by show 4 ≤ sizeLine; rw [sizeLine_eq]; decide, fun l hl => ?_⟩
      have s4 := Same.upd (o := .lst [.str "spread", .str "spread", .str "gather", .str "flatten"]) hl
      have hB4 := hB3.same s4
      refine ⟨l, _, rfl, bne hB3 hl, .inl (SqL.of upd_same), by simp, by simp, hB4, fun x H5 hx k5 hB5 => ?_⟩
      have l5 := TLe.trans (Same.tle (K := K) s4) (k5.tle hB4)
      have k35 := (kB3.trans (Same.keptB s4)).trans k5
      have hq5 := Td.D.le l5 _ _ hpv
      simp only [List.mem_cons, List.not_mem_nil, or_false] at hx
      rcases hx with rfl | rfl | rfl | rfl
      · refine ⟨_, rfl, rfl, _, rfl, ite2 (fun _ => ?_) fun h1 => absurd rfl h1⟩
        refine ⟨_, rfl, _, rfl, _, rfl, 4, rfl, by omega, by omega, hB5, fun m H6 hm k6 hB6 => ?_⟩
        refine ⟨_, _, rfl, rfl, by show 3 ≤ sizeLine; rw [sizeLine_eq]; decide, fun l2 hl2 => ?_⟩
        have s7 := Same.upd (o := .tup [.str "spread", qv, .int (2 + (m : Nat))]) hl2
        exact k _ ⟨.spr (2 + m), q'⟩ _ _ ((k35.trans k6).trans (Same.keptB s7)) (hB6.same s7) (sv_of (SqT.of upd_same) (Td.D.le (TLe.trans (k6.tle hB5) (Same.tle s7)) _ _ hq5)) hpart (by show 2 + m ≤ 5; omega) hpl
      · refine ⟨_, rfl, rfl, _, rfl, ite2 (fun _ => ?_) fun h1 => absurd rfl h1⟩
        refine ⟨_, rfl, _, rfl, _, rfl, 4, rfl, by omega, by omega, hB5, fun m H6 hm k6 hB6 => ?_⟩
        refine ⟨_, _, rfl, rfl, by show 3 ≤ sizeLine; rw [sizeLine_eq]; decide, fun l2 hl2 => ?_⟩
        have s7 := Same.upd (o := .tup [.str "spread", qv, .int (2 + (m : Nat))]) hl2
        exact k _ ⟨.spr (2 + m), q'⟩ _ _ ((k35.trans k6).trans (Same.keptB s7)) (hB6.same s7) (sv_of (SqT.of upd_same) (Td.D.le (TLe.trans (k6.tle hB5) (Same.tle s7)) _ _ hq5)) hpart (by show 2 + m ≤ 5; omega) hpl
      · refine ⟨_, rfl, rfl, _, rfl, ite2 (fun h1 => absurd h1 (show ¬ (decide ((V.str "gather") = V.str "spread") = true) by decide +kernel)) fun _ => ?_⟩
        refine ⟨_, rfl, _, rfl, by show 2 ≤ sizeLine; rw [sizeLine_eq]; decide, fun l2 hl2 => ?_⟩
        have s7 := Same.upd (o := .tup [.str "gather", qv]) hl2
        exact k _ ⟨.gath, q'⟩ _ _ (k35.trans (Same.keptB s7)) (hB5.same s7) (sv_of (SqT.of upd_same) (Td.D.le (Same.tle s7) _ _ hq5)) hpart (by show 1 ≤ 5; omega) hpl
      · refine ⟨_, rfl, rfl, _, rfl, ite2 (fun h1 => absurd h1 (show ¬ (decide ((V.str "flatten") = V.str "spread") = true) by decide +kernel)) fun _ => ?_⟩
        refine ⟨_, rfl, _, rfl, by show 2 ≤ sizeLine; rw [sizeLine_eq]; decide, fun l2 hl2 => ?_⟩
        have s7 := Same.upd (o := .tup [.str "flatten", qv]) hl2
        exact k _ ⟨.flat, q'⟩ _ _ (k35.trans (Same.keptB s7)) (hB5.same s7) (sv_of (SqT.of upd_same) (Td.D.le (Same.tle s7) _ _ hq5)) hpart (by show 1 ≤ 5; omega) hpl
    | node ts =>
      refine ⟨_, rfl, _, _, _, _, true, rfl, .ty "tuple", huv.tyTup, kit_ty (by decide +kernel), _, rfl, iteF ?_⟩
      obtain ⟨b, ys, rfl, hsb, hlen, hbig, h2, hx, ht⟩ := huv.node
      have hlc : ts.length ≤ 1000 := by
        have h1 := len_le_cnts (ok_node.mp huv.ok).2
        have h3 := cnt_part hpart
        rw [cnt_node] at h3
        omega
      refine ⟨_, rfl, b, ys, rfl, .inr hsb, _, _, rfl, ⟨by omega, by omega, by omega, by omega⟩, fun D hD => ?_⟩
      refine lc_sel (K := K) (walk_range (lo := 2)) hD (Nat.le_trans (by omega) size5) (fun _ _ => trivial) (fun i H x H' e => e.1 ▸ .refl _)
        (fun v _ => ∃ n : Nat, v = .int (n : Nat) ∧ 2 ≤ n ∧ n ≤ 1000) (fun v H H' _ h => h) (fun i x H4 H' k1 k0 hi s4 ⟨e, ex⟩ hk hk0 => ?_) fun ms H4 s4 hl4 hml hR4 => ?_
      · subst e ex
        refine ⟨rfl, _, rfl, b, ys, rfl, .inr (Same.tle s4 _ _ hsb), ?_⟩
        refine ⟨_, rfl, _, _, rfl, rfl, by omega, rfl, _, rfl, ite2 (fun _ => ?_) fun _ => hk0 _ (.refl _)⟩
        exact ⟨_, rfl, hk _ _ (.refl _) ⟨2 + i, rfl, by omega, by omega⟩⟩
      · refine ⟨_, rfl, by show 2 ≤ sizeLine; rw [sizeLine_eq]; decide, fun l1 hl1 => ?_⟩
        have s5 := Same.upd (o := .tup [.str "flatten", qv]) hl1
        refine ⟨_, rfl, by show 2 ≤ sizeLine; rw [sizeLine_eq]; decide, fun l2 hl2 => ?_⟩
        have s6 := Same.upd (o := .tup [.str "gather", qv]) hl2
        refine ⟨_, rfl, _, rfl, _, rfl, by show 2 ≤ sizeLine; rw [sizeLine_eq]; decide, fun l3 hl3 => ?_⟩
        have s7 := Same.upd (o := .lst [.int 2, .int 3]) hl3
        have s47 := (s4.trans s5).trans (s6.trans s7)
        refine ⟨D, l3, ms, _, rfl, rfl, s7 _ _ (s6 _ _ (s5 _ _ hl4)), upd_same, by simp; omega, fun p3 hp3 => ?_⟩
        have s8 := Same.upd (o := .lst (ms ++ [.int 2, .int 3])) hp3
        have hB8 := hB3.same (s47.trans s8)
        refine ⟨p3, _, rfl, bne (hB3.same s47) hp3, .inl (SqL.of upd_same), by simp, by simp; omega, hB8, fun x H9 hx9 k9 hB9 => ?_⟩
        obtain ⟨n9, rfl, hn9, hn92⟩ : ∃ n : Nat, x = .int (n : Nat) ∧ 2 ≤ n ∧ n ≤ 1000 := by
          rcases List.mem_append.mp hx9 with h | h
          · exact hR4 _ h
          · simp only [List.mem_cons, List.not_mem_nil, or_false] at h
            rcases h with rfl | rfl
            · exact ⟨2, rfl, by omega, by omega⟩
            · exact ⟨3, rfl, by omega, by omega⟩
        refine ⟨by show 3 ≤ sizeLine; rw [sizeLine_eq]; decide, fun l4 hl4' => ?_⟩
        have s10 := Same.upd (o := .tup [.str "unflatten", qv, .int (n9 : Nat)]) hl4'
        refine ⟨by show 3 ≤ sizeLine; rw [sizeLine_eq]; decide, fun l5 hl5 => ?_⟩
        have s11 := Same.upd (o := .lst [.ref l1, .ref l2, .ref l4]) hl5
        have s1011 := s10.trans s11
        have hB11 := hB9.same s1011
        have k11 := ((kB3.trans (Same.keptB (s47.trans s8))).trans k9).trans (Same.keptB s1011)
        have l11 : TLe K H3 _ := TLe.trans (TLe.trans (Same.tle (K := K) (s47.trans s8)) (k9.tle hB8)) (Same.tle s1011)
        have lA : TLe K _ _ := TLe.trans (TLe.trans (Same.tle (K := K) ((s6.trans s7).trans s8)) (k9.tle hB8)) (Same.tle s1011)
        have lB : TLe K _ _ := TLe.trans (TLe.trans (Same.tle (K := K) (s7.trans s8)) (k9.tle hB8)) (Same.tle s1011)
        have hq11 := Td.D.le l11 _ _ hpv
        have hv11 := hv.le l11
        have hW : ∀ x ∈ [V.ref l1, .ref l2, .ref l4], ∃ (s : Stp), SV K (upd (upd H9 l4 (.tup [.str "unflatten", qv, .int (n9 : Nat)])) l5 (.lst [.ref l1, .ref l2, .ref l4])) s x ∧ s.path = q' ∧ s.kd.fac ≤ 5 ∧ (∀ q, s.kd = .spr q → q ≤ 400) := by
          intro x hx
          simp only [List.mem_cons, List.not_mem_nil, or_false] at hx
          rcases hx with rfl | rfl | rfl
          · exact ⟨⟨.flat, q'⟩, sv_of (lA _ _ (SqT.of upd_same)) hq11, rfl, by show 1 ≤ 5; omega, fun q e => by cases e⟩
          · exact ⟨⟨.gath, q'⟩, sv_of (lB _ _ (SqT.of upd_same)) hq11, rfl, by show 1 ≤ 5; omega, fun q e => by cases e⟩
          · exact ⟨⟨.unflat n9, q'⟩, sv_of (Same.tle s11 _ _ (SqT.of upd_same)) hq11, rfl, by show 1 ≤ 5; omega, fun q e => by cases e⟩
        have hl5' : upd (upd H9 l4 (.tup [.str "unflatten", qv, .int (n9 : Nat)])) l5 (.lst [.ref l1, .ref l2, .ref l4]) l5 = some (.lst [.ref l1, .ref l2, .ref l4]) := upd_same
        have hl5B := bne (hB9.same s10) hl5
        generalize upd (upd H9 l4 (.tup [.str "unflatten", qv, .int (n9 : Nat)])) l5 (.lst [.ref l1, .ref l2, .ref l4]) = H11 at hB11 k11 l11 hq11 hv11 hW hl5' s11 s1011 ⊢
        refine ⟨_, rfl, l5, rfl, ⟨_, SqL.of hl5'⟩, fun D2 hD2 => ?_⟩
        refine lc_sel (K := K) (walk_list (xs := [V.ref l1, .ref l2, .ref l4])) hD2 (by show 3 ≤ sizeLine; rw [sizeLine_eq]; decide) (fun H' s => SqL.of (s _ _ hl5')) (fun i H x H' e => e.1 ▸ .refl _)
          (fun x H => ∃ (s : Stp), SV K H s x ∧ s.path = q' ∧ s.kd.fac ≤ 5 ∧ (∀ q, s.kd = .spr q → q ≤ 400)) (fun v H H' l ⟨s, h⟩ => ⟨s, Td.D.le l _ _ h.1, h.2⟩) (fun i x H12 H' k1 k0 hi s12 ⟨e, ex⟩ hk hk0 => ?_) fun gs H12 s12 hl12 hgl hR12 => ?_
        · subst e
          obtain ⟨s, hs, hsp, hsf, hs4⟩ := hW x (List.mem_of_getElem? ex)
          have hs12 := Td.D.le (Same.tle s12) _ _ hs
          refine ⟨rfl, _, rfl, _, rfl, t, .node ts, v, x, s, rfl, hv11.le (Same.tle s12), hs12, by rw [hsp]; exact hpart, hsok, hcnt, hlev, by rw [hsp]; exact hpl, hs4, fun u' hc v' H13 s13 tv => ?_, fun hn H13 s13 => ?_⟩
          · refine ⟨rfl, _, rfl, ite2 (fun _ => ?_) fun _ => hk0 _ s13⟩
            exact ⟨_, rfl, hk _ _ s13 ⟨s, Td.D.le (Same.tle s13) _ _ hs12, hsp, hsf, hs4⟩⟩
          · refine ⟨rfl, _, rfl, ite2 (fun h => absurd h (by simp)) fun _ => hk0 _ s13⟩
        · have hB12 := hB11.same s12
          have fin : ∀ (l : Addr) (zs : List V) (H0 H1 : Hp), BagAt K ns B S H0 → KeptB B H H0 → TLe K H12 H0 → (∀ x ∈ zs, ∃ (s : Stp), SV K H12 s x ∧ s.path = q' ∧ s.kd.fac ≤ 5 ∧ (∀ q, s.kd = .spr q → q ≤ 400)) → ∀ (x : V) H', x ∈ zs → KeptB B H0 H' → BagAt K ns B S H' → Q x H' := by
            intro l zs H0 H1 b0 k0 l0 hz x H' hx kk bb
            obtain ⟨s, hs, hsp, hsf, _⟩ := hz x hx
            exact k x s (.node ts) H' (k0.trans kk) bb (Td.D.le (TLe.trans l0 (kk.tle b0)) _ _ hs) (by rw [hsp]; exact hpart) hsf (by rw [hsp]; exact hpl)
          refine ⟨_, rfl, Nat.zero_le _, fun l6 hl6 => ?_⟩
          have s13 := Same.upd (o := .lst []) hl6
          have hB13 := hB12.same s13
          have k12 := k11.trans (Same.keptB s12)
          have k13 := k12.trans (Same.keptB s13)
          obtain ⟨ss, hss⟩ := svs_ex gs fun x hx => (hR12 x hx).imp fun s h => h.1
          have hB12D : D2 ≠ B := bne hB11 hD2
          have good : ∀ (H0 : Hp), KeptB B (upd H12 l6 (.lst [])) H0 → BagAt K ns B S H0 → gs ≠ [] → (spOf K ns B S) [.ref B, .ref D2] H0 Q C8.E0 := fun H0 kk bb hne => ⟨D2, gs, rfl, hB12D, .inl (SqL.of (kk _ _ hB12D (s13 _ _ hl12))), hne, by simp at hgl; omega, bb, fun x H' hx k1 b1 => fin D2 gs H0 H0 bb (k13.trans kk) (TLe.trans (Same.tle s13) (kk.tle hB13)) hR12 x H' hx k1 b1⟩
          have ways : ∀ (H0 : Hp), KeptB B (upd H12 l6 (.lst [])) H0 → BagAt K ns B S H0 → (spOf K ns B S) [.ref B, .ref l5] H0 Q C8.E0 := fun H0 kk bb => ⟨l5, _, rfl, hl5B, .inl (SqL.of (kk _ _ hl5B (s13 _ _ (s12 _ _ hl5')))), by simp, by simp, bb, fun x H' hx k1 b1 => fin l5 [V.ref l1, .ref l2, .ref l4] H0 H0 bb (k13.trans kk) (TLe.trans (Same.tle s13) (kk.tle hB13)) (fun x hx => by
            obtain ⟨s, hs, h⟩ := hW x hx
            exact ⟨s, Td.D.le (Same.tle s12) _ _ hs, h⟩) x H' hx k1 b1⟩
          refine ⟨.list (ss.map Stp.dat), .list [], .lst (SqL.of (s13 _ _ hl12)) (Td.Ds.dp _ _ (Td.Ds.le (Same.tle s13) _ _ hss)), .lst (SqL.of upd_same) .nil, dats_shaped ss, by decide, _, rfl, ?_⟩
          have hlen := hss.length
          rw [List.length_map] at hlen
          cases hg : ss with
          | nil =>
            rw [hg] at hlen
            show ite _ _ _
            refine iteF ?_
            exact ⟨_, rfl, _, rfl, ways _ (.refl _ _) hB13⟩
          | cons s0 ss' =>
            rw [hg] at hlen
            show ite _ _ _
            refine iteT ?_
            refine ⟨_, rfl, 5, rfl, by omega, by omega, hB13, fun m H14 hm k14 hB14 => ?_⟩
            refine ⟨_, _, rfl, rfl, _, rfl, ite2 (fun _ => ?_) fun _ => ?_⟩
            · exact ⟨_, rfl, _, rfl, good _ k14 hB14 fun z => by rw [z] at hlen; simp at hlen⟩
            · exact ⟨_, rfl, _, rfl, ways _ k14 hB14⟩
end
end Td
end

section
set_option maxHeartbeats 1000000
/-! TdP9: plain facts of taken trees, of parts split anew. -/
namespace Td
open PySem PySem.Spec PyProof.Rows L2
theorem erase_sum {w : Nat → Nat} : ∀ {l : List Nat} {x : Nat}, x ∈ l → w x + ((l.erase x).map w).sum = (l.map w).sum
  | y :: l, x, h => by
    by_cases e : y = x
    · subst e
      rw [List.erase_cons_head, List.map_cons, List.sum_cons]
    · have h2 : x ∈ l := by
        rcases List.mem_cons.mp h with h | h
        · exact absurd h.symm e
        · exact h
      rw [List.erase_cons_tail (by simpa using e), List.map_cons, List.sum_cons, List.map_cons, List.sum_cons, ← erase_sum h2]
      omega
theorem sub_sum {w : Nat → Nat} : ∀ {l l' : List Nat}, l.Nodup → (∀ x ∈ l, x ∈ l') → (l.map w).sum ≤ (l'.map w).sum
  | [], _, _, _ => Nat.zero_le _
  | x :: l, l', h, hs => by
    obtain ⟨h1, h2⟩ := List.nodup_cons.mp h
    have h3 := erase_sum (w := w) (hs x List.mem_cons_self)
    have h4 := sub_sum (w := w) (l' := l'.erase x) h2 fun y hy => (List.mem_erase_of_ne (fun e => h1 (by rw [← e]; exact hy))).mpr (hs y (List.mem_cons_of_mem _ hy))
    rw [List.map_cons, List.sum_cons]
    omega
theorem nodup_map_on {α β : Type} {g : α → β} : ∀ {l : List α}, l.Nodup → (∀ x ∈ l, ∀ y ∈ l, g x = g y → x = y) → (l.map g).Nodup
  | [], _, _ => by simp
  | x :: l, h, hi => by
    obtain ⟨h1, h2⟩ := List.nodup_cons.mp h
    rw [List.map_cons, List.nodup_cons]
    refine ⟨fun hm => ?_, nodup_map_on h2 fun a ha b hb => hi a (List.mem_cons_of_mem _ ha) b (List.mem_cons_of_mem _ hb)⟩
    obtain ⟨y, hy, e⟩ := List.mem_map.mp hm
    exact h1 (hi x List.mem_cons_self y (List.mem_cons_of_mem _ hy) e.symm ▸ hy)
theorem cnts_range (ts : List T) : ((List.range ts.length).map fun i => (ts.getD i (.leaf ⟨#[]⟩)).cnt).sum = cnts ts := by
  rw [cnts_sum]
  congr 1
  apply List.ext_getElem?
  intro i
  rw [List.getElem?_map, List.getElem?_map]
  rcases Nat.lt_or_ge i ts.length with h | h
  · rw [List.getElem?_range h, List.getElem?_eq_getElem h]
    simp [List.getD, List.getElem?_eq_getElem h]
  · rw [List.getElem?_eq_none (by simpa using h), List.getElem?_eq_none h]; rfl
theorem sum_le {α : Type} {f g : α → Nat} : ∀ {l : List α}, (∀ x ∈ l, f x ≤ g x) → (l.map f).sum ≤ (l.map g).sum
  | [], _ => Nat.le_refl _
  | x :: l, h => by
    rw [List.map_cons, List.map_cons, List.sum_cons, List.sum_cons]
    exact Nat.add_le_add (h x List.mem_cons_self) (sum_le fun y hy => h y (List.mem_cons_of_mem _ hy))
theorem cnt_mkT (L : List T) : (mkT L).cnt = cnts L := by
  rcases mk_cases L with ⟨t, e1, e2⟩ | ⟨_, e2⟩
  · rw [e2, e1, cnts, cnts, Nat.add_zero]
  · rw [e2, cnt_node]
theorem taken_cnt (t : T) : t.ok → ∀ f s, (t.taken f s).cnt ≤ t.cnt := by
  induction t using T.ind with
  | h1 o => intro h f s; rw [taken_leaf]; exact Nat.le_refl _
  | h2 ts ih =>
    intro h f s
    obtain ⟨h2, ho⟩ := ok_node.mp h
    have h0 : 0 < ts.length := by omega
    rw [taken_node, cnt_mkT, cnts_sum, cnt_node, List.map_map]
    refine Nat.le_trans (sum_le (g := fun i => (ts.getD ((f + s * i) % ts.length) (.leaf ⟨#[]⟩)).cnt) fun i hi => ?_) ?_
    · have hm := Nat.mod_lt (f + s * i) h0
      have e := List.getElem?_eq_getElem hm
      show (tkI ts f s i).cnt ≤ _
      rw [tkI_get e, List.getD, e]
      exact ih _ (List.getElem_mem hm) (oks_get ho e) _ _
    · have hnd : ((List.range (ts.length / Nat.gcd ts.length s)).map fun i => (f + s * i) % ts.length).Nodup := by
        refine nodup_map_on List.nodup_range fun x hx y hy e => ?_
        have e2 := (nat_same f s ts.length x y h0).mp e
        rwa [Nat.mod_eq_of_lt (List.mem_range.mp hx), Nat.mod_eq_of_lt (List.mem_range.mp hy)] at e2
      have := sub_sum (w := fun i => (ts.getD i (.leaf ⟨#[]⟩)).cnt) (l' := List.range ts.length) hnd fun x hx => by
        obtain ⟨i, _, rfl⟩ := List.mem_map.mp hx
        exact List.mem_range.mpr (Nat.mod_lt _ h0)
      rw [List.map_map, cnts_range] at this
      exact this
theorem taken_lev (t : T) : t.ok → ∀ f s, (t.taken f s).lev ≤ t.lev := by
  induction t using T.ind with
  | h1 o => intro h f s; rw [taken_leaf]; exact Nat.le_refl _
  | h2 ts ih =>
    intro h f s
    obtain ⟨h2, ho⟩ := ok_node.mp h
    have h0 : 0 < ts.length := by omega
    rw [taken_node]
    have hall : ∀ u ∈ (List.range (ts.length / Nat.gcd ts.length s)).map (tkI ts f s), u.lev ≤ levs ts := fun u hu => by
      obtain ⟨c, hc, f', s', rfl⟩ := taken_mem h0 hu
      exact Nat.le_trans (ih c hc (oks_mem ho hc) f' s') (levs_mem hc)
    rw [lev_node]
    rcases mk_cases ((List.range (ts.length / Nat.gcd ts.length s)).map (tkI ts f s)) with ⟨t, e1, e2⟩ | ⟨e1, e2⟩
    · rw [e2]
      have := hall t (by rw [e1]; exact List.mem_cons_self)
      omega
    · rw [e2, lev_node]
      have := levs_le hall
      omega
theorem tkb_of {b : T} (h : b.ok) (h1 : b.cnt ≤ 100000) (h2 : b.lev ≤ 40) : TkB b := fun f s => ⟨taken_ok b h f s, Nat.le_trans (taken_cnt b h f s) h1, Nat.le_trans (taken_lev b h f s) h2⟩
/-- a part split anew -/
def splT (u : T) (k : Nat) : T := .node ((List.range k).map fun i => u.taken i k)
theorem spl_facts {t u : T} {p : List Nat} {k : Nat} (ho : t.ok) (hp : t.part p = some u) (hk : 2 ≤ k) :
    (t.put p (splT u k)).ok ∧ (t.put p (splT u k)).cnt ≤ t.cnt + k * t.cnt ∧ (t.put p (splT u k)).lev ≤ t.lev + 1 ∧ (∀ n, t.own n = (t.put p (splT u k)).own n) ∧ (t.put p (splT u k)).ms ≤ t.ms * k := by
  have hu : u.ok := ok_part' hp ho
  have hok : (splT u k).ok := by
    unfold splT
    rw [ok_node, oks_iff, List.length_map, List.length_range]
    refine ⟨hk, fun c hc => ?_⟩
    obtain ⟨i, _, rfl⟩ := List.mem_map.mp hc
    exact taken_ok u hu _ _
  refine ⟨okT_put hp ho hok, ?_, ?_, own_put hp ho fun n => ?_, ms_put hp ho (Nat.le_mul_of_pos_right _ (by omega)) ?_⟩
  · have h1 := cnt_put (c := splT u k) hp
    have h2 := cnt_part hp
    have h3 : (splT u k).cnt ≤ k * u.cnt := by
      unfold splT
      rw [cnt_node, cnts_sum, List.map_map]
      refine Nat.le_trans (sum_le (g := fun _ => u.cnt) fun i _ => taken_cnt u hu i k) ?_
      have : ∀ n, ((List.range n).map fun _ => u.cnt).sum = n * u.cnt := fun n => by
        rw [List.map_const', List.sum_replicate_nat, List.length_range]
      rw [this]; exact Nat.le_refl _
    have h4 : k * u.cnt ≤ k * t.cnt := Nat.mul_le_mul_left _ h2
    omega
  · refine lev_put hp (Nat.le_succ _) ?_
    have h1 := lev_part hp
    have h2 : (splT u k).lev ≤ u.lev + 1 := by
      unfold splT
      rw [lev_node]
      have := levs_le (ts := (List.range k).map fun i => u.taken i k) (n := u.lev) fun c hc => by
        obtain ⟨i, _, rfl⟩ := List.mem_map.mp hc
        exact taken_lev u hu _ _
      omega
    omega
  · have hm := Nat.mod_lt n (show 0 < k by omega)
    have e : ((List.range k).map fun i => u.taken i k)[n % ((List.range k).map fun i => u.taken i k).length]? = some (u.taken (n % k) k) := by
      rw [List.length_map, List.length_range, List.getElem?_map, List.getElem?_range hm]; rfl
    unfold splT
    rw [own_node e, List.length_map, List.length_range, taken_own u hu, Nat.mod_add_div]
  · have h1 := ms_part hp
    have h2 : (splT u k).ms ≤ k * u.ms := by
      unfold splT
      rw [ms_node, List.length_map, List.length_range]
      refine Nat.mul_le_mul_left _ (mss_le (ms_pos u hu) fun c hc => ?_)
      obtain ⟨i, _, rfl⟩ := List.mem_map.mp hc
      exact taken_ms u hu _ _
    calc t.wd p * (splT u k).ms ≤ t.wd p * (k * u.ms) := Nat.mul_le_mul_left _ h2
      _ = t.wd p * u.ms * k := by rw [Nat.mul_comm k, Nat.mul_assoc]
      _ ≤ t.ms * k := Nat.mul_le_mul_right _ h1
end Td
end

section
set_option maxHeartbeats 1000000
/-! TdLw8: the law's resplit. -/
namespace Td
open PySem PySem.Spec PyProof.Rows L2
theorem BagAt.bne {K : PySem.W.Frag} {ns : List Int} {B S : Addr} {H' : Hp} {p : Addr} (b : BagAt K ns B S H') (e : H' p = none) : p ≠ B := fun z => by
  obtain ⟨i, big, seed, e1, _⟩ := b.ex
  rw [z, e1] at e; cases e
section
variable {P : Program} {w : World} {K : PySem.W.Frag} {mg : Str → Option Value} {base : Heap}
theorem sc_law_resplit : FnScope ["_law_bag_here", "_law_tree_here", "_law_most", "_law_turn", "_law_path", "_law_node", "_law_size", "_law_later", "_law_k"] ["_law_bag_here", "_law_tree_here", "_law_most"] (defScope (topS 55)) := ⟨rfl, rfl, rfl, by decide +kernel, rfl, by decide +kernel, by decide +kernel⟩
def spResplit (K : PySem.W.Frag) (ns : List Int) (B S : Addr) : Sp := fun vs H Q _ => ∃ (t : T) (v : V), vs = [.ref B, v, .int 90] ∧ TVn K H t v ∧ t.cnt ≤ 90 ∧ t.lev ≤ 15 ∧ BagAt K ns B S H ∧
  ∀ (v' : V) (t' : T) H', KeptB B H H' → BagAt K ns B S H' → TVn K H' t' v' → (∀ n, t.own n = t'.own n) → t'.cnt ≤ 90 → t'.lev ≤ 15 → t'.ms ≤ t.ms * 125 → Q v' H'
theorem ok_resplit (T : Top K mg) {ns : List Int} {B S : Addr} : C8.Cal P w K mg base 64 "_law_resplit" (spResplit K ns B S) [] := by
  have c_law_every : C8.Cal P w K mg base 63 "_law_every" (spTaken K 61) [] := ok_every T 61
  have c_law_put : C8.Cal P w K mg base 62 "_law_put" (spPut K 61) [] := ok_lput T 61
  have c_law_ends : C8.Cal P w K mg base 62 "_law_ends" (spEnds K 61) [] := ok_lends T 61
  have c_law_levels : C8.Cal P w K mg base 62 "_law_levels" (spLevels K 61) [] := ok_llevels T 61
  have c_law_paths : C8.Cal P w K mg base 62 "_law_paths" (spPaths K 61) [] := ok_lpaths T 61
  have c_law_of : C8.Cal P w K mg base 2 "_law_of" (spOf K ns B S) [] := ok_of T
  have c_law_pull : C8.Cal P w K mg base 1 "_law_pull" (spPull K ns B S) [] := ok_pull T
  refine cal_of T.d_law_resplit sc_law_resplit (fun _ _ _ _ _ _ us hl => match us, hl with | [_, _, _], _ => rfl) (fun vs H Q E h => ?_) fun f cdv A outer sh H vs Q E hr h => ?_
  · obtain ⟨t, v, rfl, _⟩ := h; rfl
  · obtain ⟨t, v, rfl, hv, hcnt, hlev, hB, k⟩ := h
    refine ⟨_, (pss_cons (ps_for PassesOwn.never rfl (pi_range1 (by rfl) T.n_range (pa_cons (pe_op op_add pe_int (C8.pe_c c_law_pull hr (by omega) rfl (pa_cons (pv 0) (pa_cons pe_int pa_nil)))) pa_nil)) (pg_name (i := 3) sc_law_resplit.nd rfl (by first | exact Or.inl rfl | exact Or.inr rfl)) (pss_cons (ps_asg (C8.pe_c c_law_of hr (by omega) rfl (pa_cons (pv 0) (pa_cons (C8.pe_c c_law_paths hr (by omega) rfl (pa_cons (pv 1) (pa_cons (pe_tup pa_nil) pa_nil))) pa_nil))) (pg_tup (by rfl) (pgs_cons (pg_name (i := 4) sc_law_resplit.nd rfl (by first | exact Or.inl rfl | exact Or.inr rfl)) (pgs_cons (pg_name (i := 5) sc_law_resplit.nd rfl (by first | exact Or.inl rfl | exact Or.inr rfl)) pgs_nil))))
      (pss_cons (ps_set (i := 6) sc_law_resplit.nd rfl (by first | exact Or.inl rfl | exact Or.inr rfl) (C8.pe_c c_law_of hr (by omega) rfl (pa_cons (pv 0) (pa_cons (pe_lst (pa_cons pe_int (pa_cons pe_int (pa_cons pe_int (pa_cons pe_int pa_nil))))) pa_nil))))
      (pss_cons (ps_set (i := 7) sc_law_resplit.nd rfl (by first | exact Or.inl rfl | exact Or.inr rfl) (C8.pe_c c_law_put hr (by omega) rfl (pa_cons (pv 1) (pa_cons (pv 4) (pa_cons (pe_callTy call_tuple_of (by rfl) T.n_tuple (by decide +kernel) (pa_cons (pe_lc (own := [("_law_k", 8)]) (te := (tCall (spTaken K 61) [] C8.E0 (tCons (tVar 5) (tCons (tVar 8) (tCons (tVar 6) tNil))))) (by rfl) sc_law_resplit.nd (pi_range1 (by rfl) T.n_range (pa_cons (pv 6) pa_nil)) (blkOk_by (own := [("_law_k", 8)]) (N := ["_law_bag_here", "_law_tree_here", "_law_most", "_law_turn", "_law_path", "_law_node", "_law_size", "_law_later", "_law_k"]) (sc := defScope (topS 55)) (by decide +kernel)) (fun _ _ _ _ _ => (pg_name (i := 8) sc_law_resplit.nd rfl (by first | exact Or.inl rfl | exact Or.inr rfl))) (fun _ _ _ _ _ => pts_nil) (fun _ _ _ _ _ => (C8.pe_c c_law_every hr (by omega) rfl (pa_cons (pv 5) (pa_cons (pv 8) (pa_cons (pv 6) pa_nil)))))) pa_nil)) pa_nil)))))
      (pss_one (ps_if (PW.pt (pw_and (pt_cmpR op_le (pe_callB call_len_seq (by rfl) T.n_len (by decide +kernel) (pa_cons (C8.pe_c c_law_ends hr (by omega) rfl (pa_cons (pv 7) (pa_cons pe_int (pa_cons pe_int pa_nil)))) pa_nil)) (pv 2) (nomark _)) (pw_and1 (pt_cmpR op_lt (C8.pe_c c_law_levels hr (by omega) rfl (pa_cons (pv 7) pa_nil)) pe_int (nomark _))))) (pss_one (ps_set (i := 1) sc_law_resplit.nd rfl (by first | exact Or.inl rfl | exact Or.inr rfl) (pv 7))) pss_nil))))))
      (pss_one (ps_ret (pv 1)))), ?_⟩
    have hz := size5
    refine ⟨_, rfl, 3, rfl, by omega, by omega, hB, fun m H1 hm k1 hB1 => ?_⟩
    refine ⟨_, _, rfl, rfl, _, rfl, by omega, by omega, ?_⟩
    have e3 : (1 + ((m : Nat) : Int)).toNat = 1 + m := by omega
    rw [e3]
    refine for_range (lo := 0) (fun i σ H' => i ≤ 1 + m ∧ KeptB B H H' ∧ BagAt K ns B S H' ∧ ∃ (t' : Td.T) (v' : V) (z3 z4 z5 z6 z7 : Option V), σ = [some (.ref B), some v', some (.int 90), z3, z4, z5, z6, z7, none] ∧ TVn K H' t' v' ∧ (∀ n, t.own n = t'.own n) ∧ t'.cnt ≤ 90 ∧ t'.lev ≤ 15 ∧ t'.ms ≤ t.ms * 5 ^ i) ⟨Nat.zero_le _, k1, hB1, t, v, none, none, none, none, none, rfl, hv.le (k1.tle hB), fun _ => rfl, hcnt, hlev, by simp⟩ ?_ ?_
    · rintro i σ H2 hi ⟨_, k2, hB2, t', v', z3, z4, z5, z6, z7, rfl, hv2, how, hcnt2, hlev2, hms2⟩
      rw [Int.zero_add]
      refine ⟨_, rfl, _, rfl, Nat.zero_le _, fun q hq => ?_⟩
      have s1 : Same H2 (upd H2 q (.tup [])) := Same.upd hq
      refine ⟨t', v', .ref q, [], rfl, hv2.le (Same.tle s1), pv_of (SqT.of upd_same), by omega, by simp; omega, fun p xs H3 s2 hp hl hxl hne hR => ?_⟩
      have s3 := s1.trans s2
      have hB3 := hB2.same s3
      refine ⟨p, xs, rfl, (hB2.same s1).bne hp, .inl (SqL.of hl), hne, by omega, hB3, fun x H4 hx k4 hB4 => ?_⟩
      obtain ⟨Ta, qv, uv, q', u, rfl, hT, hpv, hpart, huv⟩ := hR x hx
      rw [List.nil_append] at hpv
      have l4 := k4.tle hB3
      refine ⟨_, _, rfl, l4 _ _ (SqT.of hT), rfl, qv, [uv], rfl, uv, [], rfl, rfl, ?_⟩
      have hpl : q'.length ≤ 60 := by
        have := lev_part hpart
        omega
      refine ⟨_, rfl, by show 4 ≤ sizeLine; rw [sizeLine_eq]; decide, fun l hl => ?_⟩
      have s5 := Same.upd (o := .lst [.int 2, .int 3, .int 2, .int 5]) hl
      have hB5 := hB4.same s5
      refine ⟨l, _, rfl, hB4.bne hl, .inl (SqL.of upd_same), by simp, by simp, hB5, fun x H6 hx k6 hB6 => ?_⟩
      obtain ⟨sz, rfl, hsz, hsz2⟩ : ∃ n : Nat, x = .int (n : Nat) ∧ 2 ≤ n ∧ n ≤ 5 := by
        simp only [List.mem_cons, List.not_mem_nil, or_false] at hx
        rcases hx with rfl | rfl | rfl | rfl
        · exact ⟨2, rfl, by omega, by omega⟩
        · exact ⟨3, rfl, by omega, by omega⟩
        · exact ⟨2, rfl, by omega, by omega⟩
        · exact ⟨5, rfl, by omega, by omega⟩
      have l36 := TLe.trans l4 (TLe.trans (Same.tle (K := K) s5) (k6.tle hB5))
      have k26 := ((k2.trans (Same.keptB s3)).trans k4).trans ((Same.keptB s5).trans k6)
      have hv6 := hv2.le (TLe.trans (Same.tle (K := K) s3) l36)
      have hpv6 := Td.D.le l36 _ _ hpv
      have huv6 := huv.le l36
      obtain ⟨fok, fcnt, flev, fown, fms⟩ := spl_facts (k := sz) hv2.ok hpart hsz
      have hulev : u.lev ≤ t'.lev := by have := lev_part hpart; omega
      refine ⟨_, rfl, _, rfl, _, rfl, _, rfl, by omega, by omega, fun D hD => ?_⟩
      rw [Int.toNat_natCast]
      refine lc_pure (K := K) (walk_range (lo := 0)) hD (Nat.le_trans (by omega) size5) (fun _ _ => trivial) (fun i H x H' e => e.1 ▸ .refl _)
        (fun r v H => TV K H (u.taken r sz) v) (fun r v H H' l h => h.le l) (fun j x H7 H' k' hj s7 ⟨e, ex⟩ hk => ?_) fun ys H7 s7 hl7 hyl hR7 => ?_
      · subst e ex
        dsimp only
        rw [Int.zero_add]
        exact ⟨rfl, _, rfl, _, rfl, _, rfl, u, uv, j, sz, rfl, huv6.le (Same.tle s7), by omega, by omega, fun v' H'' s tv => hk _ _ s tv⟩
      · refine ⟨D, ys, rfl, .inl ⟨SqL.of hl7, fun l2 hl2 => ?_⟩⟩
        have s8 := Same.upd (o := .tup ys) hl2
        have s78 := s7.trans s8
        have tvs : TV K (upd H7 l2 (.tup ys)) (splT u sz) (.ref l2) := by
          refine tv_node.mpr ⟨l2, ys, rfl, SqT.of upd_same, .of_get (by rw [List.length_map, List.length_range]; exact hyl) fun r c x e1 e2 => ?_⟩
          have hr : r < sz := by have := (List.getElem?_eq_some_iff.mp e2).1; omega
          rw [List.getElem?_map, List.getElem?_range hr] at e1
          cases e1
          exact (hR7 r x e2).le (Same.tle s8)
        refine ⟨t', u, splT u sz, v', qv, .ref l2, q', rfl, hv6.le (Same.tle s78), Td.D.le (Same.tle s78) _ _ hpv6, tvs, hpart, by omega, hpl, fun v2 H9 s9 tv9 => ?_⟩
        have hcb : (t'.put q' (splT u sz)).cnt ≤ 540 := by
          have : sz * t'.cnt ≤ 5 * 90 := Nat.mul_le_mul hsz2 hcnt2
          omega
        have hv9 : TVn K H9 (t'.put q' (splT u sz)) v2 := ⟨tv9, fok, by omega⟩
        have s69 := s78.trans s9
        refine ⟨_, rfl, t'.put q' (splT u sz), v2, 0, 1, rfl, hv9, by omega, fun pa xs2 H10 s10 hpa hxs hR10 => ?_⟩
        have hlen := hR10.len
        rw [ends_len] at hlen
        have s610 := s69.trans s10
        refine ⟨pa, xs2, rfl, .inl (SqL.of hxs), _, rfl, _, _, rfl, rfl, _, rfl, ite2 (fun c => ?_) fun c => ?_⟩
        · have c : ((xs2.length : Nat) : Int) ≤ 90 := by simpa using c
          refine ⟨_, rfl, t'.put q' (splT u sz), v2, rfl, hv9.le (Same.tle s10), by omega, fun H11 s11 => ?_⟩
          have s611 := s610.trans s11
          refine ⟨_, _, rfl, rfl, _, rfl, ite2 (fun c2 => ?_) fun c2 => ?_⟩
          · have c2 : (((t'.put q' (splT u sz)).lev : Nat) : Int) < 16 := by simpa using c2
            refine ⟨_, rfl, by omega, k26.trans (Same.keptB s611), hB6.same s611, _, v2, _, _, _, _, _, rfl, hv9.le (Same.tle (s10.trans s11)), fun n => (how n).trans (fown n), by omega, by omega, ?_⟩
            rw [Nat.pow_succ, ← Nat.mul_assoc]
            exact Nat.le_trans fms (Nat.mul_le_mul hms2 hsz2)
          · refine ⟨by omega, k26.trans (Same.keptB s611), hB6.same s611, t', v', _, _, _, _, _, rfl, hv6.le (Same.tle s611), how, hcnt2, hlev2, ?_⟩
            rw [Nat.pow_succ, ← Nat.mul_assoc]; omega
        · refine ⟨by omega, k26.trans (Same.keptB s610), hB6.same s610, t', v', _, _, _, _, _, rfl, hv6.le (Same.tle s610), how, hcnt2, hlev2, ?_⟩
          rw [Nat.pow_succ, ← Nat.mul_assoc]; omega
    · rintro σ H2 ⟨_, k2, hB2, t', v', z3, z4, z5, z6, z7, rfl, hv2, how, hcnt2, hlev2, hms2⟩
      refine ⟨_, rfl, k v' t' H2 k2 hB2 hv2 how hcnt2 hlev2 (Nat.le_trans hms2 (Nat.mul_le_mul_left _ ?_))⟩
      have : m = 0 ∨ m = 1 ∨ m = 2 := by omega
      rcases this with rfl | rfl | rfl <;> decide
end
end Td
end

section
set_option maxHeartbeats 1000000
/-! TdLw9: comprehensions that draw; the law's names, owners. -/
namespace Td
open PySem PySem.Spec PyProof.Rows L2
theorem BagAt.updD {K : PySem.W.Frag} {ns : List Int} {B S D : Addr} {H1 H4 : Hp} {o : HO} (b1 : BagAt K ns B S H1) (hD : H1 D = none) (k : KeptB B H1 H4) (b : BagAt K ns B S H4) : BagAt K ns B S (L2.upd H4 D o) := by
  obtain ⟨i, big, seed, e, h1, h2⟩ := b.ex
  refine ⟨⟨i, big, seed, by rw [upd_ne (Ne.symm (b1.bne hD))]; exact e, h1, h2⟩, ?_, b.ne⟩
  rcases b1.sq with (q | ⟨u, q⟩) | q
  · exact .inl (.inl (by rw [upd_ne (fun z => by rw [z, hD] at q; cases q)]; exact k _ _ (Ne.symm b.ne) q))
  · exact .inl (.inr ⟨u, by rw [upd_ne (fun z => by rw [z, hD] at q; cases q)]; exact k _ _ (Ne.symm b.ne) q⟩)
  · exact .inr q
theorem keptB_updD {B D : Addr} {H1 H4 : Hp} {o : HO} (hD : H1 D = none) (k : KeptB B H1 H4) : KeptB B H1 (upd H4 D o) := fun b u n e => by
  rw [upd_ne (ne_of_none e hD)]; exact k b u n e
/-- a comprehension whose items draw from the bag -/
theorem lc_bag {K : PySem.W.Frag} {ns : List Int} {B S : Addr} {J : It} {n : Nat} {G : Hp → Prop} {Y : Nat → Hp → V → Hp → Prop} (w : Walk J n G Y) {g : TG} {te : TE} {vs : List Nat} {σ : L2.St} {H1 : Hp} {D : Addr} {Qd : Hp → Prop} (hD : H1 D = none) (hB : BagAt K ns B S H1) (hn : n ≤ sizeLine)
    (hG : ∀ H, KeptB B H1 H → BagAt K ns B S H → G H) (hY : ∀ i H x H', Y i H x H' → H' = H) (R : V → Hp → Prop) (hR : ∀ v H H', TLe K H H' → R v H → R v H')
    (hs : ∀ i x H (k : V → Hp → Prop), i < n → KeptB B H1 H → BagAt K ns B S H → Y i H x H → (∀ y H'', KeptB B H H'' → BagAt K ns B S H'' → R y H'' → k y H'') → g x (wipe σ vs) H fun σ2 H2 => wipe σ2 vs = wipe σ vs ∧ te σ2 H2 k)
    (hd : ∀ ys H, KeptB B H1 H → BagAt K ns B S H → H D = some (.lst ys) → ys.length = n → (∀ y ∈ ys, R y H) → Qd H) :
    ∃ W : Nat → Nat → Hp → Prop, (∃ m, W 0 m (upd H1 D (.lst []))) ∧ ∀ i m H, W i m H →
      (J.stop i H ∧ Qd H) ∨ (J.go i H ∧ ∃ Nx : Hp → Prop, (∀ H', Nx H' → ∃ m', m' < m ∧ W (i + 1) m' H') ∧ ∀ x H', J.yld i H x H' → g x (wipe σ vs) H' fun σ2 H2 => wipe σ2 vs = wipe σ vs ∧ tYes σ2 H2 fun b H3 =>
        if b = true then te σ2 H3 fun y H4 => ∃ acc, H4 D = some (.lst acc) ∧ acc.length < sizeLine ∧ Nx (upd H4 D (.lst (acc ++ [y]))) else Nx H3) := by
  have hDB : D ≠ B := hB.bne hD
  refine lc_it w (fun i H => KeptB B H1 H ∧ BagAt K ns B S H ∧ ∃ acc, H D = some (.lst acc) ∧ acc.length = i ∧ ∀ y ∈ acc, R y H) ⟨keptB_updD hD (.refl _ _), BagAt.updD hB hD (.refl _ _) hB, [], upd_same, rfl, fun y e => by cases e⟩ (fun i H _ p => hG H p.1 p.2.1) (fun i x H H' hi p hy => ?_) fun H ⟨s, b, acc, h1, h2, h3⟩ => hd acc H s b h1 h2 h3
  obtain rfl := hY i H x H' hy
  obtain ⟨s, b, acc, h1, h2, h3⟩ := p
  have key := hs i x H' (fun y H4 => ∃ acc, H4 D = some (.lst acc) ∧ acc.length < sizeLine ∧ (fun H => KeptB B H1 H ∧ BagAt K ns B S H ∧ ∃ acc, H D = some (.lst acc) ∧ acc.length = i + 1 ∧ ∀ y ∈ acc, R y H) (upd H4 D (.lst (acc ++ [y])))) hi s b hy fun y H'' s2 b2 r => by
    have hD2 : H'' D = some (.lst acc) := s2 _ _ hDB h1
    have s3 := s.trans s2
    refine ⟨acc, hD2, by omega, keptB_updD hD s3, BagAt.updD hB hD s3 b2, acc ++ [y], upd_same, by simp [h2], fun z hz => ?_⟩
    rcases List.mem_append.mp hz with hz | hz
    · exact hR _ _ _ (tle_lst hD2) (hR _ _ _ (s2.tle b) (h3 z hz))
    · rw [List.mem_singleton.mp hz]; exact hR _ _ _ (tle_lst hD2) r
  have ee : ∀ (σ2 : L2.St) (H2 : Hp) (A : Hp → Prop) (B : Hp → Prop), (tYes σ2 H2 fun b H3 => if b = true then A H3 else B H3) = A H2 := fun σ2 H2 A B => by
    show (if true = true then A H2 else B H2) = A H2
    rw [if_pos rfl]
  simp only [ee]
  exact key
theorem strOk_iff {z : Str} : PyData.strOk z = true ↔ ∀ c ∈ z.cps.toList, c < 0x110000 := by
  unfold PyData.strOk
  rw [Array.all_eq_true]
  constructor
  · intro h c hc
    obtain ⟨i, hi, rfl⟩ := List.mem_iff_getElem.mp hc
    have := h i (by simpa using hi)
    simpa using this
  · intro h i hi
    have := h z.cps[i] (List.mem_iff_getElem.mpr ⟨i, by simpa using hi, by simp⟩)
    simpa using this
theorem strOk_app {x y : Str} (hx : PyData.strOk x = true) (hy : PyData.strOk y = true) : PyData.strOk (x ++ y) = true := by
  rw [strOk_iff] at *
  intro c hc
  have : (x ++ y).cps.toList = x.cps.toList ++ y.cps.toList := by
    show (PySem.Str.append x y).cps.toList = _
    simp [PySem.Str.append]
  rw [this] at hc
  rcases List.mem_append.mp hc with h | h
  · exact hx c h
  · exact hy c h
theorem strOk_cut {z : Str} {lo hi : Option Int} (h : PyData.strOk z = true) : PyData.strOk (cutS z lo hi) = true := by
  rw [strOk_iff] at *
  intro c hc
  unfold cutS at hc
  exact h c (List.mem_of_mem_drop (List.mem_of_mem_take (by simpa using hc)))
theorem len_app (x y : Str) : (x ++ y).length = x.length + y.length := by
  show (PySem.Str.append x y).length = _
  simp [PySem.Str.append, PySem.Str.length]
theorem len_cut (z : Str) (lo hi : Option Int) : (cutS z lo hi).length ≤ z.length := by
  have : z.length = z.cps.toList.length := by simp [PySem.Str.length]
  rw [this]
  unfold cutS
  simp only [PySem.Str.length, List.size_toArray, List.length_take, List.length_drop]
  omega
section
variable {P : Program} {w : World} {K : PySem.W.Frag} {mg : Str → Option Value} {base : Heap}
theorem sc_law_names : FnScope ["_law_bag_here", "_law_size", "_law_letters", "_law_base", "_law_k", "_law_spot", "_law_first", "_law_step"] ["_law_bag_here", "_law_size"] (defScope (topS 46)) := ⟨rfl, rfl, rfl, by decide +kernel, rfl, by decide +kernel, by decide +kernel⟩
/-- a list of texts -/
def TxtsAt (H : Hp) (p : Addr) (n : Nat) : Prop := ∃ xs, H p = some (.lst xs) ∧ xs.length = n ∧ ∀ x ∈ xs, ∃ z : Str, x = .str z ∧ PyData.strOk z = true
def spNames (K : PySem.W.Frag) (ns : List Int) (B S : Addr) : Sp := fun vs H Q _ => ∃ (n : Nat), vs = [.ref B, .int (n : Nat)] ∧ n ≤ 100 ∧ BagAt K ns B S H ∧
  ∀ (p : Addr) H', KeptB B H H' → BagAt K ns B S H' → p ≠ B → TxtsAt H' p n → Q (.ref p) H'
theorem ok_names (T : Top K mg) {ns : List Int} {B S : Addr} : C8.Cal P w K mg base 3 "_law_names" (spNames K ns B S) [] := by
  have c_law_of : C8.Cal P w K mg base 2 "_law_of" (spOf K ns B S) [] := ok_of T
  have c_law_ofS : C8.Cal P w K mg base 2 "_law_of" (spOfS K ns B S) [] := ok_ofS T
  have c_law_pull : C8.Cal P w K mg base 1 "_law_pull" (spPull K ns B S) [] := ok_pull T
  refine cal_of T.d_law_names sc_law_names (fun _ _ _ _ _ _ us hl => match us, hl with | [_, _], _ => rfl) (fun vs H Q E h => ?_) fun f cdv A outer sh H vs Q E hr h => ?_
  · obtain ⟨n, rfl, _⟩ := h; rfl
  · obtain ⟨n, rfl, hn, hB, k⟩ := h
    refine ⟨_, (pss_cons (ps_asg (pe_tup (pa_cons pe_str (pa_cons pe_str pa_nil))) (pg_tup (by rfl) (pgs_cons (pg_name (i := 2) sc_law_names.nd rfl (by first | exact Or.inl rfl | exact Or.inr rfl)) (pgs_cons (pg_name (i := 3) sc_law_names.nd rfl (by first | exact Or.inl rfl | exact Or.inr rfl)) pgs_nil))))
      (pss_cons (ps_for PassesOwn.never rfl (pi_range1 (by rfl) T.n_range (pa_cons (C8.pe_c c_law_pull hr (by omega) rfl (pa_cons (pv 0) (pa_cons pe_int pa_nil))) pa_nil)) (pg_name (i := 4) sc_law_names.nd rfl (by first | exact Or.inl rfl | exact Or.inr rfl)) (pss_one (ps_set (i := 3) sc_law_names.nd rfl (by first | exact Or.inl rfl | exact Or.inr rfl) (pe_op op_add_str (pv 3) (C8.pe_c c_law_ofS hr (by omega) rfl (pa_cons (pv 0) (pa_cons (pv 2) pa_nil)))))))
      (pss_cons (ps_asg (pe_tup (pa_cons (C8.pe_c c_law_pull hr (by omega) rfl (pa_cons (pv 0) (pa_cons (pe_op op_add (pe_callB call_len_str (by rfl) T.n_len (by decide +kernel) (pa_cons (pv 3) pa_nil)) pe_int) pa_nil))) (pa_cons (C8.pe_c c_law_pull hr (by omega) rfl (pa_cons (pv 0) (pa_cons pe_int pa_nil))) (pa_cons (C8.pe_c c_law_of hr (by omega) rfl (pa_cons (pv 0) (pa_cons (pe_lst (pa_cons pe_int (pa_cons pe_int (pa_cons pe_int (pa_cons pe_int (pa_cons pe_int pa_nil)))))) pa_nil))) pa_nil)))) (pg_tup (by rfl) (pgs_cons (pg_name (i := 5) sc_law_names.nd rfl (by first | exact Or.inl rfl | exact Or.inr rfl)) (pgs_cons (pg_name (i := 6) sc_law_names.nd rfl (by first | exact Or.inl rfl | exact Or.inr rfl)) (pgs_cons (pg_name (i := 7) sc_law_names.nd rfl (by first | exact Or.inl rfl | exact Or.inr rfl)) pgs_nil)))))
      (pss_one (ps_ret (pe_lc (own := [("_law_k", 4)]) (by rfl) sc_law_names.nd (pi_range1 (by rfl) T.n_range (pa_cons (pv 1) pa_nil)) (blkOk_by (own := [("_law_k", 4)]) (N := ["_law_bag_here", "_law_size", "_law_letters", "_law_base", "_law_k", "_law_spot", "_law_first", "_law_step"]) (sc := defScope (topS 46)) (by decide +kernel)) (fun _ _ _ _ _ => (pg_name (i := 4) sc_law_names.nd rfl (by first | exact Or.inl rfl | exact Or.inr rfl))) (fun _ _ _ _ _ => pts_nil) (fun _ _ _ _ _ => (pe_op op_add_str (pe_op op_add_str (pe_slice sl_str (pv 3) po_none (po_some (pv 5))) (pe_ix ix_str (pv 2) (pe_op op_mod (pe_op op_add (pv 6) (pe_op op_mul (pv 7) (pv 4))) pe_int) (fun _ _ => rfl))) (pe_slice sl_str (pv 3) (po_some (pv 5)) po_none))))))))), ?_⟩
    have hz5 := size5
    have h26 : ("abcdefghijklmnopqrstuvwxyz" : Str).cps.toList.length = 26 := by decide +kernel
    have h26l : ("abcdefghijklmnopqrstuvwxyz" : Str).length = 26 := by decide +kernel
    have hne : ("abcdefghijklmnopqrstuvwxyz" : Str).cps.toList ≠ [] := by decide +kernel
    have hasc : ∀ c ∈ ("abcdefghijklmnopqrstuvwxyz" : Str).cps.toList, c < 0x110000 := by decide +kernel
    have hone : ∀ c ∈ ("abcdefghijklmnopqrstuvwxyz" : Str).cps.toList, PyData.strOk ⟨#[c]⟩ = true := fun c hc => strOk_iff.mpr fun d hd => by
      have : d = c := by simpa using hd
      rw [this]; exact hasc c hc
    generalize ("abcdefghijklmnopqrstuvwxyz" : Str) = ltr at h26 h26l hne hasc hone ⊢
    refine ⟨by show 2 ≤ sizeLine; rw [sizeLine_eq]; decide, fun l hl => ?_⟩
    have s1 := Same.upd (o := .tup [.str ltr, .str ""]) hl
    refine ⟨l, _, rfl, SqT.of upd_same, rfl, _, _, rfl, _, _, rfl, rfl, ?_⟩
    refine ⟨_, rfl, 6, rfl, by omega, by omega, hB.same s1, fun m H2 hm k2 hB2 => ?_⟩
    refine ⟨_, rfl, by omega, by omega, ?_⟩
    rw [Int.toNat_natCast]
    refine for_range (lo := 0) (fun i σ H' => i ≤ m ∧ KeptB B H H' ∧ BagAt K ns B S H' ∧ ∃ (z : Str) (z4 : Option V), σ = [some (.ref B), some (.int (n : Nat)), some (.str ltr), some (.str z), z4, none, none, none] ∧ PyData.strOk z = true ∧ z.length ≤ i) ⟨Nat.zero_le _, (Same.keptB s1).trans k2, hB2, "", none, rfl, by decide +kernel, by decide +kernel⟩ ?_ ?_
    · rintro i σ H3 hi ⟨_, k3, hB3, z, z4, rfl, hz, hzl⟩
      refine ⟨_, rfl, _, rfl, _, rfl, ltr, rfl, hne, by omega, hB3, fun c H4 hc k4 hB4 => ?_⟩
      have hl1 : (⟨#[c]⟩ : Str).length = 1 := rfl
      refine ⟨z, _, rfl, rfl, by omega, by omega, k3.trans k4, hB4, _, _, rfl, strOk_app hz (hone c hc), by rw [len_app]; omega⟩
    · rintro σ H3 ⟨_, k3, hB3, z, z4, rfl, hz, hzl⟩
      refine ⟨_, rfl, _, rfl, z, rfl, by omega, _, _, rfl, rfl, ?_⟩
      refine ⟨z.length + 1, rfl, by omega, by omega, hB3, fun sp H4 hsp k4 hB4 => ?_⟩
      refine ⟨_, rfl, 26, rfl, by omega, by omega, hB4, fun fi H5 hfi k5 hB5 => ?_⟩
      refine ⟨_, rfl, by show 5 ≤ sizeLine; rw [sizeLine_eq]; decide, fun l5 hl5 => ?_⟩
      have s6 := Same.upd (o := .lst [.int 1, .int 3, .int 5, .int 7, .int 9]) hl5
      have hB6 := hB5.same s6
      refine ⟨l5, _, rfl, hB5.bne hl5, .inl (SqL.of upd_same), by simp, by simp, hB6, fun x H7 hx k7 hB7 => ?_⟩
      obtain ⟨st, rfl⟩ : ∃ q : Nat, x = .int (q : Nat) := by
        simp only [List.mem_cons, List.not_mem_nil, or_false] at hx
        rcases hx with rfl | rfl | rfl | rfl | rfl
        · exact ⟨1, rfl⟩
        · exact ⟨3, rfl⟩
        · exact ⟨5, rfl⟩
        · exact ⟨7, rfl⟩
        · exact ⟨9, rfl⟩
      refine ⟨by show 3 ≤ sizeLine; rw [sizeLine_eq]; decide, fun l8 hl8 => ?_⟩
      have s8 := Same.upd (o := .tup [.int (sp : Nat), .int (fi : Nat), .int (st : Nat)]) hl8
      refine ⟨l8, _, rfl, SqT.of upd_same, rfl, _, _, rfl, _, _, rfl, _, _, rfl, rfl, ?_⟩
      have k8 := (((k3.trans k4).trans k5).trans (Same.keptB s6)).trans (k7.trans (Same.keptB s8))
      have hB8 := hB7.same s8
      refine ⟨_, rfl, _, rfl, by omega, by omega, fun D hD => ?_⟩
      rw [Int.toNat_natCast]
      refine lc_pure (K := K) (walk_range (lo := 0)) hD (Nat.le_trans (by omega) size5) (fun _ _ => trivial) (fun i H x H' e => e.1 ▸ .refl _)
        (fun r v H => ∃ z : Str, v = .str z ∧ PyData.strOk z = true) (fun r v H H' l h => h) (fun j x H9 H' k' hj s9 ⟨e, ex⟩ hk => ?_) fun ys H9 s9 hl9 hyl hR9 => ?_
      · subst e ex
        dsimp only
        rw [Int.zero_add]
        refine ⟨rfl, _, rfl, ?_⟩
        dsimp only [tNoPart]
        refine ⟨_, rfl, _, rfl, z, rfl, by omega, ?_⟩
        refine ⟨_, rfl, _, rfl, _, rfl, _, rfl, _, _, rfl, rfl, .inr ⟨(by show (-(2 ^ 64) : Int) < (j : Nat); omega), (by show ((j : Nat) : Int) < 2 ^ 64; omega)⟩, _, _, rfl, rfl, _, _, rfl, rfl, (by show (0 : Int) < 26; decide), ?_⟩
        have hmod : ∃ q : Nat, (((fi : Nat) : Int) + (st : Nat) * (j : Nat)) % 26 = (q : Nat) ∧ q < 26 := mod_nat (n := 26) _ (by omega)
        obtain ⟨q, eq, hq⟩ := hmod
        dsimp only
        rw [eq]
        have hg : ltr.cps.toList[q]? = some ltr.cps.toList[q] := List.getElem?_eq_getElem (by omega)
        refine ⟨ltr, _, _, rfl, rfl, by omega, atI_nat hg, ?_⟩
        have hl1 : ∀ c : Nat, (⟨#[c]⟩ : Str).length = 1 := fun _ => rfl
        have hc1 := len_cut z none (some (sp : Nat))
        have hc2 := len_cut z (some (sp : Nat)) none
        refine ⟨_, _, rfl, rfl, by rw [hl1]; omega, ?_⟩
        refine ⟨_, rfl, _, rfl, _, rfl, z, rfl, by omega, _, _, rfl, rfl, by rw [len_app, hl1]; omega, ?_⟩
        exact hk _ _ (.refl _) ⟨_, rfl, strOk_app (strOk_app (strOk_cut hz) (hone _ (List.getElem_mem _))) (strOk_cut hz)⟩
      · exact k D H9 (k8.trans (Same.keptB s9)) (hB8.same s9) (hB8.bne hD) ⟨ys, hl9, hyl, fun x hx => by
          obtain ⟨i, hi, e⟩ := List.mem_iff_getElem.mp hx
          exact hR9 i x (by rw [← e]; exact List.getElem?_eq_getElem hi)⟩
end
end Td
end

section
set_option maxHeartbeats 1000000
/-! TdLw10: the law's owners, tree. -/
namespace Td
open PySem PySem.Spec PyProof.Rows L2
theorem cnt_le_ms (t : T) : t.ok → t.cnt ≤ t.ms := by
  induction t using T.ind with
  | h1 o => intro _; rw [T.cnt, ms_leaf]; exact Nat.le_refl _
  | h2 ts ih =>
    intro h
    obtain ⟨h2, ho⟩ := ok_node.mp h
    rw [cnt_node, ms_node, cnts_sum]
    have key : ∀ us : List T, (∀ u ∈ us, u ∈ ts) → (us.map T.cnt).sum ≤ us.length * mss ts := by
      intro us
      induction us with
      | nil => intro _; simp
      | cons u us ih2 =>
        intro hu
        have h1 := Nat.le_trans (ih u (hu u List.mem_cons_self) (oks_mem ho (hu u List.mem_cons_self))) (mss_mem (hu u List.mem_cons_self))
        have h3 := ih2 fun v hv => hu v (List.mem_cons_of_mem _ hv)
        rw [List.map_cons, List.sum_cons, List.length_cons, Nat.add_mul, Nat.one_mul]
        omega
    exact key ts fun _ h => h
theorem TxtsAt.kept {B : Addr} {H H' : Hp} {p : Addr} {n : Nat} (h : TxtsAt H p n) (k : KeptB B H H') (ne : p ≠ B) : TxtsAt H' p n := by
  obtain ⟨xs, e, h⟩ := h
  exact ⟨xs, k _ _ ne e, h⟩
theorem trees_ex {K : PySem.W.Frag} {H : Hp} {p : T → Prop} : ∀ ys : List V, (∀ y ∈ ys, ∃ t : T, TVn K H t y ∧ p t) → ∃ ts : List T, (∀ t ∈ ts, t.ok ∧ p t) ∧ TVs K H ts ys
  | [], _ => ⟨[], (fun t h => by cases h), TVs.of_get rfl fun i t x e => by simp at e⟩
  | y :: ys, h => by
    obtain ⟨t, hv, hp⟩ := h y List.mem_cons_self
    obtain ⟨ts, h1, h2⟩ := trees_ex ys fun z hz => h z (List.mem_cons_of_mem _ hz)
    refine ⟨t :: ts, fun u hu => ?_, TVs.of_get (by rw [List.length_cons, List.length_cons, h2.length]) fun i u x e1 e2 => ?_⟩
    · rcases List.mem_cons.mp hu with rfl | hu
      · exact ⟨hv.ok, hp⟩
      · exact h1 u hu
    · cases i with
      | zero => simp at e1 e2; subst e1; subst e2; exact hv.tv
      | succ i =>
        simp at e1 e2
        obtain ⟨t', e3, hv'⟩ := h2.get e2
        rw [e1] at e3; cases e3
        exact hv'
section
variable {P : Program} {w : World} {K : PySem.W.Frag} {mg : Str → Option Value} {base : Heap}
theorem sc_law_owners : FnScope ["_law_bag_here"] ["_law_bag_here"] (defScope (topS 47)) := ⟨rfl, rfl, rfl, by decide +kernel, rfl, by decide +kernel, by decide +kernel⟩
def spOwners (K : PySem.W.Frag) (ns : List Int) (B S : Addr) : Sp := fun vs H Q _ => vs = [.ref B] ∧ BagAt K ns B S H ∧
  ∀ (p : Addr) (n : Nat) H', KeptB B H H' → BagAt K ns B S H' → p ≠ B → TxtsAt H' p n → 1 ≤ n → n ≤ 10 → Q (.ref p) H'
theorem ok_owners (T : Top K mg) {ns : List Int} {B S : Addr} : C8.Cal P w K mg base 4 "_law_owners" (spOwners K ns B S) [] := by
  have c_law_of : C8.Cal P w K mg base 2 "_law_of" (spOf K ns B S) [] := ok_of T
  have c_law_names : C8.Cal P w K mg base 3 "_law_names" (spNames K ns B S) [] := ok_names T
  have c_law_pull : C8.Cal P w K mg base 1 "_law_pull" (spPull K ns B S) [] := ok_pull T
  refine cal_of T.d_law_owners sc_law_owners (fun _ _ _ _ _ _ us hl => match us, hl with | [_], _ => rfl) (fun vs H Q E h => ?_) fun f cdv A outer sh H vs Q E hr h => ?_
  · obtain ⟨rfl, _⟩ := h; rfl
  · obtain ⟨rfl, hB, k⟩ := h
    refine ⟨_, (pss_one (ps_ret (pe_op op_cat (C8.pe_c c_law_of hr (by omega) rfl (pa_cons (pv 0) (pa_cons (pe_lst (pa_cons (pe_lst (pa_cons pe_str pa_nil)) (pa_cons (pe_lst pa_nil) pa_nil))) pa_nil))) (C8.pe_c c_law_names hr (by omega) rfl (pa_cons (pv 0) (pa_cons (pe_op op_add pe_int (C8.pe_c c_law_pull hr (by omega) rfl (pa_cons (pv 0) (pa_cons pe_int pa_nil)))) pa_nil)))))), ?_⟩
    have hz5 := size5
    refine ⟨_, rfl, by show 1 ≤ sizeLine; rw [sizeLine_eq]; decide, fun l1 hl1 => ?_⟩
    have s1 := Same.upd (o := .lst [.str "-"]) hl1
    refine ⟨Nat.zero_le _, fun l2 hl2 => ?_⟩
    have s2 := Same.upd (o := .lst []) hl2
    refine ⟨by show 2 ≤ sizeLine; rw [sizeLine_eq]; decide, fun l3 hl3 => ?_⟩
    have s3 := Same.upd (o := .lst [.ref l1, .ref l2]) hl3
    have s13 := (s1.trans s2).trans s3
    have hB3 := hB.same s13
    have e1 : upd (upd (upd H l1 (.lst [.str "-"])) l2 (.lst [])) l3 (.lst [.ref l1, .ref l2]) l1 = some (.lst [.str "-"]) := s3 _ _ (s2 _ _ upd_same)
    have e2 : upd (upd (upd H l1 (.lst [.str "-"])) l2 (.lst [])) l3 (.lst [.ref l1, .ref l2]) l2 = some (.lst []) := s3 _ _ upd_same
    refine ⟨l3, _, rfl, (hB.same (s1.trans s2)).bne hl3, .inl (SqL.of upd_same), by simp, by simp, hB3, fun x H4 hx k4 hB4 => ?_⟩
    have hx' : ∃ (q : Addr) (n : Nat), x = .ref q ∧ q ≠ B ∧ n ≤ 1 ∧ TxtsAt H4 q n := by
      simp only [List.mem_cons, List.not_mem_nil, or_false] at hx
      rcases hx with rfl | rfl
      · exact ⟨l1, 1, rfl, hB.bne hl1, by omega, [.str "-"], k4 _ _ (hB.bne hl1) e1, rfl, fun x hx => by
          rw [List.mem_singleton.mp hx]; exact ⟨"-", rfl, by decide +kernel⟩⟩
      · exact ⟨l2, 0, rfl, (hB.same s1).bne hl2, by omega, [], k4 _ _ ((hB.same s1).bne hl2) e2, rfl, fun x hx => by cases hx⟩
    obtain ⟨q, n, rfl, hqB, hn, hq⟩ := hx'
    have k04 := (Same.keptB s13).trans k4
    refine ⟨_, rfl, _, rfl, 2, rfl, by omega, by omega, hB4, fun m H5 hm k5 hB5 => ?_⟩
    refine ⟨_, _, rfl, rfl, 2 + m, rfl, by omega, hB5, fun p H6 k6 hB6 hpB hp => ?_⟩
    obtain ⟨xs, ex, hxl, hxs⟩ := hq.kept (k5.trans k6) hqB
    obtain ⟨ys, ey, hyl, hys⟩ := hp
    refine ⟨q, p, xs, ys, rfl, rfl, ex, ey, by omega, fun c hc => ?_⟩
    have s7 := Same.upd (o := .lst (xs ++ ys)) hc
    refine k c (n + (2 + m)) _ ((k04.trans (k5.trans k6)).trans (Same.keptB s7)) (hB6.same s7) (hB6.bne hc) ⟨_, upd_same, by rw [List.length_append, hxl, hyl], fun x hx => ?_⟩ (by omega) (by omega)
    rcases List.mem_append.mp hx with h | h
    · exact hxs x h
    · exact hys x h
theorem sc_law_tree : FnScope ["_law_bag_here", "_law_pool", "_law_deep", "_law_widest", "_law_k"] ["_law_bag_here", "_law_pool", "_law_deep", "_law_widest"] (defScope (topS 48)) := ⟨rfl, rfl, rfl, by decide +kernel, rfl, by decide +kernel, by decide +kernel⟩
def spTree (K : PySem.W.Frag) (ns : List Int) (B S : Addr) (N : Nat) : Sp := fun vs H Q _ => ∃ (pl : Addr) (m d wd : Nat), vs = [.ref B, .ref pl, .int (d : Nat), .int (wd : Nat)] ∧ TxtsAt H pl m ∧ 1 ≤ m ∧ m ≤ 1000 ∧ pl ≠ B ∧ d < N ∧ d ≤ 3 ∧ 2 ≤ wd ∧ wd ≤ 6 ∧ BagAt K ns B S H ∧
  ∀ (v : V) (t : T) H', KeptB B H H' → BagAt K ns B S H' → TVn K H' t v → t.sok → t.lev ≤ d → t.ms ≤ wd ^ d → Q v H'
theorem ok_ltree (T : Top K mg) {ns : List Int} {B S : Addr} : ∀ N, C8.Cal P w K mg base (N + 2) "_law_tree" (spTree K ns B S N) []
  | 0 => by
    refine cal_of T.d_law_tree sc_law_tree (fun _ _ _ _ _ _ us hl => match us, hl with | [_, _, _, _], _ => rfl) (fun vs H Q E h => ?_) fun f cdv A outer s H vs Q E hr h => ?_
    · obtain ⟨pl, m, d, wd, rfl, _⟩ := h; rfl
    · obtain ⟨pl, m, d, wd, rfl, _, _, _, _, hl, _⟩ := h; omega
  | N + 1 => by
    have c_law_tree : C8.Cal P w K mg base (N + 2) "_law_tree" (spTree K ns B S N) [] := ok_ltree T N
    have c_law_of : C8.Cal P w K mg base 2 "_law_of" (spOf K ns B S) [] := ok_of T
    have c_law_pull : C8.Cal P w K mg base 1 "_law_pull" (spPull K ns B S) [] := ok_pull T
    refine cal_of T.d_law_tree sc_law_tree (fun _ _ _ _ _ _ us hl => match us, hl with | [_, _, _, _], _ => rfl) (fun vs H Q E h => ?_) fun fa cdv A outer sh H vs Q E hr h => ?_
    · obtain ⟨pl, m, d, wd, rfl, _⟩ := h; rfl
    · obtain ⟨pl, m, d, wd, rfl, hpl, hm, hm2, hne, hd, hd3, hw, hw2, hB, k⟩ := h
      refine ⟨_, (pss_cons (ps_if (PW.pt (pw_or (pt_cmpR op_eq (pv 2) pe_int (nomark _)) (pw_or1 (pt_cmpR op_eq (C8.pe_c c_law_pull hr (by omega) rfl (pa_cons (pv 0) (pa_cons pe_int pa_nil))) pe_int (nomark _))))) (pss_one (ps_ret (C8.pe_c c_law_of hr (by omega) rfl (pa_cons (pv 0) (pa_cons (pv 1) pa_nil))))) pss_nil)
      (pss_one (ps_ret (pe_callTy call_tuple_of (by rfl) T.n_tuple (by decide +kernel) (pa_cons (pe_lc (own := [("_law_k", 4)]) (te := (tCall (spTree K ns B S N) [] C8.E0 (tCons (tVar 0) (tCons (tVar 1) (tCons (tOp (rI0 fun i j => .int (i - j)) (tVar 2) (tC (.int 1))) (tCons (tVar 3) tNil)))))) (by rfl) sc_law_tree.nd (pi_range1 (by rfl) T.n_range (pa_cons (pe_op op_add pe_int (C8.pe_c c_law_pull hr (by omega) rfl (pa_cons (pv 0) (pa_cons (pe_op op_sub (pv 3) pe_int) pa_nil)))) pa_nil)) (blkOk_by (own := [("_law_k", 4)]) (N := ["_law_bag_here", "_law_pool", "_law_deep", "_law_widest", "_law_k"]) (sc := defScope (topS 48)) (by decide +kernel)) (fun _ _ _ _ _ => (pg_name (i := 4) sc_law_tree.nd rfl (by first | exact Or.inl rfl | exact Or.inr rfl))) (fun _ _ _ _ _ => pts_nil) (fun _ _ _ _ _ => (C8.pe_c c_law_tree hr (by omega) rfl (pa_cons (pv 0) (pa_cons (pv 1) (pa_cons (pe_op op_sub (pv 2) pe_int) (pa_cons (pv 3) pa_nil))))))) pa_nil))))), ?_⟩
      have hz5 := size5
      have leaf : ∀ H1, KeptB B H H1 → BagAt K ns B S H1 → (spOf K ns B S) [.ref B, .ref pl] H1 Q C8.E0 := fun H1 k1 b1 => by
        obtain ⟨xs, ex, hxl, hxs⟩ := hpl.kept k1 hne
        refine ⟨pl, xs, rfl, hne, .inl (SqL.of ex), fun z => by rw [z] at hxl; simp at hxl; omega, by omega, b1, fun x H2 hx k2 b2 => ?_⟩
        obtain ⟨z, rfl, hz⟩ := hxs x hx
        exact k (.str z) (.leaf z) H2 (k1.trans k2) b2 ⟨tv_leaf.mpr rfl, by rw [T.ok]; trivial, by rw [T.cnt]; omega⟩ (by rw [T.sok]; exact hz) (by rw [T.lev]; omega) (by rw [ms_leaf]; exact Nat.pow_pos (by omega))
      refine ⟨_, rfl, rfl, _, rfl, ite2 (fun c => iteT ⟨_, rfl, _, rfl, leaf H (.refl _ _) hB⟩) fun c => ?_⟩
      have hd0 : d ≠ 0 := fun z => c (by rw [z]; decide)
      refine ⟨_, rfl, 4, rfl, by omega, by omega, hB, fun m1 H1 hm1 k1 hB1 => ?_⟩
      refine ⟨rfl, _, rfl, ite2 (fun _ => ⟨_, rfl, _, rfl, leaf H1 k1 hB1⟩) fun _ => ?_⟩
      have ew : ((wd : Nat) : Int) - 1 = ((wd - 1 : Nat) : Int) := by omega
      have ed : ((d : Nat) : Int) - 1 = ((d - 1 : Nat) : Int) := by omega
      refine ⟨_, rfl, _, rfl, _, _, rfl, rfl, wd - 1, by rw [← ew]; rfl, by omega, by omega, hB1, fun m2 H2 hm2' k2 hB2 => ?_⟩
      refine ⟨_, _, rfl, rfl, _, rfl, by omega, by omega, fun D hD => ?_⟩
      have e3 : (2 + ((m2 : Nat) : Int)).toNat = 2 + m2 := by omega
      rw [e3]
      have k12 := k1.trans k2
      have hpl2 := hpl.kept k12 hne
      refine lc_bag (K := K) (B := B) (S := S) (ns := ns) (walk_range (lo := 0)) hD hB2 (Nat.le_trans (by omega) size5) (fun _ _ _ => trivial) (fun i H x H' e => e.1)
        (fun v H => ∃ t : Td.T, TVn K H t v ∧ t.sok ∧ t.lev ≤ d - 1 ∧ t.ms ≤ wd ^ (d - 1)) (fun v H H' l ⟨t, h1, h2⟩ => ⟨t, h1.le l, h2⟩) (fun j x H3 k' hj k3 b3 ⟨_, ex⟩ hk => ?_) fun ys H3 k3 hB3 hl3 hyl hR3 => ?_
      · subst ex
        refine ⟨rfl, _, rfl, _, rfl, _, rfl, _, _, rfl, rfl, _, rfl, pl, m, d - 1, wd, by rw [← ed]; rfl, hpl2.kept k3 hne, hm, hm2, hne, by omega, by omega, hw, hw2, b3, fun v t H4 k4 b4 hv h1 h2 h3 => hk _ _ k4 b4 ⟨t, hv, h1, h2, h3⟩⟩
      · refine ⟨D, ys, rfl, .inl ⟨SqL.of hl3, fun l2 hl2 => ?_⟩⟩
        have s4 := Same.upd (o := .tup ys) hl2
        obtain ⟨ts, hts, hvs⟩ := trees_ex ys hR3
        have hall : ∀ t ∈ ts, t.ok ∧ t.sok ∧ t.lev ≤ d - 1 ∧ t.ms ≤ wd ^ (d - 1) := hts
        have hlen : ts.length = 2 + m2 := by rw [← hyl, hvs.length]
        have hok : (Td.T.node ts).ok := ok_node.mpr ⟨by omega, oks_iff.mpr fun t h => (hall t h).1⟩
        have hms : (Td.T.node ts).ms ≤ wd ^ d := by
          rw [ms_node, hlen]
          have h1 := mss_le (ts := ts) (n := wd ^ (d - 1)) (Nat.pow_pos (by omega)) fun t h => (hall t h).2.2.2
          have h2 : wd ^ d = wd * wd ^ (d - 1) := by
            rw [show d = d - 1 + 1 by omega, Nat.pow_succ, Nat.mul_comm]; rfl
          rw [h2]
          exact Nat.mul_le_mul (by omega) h1
        have h216 : wd ^ d ≤ 6 ^ 3 := Nat.le_trans (Nat.pow_le_pow_left hw2 d) (Nat.pow_le_pow_right (by omega) hd3)
        have h216 : wd ^ d ≤ 216 := h216
        refine k (.ref l2) (.node ts) _ ((k12.trans k3).trans (Same.keptB s4)) (hB3.same s4) ⟨tv_node.mpr ⟨l2, ys, rfl, SqT.of upd_same, hvs.le (Same.tle s4)⟩, hok, ?_⟩ (sok_node.mpr fun t h => (hall t h).2.1) ?_ hms
        · have := cnt_le_ms _ hok
          omega
        · rw [lev_node]
          have := levs_le (ts := ts) (n := d - 1) fun t h => (hall t h).2.2.1
          omega
end
end Td
end

section
set_option maxHeartbeats 1000000
/-! TdLw11: the law's regular, bag. -/
namespace Td
open PySem PySem.Spec PyProof.Rows L2
theorem nats_ex {p : Nat → Prop} : ∀ ys : List V, (∀ y ∈ ys, ∃ n : Nat, y = .int (n : Nat) ∧ p n) → ∃ l : List Nat, ys = l.map (fun n => V.int (n : Nat)) ∧ ∀ n ∈ l, p n
  | [], _ => ⟨[], rfl, fun n h => by cases h⟩
  | y :: ys, h => by
    obtain ⟨n, rfl, hp⟩ := h y List.mem_cons_self
    obtain ⟨l, rfl, hl⟩ := nats_ex ys fun z hz => h z (List.mem_cons_of_mem _ hz)
    refine ⟨n :: l, rfl, fun m hm => ?_⟩
    rcases List.mem_cons.mp hm with rfl | hm
    · exact hp
    · exact hl m hm
def pr : List Nat → Nat
  | [] => 1
  | n :: l => n * pr l
theorem pr_pos : ∀ {l : List Nat}, (∀ n ∈ l, 2 ≤ n ∧ n ≤ 4) → 1 ≤ pr l
  | [], _ => Nat.le_refl _
  | n :: l, h => Nat.mul_pos (by have := (h n List.mem_cons_self).1; omega) (pr_pos fun m hm => h m (List.mem_cons_of_mem _ hm))
theorem pr_le : ∀ {l : List Nat}, (∀ n ∈ l, 2 ≤ n ∧ n ≤ 4) → pr l ≤ 4 ^ l.length
  | [], _ => Nat.le_refl _
  | n :: l, h => by
    rw [pr, List.length_cons, Nat.pow_succ, Nat.mul_comm]
    exact Nat.mul_le_mul (pr_le fun m hm => h m (List.mem_cons_of_mem _ hm)) (h n List.mem_cons_self).2
theorem cut_seg {xs : List V} {a s : Nat} (h : a + s ≤ xs.length) : cutV xs (some ((a : Nat) : Int)) (some ((a + s : Nat) : Int)) = (xs.drop a).take s := by
  unfold cutV
  rw [HT.sIx_nat, HT.sIx_nat, Nat.min_eq_left (show a ≤ xs.length by omega), Nat.min_eq_left h, Nat.add_sub_cancel_left]
abbrev rTupO (K : PySem.W.Frag) : List V → Hp → VK → Prop := fun xs H Q => ∃ p ys, xs = [.ref p] ∧ ((SqL K H p ys ∧ ∀ l, H l = none → Q (.ref l) (L2.upd H l (.tup ys))) ∨ (SqT K H p ys ∧ Q (.ref p) H))
section
variable {P : Program} {w : World} {K : PySem.W.Frag} {mg : Str → Option Value} {base : Heap}
theorem sc_law_regular : FnScope ["_law_bag_here", "_law_pool", "_law_sizes", "_law_tree_here", "_law_k", "_law_many", "_law_size", "_law_here"] ["_law_bag_here", "_law_pool"] (defScope (topS 60)) := ⟨rfl, rfl, rfl, by decide +kernel, rfl, by decide +kernel, by decide +kernel⟩
def spRegular (K : PySem.W.Frag) (ns : List Int) (B S : Addr) : Sp := fun vs H Q _ => ∃ (pl : Addr) (m : Nat), vs = [.ref B, .ref pl] ∧ TxtsAt H pl m ∧ 1 ≤ m ∧ m ≤ 1000 ∧ pl ≠ B ∧ BagAt K ns B S H ∧
  ∀ (v : V) (t : T) H', KeptB B H H' → BagAt K ns B S H' → TVn K H' t v → t.sok → t.lev ≤ 3 → t.ms ≤ 64 → Q v H'
theorem ok_regular (T : Top K mg) {ns : List Int} {B S : Addr} : C8.Cal P w K mg base 3 "_law_regular" (spRegular K ns B S) [] := by
  have c_law_of : C8.Cal P w K mg base 2 "_law_of" (spOf K ns B S) [] := ok_of T
  have c_law_pull : C8.Cal P w K mg base 1 "_law_pull" (spPull K ns B S) [] := ok_pull T
  refine cal_of T.d_law_regular sc_law_regular (fun _ _ _ _ _ _ us hl => match us, hl with | [_, _], _ => rfl) (fun vs H Q E h => ?_) fun fa cdv A outer sh H vs Q E hr h => ?_
  · obtain ⟨pl, m, rfl, _⟩ := h; rfl
  · obtain ⟨pl, m, rfl, hpl, hm, hm2, hne, hB, k⟩ := h
    refine ⟨_, (pss_cons (ps_par (i := 2) (j := 3) (by rfl) sc_law_regular.nd rfl rfl (by decide) rfl rfl (pa_cons (pe_lc (own := [("_law_k", 4)]) (te := (tCall (spOf K ns B S) [] C8.E0 (tCons (tVar 0) (tCons (tLst (tCons (tC (.int 2)) (tCons (tC (.int 3)) (tCons (tC (.int 2)) (tCons (tC (.int 4)) tNil))))) tNil)))) (by rfl) sc_law_regular.nd (pi_range1 (by rfl) T.n_range (pa_cons (pe_op op_add pe_int (C8.pe_c c_law_pull hr (by omega) rfl (pa_cons (pv 0) (pa_cons pe_int pa_nil)))) pa_nil)) (blkOk_by (own := [("_law_k", 4)]) (N := ["_law_bag_here", "_law_pool", "_law_sizes", "_law_tree_here", "_law_k", "_law_many", "_law_size", "_law_here"]) (sc := defScope (topS 60)) (by decide +kernel)) (fun _ _ _ _ _ => (pg_name (i := 4) sc_law_regular.nd rfl (by first | exact Or.inl rfl | exact Or.inr rfl))) (fun _ _ _ _ _ => pts_nil) (fun _ _ _ _ _ => (C8.pe_c c_law_of hr (by omega) rfl (pa_cons (pv 0) (pa_cons (pe_lst (pa_cons pe_int (pa_cons pe_int (pa_cons pe_int (pa_cons pe_int pa_nil))))) pa_nil))))) (pa_cons pe_non pa_nil)) (by rfl))
      (pss_cons (ps_set (i := 5) sc_law_regular.nd rfl (by first | exact Or.inl rfl | exact Or.inr rfl) pe_int)
      (pss_cons (ps_for PassesOwn.never rfl (pi_list (pv 2)) (pg_name (i := 6) sc_law_regular.nd rfl (by first | exact Or.inl rfl | exact Or.inr rfl)) (pss_one (ps_set (i := 5) sc_law_regular.nd rfl (by first | exact Or.inl rfl | exact Or.inr rfl) (pe_op op_mul (pv 5) (pv 6)))))
      (pss_cons (ps_set (i := 7) sc_law_regular.nd rfl (by first | exact Or.inl rfl | exact Or.inr rfl) (pe_lc (own := [("_law_k", 4)]) (te := (tCall (spOf K ns B S) [] C8.E0 (tCons (tVar 0) (tCons (tVar 1) tNil)))) (by rfl) sc_law_regular.nd (pi_range1 (by rfl) T.n_range (pa_cons (pv 5) pa_nil)) (blkOk_by (own := [("_law_k", 4)]) (N := ["_law_bag_here", "_law_pool", "_law_sizes", "_law_tree_here", "_law_k", "_law_many", "_law_size", "_law_here"]) (sc := defScope (topS 60)) (by decide +kernel)) (fun _ _ _ _ _ => (pg_name (i := 4) sc_law_regular.nd rfl (by first | exact Or.inl rfl | exact Or.inr rfl))) (fun _ _ _ _ _ => pts_nil) (fun _ _ _ _ _ => (C8.pe_c c_law_of hr (by omega) rfl (pa_cons (pv 0) (pa_cons (pv 1) pa_nil))))))
      (pss_cons (ps_for PassesOwn.never rfl (pi_list (pv 2)) (pg_name (i := 6) sc_law_regular.nd rfl (by first | exact Or.inl rfl | exact Or.inr rfl)) (pss_one (ps_set (i := 7) sc_law_regular.nd rfl (by first | exact Or.inl rfl | exact Or.inr rfl) (pe_lc (own := [("_law_k", 4)]) (te := (tCB (rTupO K) (tCons (tSl (rSlL K) (tVar 7) (tPart (tOp (rI CMul fun i j => .int (i * j)) (tVar 4) (tVar 6))) (tPart (tOp (rI0 fun i j => .int (i + j)) (tOp (rI CMul fun i j => .int (i * j)) (tVar 4) (tVar 6)) (tVar 6)))) tNil))) (by rfl) sc_law_regular.nd (pi_range1 (by rfl) T.n_range (pa_cons (pe_op op_fdiv (pe_callB call_len_seq (by rfl) T.n_len (by decide +kernel) (pa_cons (pv 7) pa_nil)) (pv 6)) pa_nil)) (blkOk_by (own := [("_law_k", 4)]) (N := ["_law_bag_here", "_law_pool", "_law_sizes", "_law_tree_here", "_law_k", "_law_many", "_law_size", "_law_here"]) (sc := defScope (topS 60)) (by decide +kernel)) (fun _ _ _ _ _ => (pg_name (i := 4) sc_law_regular.nd rfl (by first | exact Or.inl rfl | exact Or.inr rfl))) (fun _ _ _ _ _ => pts_nil) (fun _ _ _ _ _ => (pe_callTy call_tuple_of (by rfl) T.n_tuple (by decide +kernel) (pa_cons (pe_slice sl_list (pv 7) (po_some (pe_op op_mul (pv 4) (pv 6))) (po_some (pe_op op_add (pe_op op_mul (pv 4) (pv 6)) (pv 6)))) pa_nil)))))))
      (pss_one (ps_ret (pe_ix ix_list (pv 7) pe_int (fun _ _ => rfl))))))))), ?_⟩
    have hz5 := size5
    refine ⟨_, rfl, 3, rfl, by omega, by omega, hB, fun m1 H1 hm1 k1 hB1 => ?_⟩
    refine ⟨_, _, rfl, rfl, _, rfl, by omega, by omega, fun D hD => ?_⟩
    rw [show (1 + ((m1 : Nat) : Int)).toNat = 1 + m1 by omega]
    refine lc_bag (K := K) (B := B) (S := S) (ns := ns) (walk_range (lo := 0)) hD hB1 (Nat.le_trans (by omega) size5) (fun _ _ _ => trivial) (fun i H x H' e => e.1)
      (fun v H => ∃ n : Nat, v = .int (n : Nat) ∧ (2 ≤ n ∧ n ≤ 4)) (fun v H H' l h => h) (fun j x H3 k' hj k3 b3 ⟨_, ex⟩ hk => ?_) fun ys H3 k3 hB3 hl3 hyl hR3 => ?_
    · subst ex
      refine ⟨rfl, _, rfl, by show 4 ≤ sizeLine; rw [sizeLine_eq]; decide, fun l hl => ?_⟩
      have s4 := Same.upd (o := .lst [.int 2, .int 3, .int 2, .int 4]) hl
      refine ⟨l, _, rfl, b3.bne hl, .inl (SqL.of upd_same), by simp, by simp, b3.same s4, fun x H4 hx k4 b4 => hk _ _ ((Same.keptB s4).trans k4) b4 ?_⟩
      simp only [List.mem_cons, List.not_mem_nil, or_false] at hx
      rcases hx with rfl | rfl | rfl | rfl
      · exact ⟨2, rfl, by omega, by omega⟩
      · exact ⟨3, rfl, by omega, by omega⟩
      · exact ⟨2, rfl, by omega, by omega⟩
      · exact ⟨4, rfl, by omega, by omega⟩
    · obtain ⟨ss, rfl, hss⟩ := nats_ex ys hR3
      have hDB : D ≠ B := hB1.bne hD
      have hsl : ss.length = 1 + m1 := by rw [List.length_map] at hyl; exact hyl
      have hp64 : pr ss ≤ 64 := Nat.le_trans (pr_le hss) (by rw [hsl]; exact Nat.le_trans (Nat.pow_le_pow_right (by omega) (by omega : 1 + m1 ≤ 3)) (by decide))
      have k03 := k1.trans k3
      refine ⟨_, _, rfl, ?_⟩
      refine ⟨_, rfl, D, rfl, ⟨_, SqL.of hl3⟩, for_it (walk_list (xs := ss.map fun n => V.int (n : Nat))) (fun i σ H' => i ≤ ss.length ∧ H' = H3 ∧ ∃ (q : Nat) (z : Option V), σ = [some (.ref B), some (.ref pl), some (.ref D), some .non, none, some (.int (q : Nat)), z, none] ∧ q * pr (ss.drop i) = pr ss ∧ 1 ≤ q) ⟨Nat.zero_le _, rfl, 1, none, rfl, by rw [Nat.one_mul]; rfl, Nat.le_refl _⟩ (fun i σ H' _ p => p.2.1 ▸ SqL.of hl3) ?_ ?_⟩
      · rintro i x σ Ha Hb hi ⟨_, rfl, q, z, rfl, hq, hq1⟩ ⟨rfl, hx⟩
        rw [List.length_map] at hi
        rw [List.getElem?_map, List.getElem?_eq_getElem hi] at hx
        cases hx
        have hd : ss.drop i = ss[i] :: ss.drop (i + 1) := List.drop_eq_getElem_cons hi
        have hsi := hss _ (List.getElem_mem hi)
        rw [hd, pr] at hq
        refine ⟨_, rfl, _, rfl, _, _, rfl, rfl, .inr ⟨by omega, by omega⟩, by omega, rfl, q * ss[i], _, rfl, by rw [Nat.mul_assoc]; exact hq, Nat.mul_pos hq1 (by omega)⟩
      · rintro σ Ha ⟨_, rfl, q, z, rfl, hq, hq1⟩
        rw [List.length_map, List.drop_length, pr, Nat.mul_one] at hq
        subst hq
        refine ⟨_, rfl, _, rfl, by omega, by omega, fun D2 hD2 => ?_⟩
        rw [Int.toNat_natCast]
        refine lc_bag (K := K) (B := B) (S := S) (ns := ns) (walk_range (lo := 0)) hD2 hB3 (Nat.le_trans (by omega) size5) (fun _ _ _ => trivial) (fun i H x H' e => e.1)
          (fun v H => ∃ t : Td.T, TVn K H t v ∧ t.sok ∧ t.lev ≤ 0 ∧ t.ms ≤ 4 ^ 0) (fun v H H' l ⟨t, h1, h2⟩ => ⟨t, h1.le l, h2⟩) (fun j x H4 k' hj k4 b4 ⟨_, ex⟩ hk => ?_) fun zs H4 k4 hB4 hl4 hzl hR4 => ?_
        · subst ex
          obtain ⟨xs, ex, hxl, hxs⟩ := hpl.kept (k03.trans k4) hne
          refine ⟨rfl, _, rfl, _, rfl, pl, xs, rfl, hne, .inl (SqL.of ex), (fun z => by rw [z] at hxl; simp at hxl; omega), by omega, b4, fun x H5 hx k5 b5 => ?_⟩
          obtain ⟨z, rfl, hz⟩ := hxs x hx
          exact hk _ _ k5 b5 ⟨.leaf z, ⟨tv_leaf.mpr rfl, by rw [T.ok]; trivial, by rw [T.cnt]; omega⟩, by rw [T.sok]; exact hz, by rw [T.lev]; omega, by rw [ms_leaf]; decide⟩
        · have hD2B : D2 ≠ B := hB3.bne hD2
          refine ⟨_, rfl, D, rfl, ⟨_, SqL.of (k4 _ _ hDB hl3)⟩, for_it (walk_list (xs := ss.map fun n => V.int (n : Nat))) (fun i σ H' => i ≤ ss.length ∧ Same H4 H' ∧ ∃ (L : Addr) (xs : List V) (z : Option V), σ = [some (.ref B), some (.ref pl), some (.ref D), some .non, none, some (.int (pr ss : Nat)), z, some (.ref L)] ∧ H' L = some (.lst xs) ∧ xs.length = pr (ss.drop i) ∧ ∀ x ∈ xs, ∃ t : Td.T, TVn K H' t x ∧ t.sok ∧ t.lev ≤ i ∧ t.ms ≤ 4 ^ i) ⟨Nat.zero_le _, .refl _, D2, zs, _, rfl, hl4, hzl, hR4⟩ (fun i σ H' _ p => SqL.of (p.2.1 _ _ (k4 _ _ hDB hl3))) ?_ ?_⟩
          · rintro i x σ Ha Hb hi ⟨_, s5, L, xs, z, rfl, hL, hxl, hxs⟩ ⟨rfl, hx⟩
            rw [List.length_map] at hi
            rw [List.getElem?_map, List.getElem?_eq_getElem hi] at hx
            cases hx
            have hd : ss.drop i = ss[i] :: ss.drop (i + 1) := List.drop_eq_getElem_cons hi
            have hsi := hss _ (List.getElem_mem hi)
            have hp1 : 1 ≤ pr (ss.drop (i + 1)) := pr_pos fun n hn => hss n (List.mem_of_mem_drop hn)
            have hd0 := hd
            rw [hd, pr] at hxl
            clear hd
            generalize ss[i] = s at *
            generalize hre : pr (ss.drop (i + 1)) = r at *
            have hr : xs.length ≤ 64 := by
              rw [hxl]
              have h1 := pr_le (l := ss.drop i) fun n hn => hss n (List.mem_of_mem_drop hn)
              rw [hd0, pr, hre] at h1
              exact Nat.le_trans h1 (Nat.le_trans (Nat.pow_le_pow_right (by omega) (show _ ≤ 3 by rw [← hd0, List.length_drop]; omega)) (by decide))
            have ediv : ((xs.length : Nat) : Int) / ((s : Nat) : Int) = ((r : Nat) : Int) := by
              rw [hxl]; push_cast; exact Int.mul_ediv_cancel_left _ (by omega)
            have hrx : r ≤ 64 := Nat.le_trans (Nat.le_mul_of_pos_left r (by omega : 0 < s)) (by omega)
            refine ⟨_, rfl, L, xs, rfl, .inl (SqL.of hL), _, rfl, _, _, rfl, rfl, ⟨by omega, by omega⟩, ?_⟩
            dsimp only
            rw [ediv]
            refine ⟨_, rfl, by omega, by omega, fun D3 hD3 => ?_⟩
            rw [Int.toNat_natCast]
            refine lc_pure (K := K) (walk_range (lo := 0)) hD3 (Nat.le_trans (by omega) size5) (fun _ _ => trivial) (fun i H x H' e => e.1 ▸ .refl _)
              (fun _ v H => ∃ t : Td.T, TVn K H t v ∧ t.sok ∧ t.lev ≤ i + 1 ∧ t.ms ≤ 4 ^ (i + 1)) (fun _ v H H' l ⟨t, h1, h2⟩ => ⟨t, h1.le l, h2⟩) (fun j x H6 H' k' hj s6 ⟨e, ex⟩ hk => ?_) fun zs2 H6 s6 hl6 hzl6 hR6 => ?_
            · subst e ex
              dsimp only
              rw [Int.zero_add]
              refine ⟨rfl, _, rfl, _, rfl, _, rfl, _, _, rfl, rfl, .inr ⟨by omega, by omega⟩, _, rfl, _, rfl, _, rfl, _, _, rfl, rfl, .inr ⟨by omega, by omega⟩, _, rfl, _, _, rfl, rfl, _, rfl, L, xs, rfl, SqL.of (s6 _ _ hL), fun p hp => ?_⟩
              have hfit : j * s + s ≤ xs.length := by
                rw [hxl, Nat.mul_comm s r, ← Nat.succ_mul]
                exact Nat.mul_le_mul_right _ hj
              have ecut : cutV xs (some (((j : Nat) : Int) * ((s : Nat) : Int))) (some (((j : Nat) : Int) * ((s : Nat) : Int) + ((s : Nat) : Int))) = (xs.drop (j * s)).take s := by
                rw [← cut_seg hfit]; push_cast; rfl
              rw [ecut]
              have s7 := Same.upd (o := .lst ((xs.drop (j * s)).take s)) hp
              refine ⟨p, _, rfl, .inl ⟨SqL.of upd_same, fun l hl => ?_⟩⟩
              have s8 := Same.upd (o := .tup ((xs.drop (j * s)).take s)) hl
              have hlc : ((xs.drop (j * s)).take s).length = s := by rw [List.length_take, List.length_drop]; omega
              obtain ⟨ts, hts, hvs⟩ := trees_ex ((xs.drop (j * s)).take s) fun y hy => hxs y (List.mem_of_mem_drop (List.mem_of_mem_take hy))
              have hlen : ts.length = s := by rw [← hlc, hvs.length]
              have hok : (Td.T.node ts).ok := ok_node.mpr ⟨by omega, oks_iff.mpr fun t h => (hts t h).1⟩
              have hms : (Td.T.node ts).ms ≤ 4 ^ (i + 1) := by
                rw [ms_node, hlen, Nat.pow_succ, Nat.mul_comm]
                exact Nat.mul_le_mul (mss_le (Nat.pow_pos (by omega)) fun t h => (hts t h).2.2.2) hsi.2
              have h64 : 4 ^ (i + 1) ≤ 4 ^ 3 := Nat.pow_le_pow_right (by omega) (by omega)
              have h64 : 4 ^ (i + 1) ≤ 64 := h64
              refine hk _ _ (s7.trans s8) ⟨.node ts, ⟨tv_node.mpr ⟨l, _, rfl, SqT.of upd_same, hvs.le (Same.tle ((s6.trans s7).trans s8))⟩, hok, ?_⟩, sok_node.mpr fun t h => (hts t h).2.1, ?_, hms⟩
              · have := cnt_le_ms _ hok
                omega
              · rw [lev_node]
                have := levs_le (ts := ts) (n := i) fun t h => (hts t h).2.2.1
                omega
            · refine ⟨by omega, s5.trans s6, D3, zs2, _, rfl, hl6, hzl6, fun x hx => ?_⟩
              obtain ⟨n, hn, e⟩ := List.mem_iff_getElem.mp hx
              exact hR6 n x (by rw [← e]; exact List.getElem?_eq_getElem hn)
          · rintro σ Ha ⟨_, s5, L, xs, z, rfl, hL, hxl, hxs⟩
            rw [List.length_map, List.drop_length, pr] at hxl
            have hx0 : xs[0]? = some xs[0] := List.getElem?_eq_getElem (by omega)
            obtain ⟨t, hv, h1, h2, h3⟩ := hxs xs[0] (List.getElem_mem _)
            rw [List.length_map] at h2 h3
            have hl3' : ss.length ≤ 3 := by omega
            exact ⟨_, rfl, L, xs, _, _, rfl, rfl, SqL.of hL, atI_nat (j := 0) hx0, k _ t Ha ((k03.trans k4).trans (Same.keptB s5)) (hB4.same s5) hv h1 (by omega) (Nat.le_trans h3 (Nat.le_trans (Nat.pow_le_pow_right (by omega) hl3') (by decide)))⟩
end
end Td
end

section
set_option maxHeartbeats 1000000
/-! TdLw12: the law's bag. -/
namespace Td
open PySem PySem.Spec PyProof.Rows L2
section
variable {P : Program} {w : World} {K : PySem.W.Frag} {mg : Str → Option Value} {base : Heap}
theorem sc_law_bag : FnScope ["_law_script", "_law_salt", "_law_cell"] ["_law_script"] (defScope (topS 43)) := ⟨rfl, rfl, rfl, by decide +kernel, rfl, by decide +kernel, by decide +kernel⟩
def spBag (K : PySem.W.Frag) : Sp := fun vs H Q _ => ∃ (a : Addr) (ns : List Int), vs = [.ref a] ∧ SqL K H a (ns.map V.int) ∧
  ∀ (B S : Addr) (ns' : List Int) H', Same H H' → BagAt K ns' B S H' → Q (.ref B) H'
theorem ok_bag (T : Top K mg) : C8.Cal P w K mg base 1 "_law_bag" (spBag K) [] := by
  refine cal_of T.d_law_bag sc_law_bag (fun _ _ _ _ _ _ us hl => match us, hl with | [_], _ => rfl) (fun vs H Q E h => ?_) fun fa cdv A outer sh H vs Q E hr h => ?_
  · obtain ⟨a, ns, rfl, _⟩ := h; rfl
  · obtain ⟨a, ns, rfl, ha, k⟩ := h
    refine ⟨_, (pss_cons (ps_set (i := 1) sc_law_bag.nd rfl (by first | exact Or.inl rfl | exact Or.inr rfl) pe_int)
      (pss_cons (ps_for PassesOwn.never rfl (pi_list (pe_slice sl_list (pv 0) po_none (po_some pe_int))) (pg_name (i := 2) sc_law_bag.nd rfl (by first | exact Or.inl rfl | exact Or.inr rfl)) (pss_one (ps_set (i := 1) sc_law_bag.nd rfl (by first | exact Or.inl rfl | exact Or.inr rfl) (pe_op op_mod (pe_op op_add (pe_op op_add (pe_op op_mul (pv 1) pe_int) (pe_op op_mod (pv 2) pe_int)) pe_int) pe_int))))
      (pss_one (ps_ret (pe_lst (pa_cons (pe_callTy call_list_of (by rfl) T.n_list (by decide +kernel) (pa_cons (pe_slice sl_list (pv 0) po_none (po_some pe_int)) pa_nil)) (pa_cons pe_int (pa_cons pe_int (pa_cons (pv 1) pa_nil))))))))), ?_⟩
    have hz5 := size5
    have ecut : cutV (ns.map V.int) none (some 63) = (ns.take 63).map V.int := by
      unfold cutV
      rw [HT.sIx_none, show (63 : Int) = ((63 : Nat) : Int) from rfl, HT.sIx_nat, List.drop_zero, Nat.sub_zero, List.map_take]
      rcases Nat.le_total 63 (ns.map V.int).length with h | h
      · rw [Nat.min_eq_left h]
      · rw [Nat.min_eq_right h, List.take_length, List.take_of_length_le h]
    refine ⟨_, rfl, _, rfl, a, _, rfl, ha, fun p hp => ?_⟩
    have s1 := Same.upd (o := .lst (cutV (ns.map V.int) none (some 63))) hp
    refine ⟨p, rfl, ⟨_, SqL.of upd_same⟩, ?_⟩
    refine for_it (walk_list (K := K) (a := p) (xs := (cutV (ns.map V.int) none (some 63)))) (fun i σ H' => H' = upd H p (.lst (cutV (ns.map V.int) none (some 63))) ∧ ∃ (q : Int) (z : Option V), σ = [some (.ref a), some (.int q), z] ∧ 0 ≤ q ∧ q < 2147483647) ⟨rfl, 9497, none, rfl, by omega, by omega⟩ (fun i σ H' _ p => p.1 ▸ SqL.of upd_same) ?_ ?_
    · rintro i x σ Ha Hb hi ⟨rfl, q, z, rfl, hq0, hq⟩ ⟨rfl, hx⟩
      rw [ecut, List.getElem?_map] at hx
      obtain ⟨c, _, rfl⟩ := Option.map_eq_some_iff.mp hx
      refine ⟨_, rfl, _, _, rfl, rfl, .inr ⟨by omega, by omega⟩, _, rfl, _, _, rfl, rfl, by omega, _, _, rfl, rfl, _, _, rfl, rfl, _, _, rfl, rfl, by omega, ?_⟩
      obtain ⟨sd, es, hs⟩ := mod_small (q * 40014 + c % 2147483563 + 11)
      dsimp only
      rw [es]
      exact ⟨rfl, _, _, rfl, by omega, by omega⟩
    · rintro σ Ha ⟨rfl, q, z, rfl, hq0, hq⟩
      obtain ⟨n, rfl⟩ := Int.eq_ofNat_of_zero_le hq0
      have hsa : SqL K (upd H p (.lst (cutV (ns.map V.int) none (some 63)))) a (ns.map V.int) := by
        rcases ha with (q | ⟨o, q⟩) | q
        · exact .inl (.inl (s1 _ _ q))
        · exact .inl (.inr ⟨o, s1 _ _ q⟩)
        · exact .inr q
      refine ⟨_, rfl, ?_⟩
      dsimp only [tNoPart]
      refine ⟨_, rfl, a, _, rfl, hsa, fun p2 hp2 => ?_⟩
      rw [ecut] at *
      have s2 := Same.upd (o := .lst ((ns.take 63).map V.int)) hp2
      refine ⟨p2, _, rfl, .inl (SqL.of upd_same), fun p3 hp3 => ?_⟩
      have s3 := Same.upd (o := .lst ((ns.take 63).map V.int)) hp3
      refine ⟨_, rfl, by show 4 ≤ sizeLine; rw [sizeLine_eq]; decide, fun p4 hp4 => ?_⟩
      have s4 := Same.upd (o := .lst [.ref p3, .int 0, .int 0, .int (n : Nat)]) hp4
      have ne : p4 ≠ p3 := fun z => by rw [z, upd_same] at hp4; cases hp4
      exact k p4 p3 (ns.take 63) _ (((s1.trans s2).trans s3).trans s4) ⟨⟨0, 0, n, upd_same, by omega, by omega⟩, SqL.of (s4 _ _ upd_same), ne⟩
end
end Td
end

section
set_option maxHeartbeats 1000000
/-! TdSrt4: sorted of rows of two numbers and two texts. -/
namespace Td
open PySem PySem.Spec PyProof.Rows L2
def rSortedQ (K : PySem.W.Frag) : List V → Hp → VK → Prop := fun vs H Q => ∃ (a : Addr) (xs : List V), vs = [V.ref a] ∧ SqL K H a xs ∧ (∀ x ∈ xs, ∃ t i j y z, x = V.ref t ∧ H t = some (.tup [.int i, .int j, .str y, .str z])) ∧
  ∀ (ys : List V) (p : Addr), ys.Perm xs → H p = none → Q (.ref p) (upd H p (.lst ys))
theorem eachIs_fst2 {R : Value → Value × PyData → Prop} (h : ∀ v x, R v x → v = x.1) : ∀ {out : List Value} {bs : List (Value × PyData)}, PySem.W.EachIs R out bs → out = bs.map (·.1)
  | _, _, .nil => rfl
  | _, _, .cons a b => by rw [List.map_cons, h _ _ a, eachIs_fst2 h b]
theorem cr_sortedQ {X : Cx} {k : Nat} (hr : Room k X.A) : CallR X (.builtin "sorted") (rSortedQ X.K) := by
  intro pins s σ H vs us Q I r h
  obtain ⟨a, xs, rfl, hs, hx, q⟩ := h
  obtain ⟨its, rv, hl, hz⟩ := I.list hs
  obtain ⟨u, rfl, ru⟩ := vals1 r
  obtain rfl : u = Value.ref a := ru
  obtain ⟨e2, e3⟩ := refs_back rv fun x m => by
    obtain ⟨t, _, _, _, _, e, _⟩ := hx x m
    exact ⟨t, e⟩
  have facts : ∀ v ∈ its, ∃ (i j : Int) (y z : Str), ∃ as, PySem.Reads s.heap v (.tuple [.int i, .int j, .str y, .str z]) as := fun v hv => by
    obtain ⟨t, rfl⟩ := e3 v hv
    have hm : V.ref t ∈ xs := by rw [e2]; exact List.mem_map.mpr ⟨_, hv, rfl⟩
    obtain ⟨t', i, j, y, z, e, ht⟩ := hx _ hm
    cases e
    exact ⟨i, j, y, z, Dp.reads I _ (.ref t) (.ref t) (.tup (SqT.of ht) (.cons (.int i) (.cons (.int j) (.cons (.str y) (.cons (.str z) .nil))))) rfl⟩
  have bsx : ∃ bs : List (Value × PyData), bs.map (·.1) = its ∧ ∀ b ∈ bs, ∃ (i j : Int) (y z : Str), b.2 = .tuple [.int i, .int j, .str y, .str z] ∧ ∃ as, PySem.Reads s.heap b.1 b.2 as := by
    have key : ∀ vs : List Value, (∀ v ∈ vs, v ∈ its) → ∃ bs : List (Value × PyData), bs.map (·.1) = vs ∧ ∀ b ∈ bs, ∃ (i j : Int) (y z : Str), b.2 = .tuple [.int i, .int j, .str y, .str z] ∧ ∃ as, PySem.Reads s.heap b.1 b.2 as := by
      intro vs
      induction vs with
      | nil => intro _; exact ⟨[], rfl, fun b hb => by cases hb⟩
      | cons v vs ih =>
        intro hv
        obtain ⟨bs, e, hb⟩ := ih fun v' h' => hv v' (List.mem_cons_of_mem _ h')
        obtain ⟨i, j, y, z, hR⟩ := facts v (hv v List.mem_cons_self)
        refine ⟨(v, .tuple [.int i, .int j, .str y, .str z]) :: bs, by rw [List.map_cons, e], fun b hb' => ?_⟩
        rcases List.mem_cons.mp hb' with rfl | hb'
        · exact ⟨i, j, y, z, rfl, hR⟩
        · exact hb b hb'
    exact key its fun _ h => h
  obtain ⟨bs, ebs, hbs⟩ := bsx
  have hlen : bs.length = its.length := by rw [← ebs, List.length_map]
  have hlz : its.length ≤ sizeLine := by rw [← rv.length]; exact hz
  have each : ∀ (R : Value → Value × PyData → Prop), (∀ b ∈ bs, R b.1 b) → PySem.W.EachIs R (bs.map (·.1)) bs := fun R => by
    have key : ∀ bs : List (Value × PyData), (∀ b ∈ bs, R b.1 b) → PySem.W.EachIs R (bs.map (·.1)) bs := by
      intro bs
      induction bs with
      | nil => intro _; exact .nil
      | cons b bs ih => intro h; exact .cons (h b List.mem_cons_self) (ih fun b' h' => h b' (List.mem_cons_of_mem _ h'))
    exact key bs
  refine PySem.W.sorted_data (s := s) (vs := its) (bs := bs) (enc := Prod.snd) (R := fun v x => v = x.1) hl.isList ?_ ?_ ?_ ?_ (by rw [hlen]; exact hlz) ?_ fun out ho hR => ?_
  · rw [← ebs]; exact each _ fun b _ => rfl
  · rw [← ebs]
    exact each _ fun b hb => by
      obtain ⟨_, _, _, _, _, h⟩ := hbs b hb
      exact h
  · intro d hd d' hd'
    obtain ⟨x, hx, rfl⟩ := List.mem_map.mp hd
    obtain ⟨y, hy, rfl⟩ := List.mem_map.mp hd'
    obtain ⟨_, _, _, _, e, _⟩ := hbs x hx
    obtain ⟨_, _, _, _, e', _⟩ := hbs y hy
    rw [e, e']
    simp [PySem.W.alike, PySem.W.alikeAll]
  · refine .inl fun d hd => ?_
    obtain ⟨x, hx, rfl⟩ := List.mem_map.mp hd
    obtain ⟨_, _, _, _, e, _⟩ := hbs x hx
    exact ⟨_, _, e⟩
  · intro x hx
    obtain ⟨_, _, _, _, e, _⟩ := hbs x hx
    have : x.2.depth ≤ 10 := by rw [e]; simp [PyData.depth, PyData.depthAll]
    have := hr.un
    omega
  · have eo : out = (bs.mergeSort (PySem.W.dataLe false Prod.snd)).map (·.1) := eachIs_fst2 (fun v x h => h) hR
    have hperm : out.Perm its := by rw [eo, ← ebs]; exact (List.mergeSort_perm _ _).map _
    have e4 : ∀ u ∈ out, ∃ a, u = Value.ref a := fun u hu => e3 u (hperm.mem_iff.mp hu)
    obtain ⟨cc, hcc⟩ := PyProof.Rows.sortedAll_at s.heap its out.toArray
    refine ⟨.ref _, upd H (s.heap.objs.size + 1) (.lst (out.map backV)), I.laid (t' := s.toks) (fun b o e => PyProof.Rows.sortedAll_old e) (Nat.le_succ _) ⟨?_, out, cc, vals_back e4, hcc⟩, rfl, q _ _ ?_ (I.hok.fresh (Nat.le_succ _))⟩
    · rw [List.length_map, hperm.length_eq]; exact hlz
    · rw [e2]; exact hperm.map backV
end Td
end

section
set_option maxHeartbeats 1000000
/-! TdLw13: the law's common. -/
namespace Td
open PySem PySem.Spec PyProof.Rows L2
theorem lst_tle {K : PySem.W.Frag} {H H' : Hp} {D : Addr} {ys : List V} (h : H D = some (.lst ys)) (k : KeptB D H H') : TLe K H H' := fun a xs q => by
  rcases q with (q | ⟨o, q⟩) | q
  · exact .inl (.inl (k _ _ (fun z => by rw [z, h] at q; cases q) q))
  · exact .inl (.inr ⟨o, k _ _ (fun z => by rw [z, h] at q; cases q) q⟩)
  · exact .inr q
theorem RowsE.kept {H H' : Hp} {D : Addr} {ys : List V} {rs : List (Nat × Nat × Str)} {xs : List V} (r : RowsE H rs xs) (h : H D = some (.lst ys)) (k : KeptB D H H') : RowsE H' rs xs := by
  induction r with
  | nil => exact .nil
  | cons a _ ih => exact .cons (k _ _ (fun z => by rw [z, h] at a; cases a) a) ih
section
variable {P : Program} {w : World} {K : PySem.W.Frag} {mg : Str → Option Value} {base : Heap}
theorem sc_law_common : FnScope ["_law_one_z", "_law_other_z", "_law_found", "_law_first", "_law_step", "_law_left", "_law_number", "_law_width", "_law_right", "_law_row"] ["_law_one_z", "_law_other_z"] (defScope (topS 61)) := ⟨rfl, rfl, rfl, by decide +kernel, rfl, by decide +kernel, by decide +kernel⟩
def spLCommon (K : PySem.W.Frag) : Sp := fun vs H Q _ => ∃ (a b : Td.T) (v u : V), vs = [v, u] ∧ TVb K H a v ∧ TVb K H b u ∧ (cmn a b).length ≤ 100000 ∧ TkB b ∧
  ∀ (H' : Hp) (p : Addr) (ys : List V), Same H H' → H' p = some (.lst ys) → ys.length = (cmn a b).length → Q (.ref p) H'
theorem ok_lcommon (T : Top K mg) : C8.Cal P w K mg base 64 "_law_common" (spLCommon K) [] := by
  have c_law_every : C8.Cal P w K mg base 63 "_law_every" (spTaken K 61) [] := ok_every T 61
  have c_law_ends : C8.Cal P w K mg base 62 "_law_ends" (spEnds K 61) [] := ok_lends T 61
  refine cal_of T.d_law_common sc_law_common (fun _ _ _ _ _ _ us hl => match us, hl with | [_, _], _ => rfl) (fun vs H Q E h => ?_) fun f cdv A outer sh H vs Q E hr h => ?_
  · obtain ⟨a, b, v, u, rfl, _⟩ := h; rfl
  · obtain ⟨a, b, v, u, rfl, ha, hb, hlen, hbt, k⟩ := h
    refine ⟨_, (pss_cons (ps_set (i := 2) sc_law_common.nd rfl (by first | exact Or.inl rfl | exact Or.inr rfl) (pe_lst pa_nil))
      (pss_cons (ps_for PassesOwn.never rfl (pi_list (C8.pe_c c_law_ends hr (by omega) rfl (pa_cons (pv 0) (pa_cons pe_int (pa_cons pe_int pa_nil))))) (pg_tup (by rfl) (pgs_cons (pg_name (i := 3) sc_law_common.nd rfl (by first | exact Or.inl rfl | exact Or.inr rfl)) (pgs_cons (pg_name (i := 4) sc_law_common.nd rfl (by first | exact Or.inl rfl | exact Or.inr rfl)) (pgs_cons (pg_name (i := 5) sc_law_common.nd rfl (by first | exact Or.inl rfl | exact Or.inr rfl)) pgs_nil)))) (pss_one (ps_for PassesOwn.never rfl (pi_list (C8.pe_c c_law_ends hr (by omega) rfl (pa_cons (C8.pe_c c_law_every hr (by omega) rfl (pa_cons (pv 1) (pa_cons (pv 3) (pa_cons (pv 4) pa_nil)))) (pa_cons pe_int (pa_cons pe_int pa_nil))))) (pg_tup (by rfl) (pgs_cons (pg_name (i := 6) sc_law_common.nd rfl (by first | exact Or.inl rfl | exact Or.inr rfl)) (pgs_cons (pg_name (i := 7) sc_law_common.nd rfl (by first | exact Or.inl rfl | exact Or.inr rfl)) (pgs_cons (pg_name (i := 8) sc_law_common.nd rfl (by first | exact Or.inl rfl | exact Or.inr rfl)) pgs_nil)))) (pss_one (ps_expr (pe_bm PySem.F.plainAttrs_list PySem.F.slot_list_append PySem.F.type_list_append mt_append (pv 2) (pa_cons (pe_tup (pa_cons (pe_op op_mul (pv 4) (pv 7)) (pa_cons (pe_op op_add (pv 3) (pe_op op_mul (pv 4) (pv 6))) (pa_cons (pv 5) (pa_cons (pv 8) pa_nil))))) pa_nil)))))))
      (pss_one (ps_ret (pe_lc (own := [("_law_row", 9)]) (te := (tTup (tCons (tOp (rIxT K) (tVar 9) (tC (.int 1))) (tCons (tOp (rIxT K) (tVar 9) (tC (.int 0))) (tCons (tOp (rIxT K) (tVar 9) (tC (.int 2))) (tCons (tOp (rIxT K) (tVar 9) (tC (.int 3))) tNil)))))) (by rfl) sc_law_common.nd (pi_list (pe_callB (cr_sortedQ hr) (by rfl) T.n_sorted (by decide +kernel) (pa_cons (pv 2) pa_nil))) (blkOk_by (own := [("_law_row", 9)]) (N := ["_law_one_z", "_law_other_z", "_law_found", "_law_first", "_law_step", "_law_left", "_law_number", "_law_width", "_law_right", "_law_row"]) (sc := defScope (topS 61)) (by decide +kernel)) (fun _ _ _ _ _ => (pg_name (i := 9) sc_law_common.nd rfl (by first | exact Or.inl rfl | exact Or.inr rfl))) (fun _ _ _ _ _ => pts_nil) (fun _ _ _ _ _ => (pe_tup (pa_cons (pe_ix ix_tup (pv 9) pe_int (fun _ _ => rfl)) (pa_cons (pe_ix ix_tup (pv 9) pe_int (fun _ _ => rfl)) (pa_cons (pe_ix ix_tup (pv 9) pe_int (fun _ _ => rfl)) (pa_cons (pe_ix ix_tup (pv 9) pe_int (fun _ _ => rfl)) pa_nil))))))))))), ?_⟩
    refine ⟨Nat.zero_le _, fun D0 hD0 => ?_⟩
    have s0 : Same H (upd H D0 (.lst [])) := Same.upd hD0
    -- what the list holds
    let Acc : Nat → Hp → List V → Prop := fun n H' acc => acc.length = n ∧ ∀ x ∈ acc, ∃ t i j y z, x = V.ref t ∧ H' t = some (.tup [.int i, .int j, .str y, .str z]) ∧ t ≠ D0
    let cnt : Nat → Nat := fun i => (((a.ends 0 1).take i).map fun r => ((b.taken r.1 r.2.1).ends 0 1).length).sum
    have hcnt : cnt (a.ends 0 1).length = (cmn a b).length := by
      show (((a.ends 0 1).take _).map _).sum = _
      unfold cmn
      rw [List.take_length, List.length_flatMap]
      congr 1
      apply List.map_congr_left
      intro r _
      rw [List.length_map]
    have hcs : ∀ i r, (a.ends 0 1)[i]? = some r → cnt (i + 1) = cnt i + ((b.taken r.1 r.2.1).ends 0 1).length := fun i r e => by
      show (((a.ends 0 1).take (i + 1)).map _).sum = _
      rw [List.take_succ, e, List.map_append, List.sum_append]
      simp [cnt]
    have hcm : ∀ i, cnt i ≤ (cmn a b).length := fun i => by
      rw [← hcnt]
      show (((a.ends 0 1).take i).map _).sum ≤ (((a.ends 0 1).take _).map _).sum
      rw [List.take_length]
      conv => rhs; rw [← List.take_append_drop i (a.ends 0 1)]
      rw [List.map_append, List.sum_append]
      exact Nat.le_add_right _ _
    refine ⟨_, rfl, a, v, 0, 1, rfl, (ha.le (Same.tle s0)).tv, by have := ha.lev; omega, fun L1 ws H1 s1 hL1 hW1 hR1 => ?_⟩
    have hLD1 : L1 ≠ D0 := fun z => by rw [z, upd_same] at hL1; cases hL1
    have s01 := s0.trans s1
    have hD1 : H1 D0 = some (.lst []) := s1 _ _ upd_same
    refine ⟨L1, rfl, ⟨_, SqL.of hW1⟩, for_it (walk_list (xs := ws)) (fun i σ H' => i ≤ ws.length ∧ KeptB D0 H1 H' ∧ Same H H' ∧ ∃ acc x y z n m q, H' D0 = some (.lst acc) ∧ Acc (cnt i) H' acc ∧ σ = [some v, some u, some (.ref D0), x, y, z, n, m, q, none]) ⟨Nat.zero_le _, .refl _ _, s01, [], _, _, _, _, _, _, hD1, ⟨rfl, fun y hy => by cases hy⟩, rfl⟩ (fun i σ H' _ p => SqL.of (p.2.1 _ _ hLD1 hW1)) ?_ ?_⟩
    · rintro i x0 σ Ha H2 hi ⟨_, k2, s2, acc, x, y, z, n, m, q, hD2, hacc, rfl⟩ ⟨rfl, hx⟩
      obtain ⟨r, T0, hr1, rfl, hT0⟩ := hR1.get hx
      have hmem : r ∈ a.ends 0 1 := List.mem_of_getElem? hr1
      have hT2 := k2 _ _ (fun z => by rw [z, hD1] at hT0; cases hT0) hT0
      refine ⟨T0, _, rfl, SqT.of hT2, rfl, _, _, rfl, _, _, rfl, _, _, rfl, rfl, ?_⟩
      refine ⟨_, rfl, _, rfl, _, rfl, b, u, r.1, r.2.1, rfl, (hb.le (Same.tle s2)).tv, by have := hb.lev; omega, ends_pos a 0 1 ha.tv.ok (Nat.le_refl _) r hmem, fun v2 H3 s3 hv2 => ?_⟩
      obtain ⟨b1, b2, b3⟩ := hbt r.1 r.2.1
      refine ⟨b.taken r.1 r.2.1, v2, 0, 1, rfl, ⟨hv2, b1, b2⟩, by omega, fun L2 ws2 H4 s4 hL2 hW2 hR2 => ?_⟩
      have s34 := s3.trans s4
      have hD4 : H4 D0 = some (.lst acc) := s34 _ _ hD2
      have hLD2 : L2 ≠ D0 := fun z => by rw [z, s3 _ _ hD2] at hL2; cases hL2
      refine ⟨L2, rfl, ⟨_, SqL.of hW2⟩, for_it (walk_list (xs := ws2)) (fun j σ H' => j ≤ ws2.length ∧ KeptB D0 H4 H' ∧ Same H H' ∧ ∃ acc n m q, H' D0 = some (.lst acc) ∧ Acc (cnt i + j) H' acc ∧ σ = [some v, some u, some (.ref D0), some (.int (r.1 : Nat)), some (.int (r.2.1 : Nat)), some (.str r.2.2), n, m, q, none])
        ⟨Nat.zero_le _, .refl _ _, s2.trans s34, acc, _, _, _, hD4, ⟨hacc.1, fun y hy => by obtain ⟨t, i1, i2, z1, z2, e1, e2, e3⟩ := hacc.2 y hy; exact ⟨t, i1, i2, z1, z2, e1, s34 _ _ e2, e3⟩⟩, rfl⟩ (fun j σ H' _ p => SqL.of (p.2.1 _ _ hLD2 hW2)) ?_ ?_⟩
      · rintro j x1 σ Hb H5 hj ⟨_, k5, s5, acc, n, m, q0, hD5, hacc, rfl⟩ ⟨rfl, hx1⟩
        obtain ⟨q, T1, hq1, rfl, hT1⟩ := hR2.get hx1
        have hT5 := k5 _ _ (fun z => by rw [z, hD4] at hT1; cases hT1) hT1
        have hjl := (List.getElem?_eq_some_iff.mp hq1).1
        have hcl : cnt i + j < (cmn a b).length := by
          have := hcm (i + 1)
          rw [hcs i r hr1] at this
          omega
        have hstep : r.2.1 ≤ 2 ^ 40 := by
          obtain ⟨F, S, _, e2, _, e4, _⟩ := ends_own a ha.tv.ok 0 1 r hmem
          rw [e2, Nat.one_mul]; exact Nat.le_trans e4 ha.ms
        have hCM : ∀ x : Int, CMul ((r.2.1 : Nat) : Int) x := fun x => .inl ⟨by omega, by omega⟩
        refine ⟨T1, _, rfl, SqT.of hT5, rfl, _, _, rfl, _, _, rfl, _, _, rfl, rfl, ?_⟩
        refine ⟨_, rfl, .inl ⟨rfl, acc, SqL.of hD5⟩, _, rfl, _, rfl, _, _, rfl, rfl, hCM _, ?_⟩
        refine ⟨_, rfl, _, rfl, _, rfl, _, _, rfl, rfl, hCM _, _, _, rfl, rfl, _, rfl, _, rfl, by show 4 ≤ sizeLine; rw [sizeLine_eq]; decide, fun R hR => ?_⟩
        have s6 := Same.upd (o := .tup [.int ((r.2.1 : Nat) * (q.2.1 : Nat)), .int ((r.1 : Nat) + (r.2.1 : Nat) * (q.1 : Nat)), .str r.2.2, .str q.2.2]) hR
        have hD6 := s6 _ _ hD5
        have hRD : R ≠ D0 := fun z => by rw [z, hD5] at hR; cases hR
        refine ⟨D0, acc, .ref R, rfl, rfl, hD6, by rw [hacc.1]; exact Nat.lt_of_lt_of_le (by omega) size5', ?_⟩
        refine ⟨by omega, keptB_upd (k5.trans (Same.keptB s6)), same_upd (s5.trans s6) hD0, acc ++ [.ref R], _, _, _, upd_same, ⟨by rw [List.length_append, hacc.1]; rfl, fun y hy => ?_⟩, rfl⟩
        rcases List.mem_append.mp hy with hy | hy
        · obtain ⟨t, i1, i2, z1, z2, e1, e2, e3⟩ := hacc.2 y hy
          exact ⟨t, i1, i2, z1, z2, e1, by rw [upd_ne e3]; exact s6 _ _ e2, e3⟩
        · rw [List.mem_singleton.mp hy]
          exact ⟨R, _, _, _, _, rfl, by rw [upd_ne hRD]; exact upd_same, hRD⟩
      · rintro σ H5 ⟨_, k5, s5, acc, n, m, q0, hD5, hacc, rfl⟩
        rw [hR2.len, ← hcs i r hr1] at hacc
        exact ⟨by omega, k2.trans ((Same.keptB s34).trans k5), s5, acc, _, _, _, _, _, _, hD5, hacc, rfl⟩
    · rintro σ H2 ⟨_, k2, s2, acc, x, y, z, n, m, q, hD2, hacc, rfl⟩
      rw [hR1.len, hcnt] at hacc
      have hz5 := size5
      refine ⟨_, rfl, D0, acc, rfl, SqL.of hD2, fun y hy => ?_, fun ys p hperm hp => ?_⟩
      · obtain ⟨t, i1, i2, z1, z2, e1, e2, _⟩ := hacc.2 y hy
        exact ⟨t, i1, i2, z1, z2, e1, e2⟩
      · have s3 := Same.upd (o := .lst ys) hp
        have hys : ys.length = (cmn a b).length := by rw [hperm.length_eq, hacc.1]
        refine ⟨p, rfl, ⟨_, SqL.of upd_same⟩, fun D2 hD2' => ?_⟩
        refine lc_pure (K := K) (walk_list (xs := ys)) hD2' (Nat.le_trans (by omega) size5) (fun H' s => SqL.of (s _ _ upd_same)) (fun i H x H' e => e.1 ▸ .refl _)
          (fun _ _ _ => True) (fun _ _ _ _ _ _ => trivial) (fun j x0 H4 H' k' hj s4 ⟨e, ex⟩ hk => ?_) fun zs H4 s4 hl4 hzl _ => ?_
        · subst e
          obtain ⟨t, i1, i2, z1, z2, rfl, e2, _⟩ := hacc.2 x0 (hperm.mem_iff.mp (List.mem_of_getElem? ex))
          have e4 := SqT.of (K := K) (s4 _ _ (s3 _ _ e2))
          refine ⟨rfl, _, rfl, t, _, _, _, rfl, rfl, e4, atI_nat (j := 1) rfl, ?_⟩
          refine ⟨_, rfl, t, _, _, _, rfl, rfl, e4, atI_nat (j := 0) rfl, ?_⟩
          refine ⟨_, rfl, t, _, _, _, rfl, rfl, e4, atI_nat (j := 2) rfl, ?_⟩
          refine ⟨_, rfl, t, _, _, _, rfl, rfl, e4, atI_nat (j := 3) rfl, by show 4 ≤ sizeLine; rw [sizeLine_eq]; decide, fun l hl => ?_⟩
          exact hk _ _ (Same.upd hl) trivial
        · exact k _ D2 zs ((s2.trans s3).trans s4) hl4 (by rw [hzl, hys])
end
end Td
end

section
set_option maxHeartbeats 1000000
/-! TdLaw0: what the law's own body needs: plain facts and call rules. -/
namespace Td
open PySem PySem.Spec PyProof.Rows L2
theorem cmn_self {a : T} (h : a.ok) : (cmn a a).length = a.cnt := by
  rw [cmn_len]
  refine sem_cnt (rf_ok a h a h 0 1) h fun n m => ?_
  rw [rf_addr a h a h, Nat.zero_add, Nat.zero_add, Nat.one_mul, Nat.one_mul]
  exact ⟨fun q => q.1, fun q => ⟨q, q⟩⟩
theorem cmn_small {a b : T} (hb : b.ok) : (cmn a b).length ≤ a.cnt * b.cnt := by
  unfold cmn
  rw [List.length_flatMap, ← ends_len a 0 1]
  generalize a.ends 0 1 = L
  induction L with
  | nil => simp
  | cons r L ih =>
    rw [List.map_cons, List.sum_cons, List.length_cons, Nat.add_mul, Nat.one_mul, Nat.add_comm]
    refine Nat.add_le_add ih ?_
    rw [List.length_map, ends_len]
    exact taken_cnt b hb _ _
theorem cmn_pos {a b : T} (ha : a.ok) (hb : b.ok) : 0 < (cmn a b).length := by
  rw [cmn_len]
  exact cnt_pos _ (rf_ok a ha b hb 0 1)
theorem dats_self (ss : List Stp) : PyData.eqv (.list (ss.map Stp.dat)) (.list (ss.map Stp.dat)) = true := by
  have h := dats_shaped ss
  unfold SeqAt.shaped at h
  simp only [Bool.and_eq_true] at h
  exact SeqAt.eqv_refl _ h.1
/-- the law's last question -/
def tA : Str := "a"
def one0 : T := .node [.leaf tA, .leaf tA]
def two0 : T := .leaf tA
theorem one0_ok : one0.ok := ok_node.mpr ⟨by decide, oks_iff.mpr fun t h => by
  simp only [List.mem_cons, List.not_mem_nil, or_false] at h
  rcases h with rfl | rfl <;> (rw [T.ok]; trivial)⟩
theorem two0_ok : two0.ok := by unfold two0; rw [T.ok]; trivial
theorem one0_cnt : one0.cnt ≤ 2 := by simp [one0, T.cnt, cnts]
theorem one0_lev : one0.lev ≤ 1 := by simp [one0, T.lev, levs]
theorem one0_ms : one0.ms ≤ 2 := by simp [one0, T.ms, mss]
theorem two0_cnt : two0.cnt ≤ 2 := by simp [two0, T.cnt]
theorem two0_lev : two0.lev ≤ 1 := by simp [two0, T.lev]
theorem two0_ms : two0.ms ≤ 2 := by simp [two0, T.ms]
theorem one0_ends : one0.ends 0 1 = [(0, 2, tA), (1, 2, tA)] := by simp [one0, T.ends, endss]
theorem two0_taken (f s : Nat) : two0.taken f s = two0 := taken_leaf
theorem one0_taken : one0.taken 0 1 = one0 := by
  unfold one0
  rw [taken_node]
  have e : (List.range ([Td.T.leaf tA, Td.T.leaf tA].length / Nat.gcd [Td.T.leaf tA, Td.T.leaf tA].length 1)).map (tkI [.leaf tA, .leaf tA] 0 1) = [.leaf tA, .leaf tA] := by
    have h0 : tkI [.leaf tA, .leaf tA] 0 1 0 = .leaf tA := (tkI_get (t := .leaf tA) rfl).trans taken_leaf
    have h1 : tkI [.leaf tA, .leaf tA] 0 1 1 = .leaf tA := (tkI_get (t := .leaf tA) rfl).trans taken_leaf
    show (List.range (2 / Nat.gcd 2 1)).map _ = _
    rw [show 2 / Nat.gcd 2 1 = 2 by decide, show List.range 2 = [0, 1] by decide, List.map_cons, List.map_cons, List.map_nil, h0, h1]
  rw [e]; rfl
theorem loop_leaf {S : Nat → Wk → Wk → Prop} {W : Wk} {m : Nat} (h : ∀ i, i < m → S i W W) : ∀ i, i ≤ m → Loop S i m W W := by
  intro i
  generalize hd : m - i = d
  intro hi
  induction d generalizing i with
  | zero =>
    have : i = m := by omega
    subst this; exact .nil
  | succ d ih => exact .cons (by omega) (h i (by omega)) (ih (i + 1) (by omega) (by omega))
theorem one0_get (i : Nat) (h : i < 2) : [Td.T.leaf tA, Td.T.leaf tA][i]? = some (.leaf tA) := by
  have : i = 0 ∨ i = 1 := by omega
  rcases this with rfl | rfl <;> rfl
theorem part_one0 (i : Nat) (h : i < 2) : one0.part ([] ++ [i]) = some (.leaf tA) := by
  unfold one0
  rw [List.nil_append, T.part, one0_get i h]
  exact part_nil
theorem least2 : LeastF 2 2 := ⟨Nat.le_refl _, Nat.dvd_refl _, fun d h1 h2 => by omega⟩
theorem mp_one0 {ss bs : List Stp} : MP 60 ⟨one0, ss, bs⟩ [] ⟨one0, ss, bs⟩ := by
  refine .inr ⟨[.leaf tA, .leaf tA], [.leaf tA, .leaf tA], 2, ⟨one0, ss, bs⟩, part_nil, least2, by decide, .inr ⟨by decide, rfl⟩, part_nil, loop_leaf (fun i hi => ?_) 0 (Nat.zero_le _)⟩
  exact .inl ⟨tA, part_one0 i hi, rfl⟩
theorem sb_last : SB one0 two0 [⟨.gath, []⟩] := by
  refine ⟨?_, ?_, ?_, ⟨one0, [], []⟩, ⟨one0, [⟨.spr 2, []⟩], [⟨.gath, []⟩]⟩, ⟨one0, [], []⟩, ⟨⟨one0, [], []⟩, ?_, mp_one0⟩, ⟨⟨one0, [⟨.spr 2, []⟩], [⟨.gath, []⟩]⟩, ?_, mp_one0⟩, ?_, rfl⟩
  · rw [one0_ends]
    intro r hr q hq
    rw [two0_taken] at hq
    have hq : q = (0, 1, tA) := by simpa [two0, T.ends] using hq
    simp only [List.mem_cons, List.not_mem_nil, or_false] at hr
    rcases hr with rfl | rfl <;> rw [hq]
  · unfold cmn
    rw [one0_ends]
    simp [two0_taken, two0, T.ends, taken_leaf]
  · intro r hr
    unfold cmn at hr
    rw [one0_ends] at hr
    simp [two0_taken, two0, T.ends, taken_leaf] at hr
    rcases hr with rfl | rfl <;> exact ⟨by decide, by decide⟩
  · have e : one0.eps [] 0 1 = [([0], 0, 2), ([1], 1, 2)] := by simp [one0, T.eps, epss]
    rw [e]
    refine .cons (W1 := ⟨one0, [], []⟩) ?_ (.cons (W1 := ⟨one0, [], []⟩) ?_ .nil)
    · rw [two0_taken]; exact rfl
    · rw [two0_taken]; exact rfl
  · have e : two0.eps [] 0 1 = [([], 0, 1)] := by simp [two0, T.eps]
    rw [e]
    refine .cons (W1 := ⟨one0, [⟨.spr 2, []⟩], [⟨.gath, []⟩]⟩) ?_ .nil
    show SL 60 _ [] (one0.taken 0 1) _
    rw [one0_taken]
    refine ⟨⟨one0, [⟨.spr 2, []⟩], [⟨.gath, []⟩]⟩, ?_, loop_leaf (fun i hi => ?_) 0 (Nat.zero_le _)⟩
    · have hc : Chg (.spr 2) two0 one0 := .spr (by decide) (by decide)
      have hg : Goes two0 ⟨.spr 2, []⟩ one0 := ⟨⟨two0, one0, part_nil, hc, put_nil.symm⟩, one0_ok, by simp [one0, T.cnt, cnts], by simp [one0, T.lev, levs], by decide⟩
      exact Does.mk (W := ⟨two0, [], []⟩) (s := ⟨.spr 2, []⟩) (u := two0) part_nil hc hg (Nat.zero_le _) (Nat.zero_le _)
    · exact ⟨.leaf tA, one0_get i hi, rfl⟩
  · refine ⟨⟨one0, [], []⟩, ⟨[.leaf tA, .leaf tA], part_nil, .inl ⟨rfl, rfl⟩⟩, loop_leaf (fun i hi => ?_) 0 (Nat.zero_le _)⟩
    exact ⟨.leaf tA, one0_get i hi, rfl⟩
section
variable {X : Cx} {k j : Nat} {x : Str} {p pos : Pos} {e : Expr} {es : List Expr} {t : TA}
/-- a call by one of many promises -/
theorem pe_cI {ι : Type} (i0 : ι) {sp : ι → Sp} (c : ∀ i, C8.Cal X.prog X.w X.K X.mg X.base k x (sp i) []) (hr : Room j X.A) (hk : k ≤ j) (hg : Gl X x) (ha : PA X (e :: es) t)
    (hdb : (x == ("__debug__" : Str)) = false := by decide) (he : starEach (e :: es) X.env = (false, eval e X.env) :: starEach es X.env := by rfl) (hpl : (backTo pos (starEach es X.env)).any (·.1) = false := by rfl) :
    PE X (.Call (.Name x p) (e :: es) [] pos) (tCall (fun vs H Q E => ∃ i, sp i vs H Q E) [] C8.E0 t) := by
  obtain ⟨f, _, _, _, _, hm, kp, _, _⟩ := (c i0).ex
  refine ⟨fun pins s σ H Q I h => ?_⟩
  refine wpAny_Call_Name_kw (ld_glob I hg hm ?_ hdb)
  refine PySem.W.callWith_K (h₀ := X.base) I.ok.mod.kin kp (thn (ha.run pos pins s σ H _ I h) fun us s1 ⟨vs, H1, I1, r, q⟩ => ⟨I1.kIn, ?_⟩) he hpl
  obtain ⟨i, q⟩ := q
  obtain ⟨f2, fd, ps, ds, F, hm2, kp2, b, d⟩ := (c i).ex
  have : f2 = f := by
    rw [hm] at hm2
    cases hm2; rfl
  subst this
  exact run_fn F (hr.mono hk) b d C8.pass0 I1 r q
end
theorem pss2_cut {X : Cx} {st : Stmt} {rest : List Stmt} {t u : TS} (h1 : PS2 X st t) (h2 : PSs2 X rest u) : PSs2 X (st :: rest) (C8.tCut t u) := by
  refine ⟨fun pins s σ H D I h => ?_⟩
  obtain ⟨Mid, hm, hu⟩ := h
  refine a2_execs (a2_thn (h1.run pins s σ H { D with nx := Mid } I hm) fun f s1 q => ?_)
  obtain ⟨g1, q⟩ := q
  cases f with
  | next =>
    obtain ⟨σ1, H1, I1, q1⟩ := q
    exact a2_thn (h2.run pins s1 σ1 H1 D I1 (hu σ1 H1 q1)) fun f s2 h => h.trans g1
  | brk => exact ⟨g1, q⟩
  | cont => exact ⟨g1, q⟩
  | ret v => exact ⟨g1, q⟩
theorem cal_two {P : Program} {w : World} {K : PySem.W.Frag} {mg : Str → Option Value} {base : Heap} {k : Nat} {x : Str} {sp : Sp} (c : C8.Cal P w K mg base k x sp []) : Cal2 P w K mg base k x sp := by
  obtain ⟨f, fd, ps, ds, F, hm, kp, b, d⟩ := c.ex
  cases d
  exact ⟨⟨f, fd, ps, FnOk.two F, hm, kp, b⟩⟩
section
variable {H H' : Hp} {B S : Addr} {K : PySem.W.Frag} {ns : List Int}
theorem tabs_kept {T : List (Addr × Str)} {xs : List V} (t : LamX.Tabs T H) (k : KeptB B H H') (h : H B = some (.lst xs)) : LamX.Tabs T H' := fun p hp => by
  obtain ⟨ps, h1, h2, h3⟩ := t p hp
  refine ⟨ps, k _ _ (fun z => by rw [z, h] at h1; cases h1) h1, h2, fun pos cv hc => ?_⟩
  obtain ⟨c, e1, e2⟩ := h3 pos cv hc
  exact ⟨c, e1, k _ _ (fun z => by rw [z, h] at e2; cases e2) e2⟩
theorem BagAt.tabs {T : List (Addr × Str)} (b : BagAt K ns B S H) (t : LamX.Tabs T H) (k : KeptB B H H') : LamX.Tabs T H' := by
  obtain ⟨i, big, seed, e, _⟩ := b.ex
  exact tabs_kept t k e
theorem BagAt.extN (b : BagAt K ns B S H) (e : LamX.ExtN H H') : BagAt K ns B S H' := by
  obtain ⟨i, big, seed, e1, h⟩ := b.ex
  refine ⟨⟨i, big, seed, e _ _ e1 (fun ps z => by cases z), h⟩, ?_, b.ne⟩
  rcases b.sq with (q | ⟨o, q⟩) | q
  · exact .inl (.inl (e _ _ q (fun ps z => by cases z)))
  · exact .inl (.inr ⟨o, e _ _ q (fun ps z => by cases z)⟩)
  · exact .inr q
end
end Td
end

section
set_option maxHeartbeats 2000000
/-! TdLaw: the law's own body. -/
namespace Td
open PySem PySem.Spec PyProof.Rows L2
section
variable {P : Program} {w : World} {K : PySem.W.Frag} {mg : Str → Option Value} {base : Heap} {C : Addr}
theorem sc_law : FnScope ["_law_script", "_law_bag_here", "_law_turn", "_law_pool", "_law_one_z", "_law_other_z", "_law_k", "_law_made", "_law_most", "_law_left", "_law_right", "_law_steps"] ["_law_script"] (defScope (topS 63)) := ⟨rfl, rfl, rfl, by decide +kernel, rfl, by decide +kernel, by decide +kernel⟩
abbrev Bg := List Int × Addr × Addr
theorem kb_sb {kV doc pm : Value} {an : Option Addr} {cdv ct : Value} : KBinds K (PySem.W.fnOf "steps_between" "steps_between" (defArgs (topS 41)) (defBody (topS 41)) (defScope (topS 41)) .none kV doc pm an cdv ct) ["one", "other"] ["other", "one"] (fun us ws => us ++ ws.reverse) (fun vs zs => vs ++ zs.reverse) where
  to := fun s us ws hK hl => by
    refine .of_eq ?_
    match us, ws, hl with
    | [], [a, b], _ => rfl
    | [a], [b], _ => rfl
    | [a, b], [], _ => rfl
    | [], [], hl => simp at hl
    | [], [_], hl => simp at hl
    | [], _ :: _ :: _ :: _, hl => simp at hl
    | [_], [], hl => simp at hl
    | [_], _ :: _ :: _, hl => simp at hl
    | [_, _], _ :: _, hl => simp at hl
    | _ :: _ :: _ :: _, _, hl => simp at hl
  rel := fun r rz => r.append rz.reverse
def spLaw (K : PySem.W.Frag) (Pt : Addr) : Sp := fun vs H Q _ => ∃ (a : Addr) (ns : List Int), vs = [.ref a] ∧ SqL K H a (ns.map V.int) ∧ LamX.Tabs (TabC Pt) H ∧ ∀ H', Q (.bl true) H'
theorem ok_law (T : Top K mg) (M : Mod K mg base) (D0 : Counts K w mg) (U : WTop K mg C) {a0 c Pt : Addr} (hk0 : KTup K a0 []) (E : GenAt K mg "ends" (topS 16) [.int 0, .int 1]) (E2 : GenAt K mg "end_paths" (topS 36) [.ref a0, .int 0, .int 1]) (CA : ComAt K mg c) (TB : LamX.TabB base mg c Pt)
    {f : Addr} {oc kV doc pm cdv ct : Value} {od an : Option Addr} {osl : Array (Option Value)} (lk : K.lookup f = some ⟨oc, od, .func (PySem.W.fnOf "law" "law" (defArgs (topS 63)) (defBody (topS 63)) (defScope (topS 63)) .none kV doc pm an cdv ct), osl⟩) (hcd : PySem.W.codeIn K cdv "law" = true) :
    FnOk2 P w K mg base 222 f (PySem.W.fnOf "law" "law" (defArgs (topS 63)) (defBody (topS 63)) (defScope (topS 63)) .none kV doc pm an cdv ct) ["_law_script"] (spLaw K Pt) := by
  have SBS : Cal2S P w K mg base 221 "steps_between" (topS 41) ["one", "other"] (spSB K Pt) := ok_sbS T M D0 U hk0 E E2 CA TB
  have c_steps_between : Cal2 P w K mg base 221 "steps_between" (spSB K Pt) := SBS.cal (fun _ _ _ _ _ _ us hl => match us, hl with | [_, _], _ => rfl)
  obtain ⟨fK, kVK, docK, pmK, anK, cdvK, ctK, FK, hmK, kpK⟩ := SBS.ex
  have c_common : Cal2 P w K mg base 220 "common" (spCommon K Pt) := ok_common T M E CA TB
  have c_is_equal : Cal2 P w K mg base 220 "is_equal" (spIsEqual K) := ok_is_equal T M E
  have c_apply_steps : C8.Cal P w K mg base 65 "apply_steps" (spApplys K) [] := ok_applys T D0
  have c_law_bag : C8.Cal P w K mg base 1 "_law_bag" (spBag K) [] := ok_bag T
  have c_law_ends : C8.Cal P w K mg base 62 "_law_ends" (spEnds K 61) [] := ok_lends T 61
  have c_law_outcome : C8.Cal P w K mg base 64 "_law_outcome" (spOutcome K) [] := ok_outcome T
  have c_law_common : C8.Cal P w K mg base 64 "_law_common" (spLCommon K) [] := ok_lcommon T
  have c_law_replay : C8.Cal P w K mg base 64 "_law_replay" (spReplay K) [] := ok_replay T
  have c_law_replay2 : Cal2 P w K mg base 64 "_law_replay" (spReplay K) := cal_two c_law_replay
  have c_law_of : ∀ i : Bg, C8.Cal P w K mg base 2 "_law_of" (spOf K i.1 i.2.1 i.2.2) [] := fun i => ok_of T
  have c_law_owners : ∀ i : Bg, C8.Cal P w K mg base 4 "_law_owners" (spOwners K i.1 i.2.1 i.2.2) [] := fun i => ok_owners T
  have c_law_regular : ∀ i : Bg, C8.Cal P w K mg base 3 "_law_regular" (spRegular K i.1 i.2.1 i.2.2) [] := fun i => ok_regular T
  have c_law_tree : ∀ i : Bg, C8.Cal P w K mg base 6 "_law_tree" (spTree K i.1 i.2.1 i.2.2 4) [] := fun i => ok_ltree T 4
  have c_law_resplit : ∀ i : Bg, C8.Cal P w K mg base 64 "_law_resplit" (spResplit K i.1 i.2.1 i.2.2) [] := fun i => ok_resplit T
  have c_law_pull : ∀ i : Bg, C8.Cal P w K mg base 1 "_law_pull" (spPull K i.1 i.2.1 i.2.2) [] := fun i => ok_pull T
  have c_law_drawn_step : ∀ i : Bg, C8.Cal P w K mg base 64 "_law_drawn_step" (spDrawn K i.1 i.2.1 i.2.2) [] := fun i => ok_drawn T
  have KB : KBinds K (PySem.W.fnOf "steps_between" "steps_between" (defArgs (topS 41)) (defBody (topS 41)) (defScope (topS 41)) .none kVK docK pmK anK cdvK ctK) ["one", "other"] ["other", "one"] (fun us ws => us ++ ws.reverse) (fun vs zs => vs ++ zs.reverse) := kb_sb
  refine fn2_of lk hcd sc_law (fun vs H Q E h => ?_) fun A outer sh H vs Q hr h => ?_
  · obtain ⟨a, ns, rfl, _⟩ := h; rfl
  · obtain ⟨a, ns0, rfl, ha, hT, k⟩ := h
    refine ⟨_, (pss2_cons (ps2_of (fun _ _ z => z) (ps_set (i := 1) sc_law.nd rfl (by first | exact Or.inl rfl | exact Or.inr rfl) (C8.pe_c c_law_bag hr (by omega) rfl (pa_cons (pv 0) pa_nil))))
      (pss2_cons (ps2_for (fun _ _ z => z) rfl (pi_range1 (by rfl) T.n_range (pa_cons pe_int pa_nil)) (pg_name (i := 2) sc_law.nd rfl (by first | exact Or.inl rfl | exact Or.inr rfl)) (pss2_cons (ps2_of (fun _ _ z => z) (ps_set (i := 3) sc_law.nd rfl (by first | exact Or.inl rfl | exact Or.inr rfl) (pe_cI (([], 0, 0) : List Int × Addr × Addr) c_law_of hr (by omega) rfl (pa_cons (pv 1) (pa_cons (pe_lst (pa_cons (pe_cI (([], 0, 0) : List Int × Addr × Addr) c_law_owners hr (by omega) rfl (pa_cons (pv 1) pa_nil)) (pa_cons (pe_lst (pa_cons pe_str (pa_cons pe_str (pa_cons pe_str pa_nil)))) (pa_cons (pe_lst (pa_cons pe_str pa_nil)) pa_nil)))) pa_nil)))))
      (pss2_cons (ps2_of (fun _ _ z => z) (ps_set (i := 4) sc_law.nd rfl (by first | exact Or.inl rfl | exact Or.inr rfl) (pe_cI (([], 0, 0) : List Int × Addr × Addr) c_law_of hr (by omega) rfl (pa_cons (pv 1) (pa_cons (pe_lst (pa_cons (pe_cI (([], 0, 0) : List Int × Addr × Addr) c_law_regular hr (by omega) rfl (pa_cons (pv 1) (pa_cons (pv 3) pa_nil))) (pa_cons (pe_cI (([], 0, 0) : List Int × Addr × Addr) c_law_tree hr (by omega) rfl (pa_cons (pv 1) (pa_cons (pv 3) (pa_cons pe_int (pa_cons pe_int pa_nil))))) (pa_cons (pe_cI (([], 0, 0) : List Int × Addr × Addr) c_law_tree hr (by omega) rfl (pa_cons (pv 1) (pa_cons (pv 3) (pa_cons pe_int (pa_cons pe_int pa_nil))))) pa_nil)))) pa_nil)))))
      (pss2_cons (ps2_of (fun _ _ z => z) (ps_set (i := 5) sc_law.nd rfl (by first | exact Or.inl rfl | exact Or.inr rfl) (pe_cI (([], 0, 0) : List Int × Addr × Addr) c_law_resplit hr (by omega) rfl (pa_cons (pv 1) (pa_cons (pv 4) (pa_cons pe_int pa_nil))))))
      (pss2_cons (ps2_of (fun _ _ z => z) (ps_for PassesOwn.never rfl (pi_range1 (by rfl) T.n_range (pa_cons (pe_cI (([], 0, 0) : List Int × Addr × Addr) c_law_pull hr (by omega) rfl (pa_cons (pv 1) (pa_cons pe_int pa_nil))) pa_nil)) (pg_name (i := 6) sc_law.nd rfl (by first | exact Or.inl rfl | exact Or.inr rfl)) (pss_cons (ps_set (i := 7) sc_law.nd rfl (by first | exact Or.inl rfl | exact Or.inr rfl) (C8.pe_c c_law_outcome hr (by omega) rfl (pa_cons (pv 5) (pa_cons (pe_cI (([], 0, 0) : List Int × Addr × Addr) c_law_drawn_step hr (by omega) rfl (pa_cons (pv 1) (pa_cons (pv 5) pa_nil))) pa_nil))))
      (pss_one (ps_set (i := 5) sc_law.nd rfl (by first | exact Or.inl rfl | exact Or.inr rfl) (pe_ifExp (PW.pt (pw_and (pt_cmpR op_eq (pe_ix ix_tup (pv 7) pe_int (fun _ _ => rfl)) pe_str (nomark _)) (pw_and1 (pt_cmpR op_lt (pe_callB call_len_seq (by rfl) T.n_len (by decide +kernel) (pa_cons (C8.pe_c c_law_ends hr (by omega) rfl (pa_cons (pe_ix ix_tup (pv 7) pe_int (fun _ _ => rfl)) (pa_cons pe_int (pa_cons pe_int pa_nil)))) pa_nil)) pe_int (nomark _))))) (pe_ix ix_tup (pv 7) pe_int (fun _ _ => rfl)) (pv 5)))))))
      (pss2_cons (ps2_of (fun _ _ z => z) (ps_set (i := 8) sc_law.nd rfl (by first | exact Or.inl rfl | exact Or.inr rfl) (pe_callB call_len_seq (by rfl) T.n_len (by decide +kernel) (pa_cons (C8.pe_c c_law_common hr (by omega) rfl (pa_cons (pv 4) (pa_cons (pv 5) pa_nil))) pa_nil))))
      (pss2_cons (ps2_of (fun _ _ z => z) (ps_if (pt_cmpR op_gt (pv 8) pe_int (nomark _)) (pss_one ps_continue) pss_nil))
      (pss2_cons (ps2_for (fun _ _ z => z) rfl (pi_list (pe_lst (pa_cons (pe_tup (pa_cons (pv 4) (pa_cons (pv 5) pa_nil))) (pa_cons (pe_tup (pa_cons (pv 5) (pa_cons (pv 4) pa_nil))) pa_nil)))) (pg_tup (by rfl) (pgs_cons (pg_name (i := 9) sc_law.nd rfl (by first | exact Or.inl rfl | exact Or.inr rfl)) (pgs_cons (pg_name (i := 10) sc_law.nd rfl (by first | exact Or.inl rfl | exact Or.inr rfl)) pgs_nil))) (pss2_cons (ps2_set (i := 11) sc_law.nd rfl (by first | exact Or.inl rfl | exact Or.inr rfl) (pe2_c c_steps_between hr (by omega) rfl (pa2_of (fun _ _ z => z) (pa_cons (pv 9) (pa_cons (pv 10) pa_nil)))))
      (pss2_cons (ps2_of (fun _ _ z => z) (ps_if (PW.pt (pw_or (pt_not (pt_val (pe_callB call_isi (by rfl) T.n_isinstance (by decide +kernel) (pa_cons (pv 11) (pa_cons (pe_bltn (v := .ty "list") (u := .type "list") (by rfl) T.n_list (by decide +kernel) rfl) pa_nil))))) (pw_or1 (pt_not (pt_val (C8.pe_c c_law_replay hr (by omega) rfl (pa_cons (pv 9) (pa_cons (pv 10) (pa_cons (pv 11) (pa_cons (pv 8) pa_nil)))))))))) (pss_one (ps_ret pe_bl)) pss_nil))
      (pss2_one (ps2_if (PW2.pt (pw2_or (pt2_of (fun _ _ z => z) (pt_cmpR (op_neD hr.units) (C8.pe_c c_apply_steps hr (by omega) rfl (pa_cons (pv 9) (pa_cons (pv 11) pa_nil))) (pv 10) (nomark _))) (pw2_or1 (PW2.pt (pt2_cmpR (fun _ _ z => z) (op_neD hr.units) (pe2_callK FK (hr.mono (by omega)) rfl hmK kpK KB pa2_nil (pk2_cons (pe2_of (fun _ _ z => z) (pv 10)) (pk2_cons (pe2_of (fun _ _ z => z) (pv 9)) pk2_nil))) (pe2_of (fun _ _ z => z) (pv 11)) (nomark _)))))) (pss2_one (ps2_of (fun _ _ z => z) (ps_ret pe_bl))) pss2_nil)))))
      (pss2_cut (ps2_if (PW2.pt (pw2_and (PW2.pt (pt2_cmpR (fun _ _ z => z) (op_neD hr.units) (pe2_c c_steps_between hr (by omega) rfl (pa2_of (fun _ _ z => z) (pa_cons (pv 4) (pa_cons (pv 4) pa_nil)))) (pe2_of (fun _ _ z => z) (pe_lst pa_nil)) (nomark _))) (pw2_and1 (pt2_not (pt2_val (pe2_c c_law_replay2 hr (by omega) rfl (pa2_cons (pe2_of (fun _ _ z => z) (pv 4)) (pa2_cons (pe2_of (fun _ _ z => z) (pv 4)) (pa2_cons (pe2_c c_steps_between hr (by omega) rfl (pa2_of (fun _ _ z => z) (pa_cons (pv 4) (pa_cons (pv 4) pa_nil)))) (pa2_cons (pe2_of (fun _ _ z => z) (pe_callB call_len_seq (by rfl) T.n_len (by decide +kernel) (pa_cons (C8.pe_c c_law_ends hr (by omega) rfl (pa_cons (pv 4) (pa_cons pe_int (pa_cons pe_int pa_nil)))) pa_nil))) pa2_nil)))))))))) (pss2_one (ps2_of (fun _ _ z => z) (ps_ret pe_bl))) pss2_nil)
      (pss2_one (ps2_if (PW2.pt (pw2_or (PW2.pt (pt2_cmpR (fun _ _ z => z) op_ne (pe2_callB (fun _ _ z => z) call_len_seq (by rfl) T.n_len (by decide +kernel) (pa2_cons (pe2_c c_common hr (by omega) rfl (pa2_of (fun _ _ z => z) (pa_cons (pv 4) (pa_cons (pv 5) pa_nil)))) pa2_nil)) (pe2_of (fun _ _ z => z) (pv 8)) (nomark _))) (pw2_or1 (PW2.pt (pt2_cmpR (fun _ _ z => z) op_notBl (pe2_c c_is_equal hr (by omega) rfl (pa2_of (fun _ _ z => z) (pa_cons (pv 4) (pa_cons (pv 5) pa_nil)))) (pe2_of (fun _ _ z => z) pe_bl) (nomark _)))))) (pss2_one (ps2_of (fun _ _ z => z) (ps_ret pe_bl))) pss2_nil)))))))))))
      (pss2_one (ps2_ret (pe2_cmpR (fun _ _ z => z) (op_eqD hr.units) (pe2_c c_steps_between hr (by omega) rfl (pa2_of (fun _ _ z => z) (pa_cons (pe_tup (pa_cons pe_str (pa_cons pe_str pa_nil))) (pa_cons pe_str pa_nil)))) (pe2_of (fun _ _ z => z) (pe_lst (pa_cons (pe_tup (pa_cons pe_str (pa_cons (pe_tup pa_nil) pa_nil))) pa_nil))) (nomark _)))))), ?_⟩
    have hz5 := size5
    refine ⟨_, rfl, a, ns0, rfl, ha, fun B S ns H1 s1 hB1 => ?_⟩
    refine ⟨3, rfl, by omega, by omega, ?_⟩
    refine for_range (lo := 0) (fun i σ H' => LamX.Tabs (TabC Pt) H' ∧ BagAt K ns B S H' ∧ ∃ z2 z3 z4 z5 z6 z7 z8 z9 z10 z11, σ = [some (.ref a), some (.ref B), z2, z3, z4, z5, z6, z7, z8, z9, z10, z11]) ⟨hT.ext s1, hB1, _, _, _, _, _, _, _, _, _, _, rfl⟩ ?_ ?_
    · rintro i σ H2 hi ⟨hT2, hB2, z2, z3, z4, z5, z6, z7, z8, z9, z10, z11, rfl⟩
      rw [Int.zero_add]
      -- the pool
      refine ⟨_, rfl, _, rfl, ⟨(ns, B, S), rfl, hB2, fun p1 n1 H3 k3 hB3 hp1B hp1 hn1 hn2 => ?_⟩⟩
      refine ⟨by show 3 ≤ sizeLine; rw [sizeLine_eq]; decide, fun l1 hl1 => ?_⟩
      have s4 := Same.upd (o := .lst [.str "a", .str "a", .str "b"]) hl1
      refine ⟨by show 1 ≤ sizeLine; rw [sizeLine_eq]; decide, fun l2 hl2 => ?_⟩
      have s5 := Same.upd (o := .lst [.str "a"]) hl2
      refine ⟨by show 3 ≤ sizeLine; rw [sizeLine_eq]; decide, fun l3 hl3 => ?_⟩
      have s6 := Same.upd (o := .lst [.ref p1, .ref l1, .ref l2]) hl3
      have s46 := (s4.trans s5).trans s6
      have hB6 := hB3.same s46
      have eL1 := s6 _ _ (s5 _ _ (upd_same (H := H3) (a := l1) (o := .lst [.str "a", .str "a", .str "b"])))
      have eL2 := s6 _ _ (upd_same (H := upd H3 l1 (.lst [.str "a", .str "a", .str "b"])) (a := l2) (o := .lst [.str "a"]))
      refine ⟨(ns, B, S), l3, _, rfl, (hB3.same (s4.trans s5)).bne hl3, .inl (SqL.of upd_same), by simp, by simp, hB6, fun x H7 hx k7 hB7 => ?_⟩
      have hpool : ∃ (pl : Addr) (m : Nat), x = .ref pl ∧ pl ≠ B ∧ 1 ≤ m ∧ m ≤ 1000 ∧ TxtsAt H7 pl m := by
        have oka : PyData.strOk "a" = true := by decide +kernel
        have okb : PyData.strOk "b" = true := by decide +kernel
        simp only [List.mem_cons, List.not_mem_nil, or_false] at hx
        rcases hx with rfl | rfl | rfl
        · exact ⟨p1, n1, rfl, hp1B, hn1, by omega, hp1.kept ((Same.keptB s46).trans k7) hp1B⟩
        · refine ⟨l1, 3, rfl, hB3.bne hl1, by omega, by omega, _, k7 _ _ (hB3.bne hl1) eL1, rfl, fun x hx => ?_⟩
          simp only [List.mem_cons, List.not_mem_nil, or_false] at hx
          rcases hx with rfl | rfl | rfl
          · exact ⟨_, rfl, oka⟩
          · exact ⟨_, rfl, oka⟩
          · exact ⟨_, rfl, okb⟩
        · refine ⟨l2, 1, rfl, (hB3.same s4).bne hl2, by omega, by omega, _, k7 _ _ ((hB3.same s4).bne hl2) eL2, rfl, fun x hx => ?_⟩
          rw [List.mem_singleton.mp hx]
          exact ⟨_, rfl, oka⟩
      obtain ⟨pl, m, rfl, hplB, hm1, hm2, hpl⟩ := hpool
      have hT7 := hB6.tabs (hB3.tabs (hB2.tabs hT2 k3) (Same.keptB s46)) k7
      clear hx eL1 eL2 hp1
      -- the first tree
      refine ⟨_, rfl, _, rfl, _, rfl, ⟨(ns, B, S), pl, m, rfl, hpl, hm1, hm2, hplB, hB7, fun v1 t1 H8 k8 hB8 hv1 hs1 hlev1 hms1 => ?_⟩⟩
      refine ⟨_, rfl, _, rfl, (ns, B, S), pl, m, 3, 3, rfl, hpl.kept k8 hplB, hm1, hm2, hplB, by decide, by decide, by decide, by decide, hB8, fun v2 t2 H9 k9 hB9 hv2 hs2 hlev2 hms2 => ?_⟩
      refine ⟨_, rfl, _, rfl, (ns, B, S), pl, m, 2, 6, rfl, hpl.kept (k8.trans k9) hplB, hm1, hm2, hplB, by decide, by decide, by decide, by decide, hB9, fun v3 t3 H10 k10 hB10 hv3 hs3 hlev3 hms3 => ?_⟩
      refine ⟨by show 3 ≤ sizeLine; rw [sizeLine_eq]; decide, fun l4 hl4 => ?_⟩
      have s11 := Same.upd (o := .lst [v1, v2, v3]) hl4
      have hB11 := hB10.same s11
      refine ⟨(ns, B, S), l4, _, rfl, hB10.bne hl4, .inl (SqL.of upd_same), by simp, by simp, hB11, fun va H12 hx k12 hB12 => ?_⟩
      have hT12 := hB11.tabs (hB10.tabs (hB9.tabs (hB8.tabs (hB7.tabs hT7 k8) k9) k10) (Same.keptB s11)) k12
      have hone : ∃ t : Td.T, TVn K H12 t va ∧ t.sok ∧ t.lev ≤ 3 ∧ t.ms ≤ 64 := by
        have l12 := TLe.trans (Same.tle (K := K) s11) (k12.tle hB11)
        have l10 := TLe.trans (k10.tle hB9) l12
        have l9 := TLe.trans (k9.tle hB8) l10
        simp only [List.mem_cons, List.not_mem_nil, or_false] at hx
        rcases hx with rfl | rfl | rfl
        · exact ⟨t1, hv1.le l9, hs1, hlev1, hms1⟩
        · exact ⟨t2, hv2.le l10, hs2, hlev2, Nat.le_trans hms2 (by decide)⟩
        · exact ⟨t3, hv3.le l12, hs3, by omega, Nat.le_trans hms3 (by decide)⟩
      obtain ⟨a1, hva, hsa, hla, hma⟩ := hone
      have hca : a1.cnt ≤ 64 := Nat.le_trans (cnt_le_ms _ hva.ok) hma
      clear hx hv1 hv2 hv3 hs1 hs2 hs3 hlev1 hlev2 hlev3 hms1 hms2 hms3
      -- the other tree
      refine ⟨_, rfl, _, rfl, (ns, B, S), a1, va, rfl, hva, by omega, by omega, hB12, fun vb b1 H13 k13 hB13 hvb hob hcb hlb hmb => ?_⟩
      have hT13 := hB12.tabs hT12 k13
      have hva13 := hva.le (k13.tle hB12)
      refine ⟨_, rfl, (ns, B, S), 4, rfl, by omega, by omega, hB13, fun m4 H14 hm4 k14 hB14 => ?_⟩
      refine ⟨_, rfl, by omega, by omega, ?_⟩
      rw [Int.toNat_natCast]
      refine for_range (lo := 0) (fun i σ H' => i ≤ m4 ∧ LamX.Tabs (TabC Pt) H' ∧ BagAt K ns B S H' ∧ ∃ (vb : V) (b1 : Td.T) (y2 y3 y6 y7 y8 y9 y10 y11 : Option V), σ = [some (.ref a), some (.ref B), y2, y3, some va, some vb, y6, y7, y8, y9, y10, y11] ∧ TVn K H' a1 va ∧ TVn K H' b1 vb ∧ (∀ n, a1.own n = b1.own n) ∧ b1.cnt ≤ 90 ∧ b1.lev ≤ 15 + i ∧ b1.ms ≤ a1.ms * 125 * 5 ^ i)
        ⟨Nat.zero_le _, hB13.tabs hT13 k14, hB14, vb, b1, _, _, _, _, _, _, _, _, rfl, hva13.le (k14.tle hB13), hvb.le (k14.tle hB13), hob, hcb, hlb, by rw [Nat.pow_zero, Nat.mul_one]; exact hmb⟩ ?_ ?_
      · clear hob hcb hlb hmb hvb
        rintro j σ H15 hj ⟨_, hT15, hB15, vb, b1, y2, y3, y6, y7, y8, y9, y10, y11, rfl, hva15, hvb, hob, hcb, hlb, hmb⟩
        have hsb : b1.sok := sok_of_own hva15.ok hvb.ok hob hsa
        refine ⟨_, rfl, _, rfl, _, rfl, (ns, B, S), b1, vb, rfl, hvb, hsb, by omega, by omega, hB15, fun sv s u H16 k16 hB16 hsv hpart hfac hpl => ?_⟩
        have l16 := k16.tle hB15
        refine ⟨b1, u, vb, sv, s, rfl, hvb.le l16, hsv, hpart, hsb, by omega, by omega, hpl, by omega, fun Ta z x H17 s17 hTa hval => ?_⟩
        have hT17 := (hB15.tabs hT15 k16).ext s17
        have hB17 := hB16.same s17
        have hva17 := hva15.le (TLe.trans l16 (Same.tle s17))
        have hvb17 := hvb.le (TLe.trans l16 (Same.tle s17))
        have hgrow : b1.ms ≤ a1.ms * 125 * 5 ^ (j + 1) := by
          rw [Nat.pow_succ, ← Nat.mul_assoc]; omega
        refine ⟨_, rfl, Ta, _, _, _, rfl, rfl, SqT.of hTa, atI_nat (j := 0) rfl, rfl, _, rfl, ite2 (fun c => ?_) fun c => ?_⟩
        · have hz : z = "value" := V.str.inj (of_decide_eq_true c)
          obtain ⟨u', hc, hvx, _, _⟩ := hval hz
          obtain ⟨q1, q2, q3, q4, q5⟩ := put_facts hvb.ok hpart hc
          refine ⟨_, rfl, Ta, _, _, _, rfl, rfl, SqT.of hTa, atI_nat (j := 1) rfl, b1.put s.path u', x, 0, 1, rfl, hvx, by omega, fun pa xs H18 s18 hpa hxs hR => ?_⟩
          have hl := hR.len
          rw [ends_len] at hl
          have hT18 := hT17.ext s18
          have hB18 := hB17.same s18
          have hva18 := hva17.le (Same.tle s18)
          refine ⟨pa, xs, rfl, .inl (SqL.of hxs), _, _, rfl, rfl, _, rfl, ite2 (fun c2 => ?_) fun c2 => ?_⟩
          · have c2 : ((xs.length : Nat) : Int) < 90 := by simpa using c2
            refine ⟨_, rfl, Ta, _, _, _, rfl, rfl, SqT.of (s18 _ _ hTa), atI_nat (j := 1) rfl, by omega, hT18, hB18, x, b1.put s.path u', _, _, _, _, _, _, _, _, rfl, hva18, hvx.le (Same.tle s18), fun n => (hob n).trans (q4 n), by omega, by omega, ?_⟩
            rw [Nat.pow_succ, ← Nat.mul_assoc]
            exact Nat.le_trans q5 (Nat.mul_le_mul hmb hfac)
          · exact ⟨_, rfl, by omega, hT18, hB18, vb, b1, _, _, _, _, _, _, _, _, rfl, hva18, hvb17.le (Same.tle s18), hob, hcb, by omega, hgrow⟩
        · exact ⟨_, rfl, by omega, hT17, hB17, vb, b1, _, _, _, _, _, _, _, _, rfl, hva17, hvb17, hob, hcb, by omega, hgrow⟩
      · clear hob hcb hlb hmb hvb
        rintro σ H15 ⟨_, hT15, hB15, vb, b1, y2, y3, y6, y7, y8, y9, y10, y11, rfl, hva15, hvb, hob, hcb, hlb, hmb⟩
        have hsb : b1.sok := sok_of_own hva15.ok hvb.ok hob hsa
        have hmb : b1.ms ≤ 1000000 := by
          have h1 : (5 : Nat) ^ m4 ≤ 5 ^ 3 := Nat.pow_le_pow_right (by omega) (by omega)
          have h2 : a1.ms * 125 * 5 ^ m4 ≤ 64 * 125 * 125 := Nat.mul_le_mul (Nat.mul_le_mul_right _ hma) h1
          omega
        have tva : TVb K H15 a1 va := ⟨hva15, by omega, by omega⟩
        have tvb : TVb K H15 b1 vb := ⟨hvb, by omega, by omega⟩
        have hkb : TkB b1 := tkb_of hvb.ok (by omega) (by omega)
        have hka : TkB a1 := tkb_of hva15.ok (by omega) (by omega)
        have hsmall : (cmn a1 b1).length ≤ 100000 := Nat.le_trans (cmn_small hvb.ok) (Nat.le_trans (Nat.mul_le_mul hca hcb) (by decide))
        -- how many there are
        refine ⟨_, rfl, _, rfl, a1, b1, va, vb, rfl, tva, tvb, hsmall, hkb, fun H16 p ys s16 hp hyl => ?_⟩
        have hT16 := hT15.ext s16
        have hB16 := hB15.same s16
        refine ⟨p, ys, rfl, .inl (SqL.of hp), ?_⟩
        refine ⟨_, rfl, _, _, rfl, rfl, _, rfl, ite2 (fun c => ?_) fun c => ?_⟩
        · exact ⟨hT16, hB16, _, _, _, _, _, _, _, _, _, _, rfl⟩
        have hN : (cmn a1 b1).length ≤ 150 := by
          have c : ¬ (150 : Int) < ((ys.length : Nat) : Int) := by simpa using c
          omega
        have hown' : ∀ n, b1.own n = a1.own n := fun n => (hob n).symm
        have hms : a1.ms * b1.ms ≤ B26 := Nat.le_trans (Nat.mul_le_mul hma hmb) (by decide)
        obtain ⟨ss1, hSB1, hTr1, hl1⟩ := sb_ex hva15.ok hvb.ok hob hms (N := (cmn a1 b1).length) (by omega) rfl
        obtain ⟨ss2, hSB2, hTr2, hl2⟩ := sb_ex (N := (cmn a1 b1).length) hvb.ok hva15.ok hown' (by rw [Nat.mul_comm]; exact hms) (by omega) (cmn_comm hva15.ok hvb.ok hob)
        obtain ⟨ss3, hSB3, hTr3, hl3⟩ := sb_ex (N := a1.cnt) hva15.ok hva15.ok (fun _ => rfl) (Nat.le_trans (Nat.mul_le_mul hma hma) (by decide)) (by omega) (cmn_self hva15.ok)
        have h2z : ∀ x y : V, [x, y].length ≤ sizeLine := fun _ _ => by show 2 ≤ sizeLine; rw [sizeLine_eq]; decide
        refine ⟨_, rfl, _, rfl, h2z va vb, fun q1 hq1 => ?_⟩
        have s17 := Same.upd (o := .tup [va, vb]) hq1
        refine ⟨_, rfl, _, rfl, h2z vb va, fun q2 hq2 => ?_⟩
        have s18 := Same.upd (o := .tup [vb, va]) hq2
        refine ⟨h2z va vb, fun L hL => ?_⟩
        have s19 := Same.upd (o := .lst [.ref q1, .ref q2]) hL
        have s1519 := s16.trans ((s17.trans s18).trans s19)
        have tva19 := tva.le (Same.tle s1519)
        have tvb19 := tvb.le (Same.tle s1519)
        have hT19 := hT15.ext s1519
        have hB19 := hB15.same s1519
        have e1 := s19 _ _ (s18 _ _ (upd_same (H := H16) (a := q1) (o := .tup [va, vb])))
        have e2 := s19 _ _ (upd_same (H := upd H16 q1 (.tup [va, vb])) (a := q2) (o := .tup [vb, va]))
        have eL := upd_same (H := upd (upd H16 q1 (.tup [va, vb])) q2 (.tup [vb, va])) (a := L) (o := .lst [.ref q1, .ref q2])
        clear s1519
        generalize upd (upd (upd H16 q1 (.tup [va, vb])) q2 (.tup [vb, va])) L (.lst [.ref q1, .ref q2]) = H19 at tva19 tvb19 hT19 hB19 e1 e2 eL s19 ⊢
        refine ⟨L, rfl, ⟨_, SqL.of eL⟩, for_it (walk_list (xs := [V.ref q1, V.ref q2])) (fun i σ H' => LamX.ExtN H19 H' ∧ LamX.Tabs (TabC Pt) H' ∧ ∃ y2 y3 y6 y7 y9 y10 y11, σ = [some (.ref a), some (.ref B), y2, y3, some va, some vb, y6, y7, some (.int (ys.length : Nat)), y9, y10, y11])
          ⟨.refl _, hT19, _, _, _, _, _, _, _, rfl⟩ (fun i σ H' _ p => SqL.of (p.1 _ _ eL (fun ps z => by cases z))) ?_ ?_⟩
        · rintro i x σ Hx H20 hi ⟨e20, hT20, y2, y3, y6, y7, y9, y10, y11, rfl⟩ ⟨rfl, hx⟩
          have hpair : ∃ (q : Addr) (a b : Td.T) (v u : V) (ss : List Stp), x = .ref q ∧ H19 q = some (.tup [v, u]) ∧ TVb K H19 a v ∧ TVb K H19 b u ∧ TkB a ∧ TkB b ∧ SB a b ss ∧ Tr ys.length a ss b ∧ ss.length ≤ 90000 ∧ a.sok ∧ b.sok ∧ a.cnt ≤ 90 ∧ 0 < (cmn a b).length := by
            have : i = 0 ∨ i = 1 := by simp at hi; omega
            rcases this with rfl | rfl
            · have hx : x = .ref q1 := by simpa using hx.symm
              exact ⟨q1, a1, b1, va, vb, ss1, hx, e1, tva19, tvb19, hka, hkb, hSB1, by rw [hyl]; exact hTr1, hl1, hsa, hsb, by omega, cmn_pos hva15.ok hvb.ok⟩
            · have hx : x = .ref q2 := by simpa using hx.symm
              exact ⟨q2, b1, a1, vb, va, ss2, hx, e2, tvb19, tva19, hkb, hka, hSB2, by rw [hyl]; exact hTr2, hl2, hsb, hsa, hcb, cmn_pos hvb.ok hva15.ok⟩
          obtain ⟨q, aa, bb, v, u, ss, rfl, hq, tv, tu, hkaa, hkbb, hSB, hTr, hssl, hsaa, hsbb, hcaa, hpos⟩ := hpair
          have tv20 := tv.le (extN_tle e20)
          have tu20 := tu.le (extN_tle e20)
          refine ⟨q, _, rfl, SqT.of (e20 _ _ hq (fun ps z => by cases z)), rfl, _, _, rfl, _, _, rfl, rfl, ?_⟩
          refine ⟨_, rfl, _, rfl, aa, bb, ss, v, u, rfl, tv20, tu20, hkaa, hkbb, hSB, by omega, hpos, hT20, fun H21 p xs e21 hT21 hp hsv => ?_⟩
          have tv21 := tv20.le (extN_tle e21)
          have tu21 := tu20.le (extN_tle e21)
          refine ⟨_, rfl, _, _, _, _, true, rfl, .ty "list", .base (.lst hp), kit_ty (by decide +kernel), _, rfl, iteF ?_⟩
          refine ⟨_, rfl, _, rfl, _, rfl, _, rfl, aa, bb, ss, v, u, p, xs, ys.length, ys.length, rfl, tv21.tv, tu21.tv, hp, hsv, hTr, Nat.le_refl _, by omega, by omega, tv.lev, hsaa, hsbb, tu.lev, fun H22 s22 => ?_⟩
          refine ⟨_, rfl, iteF ?_⟩
          have tv22 := tv21.le (Same.tle s22)
          have tu22 := tu21.le (Same.tle s22)
          have hp22 := s22 _ _ hp
          have hsv22 := Ds.le (Same.tle (K := K) s22) _ _ hsv
          have hT22 := hT21.ext s22
          have hlen := hsv.length
          rw [List.length_map] at hlen
          refine ⟨_, rfl, _, rfl, aa, bb, v, p, ss, xs, rfl, tv22.tv, SqL.of hp22, hlen, fun i s x e1 e2 => ?_, hTr.run, fun v' H23 s23 hv' => ?_⟩
          · obtain ⟨d, hd, hx⟩ := Ds.get hsv22 e2
            rw [List.getElem?_map, e1] at hd
            cases hd
            exact hx
          have tv23 := tv22.le (Same.tle s23)
          have tu23 := tu22.le (Same.tle s23)
          have hp23 := s23 _ _ hp22
          have hsv23 := Ds.le (Same.tle (K := K) s23) _ _ hsv22
          have hT23 := hT22.ext s23
          refine ⟨_, rfl, bb.enc, bb.enc, Td.D.dp _ _ hv'.tv, Td.D.dp _ _ tu23.tv.tv, enc_shaped hsbb (by have := tu.lev; omega), enc_shaped hsbb (by have := tu.lev; omega), _, rfl, ite2 (fun h => absurd h (by rw [enc_self hsbb]; decide)) fun _ => ?_⟩
          refine ⟨_, rfl, _, rfl, aa, bb, ss, v, u, rfl, tv23, tu23, hkaa, hkbb, hSB, by omega, hpos, hT23, fun H24 p2 xs2 e24 hT24 hp2 hsv2 => ?_⟩
          have hp24 := e24 _ _ hp23 (fun ps z => by cases z)
          have hsv24 := Ds.le (extN_tle (K := K) e24) _ _ hsv23
          refine ⟨_, rfl, .list (ss.map Stp.dat), .list (ss.map Stp.dat), .lst (SqL.of hp2) (Td.Ds.dp _ _ hsv2), .lst (SqL.of hp24) (Td.Ds.dp _ _ hsv24), dats_shaped ss, dats_shaped ss, _, rfl, ite2 (fun h => absurd h (by rw [dats_self]; decide)) fun _ => ?_⟩
          exact ⟨e20.trans (e21.trans ((ExtN.same (s22.trans s23)).trans e24)), hT24, _, _, _, _, _, _, _, rfl⟩
        · rintro σ H20 ⟨e20, hT20, y2, y3, y6, y7, y9, y10, y11, rfl⟩
          have tva20 := tva19.le (extN_tle e20)
          have tvb20 := tvb19.le (extN_tle e20)
          refine ⟨fun σ H' => LamX.ExtN H19 H' ∧ LamX.Tabs (TabC Pt) H' ∧ ∃ y2 y3 y6 y7 y9 y10 y11, σ = [some (.ref a), some (.ref B), y2, y3, some va, some vb, y6, y7, some (.int (ys.length : Nat)), y9, y10, y11], ?_, ?_⟩
          · refine ⟨_, rfl, _, rfl, a1, a1, ss3, va, va, rfl, tva20, tva20, hka, hka, hSB3, by omega, cmn_pos hva15.ok hva15.ok, hT20, fun H21 p xs e21 hT21 hp hsv => ?_⟩
            refine ⟨Nat.zero_le _, fun l hl => ?_⟩
            have s22 := Same.upd (o := .lst []) hl
            have e22 : LamX.ExtN H20 _ := e21.trans (ExtN.same s22)
            have hT22 := hT21.ext s22
            have tva22 := tva20.le (extN_tle e22)
            refine ⟨.list (ss3.map Stp.dat), .list [], .lst (SqL.of (s22 _ _ hp)) (Td.Ds.dp _ _ (Td.Ds.le (Same.tle s22) _ _ hsv)), .lst (SqL.of upd_same) .nil, dats_shaped ss3, by decide, _, rfl, ?_⟩
            refine ite2 (fun _ => ?_) fun _ => ?_
            · refine ⟨_, rfl, _, rfl, _, rfl, _, rfl, a1, a1, ss3, va, va, rfl, tva22, tva22, hka, hka, hSB3, by omega, cmn_pos hva15.ok hva15.ok, hT22, fun H23 p2 xs2 e23 hT23 hp2 hsv2 => ?_⟩
              have tva23 := tva22.le (extN_tle e23)
              refine ⟨_, rfl, a1, va, 0, 1, rfl, tva23.tv, by omega, fun pa ws H24 s24 hpa hws hR => ?_⟩
              have hwl := hR.len
              rw [ends_len] at hwl
              refine ⟨pa, ws, rfl, .inl (SqL.of hws), ?_⟩
              refine ⟨a1, a1, ss3, va, va, p2, xs2, a1.cnt, ws.length, rfl, (tva23.le (Same.tle s24)).tv, (tva23.le (Same.tle s24)).tv, s24 _ _ hp2, Ds.le (Same.tle (K := K) s24) _ _ hsv2, hTr3, by omega, by omega, by omega, by omega, hsa, hsa, by omega, fun H25 s25 => ?_⟩
              refine ⟨_, rfl, iteF ?_⟩
              exact ⟨e20.trans (e22.trans (e23.trans (ExtN.same (s24.trans s25)))), (hT23.ext s24).ext s25, _, _, _, _, _, _, _, rfl⟩
            · exact ⟨e20.trans e22, hT22, _, _, _, _, _, _, _, rfl⟩
          · clear e20 hT20 tva20 tvb20 y2 y3 y6 y7 y9 y10 y11
            rintro σ H20 ⟨e20, hT20, y2, y3, y6, y7, y9, y10, y11, rfl⟩
            have tva20 := tva19.le (extN_tle e20)
            have tvb20 := tvb19.le (extN_tle e20)
            refine ⟨_, rfl, _, rfl, a1, b1, va, vb, rfl, tva20, tvb20, hsmall, hT20, hkb, fun H21 p zs e21 hT21 hp hzl hzs => ?_⟩
            refine ⟨p, zs, rfl, .inl (SqL.of hp), ?_⟩
            refine ⟨_, rfl, rfl, _, rfl, ite2 (fun h => absurd h (by rw [hzl, hyl]; simp)) fun _ => ?_⟩
            refine ⟨_, rfl, _, rfl, a1, b1, va, vb, rfl, tva20.le (extN_tle e21), tvb20.le (extN_tle e21), eq_rows hva15.ok hvb.ok hob, hkb, fun H22 s22 => ?_⟩
            refine ⟨true, true, rfl, rfl, _, rfl, ite2 (fun h => absurd h (by decide)) fun _ => ?_⟩
            exact ⟨(hT21.ext s22), (hB19.extN (e20.trans (e21.trans (ExtN.same s22)))), _, _, _, _, _, _, _, _, _, _, rfl⟩
    · rintro σ H2 ⟨hT2, hB2, z2, z3, z4, z5, z6, z7, z8, z9, z10, z11, rfl⟩
      refine ⟨by show 2 ≤ sizeLine; rw [sizeLine_eq]; decide, fun q1 hq1 => ?_⟩
      have s3 := Same.upd (o := .tup [.str "a", .str "a"]) hq1
      have tv1 : TVb K (upd H2 q1 (.tup [.str "a", .str "a"])) one0 (.ref q1) := by
        refine ⟨⟨tv_node.mpr ⟨q1, _, rfl, SqT.of upd_same, TVs.of_get rfl fun i t x e1 e2 => ?_⟩, one0_ok, by have := one0_cnt; omega⟩, by have := one0_lev; omega, by have := one0_ms; omega⟩
        have hi : i < 2 := (List.getElem?_eq_some_iff.mp e1).1
        rw [one0_get i hi] at e1
        cases e1
        have : i = 0 ∨ i = 1 := by omega
        rcases this with rfl | rfl <;> (cases e2; exact tv_leaf.mpr rfl)
      have tv2 : TVb K (upd H2 q1 (.tup [.str "a", .str "a"])) two0 (.str "a") := ⟨⟨tv_leaf.mpr rfl, two0_ok, by have := two0_cnt; omega⟩, by have := two0_lev; omega, by have := two0_ms; omega⟩
      refine ⟨one0, two0, _, _, _, rfl, tv1, tv2, tkb_of one0_ok tv1.tv.big tv1.lev, tkb_of two0_ok tv2.tv.big tv2.lev, sb_last, by simp, cmn_pos one0_ok two0_ok, hT2.ext s3, fun H4 p xs e4 hT4 hp hsv => ?_⟩
      refine ⟨Nat.zero_le _, fun q2 hq2 => ?_⟩
      have s5 := Same.upd (o := .tup []) hq2
      refine ⟨by show 2 ≤ sizeLine; rw [sizeLine_eq]; decide, fun q3 hq3 => ?_⟩
      have s6 := Same.upd (o := .tup [.str "gather", .ref q2]) hq3
      refine ⟨by show 1 ≤ sizeLine; rw [sizeLine_eq]; decide, fun q4 hq4 => ?_⟩
      have s7 := Same.upd (o := .lst [.ref q3]) hq4
      have s57 := (s5.trans s6).trans s7
      have hw2 : SV K _ ⟨.gath, []⟩ (.ref q3) := sv_of (K := K) (s := ⟨.gath, []⟩) (Same.tle s7 _ _ (SqT.of upd_same)) (pv_of (p := []) (Same.tle (s6.trans s7) _ _ (SqT.of upd_same)))
      have hw3 : SVs K _ [⟨.gath, []⟩] [.ref q3] := ds_cons hw2 ds_nil
      refine ⟨.list ([(⟨.gath, []⟩ : Stp)].map Stp.dat), .list ([(⟨.gath, []⟩ : Stp)].map Stp.dat), .lst (SqL.of (s57 _ _ hp)) (Td.Ds.dp _ _ (Td.Ds.le (Same.tle s57) _ _ hsv)), .lst (SqL.of upd_same) (Td.Ds.dp _ _ hw3), dats_shaped _, dats_shaped _, ?_⟩
      rw [dats_self]
      exact k _
end
end Td
end

section
set_option maxHeartbeats 1000000
/-! TdWalk2: the goal that the head leaves, with the table of one code object. -/
namespace Td
open PySem PySem.Spec PyProof.Rows PySem.W PySem.Calls L2
theorem tab_call2 {P : Program} {w : World} {K : PySem.W.Frag} {mg mb : Str → Option Value} {k : Nat} {fa a c Pt : Addr} {fd : FuncData} {x : Str} {sp : Sp} {s₁ : Shared} {vs : List Value} {ns : List Int}
    (KX : K.In s₁.heap) (hns : s₁.heap.Ns mainGlobals mg) (hb : s₁.heap.Ns builtinsNs mb) (hbb : ∀ x : Str, x ≠ "__name__" → mb x = bootBuiltins x) (hlim : s₁.heap.NoLimit) (hg : s₁.gens = #[])
    (hT : s₁.heap.get? Pt = some (tabObj #[])) (nT : K.lookup Pt = none) (hC : CodeHd s₁.heap c Pt)
    (hbm : ∃ (bm : Addr) (ob : Obj), mg "__builtins__" = some (.ref bm) ∧ bm ≠ builtinsNs ∧ s₁.heap.get? bm = some ob ∧ ob.cls = .type "module" ∧ ob.dict = some builtinsNs ∧ ob.data = .plain)
    (ha : s₁.heap.get? a = some { cls := .type "list", data := .seq vs.toArray }) (hi : IntsAre vs ns) (hl : ns.length ≤ sizeLine) (hr : Room k callerA)
    (F : ∀ base : Heap, L2.Mod K mg base → LamX.TabB base mg c Pt → FnOk2 P w K mg base k fa fd [x] sp) (hbind : ∀ (s : Shared) (u : Value), BindsTo s fd ⟨[u], []⟩ [(x, u)])
    (hsp : ∀ H : Hp, H Pt = some (.tbl #[]) → SqL K H a (ns.map V.int) → sp [.ref a] H (fun v _ => v = .bl true) fun _ _ _ => False) :
    code2 (model P w) callerA (.call (.ref fa) ⟨[.ref a], []⟩) (fun r s' => r = .ok (.ret (.bool true)) ∧ OldK s₁.heap s'.heap ∧ s'.os = s₁.os ∧ AllBare s'.gens) s₁ := by
  have rv := vals_ints hi
  have lenV := hi.length
  have gst : (stuck s₁).gens = #[] := by unfold stuck; rw [hg]; simp
  have aT : a ≠ Pt := fun z => by
    rw [z, hT] at ha
    have z' := congrArg Obj.data (Option.some.inj ha)
    cases z'
  have core : ∀ H : Hp, H Pt = some (.tbl #[]) → (∀ b, H b = none ∨ b = Pt ∨ ∃ o xs, H b = some (.frz o (.lst xs))) → SqL K H a (ns.map V.int) → HOk P w H s₁.heap → (∀ b, H b ≠ none → b = a ∨ b = Pt) → (H a ≠ none → K.lookup a = none) →
      code2 (model P w) callerA (.call (.ref fa) ⟨[.ref a], []⟩) (fun r s' => r = .ok (.ret (.bool true)) ∧ OldK s₁.heap s'.heap ∧ s'.os = s₁.os ∧ AllBare s'.gens) s₁ := by
    intro H hH hO hS hok hA hK
    have get_of : ∀ {b : Addr} {o : Obj}, s₁.heap.get? b = some o → H b = none → (hidT s₁.heap H).get? b = some o := fun e n => hidT_get e n
    have plainD : ∀ {b : Addr} {o : Obj}, s₁.heap.get? b = some o → (∀ vs n, o.data ≠ .seq vs n) → o.data ≠ .fields #[] → H b = none := fun {b o} e n1 n2 => by
      cases q : H b with
      | none => rfl
      | some u =>
        rcases hA b (by rw [q]; simp) with z | z
        · rw [z, ha] at e; cases e; exact (n1 _ _ rfl).elim
        · rw [z, hT] at e; cases e; exact (n2 rfl).elim
    have dictD : ∀ {b : Addr} {o : Obj} {es : Array DictEntry} {ep : Nat}, s₁.heap.get? b = some o → o.data = .dict es ep → H b = none := fun {b o es ep} e d =>
      plainD e (fun vs n z => by rw [d] at z; cases z) fun z => by rw [d] at z; cases z
    have nsD : ∀ {b : Addr} {m : Str → Option Value}, s₁.heap.Ns b m → (hidT s₁.heap H).Ns b m := fun {b m} ⟨o, es, ep, e, d, r⟩ => ⟨o, es, ep, get_of e (dictD e d), d, r⟩
    have hKb : K.In (hidT s₁.heap H) := fun b o e => get_of (KX b o e) (by
      cases q : H b with
      | none => rfl
      | some u =>
        rcases hA b (by rw [q]; simp) with z | z
        · rw [z] at e q
          rw [hK (by rw [q]; simp)] at e; cases e
        · rw [z, nT] at e; cases e)
    have hM : L2.Mod K mg (hidT s₁.heap H) := ⟨hKb, nsD hns, ⟨mb, nsD hb, hbb⟩, let ⟨mc, q1, q2⟩ := hlim; ⟨mc, nsD q1, q2⟩⟩
    have TB : LamX.TabB (hidT s₁.heap H) mg c Pt := by
      refine ⟨?_, ?_, fun z => ?_⟩
      · obtain ⟨o, us, file, tf, flags, tg, inF, text, tt, q1, r1, r2, r3, r⟩ := hC
        refine ⟨o, us, file, tf, flags, tg, inF, text, tt, get_of q1 (plainD q1 (fun vs n z => ?_) fun z => ?_), r1, r2, r3, r⟩
        · rw [r2] at z; cases z
        · rw [r2] at z; cases z; simp at r3
      · obtain ⟨bm, ob, b1, b2, b3, b4, b5, b6⟩ := hbm
        have nG : bm ≠ mainGlobals := fun q => by
          obtain ⟨o, es, ep, e, hd, _⟩ := hns
          rw [q, e] at b3; cases b3
          rw [hd] at b6; cases b6
        have nP : bm ≠ Pt := fun q => by
          rw [q, hT] at b3; cases b3; cases b6
        refine ⟨bm, ob, b1, b2, nG, nP, get_of b3 (plainD b3 (fun vs n z => ?_) fun z => ?_), b4, b5, b6⟩
        · rw [b6] at z; cases z
        · rw [b6] at z; cases z
      · obtain ⟨o, es, ep, e, hd, _⟩ := hns
        rw [z, hT] at e; cases e; cases hd
    have e0 : Env0 P w K mg (hidT s₁.heap H) callerA [] (stuck s₁) H := ⟨rfl, hM, fun b o e => of_hidT e, Nat.le_of_eq (hidT_size _ _), trivial, fun b hb => absurd (show b ∈ ([] : List Addr) from hb) (by simp), hok, .of_eq gst⟩
    refine c2_mono ((F _ hM TB).run callerA [] s₁ H ⟨[.ref a], []⟩ [.ref a] [.ref a] _ hr e0 (hbind (stuck s₁) (.ref a)) (.cons rfl .nil) (hsp H hH hS)) fun r s' ⟨u, v, H', er, gk, os, un, hok', r', q⟩ => ?_
    subst er
    have q' : v = .bl true := q
    subst q'
    obtain rfl : u = Value.bool true := r'
    have stay : ∀ b o, b ≠ Pt → s₁.heap.get? b = some o → s'.heap.get? b = some o := fun b o nb e => by
      cases q : H b with
      | none => exact un.keep b o e q (by intro z; exact absurd (show b ∈ ([] : List Addr) from z) (by simp)) (by simp)
      | some u =>
        rcases hO b with z | z | ⟨ob, xs, z⟩
        · rw [q] at z; cases z
        · exact absurd z nb
        · have z2 := un.frzs b ob _ z
          obtain ⟨q1, _⟩ := hok b _ z
          obtain ⟨q2, _⟩ := hok' b _ z2
          rw [e] at q1; cases q1
          exact q2
    have more : ∃ m : Array Value, s'.heap.get? Pt = some (tabObj m) := by
      obtain ⟨m, z⟩ := un.tbls Pt #[] hH
      exact ⟨_, hok' Pt _ z⟩
    refine ⟨rfl, ⟨fun b o e => ?_, fun b o e => ?_⟩, os, fun y hy => ?_⟩
    · by_cases z : b = Pt
      · obtain ⟨m, hm⟩ := more
        rw [z] at e ⊢
        rw [hT] at e; cases e
        exact .inr (.inl ⟨(hC.tab hT).isCodeTable, rfl, #[], m, rfl, by rw [Array.empty_append]; exact hm⟩)
      · exact .inl (stay b o z e)
    · by_cases z : b = Pt
      · obtain ⟨m, hm⟩ := more
        rw [z]; exact ⟨_, hm⟩
      · exact ⟨o, stay b o z e⟩
    · cases hb : y.bare with
      | true => rfl
      | false =>
        obtain ⟨n, hn⟩ := Array.getElem?_of_mem hy
        have := gk.loud n y hn hb
        rw [hg] at this
        simp at this
  cases hk : K.lookup a with
  | some o =>
    have e := KX a o hk
    rw [ha] at e
    cases e
    refine core (fun b => if b = Pt then some (.tbl #[]) else none) (if_pos rfl) (fun b => ?_) (.inr ⟨_, vs.toArray, _, hk, rfl, rfl, rfl, by rw [List.size_toArray, lenV]; exact hl, by simpa using rv⟩) (fun b u z => ?_) (fun b z => ?_) fun z => absurd (if_neg aT) z
    · by_cases hb : b = Pt
      · exact .inr (.inl hb)
      · exact .inl (if_neg hb)
    · by_cases hb : b = Pt
      · have z' := (if_pos hb).symm.trans z
        cases z'
        rw [hb]; exact hT
      · have z' := (if_neg hb).symm.trans z
        cases z'
    · by_cases hb : b = Pt
      · exact .inr hb
      · exact absurd (if_neg hb) z
  | none =>
    refine core (fun b => if b = a then some (.frz { cls := .type "list", data := .seq vs.toArray } (.lst (ns.map V.int))) else if b = Pt then some (.tbl #[]) else none) ((if_neg (Ne.symm aT)).trans (if_pos rfl)) (fun b => ?_)
      (.inl (.inr ⟨{ cls := .type "list", data := .seq vs.toArray }, if_pos rfl⟩)) (fun b u z => ?_) (fun b z => ?_) fun _ => hk
    · by_cases hb : b = a
      · exact .inr (.inr ⟨_, _, if_pos hb⟩)
      · by_cases hb2 : b = Pt
        · exact .inr (.inl hb2)
        · exact .inl ((if_neg hb).trans (if_neg hb2))
    · by_cases hb : b = a
      · have z' := (if_pos hb).symm.trans z
        cases z'
        rw [hb]
        exact ⟨ha, by rw [List.length_map]; exact hl, vs, _, rv, ha⟩
      · have z1 := (if_neg hb).symm.trans z
        by_cases hb2 : b = Pt
        · have z' := (if_pos hb2).symm.trans z1
          cases z'
          rw [hb2]; exact hT
        · have z' := (if_neg hb2).symm.trans z1
          cases z'
    · by_cases hb : b = a
      · exact .inl hb
      · by_cases hb2 : b = Pt
        · exact .inr hb2
        · exact absurd ((if_neg hb).trans (if_neg hb2)) z
theorem walk_of2T {l : PySem.W.OpenLaw} {n k : Nat} {q : Program} {loose : List Str} {XP : (Str → Option Value) → Heap → Prop} {YP : World → Heap → Prop} {d : DefRec} {K : Params → PySem.W.Frag} {sp : PySem.W.Frag → Addr → Sp} {x : Str}
    (hn : l.most = some n) (hn2 : n ≤ sizeLine) (hdf : d.params.defaults = []) (hr : Room k callerA)
    (hY : ∀ (w : World) (h : Heap), YP w h → (K w.params).In h)
    (F : ∀ (w : World) (mg : Str → Option Value) (fa : Addr) (h : Heap), YP w h → (K w.params).In h → h.Ns mainGlobals mg → mg d.name = some (.ref fa) →
      ∃ (fd : FuncData) (c Pt : Addr), h.get? Pt = some (tabObj #[]) ∧ CodeHd h c Pt ∧ (K w.params).lookup Pt = none ∧ (∀ (s : Shared) (u : Value), BindsTo s fd ⟨[u], []⟩ [(x, u)]) ∧
        ∀ base : Heap, L2.Mod (K w.params) mg base → LamX.TabB base mg c Pt → FnOk2 l.prog w (K w.params) mg base k fa fd [x] (sp (K w.params) Pt))
    (hsp : ∀ (K : PySem.W.Frag) (Pt : Addr) (H : Hp) (a : Addr) (ns : List Int), ns.length ≤ n → H Pt = some (.tbl #[]) → SqL K H a (ns.map V.int) → sp K Pt [.ref a] H (fun v _ => v = .bl true) fun _ _ _ => False) :
    WalkO2 q loose XP YP l.row.toRowW d [] (fun f vs => PySem.call f vs) := by
  intro w s₀ s₁ mg mb G Y fa o pm cd doc dV kV ho hd hcd hD hmg hg args vals as hpre hlay hrd hwl hlo
  obtain ⟨a, vs, ns, rfl, rfl, hobj, hints, hlen⟩ := Att.script_of hn hpre hwl
  have KX := hY w _ Y
  obtain ⟨fd, c, Pt, hT, hC, hnl, hb, hF⟩ := F w mg fa _ Y KX G.T.g hmg
  refine a2_call (c2_mono (tab_call2 KX G.T.g G.T.b G.T.builtins G.T.nolimit hg hT hnl hC G.T.bmain hobj hints (Nat.le_trans hlen hn2) hr hF hb fun H hH hS => hsp _ _ H a ns hlen hH hS) fun r s' ⟨er, h2, h3, h4⟩ => ?_)
  subst er
  exact ⟨_, rfl, .inl ⟨.bool true, .bool true, [], rfl, fun _ => rfl, .bool true, Att.post_true l _, fun _ => ⟨List.Pairwise.nil, fun _ hm => (nomatch hm)⟩⟩, h2, h3, h4⟩
end Td
end

section
set_option maxHeartbeats 1000000
/-! TdTop: what the top has left, from facts that k_is finds. -/
namespace Td
open PySem PySem.Spec PyProof.Rows PySem.W PySem.Calls L2
section
variable {K : PySem.W.Frag} {h : Heap} {mg : Str → Option Value} {w : World} {x q m : Str} {st : Stmt} {f C T : Addr} {oc kV doc pm cdv ct tc : Value} {od an td : Option Addr} {osl tsl : Array (Option Value)} {its : List Value} {n : Nat} {dvs : List V}
theorem defAt_mk (X : K.In h) (G : h.Ns mainGlobals mg) (a : nsIn K mainGlobals x = some (some (.ref f))) (l : K.lookup f = some ⟨oc, od, .func (fnOf x x (defArgs st) (defBody st) (defScope st) .none kV doc pm an cdv ct), osl⟩) (c : codeIn K cdv x = true) (k : keepIn K (.ref f) = true) : DefAt K mg x st :=
  ⟨⟨f, oc, od, kV, doc, pm, an, cdv, ct, osl, mg_of X G a, l, c, k⟩⟩
theorem genAt_mk (X : K.In h) (G : h.Ns mainGlobals mg) (a : nsIn K mainGlobals x = some (some (.ref f))) (l : K.lookup f = some ⟨oc, od, .func (fnOf x x (defArgs st) (defBody st) (defScope st) (.ref T) kV doc pm an cdv ct), osl⟩) (c : codeIn K cdv x = true) (k : keepIn K (.ref f) = true)
    (t : K.lookup T = some ⟨tc, td, .seq its.toArray n, tsl⟩) (v : Vals dvs its) (ne : dvs ≠ []) : GenAt K mg x st dvs :=
  ⟨⟨f, _, ⟨⟨oc, od, .ref T, kV, doc, pm, an, cdv, ct, osl, rfl, l, c, .inr ⟨ne, T, _, its, n, rfl, t, rfl, v⟩, .inl rfl⟩, k⟩, mg_of X G a⟩⟩
theorem comAt_mk {c : Addr} (X : K.In h) (G : h.Ns mainGlobals mg) (a : nsIn K mainGlobals "common" = some (some (.ref f))) (l : K.lookup f = some ⟨oc, od, .func (fnOf "common" "common" (defArgs (topS 35)) (defBody (topS 35)) (defScope (topS 35)) .none kV doc pm an (.ref c) ct), osl⟩) (cd : codeIn K (.ref c) "common" = true) (k : keepIn K (.ref f) = true) : ComAt K mg c :=
  ⟨⟨f, oc, od, kV, doc, pm, an, ct, osl, mg_of X G a, l, cd, k⟩⟩
theorem methAt_mk (a : findIn K (.ref C) m = some (some (.ref f))) (i : isFn K (.ref f) = true) (l : K.lookup f = some ⟨oc, od, .func (fnOf m q (defArgs st) (defBody st) (defScope st) .none kV doc pm an cdv ct), osl⟩) (c : codeIn K cdv q = true) (k : keepIn K (.ref f) = true) : MethAt K C m q st :=
  ⟨⟨f, oc, od, kV, doc, pm, an, cdv, ct, osl, ⟨a, i, k⟩, l, c⟩⟩
theorem initAt_mk (a : findIn K (.ref C) "__init__" = some (some (.ref f))) (i : isFn K (.ref f) = true) (l : K.lookup f = some ⟨oc, od, .func (fnOf "__init__" q (defArgs st) (defBody st) (defScope st) .none kV doc pm an cdv ct), osl⟩) (c : codeIn K cdv q = true) (mk : makesIn K C = true) (k : keepIn K (.ref C) = true) : InitAt K C q st :=
  ⟨⟨f, oc, od, kV, doc, pm, an, cdv, ct, osl, ⟨mk, a, i, k⟩, l, c⟩⟩
theorem ktup_mk {a : Addr} {its : Array Value} {n : Nat} (t : K.lookup a = some ⟨.type "tuple", td, .seq its n, tsl⟩) (e : its = #[]) : KTup K a [] := by
  subst e
  exact ⟨_, #[], n, t, rfl, rfl, Nat.zero_le _, .nil⟩
theorem counts_mk {c : Addr} {es : Array DictEntry} {n : Nat} {t1 t2 t3 t4 : Tok} (X : K.In h) (G : h.Ns mainGlobals mg) (a : nsIn K mainGlobals "COUNTS" = some (some (.ref c))) (ne : (c == sysModules) = false) (l : K.lookup c = some ⟨.type "dict", none, .dict es n, #[]⟩) (kl : KeysLit w.params es.toList)
    (a1 : nsIn K c "flatten" = some (some (.int 2 t1))) (a2 : nsIn K c "unflatten" = some (some (.int 3 t2))) (a3 : nsIn K c "gather" = some (some (.int 2 t3))) (a4 : nsIn K c "spread" = some (some (.int 3 t4))) : Counts K w mg :=
  ⟨⟨c, mg_of X G a, ne, ⟨es, n, _, l, kl, a1, t1, rfl⟩, ⟨es, n, _, l, kl, a2, t2, rfl⟩, ⟨es, n, _, l, kl, a3, t3, rfl⟩, ⟨es, n, _, l, kl, a4, t4, rfl⟩⟩⟩
theorem const_mk {k : Int} {t : Tok} (X : K.In h) (G : h.Ns mainGlobals mg) (a : nsIn K mainGlobals x = some (some (.int k t))) : ∃ t, mg x = some (.int k t) := ⟨t, mg_of X G a⟩
theorem facts_mk {P : Program} {fa a0 c Pt : Addr} (X : K.In h) (G : h.Ns mainGlobals mg) (hfa : mg "law" = some (.ref fa)) (Tp : Td.Top K mg) (D0 : Counts K w mg) (U : WTop K mg C) (hk0 : KTup K a0 []) (E : GenAt K mg "ends" (topS 16) [.int 0, .int 1]) (E2 : GenAt K mg "end_paths" (topS 36) [.ref a0, .int 0, .int 1]) (CA : ComAt K mg c)
    (hT : h.get? Pt = some (tabObj #[])) (hC : codeHdIn K c Pt = true) (nl : K.lookup Pt = none) (a : nsIn K mainGlobals "law" = some (some (.ref f))) (l : K.lookup f = some ⟨oc, od, .func (fnOf "law" "law" (defArgs (topS 63)) (defBody (topS 63)) (defScope (topS 63)) .none kV doc pm an cdv ct), osl⟩) (cd : codeIn K cdv "law" = true) :
    ∃ (fd : FuncData) (c Pt : Addr), h.get? Pt = some (tabObj #[]) ∧ CodeHd h c Pt ∧ K.lookup Pt = none ∧ (∀ (s : Shared) (u : Value), BindsTo s fd ⟨[u], []⟩ [("_law_script", u)]) ∧
      ∀ base : Heap, L2.Mod K mg base → LamX.TabB base mg c Pt → FnOk2 P w K mg base 222 fa fd ["_law_script"] (spLaw K Pt) := by
  have e := hfa.symm.trans (mg_of X G a)
  cases e
  exact ⟨_, c, Pt, hT, codeHd_of_K X hC, nl, fun s u => .of_eq rfl, fun base M TB => ok_law Tp M D0 U hk0 E E2 CA TB l cd⟩
end
theorem room222 : Room 222 callerA := ⟨rfl, by decide, by decide⟩
theorem spLaw_in (K : PySem.W.Frag) (Pt : Addr) (H : Hp) (a : Addr) (ns : List Int) (hl : ns.length ≤ 63) (hH : H Pt = some (.tbl #[])) (hS : SqL K H a (ns.map V.int)) : spLaw K Pt [.ref a] H (fun v _ => v = .bl true) fun _ _ _ => False :=
  ⟨a, ns, rfl, hS, fun p hp => by rw [List.mem_singleton.mp hp]; exact LamX.TabS.nil hH, fun _ => rfl⟩
end Td
end

section
set_option maxHeartbeats 1000000
/-! TdHold: the head's last step over any2. To stand LAST (in its namespace `PySem` means Td.PySem too). -/
namespace Td
open PySem PySem.Spec PyProof.Rows PySem.W PySem.Calls
/-- the head's last step, its premise over any2; it stands under the library's short name so that the head finds it -/
theorem PySem.W.holds_open {r : OpenRow} {q : Program} {loose : List Str} {Xt : Shared → Bool} {XP : (Str → Option Value) → Heap → Prop} {α : Type} {Yf : Shared → α} {Ya : World → α} {YP : World → Heap → Prop} {d : DefRec} {kwd : List (Str × Expr)} {N : Nat}
    (left : LeftO r.prog q loose Xt Yf Ya N) (hY : ∀ w s, Yf s = Ya w → YP w s.heap) (hYk : ∀ w h h', YP w h → (∀ b o, h.get? b = some o → h'.get? b = some o) → YP w h')
    (hX : ∀ s, Xt s = true → XP (s.heap.nsMap mainGlobals) s.heap) (hXk : ∀ mg h h', XP mg h → (∀ b o, h.get? b = some o → h'.get? b = some o) → XP mg h')
    (hdef : defOf q r.name = some (d, kwd)) (hp : r.prog.theDef r.name = some (d.params, d.body, d.scope)) (hk : kwWritten? d.params.kwonlyargs d.params.kw_defaults = some kwd) (hRf : ∀ s, Xt s = true → RecFacts r.records s.heap) (hwr : (!r.writes || r.records.isEmpty) = true)
    (k1 : r.wellSaid = true) (ok : (chainsOk q && opensWell r.prog && (frees r.toRowW && r.within.isEmpty)) = true) (hb : r.prog.bare) (hw : r.toRowW.promised)
    (call : WalkO2 q loose XP YP r.toRowW d kwd fun f vs => PySem.call f vs) : r.Holds := by
  refine ⟨k1, hw, open_any2 (r := r.toRowW) (run := fun f vs => PySem.call f vs) (tree := fun vs => do match ← nsGet mainNs r.name with
      | some f => do ret (← PySem.call f vs)
      | none => unsupported "claim.caller:no-such-global") left hY hYk hX hXk hRf hwr ok hb hw
    (fun vs w s mg f Q hg hf h => a2_bind (a2_nsGet hg (by rw [hf]; exact a2_bind (a2_thn h fun _ _ x => a2_pure x))))
    (fun w s hg G n hn => ?_) fun w s₀ s₁ mg mb G Y args vs as hpre hlay L low => ?_⟩
  · obtain rfl : n = r.name := by split at hn <;> simp_all
    exact pinned_of_view hg G hdef hp hk
  · obtain ⟨a, o, pm, cd, doc, dV, kV, h1, h2, h3, h4, h5⟩ := G.fn hdef
    exact ⟨.ref a, h1, call w s₀ s₁ mg mb G Y a o pm cd doc dV kV h2 h3 h4 h5 (defOf_name hdef ▸ h1) L.gens args vs as hpre hlay L.reads L.well (L.low low)⟩
end Td
end

section
set_option maxHeartbeats 4000000
/-! TdHead3: the row, from the facts of its head. -/
namespace Td
open PySem PySem.Spec PyProof.Rows PySem.W PySem.Calls
theorem noAttr_mk {K : _root_.PySem.W.Frag} {C : _root_.PySem.Addr} {f : _root_.PySem.Str} (a : _root_.PySem.W.findIn K (.ref C) f = some none) : L2.NoAttr K C f := a
theorem row_holds : PySem.Challenge.rw_turndeal_k36_whole_steps_between_equal_t.Holds := by
  w_on; o_law; k_head; (case hw => w_witness2)
  k_fill
  refine walk_of2T (l := PySem.Challenge.rw_turndeal_k36_whole_steps_between_equal_t) (n := 63) (k := 222) (x := "_law_script") (sp := fun K Pt => spLaw K Pt) rfl (by decide) rfl room222 (fun w h Y => _root_.PySem.W.km_in_of Y) ?F (fun K Pt H a ns hl hH hS => spLaw_in K Pt H a ns hl hH hS)
  case F =>
    intro w mg fa h Y KX G hmg
    refine' facts_mk KX G hmg ?Tp ?D0 ?U ?hk0 ?E ?E2 ?CA ?hT ?hC ?nl ?fa0 ?fl0 ?fc0
    case Tp =>
      refine' Td.Top.mk ?_ ?_ ?_ ?_ ?_ ?_ ?_ ?_ ?_ ?_ ?_ ?_ ?_ ?_ ?_ ?_ ?_ ?_ ?_ ?_ ?_ ?_ ?_ ?_ ?_ ?_ ?_ ?_ ?_ ?_ ?_ ?_ ?_ ?_ ?_ ?_ ?_ ?_ ?_ ?_ ?_ ?_ ?_ ?_ ?_ ?_ ?_ ?_ ?_ ?_ ?_ ?_ ?_ ?_ ?_ ?_ ?_ ?_ ?_ ?_ ?_
      · (refine' defAt_mk KX G ?a_1 ?l_1 ?c_1 ?k_1; (case a_1 => k_is); (case l_1 => k_is); (case c_1 => k_is); (case k_1 => k_is))
      · (refine' defAt_mk KX G ?a_2 ?l_2 ?c_2 ?k_2; (case a_2 => k_is); (case l_2 => k_is); (case c_2 => k_is); (case k_2 => k_is))
      · (refine' defAt_mk KX G ?a_3 ?l_3 ?c_3 ?k_3; (case a_3 => k_is); (case l_3 => k_is); (case c_3 => k_is); (case k_3 => k_is))
      · (refine' defAt_mk KX G ?a_4 ?l_4 ?c_4 ?k_4; (case a_4 => k_is); (case l_4 => k_is); (case c_4 => k_is); (case k_4 => k_is))
      · (refine' defAt_mk KX G ?a_5 ?l_5 ?c_5 ?k_5; (case a_5 => k_is); (case l_5 => k_is); (case c_5 => k_is); (case k_5 => k_is))
      · (refine' defAt_mk KX G ?a_6 ?l_6 ?c_6 ?k_6; (case a_6 => k_is); (case l_6 => k_is); (case c_6 => k_is); (case k_6 => k_is))
      · (refine' defAt_mk KX G ?a_7 ?l_7 ?c_7 ?k_7; (case a_7 => k_is); (case l_7 => k_is); (case c_7 => k_is); (case k_7 => k_is))
      · (refine' defAt_mk KX G ?a_8 ?l_8 ?c_8 ?k_8; (case a_8 => k_is); (case l_8 => k_is); (case c_8 => k_is); (case k_8 => k_is))
      · (refine' defAt_mk KX G ?a_9 ?l_9 ?c_9 ?k_9; (case a_9 => k_is); (case l_9 => k_is); (case c_9 => k_is); (case k_9 => k_is))
      · (refine' defAt_mk KX G ?a_10 ?l_10 ?c_10 ?k_10; (case a_10 => k_is); (case l_10 => k_is); (case c_10 => k_is); (case k_10 => k_is))
      · (refine' defAt_mk KX G ?a_11 ?l_11 ?c_11 ?k_11; (case a_11 => k_is); (case l_11 => k_is); (case c_11 => k_is); (case k_11 => k_is))
      · (refine' defAt_mk KX G ?a_12 ?l_12 ?c_12 ?k_12; (case a_12 => k_is); (case l_12 => k_is); (case c_12 => k_is); (case k_12 => k_is))
      · (refine' defAt_mk KX G ?a_13 ?l_13 ?c_13 ?k_13; (case a_13 => k_is); (case l_13 => k_is); (case c_13 => k_is); (case k_13 => k_is))
      · (refine' defAt_mk KX G ?a_14 ?l_14 ?c_14 ?k_14; (case a_14 => k_is); (case l_14 => k_is); (case c_14 => k_is); (case k_14 => k_is))
      · (refine' defAt_mk KX G ?a_15 ?l_15 ?c_15 ?k_15; (case a_15 => k_is); (case l_15 => k_is); (case c_15 => k_is); (case k_15 => k_is))
      · (refine' defAt_mk KX G ?a_16 ?l_16 ?c_16 ?k_16; (case a_16 => k_is); (case l_16 => k_is); (case c_16 => k_is); (case k_16 => k_is))
      · (refine' defAt_mk KX G ?a_17 ?l_17 ?c_17 ?k_17; (case a_17 => k_is); (case l_17 => k_is); (case c_17 => k_is); (case k_17 => k_is))
      · (refine' defAt_mk KX G ?a_18 ?l_18 ?c_18 ?k_18; (case a_18 => k_is); (case l_18 => k_is); (case c_18 => k_is); (case k_18 => k_is))
      · (refine' defAt_mk KX G ?a_19 ?l_19 ?c_19 ?k_19; (case a_19 => k_is); (case l_19 => k_is); (case c_19 => k_is); (case k_19 => k_is))
      · (refine' defAt_mk KX G ?a_20 ?l_20 ?c_20 ?k_20; (case a_20 => k_is); (case l_20 => k_is); (case c_20 => k_is); (case k_20 => k_is))
      · (refine' defAt_mk KX G ?a_21 ?l_21 ?c_21 ?k_21; (case a_21 => k_is); (case l_21 => k_is); (case c_21 => k_is); (case k_21 => k_is))
      · (refine' defAt_mk KX G ?a_22 ?l_22 ?c_22 ?k_22; (case a_22 => k_is); (case l_22 => k_is); (case c_22 => k_is); (case k_22 => k_is))
      · (refine' defAt_mk KX G ?a_23 ?l_23 ?c_23 ?k_23; (case a_23 => k_is); (case l_23 => k_is); (case c_23 => k_is); (case k_23 => k_is))
      · (refine' defAt_mk KX G ?a_24 ?l_24 ?c_24 ?k_24; (case a_24 => k_is); (case l_24 => k_is); (case c_24 => k_is); (case k_24 => k_is))
      · (refine' defAt_mk KX G ?a_25 ?l_25 ?c_25 ?k_25; (case a_25 => k_is); (case l_25 => k_is); (case c_25 => k_is); (case k_25 => k_is))
      · (refine' defAt_mk KX G ?a_26 ?l_26 ?c_26 ?k_26; (case a_26 => k_is); (case l_26 => k_is); (case c_26 => k_is); (case k_26 => k_is))
      · (refine' defAt_mk KX G ?a_27 ?l_27 ?c_27 ?k_27; (case a_27 => k_is); (case l_27 => k_is); (case c_27 => k_is); (case k_27 => k_is))
      · (refine' defAt_mk KX G ?a_28 ?l_28 ?c_28 ?k_28; (case a_28 => k_is); (case l_28 => k_is); (case c_28 => k_is); (case k_28 => k_is))
      · (refine' defAt_mk KX G ?a_29 ?l_29 ?c_29 ?k_29; (case a_29 => k_is); (case l_29 => k_is); (case c_29 => k_is); (case k_29 => k_is))
      · (refine' defAt_mk KX G ?a_30 ?l_30 ?c_30 ?k_30; (case a_30 => k_is); (case l_30 => k_is); (case c_30 => k_is); (case k_30 => k_is))
      · (refine' defAt_mk KX G ?a_31 ?l_31 ?c_31 ?k_31; (case a_31 => k_is); (case l_31 => k_is); (case c_31 => k_is); (case k_31 => k_is))
      · (refine' defAt_mk KX G ?a_32 ?l_32 ?c_32 ?k_32; (case a_32 => k_is); (case l_32 => k_is); (case c_32 => k_is); (case k_32 => k_is))
      · (refine' defAt_mk KX G ?a_33 ?l_33 ?c_33 ?k_33; (case a_33 => k_is); (case l_33 => k_is); (case c_33 => k_is); (case k_33 => k_is))
      · (refine' defAt_mk KX G ?a_34 ?l_34 ?c_34 ?k_34; (case a_34 => k_is); (case l_34 => k_is); (case c_34 => k_is); (case k_34 => k_is))
      · (refine' defAt_mk KX G ?a_35 ?l_35 ?c_35 ?k_35; (case a_35 => k_is); (case l_35 => k_is); (case c_35 => k_is); (case k_35 => k_is))
      · (refine' defAt_mk KX G ?a_36 ?l_36 ?c_36 ?k_36; (case a_36 => k_is); (case l_36 => k_is); (case c_36 => k_is); (case k_36 => k_is))
      · (refine' defAt_mk KX G ?a_37 ?l_37 ?c_37 ?k_37; (case a_37 => k_is); (case l_37 => k_is); (case c_37 => k_is); (case k_37 => k_is))
      · (refine' defAt_mk KX G ?a_38 ?l_38 ?c_38 ?k_38; (case a_38 => k_is); (case l_38 => k_is); (case c_38 => k_is); (case k_38 => k_is))
      · (refine' defAt_mk KX G ?a_39 ?l_39 ?c_39 ?k_39; (case a_39 => k_is); (case l_39 => k_is); (case c_39 => k_is); (case k_39 => k_is))
      · (refine' defAt_mk KX G ?a_40 ?l_40 ?c_40 ?k_40; (case a_40 => k_is); (case l_40 => k_is); (case c_40 => k_is); (case k_40 => k_is))
      · (refine' defAt_mk KX G ?a_41 ?l_41 ?c_41 ?k_41; (case a_41 => k_is); (case l_41 => k_is); (case c_41 => k_is); (case k_41 => k_is))
      · (refine' defAt_mk KX G ?a_42 ?l_42 ?c_42 ?k_42; (case a_42 => k_is); (case l_42 => k_is); (case c_42 => k_is); (case k_42 => k_is))
      · (refine' defAt_mk KX G ?a_43 ?l_43 ?c_43 ?k_43; (case a_43 => k_is); (case l_43 => k_is); (case c_43 => k_is); (case k_43 => k_is))
      · (refine' defAt_mk KX G ?a_44 ?l_44 ?c_44 ?k_44; (case a_44 => k_is); (case l_44 => k_is); (case c_44 => k_is); (case k_44 => k_is))
      · (refine' defAt_mk KX G ?a_45 ?l_45 ?c_45 ?k_45; (case a_45 => k_is); (case l_45 => k_is); (case c_45 => k_is); (case k_45 => k_is))
      · (refine' _root_.PySem.W.mg_none_of KX G ?a_46; (case a_46 => k_is))
      · (refine' _root_.PySem.W.mg_none_of KX G ?a_47; (case a_47 => k_is))
      · (refine' _root_.PySem.W.mg_none_of KX G ?a_48; (case a_48 => k_is))
      · (refine' _root_.PySem.W.mg_none_of KX G ?a_49; (case a_49 => k_is))
      · (refine' _root_.PySem.W.mg_none_of KX G ?a_50; (case a_50 => k_is))
      · (refine' _root_.PySem.W.mg_none_of KX G ?a_51; (case a_51 => k_is))
      · (refine' _root_.PySem.W.mg_none_of KX G ?a_52; (case a_52 => k_is))
      · (refine' _root_.PySem.W.mg_none_of KX G ?a_53; (case a_53 => k_is))
      · (refine' _root_.PySem.W.mg_none_of KX G ?a_54; (case a_54 => k_is))
      · (refine' _root_.PySem.W.mg_none_of KX G ?a_55; (case a_55 => k_is))
      · (refine' _root_.PySem.W.mg_none_of KX G ?a_56; (case a_56 => k_is))
      · (refine' _root_.PySem.W.mg_none_of KX G ?a_57; (case a_57 => k_is))
      · (refine' _root_.PySem.W.mg_none_of KX G ?a_58; (case a_58 => k_is))
      · (refine' const_mk KX G ?a_59; (case a_59 => k_is))
      · (refine' const_mk KX G ?a_60; (case a_60 => k_is))
      · (refine' const_mk KX G ?a_61; (case a_61 => k_is))
    case D0 => (refine' counts_mk KX G ?a_62 ?ne_62 ?l_62 ?kl_62 ?a1_62 ?a2_62 ?a3_62 ?a4_62; (case a_62 => k_is); (case ne_62 => rfl); (case l_62 => k_is); (case kl_62 => k_keys); (case a1_62 => k_is); (case a2_62 => k_is); (case a3_62 => k_is); (case a4_62 => k_is))
    case U =>
      refine' WTop.mk (_root_.PySem.W.mg_of KX G ?w0) ⟨?pg, ?hd, ?po, ?sa⟩ (noAttr_mk ?n1) (noAttr_mk ?n2) (noAttr_mk ?n3) ?wi ?wd ?wm
      case w0 => k_is
      case pg => k_is
      case hd => k_is
      case po => k_is
      case sa => k_is
      case n1 => k_is
      case n2 => k_is
      case n3 => k_is
      case wi => (refine' initAt_mk ?a_63 ?i_63 ?l_63 ?c_63 ?mk_63 ?k_63; (case a_63 => k_is); (case i_63 => k_is); (case l_63 => k_is); (case c_63 => k_is); (case mk_63 => k_is); (case k_63 => k_is))
      case wd => (refine' methAt_mk ?a_64 ?i_64 ?l_64 ?c_64 ?k_64; (case a_64 => k_is); (case i_64 => k_is); (case l_64 => k_is); (case c_64 => k_is); (case k_64 => k_is))
      case wm => (refine' methAt_mk ?a_65 ?i_65 ?l_65 ?c_65 ?k_65; (case a_65 => k_is); (case i_65 => k_is); (case l_65 => k_is); (case c_65 => k_is); (case k_65 => k_is))
    case E => (refine' genAt_mk KX G ?a_66 ?l_66 ?c_66 ?k_66 ?t_66 ?v_66 ?n_66; (case a_66 => k_is); (case l_66 => k_is); (case c_66 => k_is); (case k_66 => k_is); (case t_66 => k_is); (case v_66 => exact .cons ⟨_, rfl⟩ (.cons ⟨_, rfl⟩ .nil)); (case n_66 => exact fun z => by cases z))
    case E2 => (refine' genAt_mk KX G ?a_67 ?l_67 ?c_67 ?k_67 ?t_67 ?v_67 ?n_67; (case a_67 => k_is); (case l_67 => k_is); (case c_67 => k_is); (case k_67 => k_is); (case t_67 => k_is); (case v_67 => exact .cons rfl (.cons ⟨_, rfl⟩ (.cons ⟨_, rfl⟩ .nil))); (case n_67 => exact fun z => by cases z))
    case hk0 => (refine' ktup_mk ?t_68 ?e_68; (case t_68 => k_is); (case e_68 => rfl))
    case CA => (refine' comAt_mk KX G ?a_69 ?l_69 ?c_69 ?k_69; (case a_69 => k_is); (case l_69 => k_is); (case c_69 => k_is); (case k_69 => k_is))
    case hT => exact _root_.PySem.W.km_tabs_of Y _ (List.mem_singleton.mpr rfl)
    case hC => rfl
    case nl => rfl
    case fa0 => k_is
    case fl0 => k_is
    case fc0 => k_is
end Td
end

theorem PySem.Challenge.cw_turndeal_k36_whole_steps_between_equal_t_holds : PySem.Challenge.rw_turndeal_k36_whole_steps_between_equal_t.Holds := by
  exact Td.row_holds
