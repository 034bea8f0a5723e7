import PyProof.Rows.All
import Wide.All
import OpenK.AllK
import Wide.FinOn
import HandS.Base
import HandS.Call
import HandS.Ends
import HandS.Head0
import HandS.Head1
import HandS.Head2
import HandS.Head3
import HandS.HeadEnd
import HandS.HeadHook1
import HandS.HeadHook2
import HandS.GenCall
import HandS.GenList
import HandS.GenYield
import HandS.Evl
import HandS.Defaults
import PyProof.ListNew
import HandS.TryOnly
import HandS.TupSets
import HandS.SetBool
import KE.KeyNested
import KE.SortData
import HandS.Deep
import PyProof.P3In
import HandS.More
import HandS.Iter
import HandS.Words
import HandS.WordsExc
import HandS.WordsList
import HandS.Text
import HandS.IsInst
import HandS.Exc
import KE.KExcSuper
import KE.KStateDown
import PySem.Challenge.RW_onelooker_k55_whole_units_of_units
section
set_option Elab.async false
set_option linter.all false
set_option maxRecDepth 100000
/-! L1: runs over the machine's steps in which a generator may sleep over another one (a loud yield). -/
namespace LL
open PySem
open Sem (wp)

abbrev Lg := List Addr
def IsGn (h : Heap) (a : Addr) : Prop := ∃ o n, h.get? a = some o ∧ o.genNumber? = some n

/-- steps of the logic's machine, and loud yields; the list tells over whom was slept -/
inductive Go (M : Model) : Shared → Lg → Thread → Shared → Lg → Thread → Prop
  | refl {s L t} : Go M s L t s L t
  | calm {s L t s1 t1 s' L' t'} : M.step s t = .go s1 t1 → Go M s1 L t1 s' L' t' → Go M s L t s' L' t'
  | loud {s L v l kk c p st fs g k c1 p1 rest a more kw s' L' t'} :
      splitAtGen st = some (fs, (g, k, c1, p1), rest) → fs.any Frame.guarded = false → c = .builtin "proto.yield_from" ⟨.ref a :: more, kw⟩ → IsGn s.heap a →
      Go M (s.setGen g (.suspended kk l c p fs false)) (a :: L) ⟨k (.yielded v), c1, p1, rest⟩ s' L' t' → Go M s L ⟨.yield v true l kk, c, p, st⟩ s' L' t'

theorem Go.trans {M : Model} {s L t s1 L1 t1 s2 L2 t2} (h : Go M s L t s1 L1 t1) (h' : Go M s1 L1 t1 s2 L2 t2) : Go M s L t s2 L2 t2 := by
  induction h with
  | refl => exact h'
  | calm e _ ih => exact .calm e (ih h')
  | loud e1 e2 e3 e4 _ ih => exact .loud e1 e2 e3 e4 (ih h')

theorem Go.of_reach {M : Model} {base : List Frame} {s t c p pre s' e} (h : Reach M base s t c p pre s' e) (L : Lg) :
    ∃ t' c' p' pre', Exits e t' c' p' pre' ∧ Go M s L ⟨t, c, p, pre ++ base⟩ s' L ⟨t', c', p', pre' ++ base⟩ := by
  induction h with
  | exit hx => exact ⟨_, _, _, _, hx, .refl⟩
  | step hs _ ih =>
    obtain ⟨t', c', p', pre', hx, g⟩ := ih
    exact ⟨t', c', p', pre', hx, .calm hs g⟩

/-- a tree ends in its way out or its error -/
def Ou {α : Type} (M : Model) (K : α → Sem Fin) (J : Value → Sem Fin) (c : Code) (st : List Frame) (Q : α → Pos → Shared → Lg → Prop) (E : Value → Pos → Shared → Lg → Prop) (T : Sem Fin) (p : Pos) (s : Shared) (L : Lg) : Prop :=
  (∃ a p' s' L', Q a p' s' L' ∧ Go M s L ⟨T, c, p, st⟩ s' L' ⟨K a, c, p', st⟩) ∨ ∃ x p' s' L', E x p' s' L' ∧ Go M s L ⟨T, c, p, st⟩ s' L' ⟨J x, c, p', st⟩
section
variable {α β : Type} {M : Model} {K : α → Sem Fin} {J : Value → Sem Fin} {c : Code} {st : List Frame} {Q : α → Pos → Shared → Lg → Prop} {E : Value → Pos → Shared → Lg → Prop}
theorem Ou.pre {T T1 : Sem Fin} {p p1 : Pos} {s s1 : Shared} {L L1 : Lg} (g : Go M s L ⟨T, c, p, st⟩ s1 L1 ⟨T1, c, p1, st⟩) (h : Ou M K J c st Q E T1 p1 s1 L1) : Ou M K J c st Q E T p s L := by
  rcases h with ⟨a, p', s', L', h1, h2⟩ | ⟨x, p', s', L', h1, h2⟩
  · exact .inl ⟨a, p', s', L', h1, g.trans h2⟩
  · exact .inr ⟨x, p', s', L', h1, g.trans h2⟩
theorem Ou.step {T T1 : Sem Fin} {p p1 : Pos} {s s1 : Shared} {L : Lg} (e : M.step s ⟨T, c, p, st⟩ = .go s1 ⟨T1, c, p1, st⟩) (h : Ou M K J c st Q E T1 p1 s1 L) : Ou M K J c st Q E T p s L := h.pre (.calm e .refl)

theorem ou_wp {Γ : Ctx} (hF : Γ.Fits st) (gd : Bool → Bool) (lv : List Value → List Value) (L : Lg) (t : Sem α) : ∀ {Q : α → Pos → Shared → Prop} {E : Value → Pos → Shared → Prop} {p : Pos} {s : Shared}, wp M Γ t Q E p s →
    Ou M K J Γ.code st (fun a p' s' L' => Q a p' s' ∧ L' = L) (fun x p' s' L' => E x p' s' ∧ L' = L) (t.wrap K J gd lv) p s L := by
  induction t with
  | pure a => intro Q E p s h; exact .inl ⟨a, p, s, L, ⟨h, rfl⟩, .refl⟩
  | raise x => intro Q E p s h; exact .inr ⟨x, p, s, L, ⟨h, rfl⟩, .refl⟩
  | unsupported what => intro Q E p s h; exact h.elim
  | finish x => intro Q E p s h; exact h.elim
  | register a k => intro Q E p s h; exact h.elim
  | yield v g l k => intro Q E p s h; exact h.elim
  | fork c k => intro Q E p s h; exact h.elim
  | await a f d l k => intro Q E p s h; exact h.elim
  | rule tag k ih => intro Q E p s h; exact (ih () h).step (step_rule ..)
  | «at» p' k ih => intro Q E p s h; exact (ih () h).step (step_at ..)
  | load a part k ih => intro Q E p s h; obtain ⟨o, ho, h⟩ := h; exact (ih o h).step (step_load _ _ _ _ _ _ _ ho)
  | update a part f k ih => intro Q E p s h; obtain ⟨ha, h⟩ := h; exact (ih () h).step (step_update _ _ _ _ _ _ _ _ ha)
  | alloc o k ih => intro Q E p s h; exact (ih _ h).step (step_alloc ..)
  | loadIfAlive a k ih => intro Q E p s h; exact (ih _ h).step (step_loadIfAlive ..)
  | point l k ih => intro Q E p s h; exact (ih () h).step (step_point ..)
  | fresh k ih => intro Q E p s h; exact (ih _ h).step (step_fresh ..)
  | ask k ih => intro Q E p s h; exact (ih _ h).step (step_ask ..)
  | choose src n k ih => intro Q E p s h; obtain ⟨hn, h⟩ := h; exact (ih _ h).step (step_choose _ _ _ _ _ _ _ hn)
  | os q l k ih => intro Q E p s h; exact (ih _ h).step (step_os ..)
  | call c' h g l k ih =>
    intro Q E p s hw
    obtain ⟨r, s1, hret, hw⟩ := hw
    obtain ⟨t', c2, p2, pre', hx, hgo⟩ := Go.of_reach (runs_reach hret _ (hF.enter c' (fun r => (k r).wrap K J gd lv) h (gd g) (lv l) p [])) L
    obtain ⟨rfl, rfl⟩ := hx
    refine (ih r hw).pre (Go.calm (step_call ..) (hgo.trans (Go.calm ?_ .refl)))
    exact step_leaf_ret ..
  | handled own k ih =>
    intro Q E p s h
    refine (ih _ h).step ?_
    refine (step_handled ..).trans ?_
    cases own
    · rw [hF.handled]; rfl
    · rw [hF.own]; rfl
  | newGen c k ih => intro Q E p s h; exact (ih _ h).step (step_newGen ..)
  | genState g k ih => intro Q E p s h; obtain ⟨x, hg, h⟩ := h; exact (ih _ h).step (step_genState _ _ _ _ _ _ hg)
  | resume g r l k ih =>
    intro Q E p s hw
    obtain ⟨res, s1, hwk, hw⟩ := hw
    refine (ih res hw).pre ?_
    unfold Wakes at hwk
    cases hg : s.gens[g]? with
    | none => rw [hg] at hwk; exact hwk.elim
    | some gs =>
      rw [hg] at hwk
      cases gs with
      | fresh c' =>
        cases r with
        | send v =>
          by_cases hv : v = .none
          · subst hv
            obtain ⟨e1, s2, h1, hq, rfl, rfl⟩ := hwk
            obtain ⟨t', c2, p2, pre', hx, hgo⟩ := Go.of_reach (runs_reach h1 _ (hF.wake c' g (fun r => (k r).wrap K J gd lv) (lv l) p)) L
            exact Go.calm (step_resume_fresh _ _ _ _ _ _ _ hg) (hgo.trans (Go.calm (step_exit_gen _ _ _ _ _ _ _ hx hq) .refl))
          · have e : res = .justStarted ∧ s1 = s := by cases v <;> first | exact absurd rfl hv | exact hwk
            obtain ⟨rfl, rfl⟩ := e
            exact Go.calm (step_resume_justStarted _ _ _ _ _ _ _ hg hv) .refl
        | throw x => obtain ⟨rfl, rfl⟩ := hwk; exact Go.calm (step_resume_throwFresh _ _ _ _ _ _ _ _ hg) .refl
      | suspended k0 l0 c0 p0 fs cl =>
        obtain ⟨e1, s2, h1, hq, rfl, rfl⟩ := hwk
        obtain ⟨t', c2, p2, pre', hx, hgo⟩ := Go.of_reach (runs_reach h1 _ (hF.wake c0 g (fun r => (k r).wrap K J gd lv) (lv l) p)) L
        exact Go.calm (step_resume_suspended _ _ _ _ _ _ _ _ hg) (hgo.trans (Go.calm (step_exit_gen _ _ _ _ _ _ _ hx hq) .refl))
      | running => obtain ⟨rfl, rfl⟩ := hwk; exact Go.calm (step_resume_running _ _ _ _ _ _ _ _ hg) .refl
      | finished => obtain ⟨rfl, rfl⟩ := hwk; exact Go.calm (step_resume_finished _ _ _ _ _ _ _ _ hg) .refl
  | stack k ih => intro Q E p s h; exact (ih _ h).step (by rw [hF.below]; exact step_stack ..)
  | thread k ih => intro Q E p s h; exact (ih _ h).step (step_thread ..)
end

/-- a tree's run in which generators may sleep over generators -/
def WpL {α : Type} (M : Model) (A : Around) (t : Sem α) (Q : α → Shared → Lg → Prop) (E : Value → Shared → Lg → Prop) (s : Shared) (L : Lg) : Prop :=
  ∀ (Γ : Ctx) (p : Pos) (st : List Frame) (K : α → Sem Fin) (J : Value → Sem Fin) (gd : Bool → Bool) (lv : List Value → List Value), Γ.In A → Γ.Fits st →
    Ou M K J Γ.code st (fun a _ s' L' => Q a s' L') (fun x _ s' L' => E x s' L') (t.wrap K J gd lv) p s L
/-- a code's run -/
def CodeL (M : Model) (A : Around) (c : Code) (R : Result → Shared → Lg → Prop) (s : Shared) (L : Lg) : Prop :=
  ∀ (Γ : Ctx) (p : Pos) (st : List Frame), Γ.code = c → Γ.Below A → Γ.Fits st → ∃ r c' p' s' L', R r s' L' ∧ Go M s L ⟨M.den c, c, p, st⟩ s' L' ⟨leafOf r, c', p', st⟩

section
variable {α β : Type} {M : Model} {A : Around} {s : Shared} {L : Lg} {E : Value → Shared → Lg → Prop}
theorem WpL.of {t : Sem α} {Q : α → Shared → Lg → Prop} (h : wpAny M A t (fun a s' => Q a s' L) (fun x s' => E x s' L) s) : WpL M A t Q E s L := by
  intro Γ p st K J gd lv hΓ hF
  rcases ou_wp (K := K) (J := J) hF gd lv L t (h Γ p hΓ) with ⟨a, p', s', L', ⟨h1, rfl⟩, h2⟩ | ⟨x, p', s', L', ⟨h1, rfl⟩, h2⟩
  · exact .inl ⟨a, p', s', _, h1, h2⟩
  · exact .inr ⟨x, p', s', _, h1, h2⟩
theorem WpL.mono {t : Sem α} {Q Q' : α → Shared → Lg → Prop} {E' : Value → Shared → Lg → Prop} (h : WpL M A t Q E s L) (hQ : ∀ a s L, Q a s L → Q' a s L) (hE : ∀ x s L, E x s L → E' x s L) : WpL M A t Q' E' s L := by
  intro Γ p st K J gd lv hΓ hF
  rcases h Γ p st K J gd lv hΓ hF with ⟨a, p', s', L', h1, h2⟩ | ⟨x, p', s', L', h1, h2⟩
  · exact .inl ⟨a, p', s', L', hQ _ _ _ h1, h2⟩
  · exact .inr ⟨x, p', s', L', hE _ _ _ h1, h2⟩
theorem WpL.wrapped {m : Sem α} {t : Sem β} {kk : α → Sem β} {jj : Value → Sem β} {gg : Bool → Bool} {ll : List Value → List Value} {Q : β → Shared → Lg → Prop} (e : t = m.wrap kk jj gg ll)
    (h : WpL M A m (fun a s' L' => WpL M A (kk a) Q E s' L') (fun x s' L' => WpL M A (jj x) Q E s' L') s L) : WpL M A t Q E s L := by
  intro Γ p st K J gd lv hΓ hF
  subst e
  rw [Sem.wrap_wrap]
  rcases h Γ p st (fun a => (kk a).wrap K J gd lv) (fun x => (jj x).wrap K J gd lv) _ _ hΓ hF with ⟨a, p', s', L', h1, h2⟩ | ⟨x, p', s', L', h1, h2⟩
  · exact (h1 Γ p' st K J gd lv hΓ hF).pre h2
  · exact (h1 Γ p' st K J gd lv hΓ hF).pre h2
theorem WpL.pure {a : α} {Q : α → Shared → Lg → Prop} (h : Q a s L) : WpL M A (Pure.pure a) Q E s L := .of (wpAny_pure h)
theorem WpL.raise {x : Value} {Q : α → Shared → Lg → Prop} (h : E x s L) : WpL M A (.raise x : Sem α) Q E s L := .of (wpAny_throw h)
theorem WpL.bind {m : Sem α} {f : α → Sem β} {Q : β → Shared → Lg → Prop} (h : WpL M A m (fun a s' L' => WpL M A (f a) Q E s' L') E s L) : WpL M A (m >>= f) Q E s L :=
  .wrapped (Sem.bind_eq_wrap' m f) (h.mono (fun _ _ _ z => z) fun _ _ _ z => .raise z)
theorem WpL.tryCatch {m : Sem α} {k : Value → Sem α} {Q : α → Shared → Lg → Prop} (h : WpL M A m Q (fun x s' L' => WpL M A (k x) Q E s' L') s L) : WpL M A (m.tryCatch k) Q E s L :=
  .wrapped (Sem.tryCatch_eq_wrap m k) (h.mono (fun _ _ _ z => .pure z) fun _ _ _ z => z)
theorem WpL.onRaise {m : Sem α} {k : Value → Sem Unit} {Q : α → Shared → Lg → Prop} (h : WpL M A m Q (fun x s' L' => WpL M A (k x) (fun _ s'' L'' => E x s'' L'') E s' L') s L) : WpL M A (m.onRaise k) Q E s L :=
  .wrapped (Sem.onRaise_eq_wrap m k) (h.mono (fun _ _ _ z => .pure z) fun x _ _ z => .bind (z.mono (fun _ _ _ y => .raise y) fun _ _ _ y => y))
theorem WpL.holding {vs : List Value} {m : Sem α} {Q : α → Shared → Lg → Prop} (h : WpL M A m Q E s L) : WpL M A (holding vs m) Q E s L := by
  rw [holding_eq_keep]
  exact .wrapped (Sem.keep_eq_wrap _ m) (h.mono (fun _ _ _ z => .pure z) fun _ _ _ z => .raise z)
theorem WpL.attempt {m : Sem α} {Q : Except Value α → Shared → Lg → Prop} (h : WpL M A m (fun a => Q (.ok a)) (fun x => Q (.error x)) s L) : WpL M A m.attempt Q E s L := by
  unfold Sem.attempt
  refine .tryCatch ?_
  exact WpL.bind (m := m) (h.mono (fun _ _ _ z => .pure z) fun _ _ _ z => .pure z)
theorem CodeL.mono {c : Code} {R R' : Result → Shared → Lg → Prop} (h : CodeL M A c R s L) (hR : ∀ r s L, R r s L → R' r s L) : CodeL M A c R' s L := fun Γ p st e1 e2 e3 =>
  let ⟨r, c', p', s', L', h1, h2⟩ := h Γ p st e1 e2 e3
  ⟨r, c', p', s', L', hR _ _ _ h1, h2⟩
/-- a call of a code within a tree -/
theorem WpL.callNode {c : Code} {hd : Option Value} {g : Bool} {l : List Value} {k : Result → Sem α} {Q : α → Shared → Lg → Prop} (hnb : hd ≠ some byPass)
    (h : CodeL M (A.mark hd) c (fun r s' L' => WpL M A (k r) Q E s' L') s L) : WpL M A (.call c hd g l k) Q E s L := by
  intro Γ p st K J gd lv hΓ hF
  obtain ⟨r, c', p', s', L', h1, h2⟩ := h (Γ.enter c hd p) p _ rfl (hΓ.enter c hd p hnb) (hF.enter c (fun r => (k r).wrap K J gd lv) hd (gd g) (lv l) p [])
  refine (h1 Γ p st K J gd lv hΓ hF).pre (Go.calm (step_call ..) (h2.trans (Go.calm ?_ .refl)))
  exact step_leaf_ret ..
theorem WpL.run {c : Code} {hd : Option Value} {Q : Flow → Shared → Lg → Prop} (h : CodeL M (A.mark hd) c (fun r s' L' => match r with | .ok f => Q f s' L' | .error e => E e s' L') s L) (hnb : hd ≠ some byPass := by intro x; cases x) :
    WpL M A (run c hd) Q E s L := by
  refine WpL.callNode hnb (h.mono fun r s' L' z => ?_)
  cases r with
  | ok f => exact .pure z
  | error e => exact .raise z
theorem WpL.runValue {c : Code} {Q : Value → Shared → Lg → Prop} (h : CodeL M A c (fun r s' L' => match r with | .ok (.ret v) => Q v s' L' | .ok _ => False | .error e => E e s' L') s L) : WpL M A (runValue c) Q E s L := by
  have hA : A.mark none = A := by cases A; rfl
  refine WpL.callNode (hd := none) (by intro x; cases x) ?_
  rw [hA]
  refine h.mono fun r s' L' z => ?_
  cases r with
  | ok f =>
    cases f with
    | ret v => exact .pure z
    | next => exact z.elim
    | brk => exact z.elim
    | cont => exact z.elim
  | error e => exact .raise z
theorem WpL.call {f : Value} {pos : List Value} {kw : List (Str × Value)} {Q : Value → Shared → Lg → Prop} (h : CodeL M A (.call f ⟨pos, kw⟩) (fun r s' L' => match r with | .ok (.ret v) => Q v s' L' | .ok _ => False | .error e => E e s' L') s L) :
    WpL M A (PySem.call f pos kw) Q E s L := WpL.runValue h
/-- a code by its tree -/
theorem CodeL.of_tree {c : Code} {R : Result → Shared → Lg → Prop} (h : WpL M (A.under c) (M.den c) (fun fin s' L' => match fin with | .done f => R (.ok f) s' L' | .again c' => c'.quiet = true ∧ CodeL M A c' R s' L') (fun e s' L' => R (.error e) s' L') s L) : CodeL M A c R s L := by
  intro Γ p st hc hΓ hF
  have id_wrap : ∀ t : Sem Fin, t.wrap Sem.pure .raise id id = t := fun t => by rw [← Sem.bind_eq_wrap]; exact Sem.bind_pure t
  have q := h Γ p st Sem.pure .raise id id (by rw [← hc]; exact hΓ.in) hF
  rw [id_wrap, hc] at q
  rcases q with ⟨fin, p', s', L', h1, h2⟩ | ⟨x, p', s', L', h1, h2⟩
  · cases fin with
    | done f => exact ⟨.ok f, c, p', s', L', h1, h2⟩
    | again c' =>
      obtain ⟨hq, h1⟩ := h1
      obtain ⟨r, c2, p2, s2, L2, r1, r2⟩ := h1 (Γ.goto c') p' st rfl (hΓ.goto c') (hF.goto c')
      exact ⟨r, c2, p2, s2, L2, r1, h2.trans (.calm (step_again _ _ _ _ _ _ hq) r2)⟩
  · exact ⟨.error x, c, p', s', L', h1, h2⟩
theorem CodeL.of {c : Code} {R : Result → Shared → Lg → Prop} (h : codeAny M A c (fun r s' => R r s' L) s) : CodeL M A c R s L := by
  intro Γ p st hc hΓ hF
  obtain ⟨r, s', hr, hR⟩ := h Γ p hc hΓ
  obtain ⟨t', c', p', pre', hx, hgo⟩ := Go.of_reach (runs_reach hr st hF) L
  obtain ⟨rfl, rfl⟩ := hx
  refine ⟨r, c', p', s', L, hR, ?_⟩
  rw [hc] at hgo
  exact hgo
theorem CodeL.loop {c : Code} {R : Result → Shared → Lg → Prop} (hq : c.quiet = true) (I : Nat → Shared → Lg → Prop)
    (turn : ∀ n s L, I n s L → WpL M (A.under c) (M.den c) (fun fin s' L' => match fin with | .done f => R (.ok f) s' L' | .again c' => c' = c ∧ ∃ m, m < n ∧ I m s' L') (fun e s' L' => R (.error e) s' L') s L)
    (n : Nat) (h : I n s L) : CodeL M A c R s L := by
  induction n using Nat.strongRecOn generalizing s L with
  | ind n ih =>
    refine .of_tree ((turn n s L h).mono (fun fin s' L' hf => ?_) fun _ _ _ h' => h')
    cases fin with
    | done f => exact hf
    | again c' =>
      obtain ⟨rfl, m, hm, hI⟩ := hf
      exact ⟨hq, ih m hm hI⟩
end
end LL
end

section
set_option Elab.async false
set_option linter.all false
set_option maxRecDepth 100000
/-! L2: the real machine goes where the logic with loud yields goes. -/
namespace LL
open PySem

def _root_.PySem.GenState.clr : GenState → GenState
  | .suspended k l c p fs _ => .suspended k l c p fs false
  | g => g
def _root_.PySem.Shared.clr (s : Shared) : Shared := { s with gens := s.gens.map GenState.clr }
def _root_.PySem.Step.clr : Step → Step
  | .go s t => .go s.clr t
  | .halt o s => .halt o s.clr
@[simp] theorem clr_clr (g : GenState) : g.clr.clr = g.clr := by cases g <;> rfl
@[simp] theorem clr_comp : (GenState.clr ∘ GenState.clr) = GenState.clr := by funext g; simp
@[simp] theorem sclr_sclr (s : Shared) : s.clr.clr = s.clr := by simp [Shared.clr]
@[simp] theorem step_clr_clr (x : Step) : x.clr.clr = x.clr := by cases x <;> simp [Step.clr]
theorem gclr_forget (g : GenState) : g.clr.forget = g.forget.clr := by cases g <;> rfl
theorem sclr_forget (s : Shared) : s.clr.forget = s.forget.clr := by
  simp only [Shared.clr, Shared.forget, Array.map_map]
  congr 2
  funext g
  exact gclr_forget g
theorem step_clr_forget (x : Step) : x.clr.forget = x.forget.clr := by cases x <;> simp [Step.clr, Step.forget, sclr_forget]

theorem go_clr {s₁ s₂ : Shared} {t : Thread} (hs : s₁.clr = s₂.clr) : (Step.go s₁ t).clr = (Step.go s₂ t).clr := by simp only [Step.clr, hs]
theorem halt_clr {s₁ s₂ : Shared} (o : Outcome) (hs : s₁.clr = s₂.clr) : (Step.halt o s₁).clr = (Step.halt o s₂).clr := by simp only [Step.clr, hs]

theorem step_comm_clr (den : Code → Sem Fin) (prog : Program) (w : World) (s : Shared) (th : Thread) (he : th.atItsEnd = false) : (step den prog w s.clr th).clr = (step den prog w s th).clr := by
  obtain ⟨heap, gens, drawn, toks, os⟩ := s
  obtain ⟨cur, code, pos, stack⟩ := th
  cases cur with
  | pure fin =>
    cases fin with
    | again c => exact go_clr (by simp [Shared.clr])
    | done f =>
      cases stack with
      | nil => cases he
      | cons F rest => cases F <;> exact go_clr (by simp [Shared.clr, Array.map_setIfInBounds])
  | raise e =>
    cases stack with
    | nil => cases he
    | cons F rest => cases F <;> exact go_clr (by simp [Shared.clr, Array.map_setIfInBounds])
  | load a part k =>
    simp only [step, Shared.clr]
    cases heap.get? a with
    | none => exact halt_clr _ (by simp [Shared.clr])
    | some o => exact go_clr (by simp [Shared.clr])
  | update a part f k =>
    by_cases h : (heap.get? a).isSome = true
    · simp only [step, Shared.clr, h, if_true, Step.clr, Array.map_map, clr_comp]
    · simp only [step, Shared.clr, h, Bool.false_eq_true, if_false, Step.clr, Array.map_map, clr_comp]
  | choose src n k =>
    simp only [step, Shared.clr]
    by_cases h : n = 0
    · simp only [h, if_true]; exact halt_clr _ (by simp [Shared.clr])
    · simp only [h, if_false]; exact go_clr (by simp [Shared.clr])
  | handled own k => exact go_clr (by simp [Shared.clr])
  | newGen c k => simp [step, Shared.clr, Step.clr, GenState.clr]
  | genState g k =>
    simp only [step, Shared.clr, Array.getElem?_map]
    cases gens[g]? with
    | none => exact halt_clr _ (by simp [Shared.clr])
    | some x => cases x <;> exact go_clr (by simp [Shared.clr])
  | resume g r l k =>
    simp only [step, Shared.clr, Array.getElem?_map]
    cases gens[g]? with
    | none => exact halt_clr _ (by simp [Shared.clr])
    | some x =>
      cases x with
      | fresh c =>
        cases r with
        | send v => cases v <;> exact go_clr (by simp [Shared.clr, Array.map_setIfInBounds, GenState.clr])
        | throw e => exact go_clr (by simp [Shared.clr, Array.map_setIfInBounds, GenState.clr])
      | _ => exact go_clr (by simp [Shared.clr, Array.map_setIfInBounds, GenState.clr])
  | yield v g0 l kk =>
    simp only [step, Shared.clr]
    cases splitAtGen stack with
    | none => exact halt_clr _ (by simp [Shared.clr])
    | some x =>
      obtain ⟨fs, ⟨g, k, c, p⟩, rest⟩ := x
      exact go_clr (by simp [Shared.clr, Array.map_setIfInBounds, GenState.clr])
  | unsupported what => exact halt_clr _ (by simp [Shared.clr])
  | finish e => cases he
  | register a k => exact halt_clr _ (by simp [Shared.clr])
  | fork c k => exact halt_clr _ (by simp [Shared.clr])
  | await a f d l k => exact halt_clr _ (by simp [Shared.clr])
  | _ => exact go_clr (by simp [Shared.clr, Array.map_setIfInBounds, GenState.clr])

theorem atItsEnd_halts {den : Code → Sem Fin} {prog : Program} {w : World} {s s1 : Shared} {t t1 : Thread} (h : step den prog w s t = .go s1 t1) : t.atItsEnd = false := by
  obtain ⟨heap, gens, drawn, toks, os⟩ := s
  obtain ⟨cur, code, pos, stack⟩ := t
  cases cur with
  | pure fin =>
    cases fin with
    | again c => rfl
    | done f =>
      cases stack with
      | nil => simp only [step, finish] at h; split at h <;> cases h
      | cons F rest => rfl
  | raise e =>
    cases stack with
    | nil => simp only [step, finish] at h; split at h <;> cases h
    | cons F rest => rfl
  | finish e => simp only [step] at h; split at h <;> cases h
  | _ => rfl
theorem atItsEnd_forget (t : Thread) : t.forget.atItsEnd = t.atItsEnd := by
  obtain ⟨cur, code, pos, stack⟩ := t
  cases cur <;> first | rfl | (cases stack <;> rfl) | (rename_i a; cases a <;> first | rfl | (cases stack <;> rfl))

/-- the same but for what frames keep and for the flag of a sleeping generator -/
structure Sim (s : Shared) (t : Thread) (sr : Shared) (tr : Thread) : Prop where
  sh : sr.clr.forget = s.clr.forget
  th : tr.forget = t.forget

theorem sim_step {den : Code → Sem Fin} {prog : Program} {w : World} {s s1 sr : Shared} {t t1 tr : Thread} (S : Sim s t sr tr) (h : step den prog w s t = .go s1 t1) :
    ∃ sr1 tr1, step den prog w sr tr = .go sr1 tr1 ∧ Sim s1 t1 sr1 tr1 := by
  have e1 := atItsEnd_halts h
  have e2 : tr.atItsEnd = false := by rw [← atItsEnd_forget, S.th, atItsEnd_forget]; exact e1
  have q1 := step_comm_clr den prog w s t e1
  have q2 := step_comm_clr den prog w sr tr e2
  have q3 := step_same den prog w S.sh S.th
  have q4 : (step den prog w sr tr).clr.forget = (step den prog w s t).clr.forget := by
    rw [← q2, ← q1, step_clr_forget, q3, ← step_clr_forget]
  rw [h] at q4
  cases hs : step den prog w sr tr with
  | halt o x => rw [hs] at q4; cases q4
  | go sr1 tr1 =>
    rw [hs] at q4
    simp only [Step.clr, Step.forget, Step.go.injEq] at q4
    exact ⟨sr1, tr1, rfl, ⟨q4.1, q4.2⟩⟩

/-- the loud sleepers of the real machine sleep over generators of the log -/
def CLok (s : Shared) (L : Lg) : Prop := ∀ (g : Nat) (k : Resume → Sem Fin) (l : List Value) (c : Code) (p : Pos) (fs : List Frame), s.gens[g]? = some (GenState.suspended k l c p fs true) → fs.any Frame.guarded = false ∧ ∃ a more kw, c = .builtin "proto.yield_from" ⟨.ref a :: more, kw⟩ ∧ a ∈ L

theorem get_set {α : Type} {xs : Array α} {i j : Nat} {v x : α} (h : (xs.setIfInBounds i v)[j]? = some x) : x = v ∨ xs[j]? = some x := by
  rw [Array.getElem?_setIfInBounds] at h
  split at h
  · split at h
    · exact .inl (Option.some.inj h).symm
    · cases h
  · exact .inr h
theorem get_push {α : Type} {xs : Array α} {j : Nat} {v x : α} (h : (xs.push v)[j]? = some x) : x = v ∨ xs[j]? = some x := by
  rw [Array.getElem?_push] at h
  split at h
  · exact .inl (Option.some.inj h).symm
  · exact .inr h

theorem cl_step {den : Code → Sem Fin} {prog : Program} {w : World} {s s1 : Shared} {t t1 : Thread} (h : step den prog w s t = .go s1 t1) (hl : t.yieldsInsideHandler = false)
    {g : Nat} {k : Resume → Sem Fin} {l : List Value} {c : Code} {p : Pos} {fs : List Frame} (hg : s1.gens[g]? = some (GenState.suspended k l c p fs true)) : s.gens[g]? = some (GenState.suspended k l c p fs true) := by
  obtain ⟨heap, gens, drawn, toks, os⟩ := s
  obtain ⟨cur, code, pos, stack⟩ := t
  cases cur with
  | yield v g0 l0 kk =>
    simp only [step] at h
    cases hsp : splitAtGen stack with
    | none => rw [hsp] at h; cases h
    | some x =>
      obtain ⟨fs1, ⟨g1, k1, c1, p1⟩, rest⟩ := x
      rw [hsp] at h
      simp only [Step.go.injEq] at h
      obtain ⟨rfl, rfl⟩ := h
      simp only [Thread.yieldsInsideHandler, hsp] at hl
      rcases get_set hg with e | e
      · simp only [GenState.suspended.injEq] at e
        rw [hl] at e
        cases e.2.2.2.2.2
      · exact e
  | pure fin =>
    cases fin with
    | again c => simp only [step, Step.go.injEq] at h; obtain ⟨rfl, rfl⟩ := h; exact hg
    | done f =>
      cases stack with
      | nil => simp only [step, finish] at h; split at h <;> cases h
      | cons F rest =>
        cases F <;> simp only [step, Step.go.injEq] at h <;> obtain ⟨rfl, rfl⟩ := h
        · exact hg
        · exact (get_set hg).resolve_left (by intro z; cases z)
  | raise e =>
    cases stack with
    | nil => simp only [step, finish] at h; split at h <;> cases h
    | cons F rest =>
      cases F <;> simp only [step, Step.go.injEq] at h <;> obtain ⟨rfl, rfl⟩ := h
      · exact hg
      · exact (get_set hg).resolve_left (by intro z; cases z)
  | load a part k =>
    simp only [step] at h
    split at h
    · simp only [Step.go.injEq] at h; obtain ⟨rfl, rfl⟩ := h; exact hg
    · cases h
  | update a part f k =>
    simp only [step] at h
    split at h
    · simp only [Step.go.injEq] at h; obtain ⟨rfl, rfl⟩ := h; exact hg
    · cases h
  | choose src n k =>
    simp only [step] at h
    split at h
    · cases h
    · simp only [Step.go.injEq] at h; obtain ⟨rfl, rfl⟩ := h; exact hg
  | genState g k =>
    simp only [step] at h
    split at h
    · cases h
    · simp only [Step.go.injEq] at h; obtain ⟨rfl, rfl⟩ := h; exact hg
  | resume g r l k =>
    simp only [step] at h
    split at h
    · cases h
    · cases r with
      | send v => cases v <;> simp only [Step.go.injEq] at h <;> obtain ⟨rfl, rfl⟩ := h <;> first | exact hg | exact (get_set hg).resolve_left (by intro z; cases z)
      | throw e => simp only [Step.go.injEq] at h; obtain ⟨rfl, rfl⟩ := h; exact (get_set hg).resolve_left (by intro z; cases z)
    · simp only [Step.go.injEq] at h; obtain ⟨rfl, rfl⟩ := h; exact (get_set hg).resolve_left (by intro z; cases z)
    · simp only [Step.go.injEq] at h; obtain ⟨rfl, rfl⟩ := h; exact hg
    · simp only [Step.go.injEq] at h; obtain ⟨rfl, rfl⟩ := h; exact hg
  | newGen c k => simp only [step, Step.go.injEq] at h; obtain ⟨rfl, rfl⟩ := h; exact (get_push hg).resolve_left (by intro z; cases z)
  | finish e => simp only [step] at h; split at h <;> cases h
  | unsupported what => cases h
  | register a k => cases h
  | fork c k => cases h
  | await a f d l k => cases h
  | _ => simp only [step, Step.go.injEq] at h; obtain ⟨rfl, rfl⟩ := h; exact hg

theorem refused_halts {den : Code → Sem Fin} {prog : Program} {w : World} {s s1 : Shared} {t t1 : Thread} (h : step den prog w s t = .go s1 t1) : t.refused = false := by
  obtain ⟨cur, code, pos, stack⟩ := t
  cases cur <;> first | rfl | cases h

/-- a quiet step of the logic is a step of the real machine -/
theorem real_calm {prog : Program} {w : World} {s s1 sr : Shared} {t t1 tr : Thread} {L : Lg} (S : Sim s t sr tr) (hz : sr.asleep) (C : CLok sr L) (h : (model prog w).step s t = .go s1 t1) :
    ∃ sr1 tr1, sstep (denote table) prog w (.single sr tr) = .go (.single sr1 tr1) ∧ Sim s1 t1 sr1 tr1 ∧ sr1.heap.life = sr.heap.life ∧ CLok sr1 L := by
  have hl : t.loud = false := by
    cases hl : t.loud with
    | false => rfl
    | true =>
      have := Model.step_loud (M := model prog w) (s := s) hl
      rw [this] at h
      cases h
  have hq := Model.step_quiet (M := model prog w) (s := s) hl
  rw [hq] at h
  -- to the plain step
  have f := stepK_forget (denote table) prog w s t
  rw [show stepK (denote table) prog w s t = .go s1 t1 from h] at f
  cases hs : step (denote table) prog w s t with
  | halt o x => rw [hs] at f; cases f
  | go s2 t2 =>
    rw [hs] at f
    simp only [Step.forget, Step.go.injEq] at f
    obtain ⟨f1, f2⟩ := f
    obtain ⟨sr1, tr1, e, S1⟩ := sim_step S hs
    have hcr : tr.calm = true := by
      have a : tr.calm = t.calm := by rw [← Thread.calm_forget tr, S.th, Thread.calm_forget]
      rw [a, Thread.calm_eq, hl, refused_halts hs]; rfl
    refine ⟨sr1, tr1, ?_, ⟨S1.sh.trans ?_, S1.th.trans f2.symm⟩, step_life _ _ _ _ _ _ _ e, ?_⟩
    · rcases sstep_single (denote table) prog w sr tr hcr hz with q | q
      · rw [q, e]; rfl
      · rw [e] at q; cases q
    · rw [sclr_forget, sclr_forget, ← f1]
    · intro g k l c p fs hg
      have hy : tr.yieldsInsideHandler = false := by
        rw [Thread.calm_eq] at hcr
        have := Bool.and_eq_true_iff.mp hcr
        have h2 : tr.loud = false := by simpa using this.1
        unfold Thread.loud at h2
        exact (Bool.or_eq_false_iff.mp h2).2
      exact C g k l c p fs (cl_step e hy hg)

theorem fs_eq {st str fs rest} {g k c p} (hf : forgetAll str = forgetAll st) (h : splitAtGen st = some (fs, (g, k, c, p), rest)) :
    ∃ fsr restr, splitAtGen str = some (fsr, (g, k, c, p), restr) ∧ forgetAll fsr = forgetAll fs ∧ forgetAll restr = forgetAll rest := by
  have a := splitAtGen_forgetAll st
  have b := splitAtGen_forgetAll str
  rw [hf, a, h] at b
  cases hs : splitAtGen str with
  | none => rw [hs] at b; cases b
  | some x =>
    obtain ⟨fsr, y, restr⟩ := x
    rw [hs] at b
    simp only [Option.map_some, Option.some.injEq, Prod.mk.injEq] at b
    obtain ⟨b1, b2, b3⟩ := b
    exact ⟨fsr, restr, by rw [← b2], b1.symm, b3.symm⟩

/-- a loud yield over a generator is a step of the real machine -/
theorem real_loud {prog : Program} {w : World} {s sr : Shared} {tr : Thread} {L : Lg} {v l kk c p st fs g k c1 p1 rest a more kw}
    (S : Sim s ⟨.yield v true l kk, c, p, st⟩ sr tr) (hz : sr.asleep) (C : CLok sr L) (h : splitAtGen st = some (fs, (g, k, c1, p1), rest)) (hg : fs.any Frame.guarded = false)
    (hc : c = .builtin "proto.yield_from" ⟨.ref a :: more, kw⟩) (hi : IsGn s.heap a) :
    ∃ sr1 tr1, sstep (denote table) prog w (.single sr tr) = .go (.single sr1 tr1) ∧ Sim (s.setGen g (.suspended kk l c p fs false)) ⟨k (.yielded v), c1, p1, rest⟩ sr1 tr1 ∧ sr1.heap.life = sr.heap.life ∧ CLok sr1 (a :: L) := by
  obtain ⟨S1, S2⟩ := S
  obtain ⟨cur, c', p', str⟩ := tr
  simp only [Thread.forget, Thread.mk.injEq] at S2
  obtain ⟨e1, e2, e3, S2⟩ := S2
  cases e1; cases e2; cases e3
  obtain ⟨fsr, restr, h1, h2, h3⟩ := fs_eq S2 h
  have hgr : fsr.any Frame.guarded = false := by rw [← any_guarded_forgetAll, h2, any_guarded_forgetAll]; exact hg
  obtain ⟨heap, gens, drawn, toks, os⟩ := sr
  have hh : heap = s.heap := by
    have := congrArg Shared.heap S1
    exact this
  obtain ⟨o, n, ho, hn⟩ := hi
  have hmoves : (Config.single ⟨heap, gens, drawn, toks, os⟩ ⟨.yield v true l kk, c, p, str⟩).moves w.params.profile = [.run 0] := by
    simp_all [Config.moves, Config.single, movesFrom, Thread.moves, Thread.atomic, Thread.rests, Thread.tells]
  have hpick : (Config.single ⟨heap, gens, drawn, toks, os⟩ ⟨.yield v true l kk, c, p, str⟩).pick w = .ok (.run 0, .single ⟨heap, gens, drawn, toks, os⟩ ⟨.yield v true l kk, c, p, str⟩) := by
    have e1 : (Config.single ⟨heap, gens, drawn, toks, os⟩ ⟨.yield v true l kk, c, p, str⟩).collect? w.params = none := by
      simp [Config.collect?, Config.single, (nothing_to_collect _ _ _ ⟨heap, gens, drawn, toks, os⟩ ⟨.yield v true l kk, c, p, str⟩ hz.1).1]
    have e2 : (Config.single ⟨heap, gens, drawn, toks, os⟩ ⟨.yield v true l kk, c, p, str⟩).collectable = [] := by
      simp [Config.collectable, Config.single, (nothing_to_collect w.params _ _ ⟨heap, gens, drawn, toks, os⟩ ⟨.yield v true l kk, c, p, str⟩ hz.1).2]
    simp only [Config.pick, e1, e2, Config.pickThread, hmoves]
    cases w.params.lifetimes <;> simp
  have hshow : closingShows ⟨heap, gens, drawn, toks, os⟩ fsr c true = false := by
    subst hc
    simp only [closingShows, hgr, Bool.false_or, Bool.true_and, delegateShows, hh, ho, hn]
    rw [← hh, hz.1]
    rfl
  have hstep : step (denote table) prog w ⟨heap, gens, drawn, toks, os⟩ ⟨.yield v true l kk, c, p, str⟩ =
      .go ⟨heap, gens.setIfInBounds g (.suspended kk l c p fsr true), drawn, toks, os⟩ ⟨k (.yielded v), c1, p1, restr⟩ := by
    simp only [step, h1, Bool.true_or]
  have hlife : ∀ others, lifeStep (denote table) prog w others ⟨heap, gens, drawn, toks, os⟩ ⟨.yield v true l kk, c, p, str⟩ = step (denote table) prog w ⟨heap, gens, drawn, toks, os⟩ ⟨.yield v true l kk, c, p, str⟩ := by
    intro others
    have hsp : Thread.special ⟨.yield v true l kk, c, p, str⟩ = true := by simp [Thread.special, Thread.yieldsInsideHandler]
    have hct : collectorTurn? w.params others ⟨heap, gens, drawn, toks, os⟩ ⟨.yield v true l kk, c, p, str⟩ = none := rfl
    have hend : Thread.atItsEnd ⟨.yield v true l kk, c, p, str⟩ = false := rfl
    simp only [lifeStep, hsp, if_true, hct, h1, hshow, Bool.false_eq_true, if_false, Bool.false_and, hend, stepCounting, show heap.life.counting = false from hz.2]
  refine ⟨⟨heap, gens.setIfInBounds g (.suspended kk l c p fsr true), drawn, toks, os⟩, ⟨k (.yielded v), c1, p1, restr⟩, ?_, ⟨?_, ?_⟩, rfl, ?_⟩
  · simp only [sstep, hpick, Config.move]
    simp only [Config.run, Config.single]
    simp [hlife, hstep, others_single, frozenBadly, ThreadState.insideWrite, Thread.finalizes, Thread.special, Thread.yieldsInsideHandler]
  · obtain ⟨b1, b2, b3, b4, b5⟩ := Shared.forget_eq S1
    obtain ⟨heap', gens', drawn', toks', os'⟩ := s
    simp only [Shared.clr, Shared.forget, Shared.setGen, Array.map_setIfInBounds, GenState.clr, GenState.forget, h2] at b1 b2 b3 b4 b5 ⊢
    rw [b1, b2, b3, b4, b5]
  · simp [Thread.forget, h3]
  · intro g' k' l' c' p' fs' hg'
    rcases get_set hg' with e | e
    · simp only [GenState.suspended.injEq] at e
      obtain ⟨rfl, rfl, rfl, rfl, rfl, _⟩ := e
      exact ⟨hgr, a, more, kw, hc, by simp⟩
    · obtain ⟨q1, a', m', kw', q2, q3⟩ := C g' k' l' c' p' fs' e
      exact ⟨q1, a', m', kw', q2, by simp [q3]⟩

theorem real_go {prog : Program} {w : World} {s s' : Shared} {t t' : Thread} {L L' : Lg} (G : Go (model prog w) s L t s' L' t') : ∀ {sr tr}, Sim s t sr tr → sr.asleep → CLok sr L →
    ∃ n sr' tr', (∀ m, schedN (denote table) prog w (n + m) (.single sr tr) = schedN (denote table) prog w m (.single sr' tr')) ∧ Sim s' t' sr' tr' ∧ sr'.heap.life = sr.heap.life ∧ CLok sr' L' := by
  induction G with
  | refl => intro sr tr S hz C; exact ⟨0, sr, tr, fun m => by rw [Nat.zero_add], S, rfl, C⟩
  | calm e _ ih =>
    intro sr tr S hz C
    obtain ⟨sr1, tr1, q1, q2, q3, q4⟩ := real_calm S hz C e
    obtain ⟨n, sr', tr', r1, r2, r3, r4⟩ := ih q2 (Shared.asleep_of_life q3 hz) q4
    refine ⟨n + 1, sr', tr', fun m => ?_, r2, r3.trans q3, r4⟩
    rw [Nat.add_right_comm]
    simp only [schedN, q1]
    exact r1 m
  | loud e1 e2 e3 e4 _ ih =>
    intro sr tr S hz C
    obtain ⟨sr1, tr1, q1, q2, q3, q4⟩ := real_loud (prog := prog) (w := w) S hz C e1 e2 e3 e4
    obtain ⟨n, sr', tr', r1, r2, r3, r4⟩ := ih q2 (Shared.asleep_of_life q3 hz) q4
    refine ⟨n + 1, sr', tr', fun m => ?_, r2, r3.trans q3, r4⟩
    rw [Nat.add_right_comm]
    simp only [schedN, q1]
    exact r1 m

/-- at the end nothing that sleeps shows -/
theorem end_bare {b : Bool} {sr : Shared} {L : Lg} (hz : sr.asleep) (C : CLok sr L) (hL : ∀ a ∈ L, IsGn sr.heap a) : leftWithCleanup (forgetSuspended b sr).gens = false := by
  unfold leftWithCleanup forgetSuspended
  rw [Array.any_eq_false']
  intro x hx
  obtain ⟨y, hy, rfl⟩ := Array.mem_map.mp hx
  cases y with
  | suspended k l c p fs cl =>
    cases cl with
    | false => simp
    | true =>
      obtain ⟨g, hlt, hg⟩ := Array.mem_iff_getElem.mp hy
      obtain ⟨h1, a, more, kw, rfl, ha⟩ := C g k l c p fs (by rw [Array.getElem?_eq_getElem hlt, hg])
      obtain ⟨o, n, ho, hn⟩ := hL a ha
      have : closingShows sr fs (.builtin "proto.yield_from" ⟨.ref a :: more, kw⟩) true = false := by
        simp only [closingShows, h1, Bool.false_or, Bool.true_and, delegateShows, ho, hn]
        rw [hz.1]
        rfl
      simp [this]
  | _ => simp

theorem real_end {prog : Program} {w : World} {sr : Shared} {tr : Thread} {s' : Shared} {r : Result} {c : Code} {p : Pos} {L : Lg} (S : Sim s' ⟨leafOf r, c, p, []⟩ sr tr) (hz : sr.asleep) (C : CLok sr L) (hL : ∀ a ∈ L, IsGn sr.heap a) :
    schedN (denote table) prog w 1 (.single sr tr) = .halted (outcomeOf r) (forgetSuspended (w.params.lifetimes == .anyTime) sr) := by
  obtain ⟨S1, S2⟩ := S
  obtain ⟨cur, code, pos, str⟩ := tr
  simp only [Thread.forget, Thread.mk.injEq] at S2
  obtain ⟨e1, e2, e3, S2⟩ := S2
  cases e1; cases e2; cases e3
  have hstr : str = [] := by cases str with
    | nil => rfl
    | cons f fs => cases S2
  subst hstr
  have hcalm : Thread.calm ⟨leafOf r, c, p, []⟩ = true := by cases r <;> rfl
  have hend : Thread.atItsEnd ⟨leafOf r, c, p, []⟩ = true := by cases r <;> rfl
  have hlife : ∀ others, lifeStep (denote table) prog w others sr ⟨leafOf r, c, p, []⟩ = .halt (outcomeOf r) (forgetSuspended (w.params.lifetimes == .anyTime) sr) := by
    intro others
    rw [lifeStep_calm0 _ _ _ _ _ _ hcalm hz, hend, if_pos rfl]
    have hb := end_bare (b := w.params.lifetimes == .anyTime) hz C hL
    generalize forgetSuspended (w.params.lifetimes == .anyTime) sr = z at hb
    obtain ⟨heap, gens, drawn, toks, os⟩ := z
    cases r <;> simp only [leafOf, step, finish, outcomeOf] <;> rw [show leftWithCleanup gens = false from hb] <;> rfl
  simp only [schedN, sstep, pick_single w sr _ hcalm hz.1, Config.move]
  cases r <;> simp only [leafOf, outcomeOf] at hlife ⊢ <;> simp only [Config.run, Config.single] <;> simp [hlife, others_single, frozenBadly, ThreadState.insideWrite]
end LL
end

section
set_option Elab.async false
set_option linter.all false
set_option maxRecDepth 100000
/-! L2b: a law's head over the logic with loud yields. -/
namespace LL
open PySem PySem.W PySem.Calls PyProof.Rows

/-- over whom was slept: generators -/
def LogOk (s : Shared) (L : Lg) : Prop := ∀ a ∈ L, IsGn s.heap a

theorem thread_endsL {prog : Program} {w : World} {t : Sem Fin} {s : Shared} {R : Result → Shared → Prop} (hz : s.asleep) (hg : s.gens = #[])
    (h : WpL (model prog w) callerA t (fun fin s' L => ∃ f, fin = .done f ∧ R (.ok f) s' ∧ LogOk s' L) (fun e s' L => R (.error e) s' ∧ LogOk s' L) s []) :
    ∃ n r s' s'', schedN (denote table) prog w n (.single s ⟨t, .builtin "claim.caller" {}, default, []⟩) = .halted (outcomeOf r) s' ∧ s'.heap = s''.heap ∧ s'.os = s''.os ∧ s'.heap.life = s.heap.life ∧ R r s'' := by
  have id_wrap : t.wrap Sem.pure .raise id id = t := by rw [← Sem.bind_eq_wrap]; exact Sem.bind_pure t
  have q := h ⟨.builtin "claim.caller" {}, none, none, [], none⟩ default [] Sem.pure .raise id id caller_in ⟨rfl, rfl, rfl, rfl⟩
  rw [id_wrap] at q
  have C0 : CLok s [] := by
    intro g k l c p fs e
    rw [hg] at e
    simp at e
  have fin : ∀ {r : Result} {p' : Pos} {s' : Shared} {L' : Lg}, Go (model prog w) s [] ⟨t, .builtin "claim.caller" {}, default, []⟩ s' L' ⟨leafOf r, .builtin "claim.caller" {}, p', []⟩ → R r s' → LogOk s' L' →
      ∃ n r s' s'', schedN (denote table) prog w n (.single s ⟨t, .builtin "claim.caller" {}, default, []⟩) = .halted (outcomeOf r) s' ∧ s'.heap = s''.heap ∧ s'.os = s''.os ∧ s'.heap.life = s.heap.life ∧ R r s'' := by
    intro r p' s' L' G hR hL
    obtain ⟨n, sr, tr, h1, h2, h3, h4⟩ := real_go G (sr := s) (tr := ⟨t, .builtin "claim.caller" {}, default, []⟩) ⟨rfl, rfl⟩ hz C0
    have hh : sr.heap = s'.heap := (Shared.forget_eq h2.sh).1
    have ho : sr.os = s'.os := (Shared.forget_eq h2.sh).2.2.2.1
    have e := real_end (prog := prog) (w := w) h2 (Shared.asleep_of_life h3 hz) h4 (fun a ha => by rw [hh]; exact hL a ha)
    exact ⟨n + 1, r, _, s', (h1 1).trans e, hh, ho, h3, hR⟩
  rcases q with ⟨a, p', s', L', ⟨f, rfl, h1, h2⟩, G⟩ | ⟨x, p', s', L', ⟨h1, h2⟩, G⟩
  · exact fin (r := .ok f) G h1 h2
  · exact fin (r := .error x) G h1 h2

theorem callFrom_of_specL {c : ClaimW} {tree : List Value → Sem Fin} {w : World} {s : Shared} {free : Addr → Prop} {gens : Prop} {kept : Heap → Prop} (hz : s.asleep) (hgens : s.gens = #[])
    (hspec : ∀ args, c.pre args = true → WData.layableAll args = true →
      ∀ ord : List DictEntry → List DictEntry, (∀ l, (ord l).Perm l) →
      ∃ vs s₁, layAllW c.records (classAt s.heap) w.params ord args s = some (vs, s₁) ∧
        WpL (model c.prog w) callerA (tree vs) (fun fin s' L => ∃ f, fin = .done f ∧ (c.Ends s args vs s₁ (.ok f) s' ∧ s'.os = s.os ∧ kept s'.heap) ∧ LogOk s' L)
          (fun e s' L => (c.Ends s args vs s₁ (.error e) s' ∧ s'.os = s.os ∧ kept s'.heap) ∧ LogOk s' L) s₁ []) :
    c.CallFrom (fun vs => ⟨tree vs, .builtin "claim.caller" {}, default, []⟩) w free gens kept s := by
  intro args hpre hlay ord hord
  obtain ⟨vs, s₁, hlaid, hcode⟩ := hspec args hpre hlay ord hord
  have hal := layAllW_rest _ _ _ hlaid
  obtain ⟨k, r, s', s'', hsched, eh, eo, el, hcase, hos, hkp⟩ := thread_endsL (prog := c.prog) (w := w) (t := tree vs) (s := s₁)
    (R := fun r s' => c.Ends s args vs s₁ r s' ∧ s'.os = s.os ∧ kept s'.heap) (Shared.asleep_of_life hal.2.2.2 hz) (hal.1.trans hgens) hcode
  have hcase := hcase.congr eh
  rw [← eh] at hkp
  rw [← eo] at hos
  have hlife : s'.heap.life = s.heap.life := el.trans hal.2.2.2
  refine ⟨vs, s₁, hlaid, k, _, s', hsched, ?_, (fun _ i x hx => by rw [hgens] at hx; simp at hx), hkp, by rw [hlife], Shared.rest_eq hos⟩
  rcases hcase with ⟨v, rfl, d1, d2, d3, d4, d5⟩ | ⟨e, ob, cls, rfl, d1, d2, d3, d4, d5⟩
  · exact .inl ⟨v, rfl, d1, d2, d3, fun b o y _ => d4 b o y, d5⟩
  · exact .inr ⟨e, ob, cls, rfl, d1, d2, d3, d4, fun b o y _ => d5 b o y⟩

abbrev WalkL (q : Program) (loose : List PySem.Str) (XP : (PySem.Str → Option Value) → Heap → Prop) (YP : World → Heap → Prop) (r : RowW) (d : DefRec) (kwd : List (PySem.Str × Expr)) : Prop :=
  ∀ (w : World) (s₀ s₁ : Shared) (mg mb : PySem.Str → Option Value), Ground q loose r.records XP w s₀ mg mb s₁.heap → YP w s₁.heap → ∀ (a : Addr) (o : Obj) (pm cd doc dV kV : Value), s₁.heap.get? a = some o →
    o.data = .func { docDef d.name d.params d.body d.scope pm cd doc with defaults := dV, kwdefaults := kV } → s₁.heap.CodeRec cd d.name → Dflts mg s₁.heap d.params kwd dV kV → mg d.name = some (.ref a) → s₁.gens = #[] →
    ∀ (args : List WData) (vals : List Value) (as : List Addr), r.claim.pre args = true → WData.layableAll args = true → ReadsAllW r.records (classAt s₀.heap) s₁.heap vals args as → WellAll w.params s₁.heap vals args → (∀ a ∈ as, (a == sysModules) = false) →
      WpL (model r.prog w) callerA (PySem.call (.ref a) vals) (fun v s' L => GoodWG r.claim (classAt s₀.heap) (ExcName.means s₀.heap) args s₁ (.ok (.ret v)) s' ∧ LogOk s' L)
        (fun e s' L => GoodWG r.claim (classAt s₀.heap) (ExcName.means s₀.heap) args s₁ (.error e) s' ∧ LogOk s' L) s₁ []

theorem open_anyL {r : RowW} {q : Program} {loose defs kps : List PySem.Str} {writes : Bool} {Xt : Shared → Bool} {XP : (PySem.Str → Option Value) → Heap → Prop} {α : Type} {Yf : Shared → α} {Ya : World → α} {YP : World → Heap → Prop} {N : Nat}
    (left : LeftO r.prog q loose Xt Yf Ya N) (hY : ∀ w s, Yf s = Ya w → YP w s.heap) (hYk : ∀ w h h', YP w h → (∀ b o, h.get? b = some o → h'.get? b = some o) → YP w h') (hX : ∀ s, Xt s = true → XP (s.heap.nsMap mainGlobals) s.heap) (hXk : ∀ mg h h', XP mg h → (∀ b o, h.get? b = some o → h'.get? b = some o) → XP mg h')
    (hRf : ∀ s, Xt s = true → RecFacts r.records s.heap) (hwr : (!writes || r.records.isEmpty) = true) (ok : (chainsOk q && opensWell r.prog && (frees r && r.within.isEmpty)) = true) (hb : r.prog.bare) (hw : r.promised)
    (pin : ∀ w s, s.heap.isNs mainGlobals = true → Ground q loose [] XP w s (s.heap.nsMap mainGlobals) (s.heap.nsMap builtinsNs) s.heap → ∀ n ∈ defs, isTheDefsW r.prog s.heap n)
    (call : ∀ (w : World) (s₀ s₁ : Shared) (mg mb : PySem.Str → Option Value), Ground q loose r.records XP w s₀ mg mb s₁.heap → YP w s₁.heap → ∀ (args : List WData) (vs : List Value) (as : List Addr),
      r.claim.pre args = true → WData.layableAll args = true → Laid r.records w s₀ s₁ args vs as → sysModules < s₀.heap.objs.size → ∃ f, mg r.name = some f ∧
        WpL (model r.prog w) callerA (PySem.call f vs) (fun v s' L => GoodWG r.claim (classAt s₀.heap) (ExcName.means s₀.heap) args s₁ (.ok (.ret v)) s' ∧ LogOk s' L)
          (fun e s' L => GoodWG r.claim (classAt s₀.heap) (ExcName.means s₀.heap) args s₁ (.error e) s' ∧ LogOk s' L) s₁ []) : r.claim.HoldsOpenBy (fun vs => ⟨do match ← nsGet mainNs r.name with
      | some f => do ret (← PySem.call f vs)
      | none => unsupported "claim.caller:no-such-global", .builtin "claim.caller" {}, default, []⟩) defs kps writes := by
  simp only [Bool.and_eq_true] at ok
  obtain ⟨⟨chain, opens⟩, fr, inside⟩ := ok
  obtain ⟨same, hu, ha, hap, hm⟩ := frees_parts fr
  have far := left.behind (XP := fun mg h => XP mg h ∧ RecFacts r.records h) (fun s hs => ⟨hX s hs, hRf s hs⟩) chain
  refine ⟨⟨hb, opens, by show r.makers.map _ = []; rw [hm]; rfl⟩, hw.witness, fun w => ⟨(far w).1, fun s' hs' => ?_⟩⟩
  obtain ⟨s₀, f1, f2, s, hT, asleep, noGens, isNs, G, y⟩ := (far w).2 s' hs'
  have G0 : Ground q loose [] XP w s (s.heap.nsMap mainGlobals) (s.heap.nsMap builtinsNs) s.heap := ⟨G.T, G.B, G.D, G.TE, G.TD, G.W, G.X.1, G.cls, G.has, G.apart, G.once, G.K⟩
  have Gr : Ground q loose r.records XP w s _ _ s.heap := G.X.2.ground G0
  have noGens : s.gens = #[] := Array.eq_empty_of_size_eq_zero (beq_iff_eq.mp noGens)
  refine ⟨s₀, f1, f2, s, hT, pin w s isNs G0, G.X.2.1, G.X.2.2.1, callFrom_of_specL (c := r.claim) asleep noGens fun args pre lay ord perm => ?_⟩
  obtain ⟨⟨vs, s₁⟩, laid⟩ := Option.isSome_iff_exists.mp (layAllW_isSome (P := w.params) (ord := ord) Gr.has args r.args s (pre_splitW pre).1)
  obtain ⟨r1, _, r3, _⟩ := layAllW_rest _ _ _ laid
  have kp := layAllW_keeps _ _ _ laid
  obtain ⟨as, rd, well, low⟩ := reads_layAllW perm _ _ _ laid lay s₁.heap fun _ _ e => e
  have L : Laid r.records w s s₁ args vs as := ⟨⟨ord, perm, laid⟩, rd, well, low, kp, r1.trans noGens, r3⟩
  have G1 := Gr.keeps hXk kp
  obtain ⟨f, hf, body⟩ := call w s s₁ _ _ G1 (hYk _ _ _ (hY w s y) kp) args vs as pre lay L Gr.low
  refine ⟨vs, s₁, laid, WpL.bind (WpL.of (wpAny_nsGet G1.T.g ?_))⟩
  show WpL _ _ _ _ _ s₁ []
  rw [hf]
  refine WpL.bind (body.mono (fun v s2 L2 ⟨g, lg⟩ => WpL.pure ⟨_, rfl, ?_, lg⟩) fun e s2 L2 ⟨g, lg⟩ => ⟨?_, lg⟩)
  all_goals
    have z := g.laid (c := r.claim) same (List.isEmpty_iff.mp inside) (ident_freeW hu ha hap) L
    exact ⟨z.1, z.2.1, fun q => ⟨namesKept_of hT isNs kps kp g.2.1.old, noTable hwr q⟩⟩

theorem holds_openL {r : OpenRow} {q : Program} {loose : List PySem.Str} {Xt : Shared → Bool} {XP : (PySem.Str → Option Value) → Heap → Prop} {α : Type} {Yf : Shared → α} {Ya : World → α} {YP : World → Heap → Prop} {d : DefRec} {kwd : List (PySem.Str × Expr)} {N : Nat}
    (left : LeftO r.prog q loose Xt Yf Ya N) (hY : ∀ w s, Yf s = Ya w → YP w s.heap) (hYk : ∀ w h h', YP w h → (∀ b o, h.get? b = some o → h'.get? b = some o) → YP w h')
    (hX : ∀ s, Xt s = true → XP (s.heap.nsMap mainGlobals) s.heap) (hXk : ∀ mg h h', XP mg h → (∀ b o, h.get? b = some o → h'.get? b = some o) → XP mg h')
    (hdef : defOf q r.name = some (d, kwd)) (hp : r.prog.theDef r.name = some (d.params, d.body, d.scope)) (hk : kwWritten? d.params.kwonlyargs d.params.kw_defaults = some kwd) (hRf : ∀ s, Xt s = true → RecFacts r.records s.heap) (hwr : (!r.writes || r.records.isEmpty) = true)
    (k1 : r.wellSaid = true) (ok : (chainsOk q && opensWell r.prog && (frees r.toRowW && r.within.isEmpty)) = true) (hb : r.prog.bare) (hw : r.toRowW.promised)
    (call : WalkL q loose XP YP r.toRowW d kwd) : r.Holds := by
  refine ⟨k1, hw, open_anyL (r := r.toRowW) left hY hYk hX hXk hRf hwr ok hb hw
    (fun w s hg G n hn => ?_) fun w s₀ s₁ mg mb G Y args vs as hpre hlay L low => ?_⟩
  · obtain rfl : n = r.name := by split at hn <;> simp_all
    exact pinned_of_view hg G hdef hp hk
  · obtain ⟨a, o, pm, cd, doc, dV, kV, h1, h2, h3, h4, h5⟩ := G.fn hdef
    exact ⟨.ref a, h1, call w s₀ s₁ mg mb G Y a o pm cd doc dV kV h2 h3 h4 h5 (defOf_name hdef ▸ h1) L.gens args vs as hpre hlay L.reads L.well (L.low low)⟩

open HandSHeadRun in
theorem head_anyL {r : OpenRow} {q : Program} {H : Hook} {ob : SharedT → H.α} {M : Nat} {loose : List PySem.Str} {d : DefRec} {kwd : List (PySem.Str × PySem.Expr)} (ho : ∀ s : SharedT, ob s = H.obs s.abs)
    (e : opening r.prog = plainProg r.prog.main.scope.names) (f : ∀ s, fenceModules? r.prog s = some s) (run : ∀ w, RunEq r q H ob M loose w)
    (hdef : defOf q r.name = some (d, kwd)) (hp : r.prog.theDef r.name = some (d.params, d.body, d.scope)) (hk : kwWritten? d.params.kwonlyargs d.params.kw_defaults = some kwd)
    (hwr : (!r.writes || r.records.isEmpty) = true) (k1 : r.wellSaid = true) (ok : (chainsOk q && opensWell r.prog && (frees r.toRowW && r.within.isEmpty)) = true) (hb : r.prog.bare) (hw : r.toRowW.promised)
    (call : WalkL q loose (XL q []) H.says r.toRowW d kwd) : r.Holds := by
  have left : LeftO r.prog q loose (fun s => xlAt q [] s && recOk r.toRowW.records s) H.obs H.val (M + 600) true :=
    left_one (M := M) e (Nat.ble_eq_true_of_le (by omega)) f (Nat.ble_eq_true_of_le (by omega)) fun w os => by
      have z := run w os
      have eo : ob = fun s => H.obs s.abs := funext ho
      rw [eo] at z
      simp only [endQ_eq, seenQ_eq]
      exact z
  exact holds_openL (r := r) (q := q) (loose := loose) (XP := XL q []) (YP := H.says) (d := d) (kwd := kwd) left H.of H.keeps (fun s z => xl_of s (Bool.and_eq_true_iff.mp z).1) XL.keeps hdef hp hk (fun s z => recFacts_of (Bool.and_eq_true_iff.mp z).2) hwr k1 ok hb hw call

open L2 in
theorem attach_callL {l : OpenLaw} {n : Nat} {q : Program} {loose : List PySem.Str} {XP : (PySem.Str → Option Value) → Heap → Prop} {YP : World → Heap → Prop} {d : DefRec}
    (hn : l.most = some n) (hdf : d.params.defaults = [])
    (call : ∀ (w : World) (s₀ s₁ : Shared) (mg mb : PySem.Str → Option Value) (fa : Addr) (o : Obj) (pm cd doc : Value) (a : Addr) (vs : List Value) (ns : List Int),
      Ground q loose [] XP w s₀ mg mb s₁.heap → YP w s₁.heap →
      s₁.heap.get? fa = some o → o.data = .func (docDef d.name d.params d.body d.scope pm cd doc) → s₁.heap.CodeRec cd d.name → mg d.name = some (.ref fa) →
      s₁.heap.get? a = some { cls := .type "list", data := .seq vs.toArray } → IntsAre vs ns → ns.length ≤ n → s₁.gens = #[] →
      CodeL (model l.prog w) callerA (.call (.ref fa) ⟨[.ref a], []⟩) (fun r s' L => (r = .ok (.ret (.bool true)) ∧ OldK s₁.heap s'.heap ∧ s'.os = s₁.os ∧ AllBare s'.gens) ∧ LogOk s' L) s₁ []) :
    WalkL q loose XP YP l.row.toRowW d [] := by
  intro w s₀ s₁ mg mb G Y fa o pm cd doc dV kV ho hd hcd hD hmg hg args vals as hpre hlay hrd hwl hlo
  obtain rfl : dV = .none := Dflts.none hD hdf
  obtain rfl : kV = .none := Dflts.noKw hD
  obtain ⟨a, vs, ns, rfl, rfl, hobj, hints, hlen⟩ := Att.script_of hn hpre hwl
  refine WpL.call ((call w s₀ s₁ mg mb fa o pm cd doc a vs ns G Y ho (fd_plain hd) hcd hmg hobj hints hlen hg).mono fun r s' L hq => ?_)
  obtain ⟨⟨rfl, h2, h3, h4⟩, h5⟩ := hq
  exact ⟨⟨.inl ⟨.bool true, .bool true, [], rfl, fun _ => rfl, .bool true, Att.post_true l _, fun _ => ⟨List.Pairwise.nil, fun _ hm => (nomatch hm)⟩⟩, h2, h3, h4⟩, h5⟩
end LL
end

section
set_option Elab.async false
set_option linter.all false
set_option maxRecDepth 100000
/-! L3: a generator's segments. -/
namespace LL
open PySem

/-- to the generator's end or to its next yield -/
def SgL (M : Model) (A : Around) (c : Code) (t : Sem PySem.Fin) (fs : List Frame) (s : Shared) (L : Lg) (RQ : Result → Shared → Lg → Prop) (YQ : Value → Code → (Resume → Sem PySem.Fin) → List Frame → Shared → Lg → Prop) : Prop :=
  ∀ (Γ : Ctx) (p : Pos) (g : Nat) (k : GenResult → Sem PySem.Fin) (l : List Value) (cc : Code) (pp : Pos) (base : List Frame), Γ.code = c → Γ.Woken A → Γ.Fits (.gen g k l cc pp :: base) →
    (∃ r c' p' s' L', RQ r s' L' ∧ Go M s L ⟨t, c, p, fs ++ .gen g k l cc pp :: base⟩ s' L' ⟨leafOf r, c', p', .gen g k l cc pp :: base⟩) ∨
    ∃ v lo lv kk c' p' fs' s' L', splitAtGen fs' = none ∧ fs'.any Frame.guarded = false ∧
      (lo = false ∧ YQ v c' kk fs' s' L' ∨ lo = true ∧ ∃ a more kw, c' = .builtin "proto.yield_from" ⟨.ref a :: more, kw⟩ ∧ IsGn s'.heap a ∧ YQ v c' kk fs' s' (a :: L')) ∧
      Go M s L ⟨t, c, p, fs ++ .gen g k l cc pp :: base⟩ s' L' ⟨.yield v lo lv kk, c', p', fs' ++ .gen g k l cc pp :: base⟩

section
variable {M : Model} {A : Around} {c : Code} {fs : List Frame} {s : Shared} {L : Lg} {RQ : Result → Shared → Lg → Prop} {YQ : Value → Code → (Resume → Sem PySem.Fin) → List Frame → Shared → Lg → Prop}

theorem SgL.pre {t t1 : Sem PySem.Fin} {c1 : Code} {fs1 : List Frame} {s1 : Shared} {L1 : Lg}
    (hgo : ∀ (Γ : Ctx) (p : Pos) (g : Nat) (k : GenResult → Sem PySem.Fin) (l : List Value) (cc : Code) (pp : Pos) (base : List Frame), Γ.code = c → Γ.Woken A → Γ.Fits (.gen g k l cc pp :: base) →
      ∃ p1, Go M s L ⟨t, c, p, fs ++ .gen g k l cc pp :: base⟩ s1 L1 ⟨t1, c1, p1, fs1 ++ .gen g k l cc pp :: base⟩)
    (h : SgL M A c1 t1 fs1 s1 L1 RQ YQ) : SgL M A c t fs s L RQ YQ := by
  intro Γ p g k l cc pp base hc hΓ hF
  obtain ⟨p1, hgo⟩ := hgo Γ p g k l cc pp base hc hΓ hF
  rcases h (Γ.goto c1) p1 g k l cc pp base rfl (hΓ.goto c1) (hF.goto c1) with ⟨r, c', p', s', L', h1, h2⟩ | ⟨v, lo, lv, kk, c', p', fs', s', L', h1, h2, h3, h4⟩
  · exact .inl ⟨r, c', p', s', L', h1, hgo.trans h2⟩
  · exact .inr ⟨v, lo, lv, kk, c', p', fs', s', L', h1, h2, h3, hgo.trans h4⟩
theorem SgL.mono {t : Sem PySem.Fin} {RQ' : Result → Shared → Lg → Prop} {YQ' : Value → Code → (Resume → Sem PySem.Fin) → List Frame → Shared → Lg → Prop} (h : SgL M A c t fs s L RQ YQ) (hR : ∀ r s L, RQ r s L → RQ' r s L)
    (hY : ∀ v c kk fs s L, YQ v c kk fs s L → YQ' v c kk fs s L) : SgL M A c t fs s L RQ' YQ' := by
  intro Γ p g k l cc pp base hc hΓ hF
  rcases h Γ p g k l cc pp base hc hΓ hF with ⟨r, c', p', s', L', h1, h2⟩ | ⟨v, lo, lv, kk, c', p', fs', s', L', h1, h2, h3, h4⟩
  · exact .inl ⟨r, c', p', s', L', hR _ _ _ h1, h2⟩
  · refine .inr ⟨v, lo, lv, kk, c', p', fs', s', L', h1, h2, ?_, h4⟩
    rcases h3 with ⟨a, b⟩ | ⟨a, x, m, w, e, i, b⟩
    · exact .inl ⟨a, hY _ _ _ _ _ _ b⟩
    · exact .inr ⟨a, x, m, w, e, i, hY _ _ _ _ _ _ b⟩
theorem SgL.wrap {α : Type} {m : Sem α} {K : α → Sem PySem.Fin} {J : Value → Sem PySem.Fin} {gd : Bool → Bool} {lv : List Value → List Value}
    (h : WpL M (A.over c fs) m (fun a s' L' => SgL M A c (K a) fs s' L' RQ YQ) (fun x s' L' => SgL M A c (J x) fs s' L' RQ YQ) s L) : SgL M A c (m.wrap K J gd lv) fs s L RQ YQ := by
  intro Γ p g k l cc pp base hc hΓ hF
  subst hc
  rcases h (Γ.over fs) p (fs ++ .gen g k l cc pp :: base) K J gd lv (hΓ.over fs) (hF.over fs) with ⟨a, p', s', L', h1, h2⟩ | ⟨x, p', s', L', h1, h2⟩
  · rcases h1 Γ p' g k l cc pp base rfl hΓ hF with ⟨r, c', p2, s2, L2, r1, r2⟩ | ⟨v, lo, lv', kk, c', p2, fs', s2, L2, r1, r2, r3, r4⟩
    · exact .inl ⟨r, c', p2, s2, L2, r1, Go.trans h2 r2⟩
    · exact .inr ⟨v, lo, lv', kk, c', p2, fs', s2, L2, r1, r2, r3, Go.trans h2 r4⟩
  · rcases h1 Γ p' g k l cc pp base rfl hΓ hF with ⟨r, c', p2, s2, L2, r1, r2⟩ | ⟨v, lo, lv', kk, c', p2, fs', s2, L2, r1, r2, r3, r4⟩
    · exact .inl ⟨r, c', p2, s2, L2, r1, Go.trans h2 r2⟩
    · exact .inr ⟨v, lo, lv', kk, c', p2, fs', s2, L2, r1, r2, r3, Go.trans h2 r4⟩
theorem SgL.bind {α : Type} {m : Sem α} {K : α → Sem PySem.Fin}
    (h : WpL M (A.over c fs) m (fun a s' L' => SgL M A c (K a) fs s' L' RQ YQ) (fun x s' L' => SgL M A c (.raise x) fs s' L' RQ YQ) s L) : SgL M A c (m >>= K) fs s L RQ YQ := by
  rw [Sem.bind_eq_wrap']
  exact .wrap h
theorem SgL.bind_wrap {α β : Type} {m : Sem α} {f : α → Sem β} {K : β → Sem PySem.Fin} {J : Value → Sem PySem.Fin} {gd : Bool → Bool} {lv : List Value → List Value}
    (h : WpL M (A.over c fs) m (fun a s' L' => SgL M A c ((f a).wrap K J gd lv) fs s' L' RQ YQ) (fun x s' L' => SgL M A c (J x) fs s' L' RQ YQ) s L) : SgL M A c ((m >>= f).wrap K J gd lv) fs s L RQ YQ := by
  rw [Sem.bind_eq_wrap', Sem.wrap_wrap]
  exact .wrap (K := fun a => (f a).wrap K J gd lv) (J := J) h
/-- the same of quiet trees -/
theorem SgL.wrapQ {α : Type} {m : Sem α} {K : α → Sem PySem.Fin} {J : Value → Sem PySem.Fin} {gd : Bool → Bool} {lv : List Value → List Value}
    (h : wpAny M (A.over c fs) m (fun a s' => SgL M A c (K a) fs s' L RQ YQ) (fun x s' => SgL M A c (J x) fs s' L RQ YQ) s) : SgL M A c (m.wrap K J gd lv) fs s L RQ YQ := .wrap (.of h)
theorem SgL.bindQ {α : Type} {m : Sem α} {K : α → Sem PySem.Fin}
    (h : wpAny M (A.over c fs) m (fun a s' => SgL M A c (K a) fs s' L RQ YQ) (fun x s' => SgL M A c (.raise x) fs s' L RQ YQ) s) : SgL M A c (m >>= K) fs s L RQ YQ := .bind (.of h)
theorem SgL.bind_wrapQ {α β : Type} {m : Sem α} {f : α → Sem β} {K : β → Sem PySem.Fin} {J : Value → Sem PySem.Fin} {gd : Bool → Bool} {lv : List Value → List Value}
    (h : wpAny M (A.over c fs) m (fun a s' => SgL M A c ((f a).wrap K J gd lv) fs s' L RQ YQ) (fun x s' => SgL M A c (J x) fs s' L RQ YQ) s) : SgL M A c ((m >>= f).wrap K J gd lv) fs s L RQ YQ := .bind_wrap (.of h)
theorem SgL.at_ {p' : Pos} {k : Unit → Sem PySem.Fin} (h : SgL M A c (k ()) fs s L RQ YQ) : SgL M A c (.at p' k) fs s L RQ YQ :=
  SgL.wrapQ (m := standAt p') (K := k) (J := .raise) (gd := id) (lv := id) (wpAny_standAt h)
theorem SgL.point {l : List Value} {k : Unit → Sem PySem.Fin} (h : SgL M A c (k ()) fs s L RQ YQ) : SgL M A c (.point l k) fs s L RQ YQ :=
  SgL.wrapQ (m := PySem.point) (K := k) (J := .raise) (gd := id) (lv := fun _ => l) (wpAny_point h)
theorem SgL.call {c' : Code} {h g l} {k : Result → Sem PySem.Fin} (hc : ∀ p, SgL M A c' (M.den c') (.ret k h g l c p [] :: fs) s L RQ YQ) : SgL M A c (.call c' h g l k) fs s L RQ YQ := by
  intro Γ p g' k' l' cc pp base e hΓ hF
  rcases hc p (Γ.goto c') p g' k' l' cc pp base rfl (hΓ.goto c') (hF.goto c') with ⟨r, c2, p', s', L', h1, h2⟩ | ⟨v, lo, lv, kk, c2, p', fs', s', L', h1, h2, h3, h4⟩
  · exact .inl ⟨r, c2, p', s', L', h1, .calm (step_call ..) h2⟩
  · exact .inr ⟨v, lo, lv, kk, c2, p', fs', s', L', h1, h2, h3, .calm (step_call ..) h4⟩
theorem SgL.leaf {k h g l c₁ p₁ kp} (r : Result) (hk : SgL M A c₁ (k r) fs s L RQ YQ) : SgL M A c (leafOf r) (.ret k h g l c₁ p₁ kp :: fs) s L RQ YQ := by
  intro Γ p g' k' l' cc pp base e hΓ hF
  rcases hk (Γ.goto c₁) p₁ g' k' l' cc pp base rfl (hΓ.goto c₁) (hF.goto c₁) with ⟨r, c2, p', s', L', h1, h2⟩ | ⟨v, lo, lv, kk, c2, p', fs', s', L', h1, h2, h3, h4⟩
  · exact .inl ⟨r, c2, p', s', L', h1, .calm (step_leaf_ret ..) h2⟩
  · exact .inr ⟨v, lo, lv, kk, c2, p', fs', s', L', h1, h2, h3, .calm (step_leaf_ret ..) h4⟩
theorem SgL.again {c' : Code} (hq : c'.quiet = true) (hc : SgL M A c' (M.den c') fs s L RQ YQ) : SgL M A c (.pure (.again c')) fs s L RQ YQ := by
  intro Γ p g' k' l' cc pp base e hΓ hF
  rcases hc (Γ.goto c') p g' k' l' cc pp base rfl (hΓ.goto c') (hF.goto c') with ⟨r, c2, p', s', L', h1, h2⟩ | ⟨v, lo, lv, kk, c2, p', fs', s', L', h1, h2, h3, h4⟩
  · exact .inl ⟨r, c2, p', s', L', h1, .calm (step_again _ _ _ _ _ _ hq) h2⟩
  · exact .inr ⟨v, lo, lv, kk, c2, p', fs', s', L', h1, h2, h3, .calm (step_again _ _ _ _ _ _ hq) h4⟩
theorem SgL.end_ (r : Result) (h : RQ r s L) : SgL M A c (leafOf r) [] s L RQ YQ := by
  intro Γ p g' k' l' cc pp base e hΓ hF
  exact .inl ⟨r, c, p, s, L, h, .refl⟩
theorem SgL.yield {v lv} {kk : Resume → Sem PySem.Fin} (hfs : splitAtGen fs = none) (hfg : fs.any Frame.guarded = false) (h : YQ v c kk fs s L) : SgL M A c (.yield v false lv kk) fs s L RQ YQ := by
  intro Γ p g' k' l' cc pp base e hΓ hF
  exact .inr ⟨v, false, lv, kk, c, p, fs, s, L, hfs, hfg, .inl ⟨rfl, h⟩, .refl⟩
theorem SgL.loud {v lv a more kw} {kk : Resume → Sem PySem.Fin} (hfs : splitAtGen fs = none) (hfg : fs.any Frame.guarded = false) (hi : IsGn s.heap a) (h : YQ v (.builtin "proto.yield_from" ⟨.ref a :: more, kw⟩) kk fs s (a :: L)) :
    SgL M A (.builtin "proto.yield_from" ⟨.ref a :: more, kw⟩) (.yield v true lv kk) fs s L RQ YQ := by
  intro Γ p g' k' l' cc pp base e hΓ hF
  exact .inr ⟨v, true, lv, kk, _, p, fs, s, L, hfs, hfg, .inr ⟨rfl, a, more, kw, rfl, hi, h⟩, .refl⟩

/-- where a generator stands: not begun, or asleep -/
inductive Stands (M : Model) : GenState → Code → Sem PySem.Fin → List Frame → Prop
  | fresh (c : Code) : Stands M (.fresh c) c (M.den c) []
  | asleep (kk : Resume → Sem PySem.Fin) (l : List Value) (c : Code) (p : Pos) (fs : List Frame) (cl : Bool) : Stands M (.suspended kk l c p fs cl) c (kk (.send .none)) fs

theorem split_gen {fs base : List Frame} {g k l c p} (h : splitAtGen fs = none) : splitAtGen (fs ++ .gen g k l c p :: base) = some (fs, (g, k, c, p), base) := by
  rw [splitAtGen_append_none _ h, splitAtGen_gen]
  simp

/-- a turn of a generator, from without -/
theorem WpL.resume {α : Type} {g : Nat} {gs : GenState} {t : Sem PySem.Fin} {l : List Value} {k : GenResult → Sem α} {Q : α → Shared → Lg → Prop} {E : Value → Shared → Lg → Prop} (hg : s.gens[g]? = some gs) (hst : Stands M gs c t fs)
    (h : SgL M A c t fs (s.setGen g .running) L RQ YQ)
    (hR : ∀ r s' L', RQ r s' L' → WpL M A (k (End.ret r).result) Q E (s'.setGen g .finished) L')
    (hY : ∀ v c' kk fs' s' L' lv p', YQ v c' kk fs' s' L' → WpL M A (k (.yielded v)) Q E (s'.setGen g (.suspended kk lv c' p' fs' false)) L') : WpL M A (.resume g (.send .none) l k) Q E s L := by
  intro Γ p st K J gd lv hΓ hF
  have start : ∃ c0 p0, Go M s L ⟨(Sem.resume g (.send .none) l k).wrap K J gd lv, Γ.code, p, st⟩ (s.setGen g .running) L ⟨t, c, p0, fs ++ .gen g (fun r => (k r).wrap K J gd lv) (lv l) Γ.code p :: st⟩ ∧ c0 = c ∧ True := by
    cases hst with
    | fresh c0 => exact ⟨_, p, .calm (step_resume_fresh _ _ _ _ _ _ _ hg) .refl, rfl, trivial⟩
    | asleep kk l0 c0 p0 fs0 cl => exact ⟨_, p0, .calm (step_resume_suspended _ _ _ _ _ _ _ _ hg) .refl, rfl, trivial⟩
  obtain ⟨_, p0, hgo, _, _⟩ := start
  rcases h (Γ.wake c p) p0 g (fun r => (k r).wrap K J gd lv) (lv l) Γ.code p st rfl (hΓ.wake c p) (hF.wake c g (fun r => (k r).wrap K J gd lv) (lv l) p) with ⟨r, c', p', s', L', h1, h2⟩ | ⟨v, lo, lv', kk, c', p', fs', s', L', h1, h2, h3, h4⟩
  · refine (hR r s' L' h1 Γ p st K J gd lv hΓ hF).pre (hgo.trans (h2.trans (.calm ?_ .refl)))
    exact step_exit_gen (e₁ := .ret r) (pre' := []) _ _ _ _ _ _ _ ⟨rfl, rfl⟩ rfl
  · rcases h3 with ⟨rfl, h3⟩ | ⟨rfl, a, more, kw, e, hi, h3⟩
    · refine (hY v c' kk fs' s' L' lv' p' h3 Γ p st K J gd lv hΓ hF).pre (hgo.trans (h4.trans (.calm ?_ .refl)))
      have hq : (End.susp v false lv' kk c' p' fs').quiet = true := by simp [End.quiet, h2]
      have := step_exit_gen (M := M) (e₁ := .susp v false lv' kk c' p' fs') (pre' := fs') s' g (fun r => (k r).wrap K J gd lv) (lv l) Γ.code p st ⟨rfl, rfl, rfl, rfl, h1⟩ hq
      rw [this]
      simp [End.genState, End.result, h2]
    · refine (hY v c' kk fs' s' (a :: L') lv' p' h3 Γ p st K J gd lv hΓ hF).pre (hgo.trans (h4.trans ?_))
      exact .loud (split_gen h1) h2 e hi .refl
end
end LL
end

section
set_option Elab.async false
set_option linter.all false
set_option maxRecDepth 100000
set_option maxHeartbeats 1000000
/-! L4: generators over generators: the next item, the protocol over abstract heaps. -/
namespace LL
open PySem PySem.Spec PyProof.Rows L2 GenW

section
variable {prog : Program} {w : World} {A : Around} {s : Shared} {L : Lg}
theorem CodeL.call_builtin {id : String} {args : Args} {b : Builtin} {R : Result → Shared → Lg → Prop} (hq : plainId id = true) (hb : entryFor table id = some b)
    (h : wpAny (model prog w) A.in1 (checkBuiltinCall id args) (fun _ s₁ => WpL (model prog w) A.in1 (b args)
      (fun fin s' L' => match fin with | .done f => R (.ok f) s' L' | .again c' => c'.quiet = true ∧ CodeL (model prog w) A c' R s' L') (fun e s' L' => R (.error e) s' L') s₁ L)
      (fun e s' => R (.error e) s' L) s) : CodeL (model prog w) A (.call (.builtin id) args) R s L := by
  refine .of_tree ?_
  show WpL _ A.in1 (do checkBuiltinCall id args; again (.builtin id args)) _ _ s L
  refine .bind (.of (wpAny_mono h (fun _ s₁ h₁ => WpL.pure (And.intro (plainId_quiet hq args) (CodeL.of_tree ?_))) fun _ _ h' => h'))
  show WpL _ (A.under (.builtin id args)) (match entryFor table id with | some b => b args | none => unsupported ((withoutEnding? id "#data").getD id)) _ _ s₁ L
  rw [hb, Around.under_plainId hq args]
  exact h₁
theorem CodeL.builtin {id : String} {args : Args} {b : Builtin} {R : Result → Shared → Lg → Prop} (hq : plainId id = true) (hb : entryFor table id = some b)
    (h : WpL (model prog w) A.in1 (b args) (fun fin s' L' => match fin with | .done f => R (.ok f) s' L' | .again c' => c'.quiet = true ∧ CodeL (model prog w) A c' R s' L') (fun e s' L' => R (.error e) s' L') s L) :
    CodeL (model prog w) A (.builtin id args) R s L := by
  refine .of_tree ?_
  show WpL _ (A.under (.builtin id args)) (match entryFor table id with | some b => b args | none => unsupported ((withoutEnding? id "#data").getD id)) _ _ s L
  rw [hb, Around.under_plainId hq args]
  exact h
theorem WpL.callSpecial_slot {self : Value} {T : String} {name : Str} {id : String} {b : Builtin} {rest : List Value} {Q : Option Value → Shared → Lg → Prop} {E : Value → Shared → Lg → Prop} (hT : s.TypeIs self T) (h : Slot T name id) (hb : entryFor table id = some b)
    (ha : argsOk id ⟨self :: rest, []⟩) (hc : WpL (model prog w) A.in1 (b ⟨self :: rest, []⟩) (fun fin s' L' => ∃ v, fin = .done (.ret v) ∧ Q (some v) s' L') E s L) : WpL (model prog w) A (callSpecial? self name rest []) Q E s L := by
  simp only [callSpecial?]
  refine .bind (.of (wpAny_specialOf hT h.lookup ?_))
  simp only [h.bind]
  refine WpL.holding (WpL.bind (WpL.pure (WpL.bind (WpL.call (CodeL.call_builtin h.plain hb (h.check _ _ _ _ _ _ _ _ hT ha (hc.mono (fun fin s' L' h' => ?_) fun e s' L' h' => h')))))))
  obtain ⟨v, rfl, hv⟩ := h'
  exact WpL.pure hv
end

/-- a generator object that none sleeps over -/
def IsGenZ (h : Heap) (a : Addr) (g : Nat) : Prop := ∃ o nm qn, h.get? a = some o ∧ o.cls = .type "generator" ∧ o.data = .fields #[.int g 0, nm, qn] ∧ (o.slots = #[] ∨ o.slots = #[some (rawInt 0)])
/-- .. that another may sleep over -/
def GenD (a : Addr) (g : Nat) (h : Heap) : Prop := ∃ o nm qn, h.get? a = some o ∧ o.cls = .type "generator" ∧ o.data = .fields #[.int g 0, nm, qn] ∧ (o.slots = #[] ∨ ∃ n : Int, o.slots = #[some (rawInt n)])
theorem IsGenZ.d {h : Heap} {a : Addr} {g : Nat} (x : IsGenZ h a g) : GenD a g h := by
  obtain ⟨o, nm, qn, h1, h2, h3, h4⟩ := x
  exact ⟨o, nm, qn, h1, h2, h3, h4.imp id fun e => ⟨0, e⟩⟩
theorem IsGenZ.of {h : Heap} {a : Addr} {g : Nat} (x : h.IsGen a g) : IsGenZ h a g := by
  obtain ⟨o, nm, qn, h1, h2, h3, h4⟩ := x
  exact ⟨o, nm, qn, h1, h2, h3, .inl h4⟩
theorem GenD.isGn {h : Heap} {a : Addr} {g : Nat} (x : GenD a g h) : IsGn h a := by
  obtain ⟨o, nm, qn, h1, h2, h3, _⟩ := x
  refine ⟨o, g, h1, ?_⟩
  unfold Obj.genNumber?
  rw [h2, h3]
  simp
theorem GenD.typeIs {s : Shared} {a : Addr} {g : Nat} (x : GenD a g s.heap) : s.TypeIs (.ref a) "generator" := by
  obtain ⟨o, nm, qn, h1, h2, _⟩ := x
  exact ⟨o, h1, h2⟩
theorem IsGenZ.at {h h' : Heap} {a : Addr} {g : Nat} (x : IsGenZ h a g) (e : h'.get? a = h.get? a) : IsGenZ h' a g := by
  obtain ⟨o, nm, qn, h1, r⟩ := x
  exact ⟨o, nm, qn, e.trans h1, r⟩
theorem wpAny_genNumberZ {M : Model} {A : Around} {E : Value → Shared → Prop} {s : Shared} {a : Addr} {g : Nat} {Q : Nat → Shared → Prop} (hg : IsGenZ s.heap a g) (h : Q g s) : wpAny M A (Builtin.Generator.genNumber (.ref a)) Q E s := by
  obtain ⟨o, nm, qn, ho, _, hd, hsl⟩ := hg
  unfold Builtin.Generator.genNumber
  refine wpAny_bind (wpAny_load ho ?_)
  rcases hsl with hsl | hsl
  · rw [hsl, hd]
    show wpAny M A (pure ((g : Int).toNat)) Q E s
    rw [Int.toNat_natCast]; exact wpAny_pure h
  · rw [hsl, hd]
    show wpAny M A (pure ((g : Int).toNat)) Q E s
    rw [Int.toNat_natCast]; exact wpAny_pure h

/-- the next item of a generator, where one sleeps over none -/
theorem WpL.nextGen {prog : Program} {w : World} {A : Around} {s : Shared} {L : Lg} {a : Addr} {g : Nat} {gs : GenState} {c : Code} {t : Sem PySem.Fin} {fs : List Frame} {RQ : Result → Shared → Lg → Prop} {YQ : Value → Code → (Resume → Sem PySem.Fin) → List Frame → Shared → Lg → Prop}
    {Q : Option Value → Shared → Lg → Prop} {E : Value → Shared → Lg → Prop} (hh : A.handled = none) (hl : s.heap.NoLimit) (hroom : A.depth < recursionLimit) (hg : IsGenZ s.heap a g) (hgs : s.gens[g]? = some gs) (hst : Stands (model prog w) gs c t fs)
    (h : SgL (model prog w) A.in1 c t fs (s.setGen g .running) L RQ YQ)
    (hR : ∀ r s' L', RQ r s' L' → (r = .ok (.ret .none) ∨ r = .ok .next) ∧ ∀ e h', StopX e h' → (∀ b o, s'.heap.get? b = some o → h'.get? b = some o) → E e { s'.setGen g .finished with heap := h' } L')
    (hY : ∀ v c' kk fs' s' L' lv p', YQ v c' kk fs' s' L' → Q (some v) (s'.setGen g (.suspended kk lv c' p' fs' false)) L') : WpL (model prog w) A (callSpecial? (.ref a) "__next__") Q E s L := by
  refine WpL.callSpecial_slot (name := Str.ofString "__next__") hg.d.typeIs slot_gen_next entry_gen_next (args_gen_next _) ?_
  show WpL _ A.in1 (Builtin.Generator.genWake (.ref a) (.send .none)) _ _ s L
  unfold Builtin.Generator.genWake
  refine .bind (.of (wpAny_holding (wpAny_genNumberZ hg ?_)))
  refine .bind (.of (wpAny_genState hgs ?_))
  cases gs with
  | running => cases hst
  | finished => cases hst
  | _ =>
    refine .bind (.of (wpAny_roomToWake hl hroom ?_))
    show WpL _ A.in1 (.resume g (.send .none) [] _) _ _ s L
    refine WpL.resume hgs hst h (fun r s' L' hr => ?_) fun v c' kk fs' s' L' lv p' hy => WpL.pure ⟨v, rfl, hY _ _ _ _ _ _ _ _ hy⟩
    obtain ⟨hr, hE⟩ := hR r s' L' hr
    have hres : End.result (.ret r) = .returned .none := by
      rcases hr with hr | hr <;> rw [hr] <;> rfl
    rw [hres]
    show WpL _ A.in1 (newExc (.type "StopIteration") [] >>= _) _ _ _ _
    refine .of (wpAny_bind ?_)
    simp only [newExc, newTuple]
    refine wpAny_bind (wpAny_newObj_type ?_ (by size_fits))
    refine wpAny_bind (m := firstArgMember _ _) (wpAny_of_eq (a := Value.none) (by first | rfl | (simp only [firstArgMember]; rfl)) ?_)
    refine wpAny_newObj_type ?_ (by size_fits)
    simp only [raiseNew]
    refine wpAny_bind (wpAny_bind (wpAny_handled ?_))
    first | rw [show A.in1.handled = none from hh] | rw [hh]
    refine wpAny_throw (hE _ _ ⟨_, _, _, rfl, Heap.get?_push_size _ rfl, rfl, rfl, ?_⟩ fun b o hb => Heap.get?_push_of_some _ (Heap.get?_push_of_some _ hb))
    first
      | rfl
      | (rw [Array.getElem?_append_left (by decide)]; rfl)
      | kernel_rfl
end LL
end

section
set_option Elab.async false
set_option linter.all false
set_option maxRecDepth 100000
set_option maxHeartbeats 1000000
/-! L5: the protocol over abstract heaps; statements of a generator. -/
namespace LL
open PySem PySem.Spec PyProof.Rows L2 GenW Evl

/-- what is known of a generator's object -/
def GenE (a : Addr) (g : Nat) (φ : Heap → Prop) : Prop := ∀ h, φ h → GenD a g h
/-- none sleeps over it | one does -/
abbrev GXZ (a : Addr) (g : Nat) : HO := .ext fun h => IsGenZ h a g
def IsGen1 (h : Heap) (a : Addr) (g : Nat) : Prop := ∃ o nm qn, h.get? a = some o ∧ o.cls = .type "generator" ∧ o.data = .fields #[.int g 0, nm, qn] ∧ o.slots = #[some (rawInt 1)]
abbrev GX1 (a : Addr) (g : Nat) : HO := .ext fun h => IsGen1 h a g
def LH (H : Hp) (L : Lg) : Prop := ∀ a ∈ L, ∃ g φ, H a = some (.ext φ) ∧ GenE a g φ
theorem LH.ex {H H' : Hp} {L : Lg} (h : LH H L) (e : Ex H H') : LH H' L := fun a ha => let ⟨g, φ, q, r⟩ := h a ha; ⟨g, φ, e _ _ q, r⟩
theorem LH.nil {H : Hp} : LH H [] := fun a ha => by cases ha
theorem gen_z {a : Addr} {g : Nat} : GenE a g fun h => IsGenZ h a g := fun _ x => x.d
theorem gen_1 {a : Addr} {g : Nat} : GenE a g fun h => IsGen1 h a g := fun _ ⟨o, nm, qn, h1, h2, h3, h4⟩ => ⟨o, nm, qn, h1, h2, h3, .inr ⟨1, h4⟩⟩
theorem ok_gz {P : Program} {w : World} {H : Hp} {h : Heap} {a : Addr} {g : Nat} (d : IsGenZ h a g) : ObjOk P w H h a (GXZ a g) := by
  obtain ⟨o, nm, qn, h1, r⟩ := id d
  exact ⟨d, ⟨o, h1⟩, fun h1 h2 ⟨o, nm, qn, q1, r⟩ k => ⟨o, nm, qn, k o q1, r⟩⟩
theorem ok_g1 {P : Program} {w : World} {H : Hp} {h : Heap} {a : Addr} {g : Nat} (d : IsGen1 h a g) : ObjOk P w H h a (GX1 a g) := by
  obtain ⟨o, nm, qn, h1, r⟩ := id d
  exact ⟨d, ⟨o, h1⟩, fun h1 h2 ⟨o, nm, qn, q1, r⟩ k => ⟨o, nm, qn, k o q1, r⟩⟩
theorem LH.ok {P : Program} {w : World} {H : Hp} {s : Shared} {L : Lg} (h : LH H L) (k : HOk P w H s.heap) : LogOk s L := fun a ha => by
  obtain ⟨g, φ, q, r⟩ := h a ha
  exact (r _ (k a _ q).1).isGn
/-- another form of a generator's object -/
theorem LH.upd {H : Hp} {L : Lg} {a : Addr} {g : Nat} {φ : Heap → Prop} (h : LH H L) (r : GenE a g φ) : LH (upd H a (.ext φ)) L := fun b hb => by
  by_cases e : b = a
  · subst e
    exact ⟨g, φ, upd_same, r⟩
  · obtain ⟨g', φ', q, r'⟩ := h b hb
    exact ⟨g', φ', (upd_ne e).trans q, r'⟩
theorem LH.cons {H : Hp} {L : Lg} {a : Addr} {g : Nat} {φ : Heap → Prop} (h : LH H L) (e : H a = some (.ext φ)) (r : GenE a g φ) : LH H (a :: L) := fun b hb => by
  rcases List.mem_cons.mp hb with rfl | hb
  · exact ⟨g, φ, e, r⟩
  · exact h b hb
/-- tracked objects but the changing ones are as they were -/
def EnvH (H H' : Hp) : Prop := ∀ b o, H b = some o → (∀ φ, o ≠ .ext φ) → H' b = some o
theorem EnvH.refl (H : Hp) : EnvH H H := fun _ _ h _ => h
theorem EnvH.trans {H H1 H2 : Hp} (a : EnvH H H1) (b : EnvH H1 H2) : EnvH H H2 := fun x o h n => b x o (a x o h n) n
theorem EnvH.of {H H' : Hp} (e : Ex H H') : EnvH H H' := fun b o h _ => e b o h

/-- what is tracked and in D stays; what changes is known to change -/
structure ExD (D : Addr → Prop) (T H : Hp) : Prop where
  on : ∀ b o, D b → T b = some o → H b = some o
  env : EnvH T H
theorem ExD.refl {D : Addr → Prop} (T : Hp) : ExD D T T := ⟨fun _ _ _ h => h, EnvH.refl T⟩
theorem ExD.ex {D : Addr → Prop} {T H H' : Hp} (a : ExD D T H) (e : Ex H H') : ExD D T H' := ⟨fun b o d h => e b o (a.on b o d h), a.env.trans (EnvH.of e)⟩
theorem ExD.trans {D D' : Addr → Prop} {T H H' : Hp} (a : ExD D T H) (b : ExD D' H H') (s : ∀ b, D b → D' b) : ExD D T H' := ⟨fun c o d h => b.on c o (s c d) (a.on c o d h), a.env.trans b.env⟩
/-- what others may do while a generator sleeps: W may change -/
structure EnvT (P : Program) (w : World) (W : List Addr) (g : Nat) (H : Hp) (s : Shared) (H2 : Hp) (s2 : Shared) (L2 : Lg) : Prop where
  os : s2.os = s.os
  bare : AllBare s2.gens
  hok : HOk P w H2 s2.heap
  keep : ∀ b o, b ∉ W → s.heap.get? b = some o → s2.heap.get? b = some o
  there : ∀ b o, s.heap.get? b = some o → ∃ o', s2.heap.get? b = some o'
  free : ∀ b o, s.heap.get? b = some o → H b = none → H2 b = none
  same : ∀ b o, H b = some o → b ∉ W → H2 b = some o
  ext : ∀ b ∈ W, (∃ φ, H b = some (.ext φ)) ∧ ∃ ψ, H2 b = some (.ext ψ)
  gens : ∀ i, g < i → i < s.gens.size → s2.gens[i]? = s.gens[i]?
  gsz : s.gens.size ≤ s2.gens.size
  log : LH H2 L2
theorem EnvT.envH {P : Program} {w : World} {W : List Addr} {g : Nat} {H : Hp} {s : Shared} {H2 : Hp} {s2 : Shared} {L2 : Lg} (e : EnvT P w W g H s H2 s2 L2) : EnvH H H2 := fun b o h n => by
  refine e.same b o h fun hb => ?_
  obtain ⟨⟨φ, q⟩, _⟩ := e.ext b hb
  rw [h] at q
  exact n φ (Option.some.inj q)
theorem EnvT.dom {P : Program} {w : World} {W : List Addr} {g : Nat} {H : Hp} {s : Shared} {H2 : Hp} {s2 : Shared} {L2 : Lg} (e : EnvT P w W g H s H2 s2 L2) (b : Addr) (h : H b ≠ none) : H2 b ≠ none := fun n => by
  by_cases hb : b ∈ W
  · obtain ⟨_, ψ, q⟩ := e.ext b hb
    rw [n] at q; cases q
  · cases q : H b with
    | none => exact h q
    | some o =>
      have := e.same b o q hb
      rw [n] at this; cases this
theorem inv_env {X : Cx} {pins : List (Addr × Obj)} {σ : L2.St} {H H2 : Hp} {s s2 : Shared} {W : List Addr} {g : Nat} {L2 : Lg} (I : Inv X pins σ H s) (e : EnvT X.prog X.w W g H s H2 s2 L2) : Inv X pins σ H2 s2 := by
  have nW : ∀ b, H b = none → b ∉ W := fun b n hb => by
    obtain ⟨⟨φ, q⟩, _⟩ := e.ext b hb
    rw [n] at q; cases q
  have nX : ∀ b o, H b = some o → (∀ φ, o ≠ .ext φ) → H2 b = some o := e.envH
  have keepL := e.keep
  obtain ⟨h', g', d', t', o'⟩ := s2
  obtain rfl : o' = s.os := e.os
  refine I.step (ch := []) (fun b hb => by cases hb) (fun b o _ _ _ q n => e.keep b o (nW b n) q) (fun b o _ _ _ q n => ⟨o.slots, e.keep b o (nW b n) q⟩) (fun b o _ q n => e.free b o q n) (fun b o _ q => e.there b o q)
    (fun b xs q => nX b _ q fun φ z => by cases z) (fun b o u q => nX b _ q fun φ z => by cases z) (fun b ps q => ⟨#[], by rw [nX b _ q fun φ z => by cases z]; simp⟩) (fun m hm => ?_) e.hok e.bare
  obtain ⟨o, es, ep, ho, r⟩ := hm
  exact ⟨o, es, ep, keepL _ o (nW _ I.free) ho, r⟩

/-- a generator's run, from without: where it was made (Hc, sc), what may change in its sleep, its number -/
structure GP where
  P : Program
  w : World
  K : PySem.W.Frag
  outer : List Env
  Hc : Hp
  sc : Shared
  W : List Addr
  g : Nat
  A : Around
  D : Addr → Prop
structure Gv (G : GP) (H' : Hp) (s' : Shared) : Prop where
  os : s'.os = G.sc.os
  bare : AllBare s'.gens
  hok : HOk G.P G.w H' s'.heap
  un : Un (frs G.outer) [] G.Hc H' G.sc.heap s'.heap
  lt : G.g < s'.gens.size
def GRQ (G : GP) (rows : List PyData) (T : Hp) : Result → Shared → Lg → Prop := fun r s' L' => rows = [] ∧ (r = .ok (.ret .none) ∨ r = .ok .next) ∧ ∃ H', Gv G H' s' ∧ ExD G.D T H' ∧ LH H' L'
def GYQ (G : GP) : List PyData → Hp → Value → Code → (Resume → Sem PySem.Fin) → List Frame → Shared → Lg → Prop
  | [], _ => fun _ _ _ _ _ _ => False
  | x :: xs, T => fun v c' kk fs' s' L' => ∃ H' xv, Gv G H' s' ∧ ExD G.D T H' ∧ LH H' L' ∧ RelV xv v ∧ Dp G.K H' xv x ∧
      ∀ s2 L2 H2, EnvT G.P G.w G.W G.g H' s' H2 s2 L2 → SgL (model G.P G.w) G.A c' (kk (.send .none)) fs' s2 L2 (GRQ G xs H2) (GYQ G xs H2)
/-- it hands out rows, then ends -/
abbrev Goes (G : GP) (rows : List PyData) (T : Hp) (c : Code) (t : Sem PySem.Fin) (fs : List Frame) (s : Shared) (L : Lg) : Prop := SgL (model G.P G.w) G.A c t fs s L (GRQ G rows T) (GYQ G rows T)

/-! ### the body -/
abbrev gpOf (X : Cx) (W : List Addr) (g : Nat) (D : Addr → Prop) (A : Around) : GP := ⟨X.prog, X.w, X.K, X.outer, X.H_0, X.s_0, W, g, A, D⟩
structure GCL (X : Cx) (A : Around) (c : Code) (fs : List Frame) (gd : Bool → Bool) : Prop where
  over : A.over c fs = X.A
  split : splitAtGen fs = none
  guard : fs.any Frame.guarded = false
  gd : gd false = false
structure GIn (X : Cx) (pins : List (Addr × Obj)) (W : List Addr) (g : Nat) (D : Addr → Prop) (σ : L2.St) (T H : Hp) (s : Shared) (L : Lg) : Prop where
  inv : Inv X pins σ H s
  ex : ExD D T H
  dom : ∀ b, D b → H b ≠ none
  log : LH H L
  lt : g < s.gens.size
  ext : ∀ b ∈ W, ∃ φ, H b = some (.ext φ)
/-- a generator's context: no exception leaves it -/
structure GX0 (X : Cx) : Prop where
  xe : ∀ e s, ¬ X.xe e s
  ex : X.ex = []
theorem GIn.gv {X : Cx} {pins : List (Addr × Obj)} {W : List Addr} {g : Nat} {D : Addr → Prop} {σ : L2.St} {T H : Hp} {s : Shared} {L : Lg} {A : Around} (x : GX0 X) (i : GIn X pins W g D σ T H s L) : Gv (gpOf X W g D A) H s :=
  ⟨i.inv.os, i.inv.bare, i.inv.hok, by have := i.inv.base; rw [x.ex] at this; exact this, i.lt⟩
/-- a quiet step onward -/
theorem GIn.on {X : Cx} {pins pins' : List (Addr × Obj)} {W : List Addr} {g : Nat} {D : Addr → Prop} {σ σ' : L2.St} {T H H' : Hp} {s s' : Shared} {L : Lg} (i : GIn X pins W g D σ T H s L) (I : Inv X pins' σ' H' s') (e : Ex H H') (z : g + 1 ≤ s'.gens.size) : GIn X pins' W g D σ' T H' s' L :=
  ⟨I, i.ex.ex e, fun b hb n => i.dom b hb (by cases q : H b with | none => rfl | some o => rw [e b o q] at n; cases n), i.log.ex e, z, fun b hb => let ⟨φ, q⟩ := i.ext b hb; ⟨φ, e _ _ q⟩⟩

structure DG where
  nx : List PyData → L2.St → Hp → Prop
abbrev TGL := DG → List PyData → L2.St → Hp → Prop
/-- what follows -/
abbrev GNext (X : Cx) (pins : List (Addr × Obj)) (W : List Addr) (g : Nat) (D : Addr → Prop) (A : Around) (c : Code) (t : Sem PySem.Fin) (fs : List Frame) (N : DG) : Prop :=
  ∀ rows' T' s' L' σ' H', GIn X pins W g D σ' T' H' s' L' → N.nx rows' σ' H' → Goes (gpOf X W g D A) rows' T' c t fs s' L'
structure GSL (X : Cx) (st : Stmt) (t : TGL) : Prop where
  run : ∀ (pins : List (Addr × Obj)) (W : List Addr) (g : Nat) (D : Addr → Prop) (A : Around) (rows : List PyData) (T : Hp) (s : Shared) (σ : L2.St) (H : Hp) (L : Lg) (c : Code) (fs : List Frame) (K : Flow → Sem PySem.Fin) (J : Value → Sem PySem.Fin) (gd : Bool → Bool) (lv : List Value → List Value) (N : DG),
    GX0 X → GCL X A c fs gd → GNext X pins W g D A c (K .next) fs N → GIn X pins W g D σ T H s L → t N rows σ H → Goes (gpOf X W g D A) rows T c ((exec st X.env).wrap K J gd lv) fs s L
structure GSsL (X : Cx) (st : List Stmt) (t : TGL) : Prop where
  run : ∀ (pins : List (Addr × Obj)) (W : List Addr) (g : Nat) (D : Addr → Prop) (A : Around) (rows : List PyData) (T : Hp) (s : Shared) (σ : L2.St) (H : Hp) (L : Lg) (c : Code) (fs : List Frame) (K : Flow → Sem PySem.Fin) (J : Value → Sem PySem.Fin) (gd : Bool → Bool) (lv : List Value → List Value) (N : DG),
    GX0 X → GCL X A c fs gd → GNext X pins W g D A c (K .next) fs N → GIn X pins W g D σ T H s L → t N rows σ H → Goes (gpOf X W g D A) rows T c ((execs st X.env).wrap K J gd lv) fs s L

section
variable {X : Cx} {st : Stmt} {rest : List Stmt} {t u : TGL} {pos ypos : Pos}
def tG0 : TGL := fun D rows σ H => D.nx rows σ H
theorem gsl_nil : GSsL X [] tG0 := ⟨fun pins W g D A rows T s σ H L c fs K J gd lv N x C k i h => k rows T s L σ H i h⟩
def tGThen (t u : TGL) : TGL := fun D rows σ H => t ⟨fun rows' σ' H' => u D rows' σ' H'⟩ rows σ H
theorem gsl_cons (a : GSL X st t) (b : GSsL X rest u) : GSsL X (st :: rest) (tGThen t u) := by
  refine ⟨fun pins W g D A rows T s σ H L c fs K J gd lv N x C k i h => ?_⟩
  rw [execs_cons_wrap]
  exact a.run pins W g D A rows T s σ H L c fs _ J gd lv _ x C (fun rows' T' s' L' σ' H' i' q => b.run pins W g D A rows' T' s' σ' H' L' c fs K J gd lv N x C k i' q) i h
/-- a quiet statement -/
def tGP (t : TS) : TGL := fun D rows σ H => t { nx := fun σ' H' => Ex H H' ∧ D.nx rows σ' H', rt := fun _ _ => False } σ H
theorem gsl_ps {t : TS} (h : PS X st t) : GSL X st (tGP t) := by
  refine ⟨fun pins W g D A rows T s σ H L c fs K J gd lv N x C k i ht => ?_⟩
  refine SgL.wrapQ ?_
  rw [C.over]
  refine wpAny_gsz (n := g + 1) i.lt (wpAny_mono (h.run pins s σ H _ i.inv ht) (fun f s' hs z => ?_) fun e s' hx z => (x.xe _ _ hx).elim)
  cases f with
  | next =>
    obtain ⟨σ', H', I', e, q⟩ := hs
    exact k rows T s' L σ' H' (i.on I' e z) q
  | brk => obtain ⟨_, _, _, q⟩ := hs; exact q.elim
  | cont => obtain ⟨_, _, _, q⟩ := hs; exact q.elim
  | ret v => obtain ⟨_, _, _, _, _, q⟩ := hs; exact q.elim
/-- if -/
def tGIf (tc : TT) (t u : TGL) : TGL := fun D rows σ H => tc σ H fun b H1 => Ex H H1 ∧ if b = true then t D rows σ H1 else u D rows σ H1
theorem gsl_if {test : Expr} {body orelse : List Stmt} {tc : TT} (hc : PT X test tc) (a : GSsL X body t) (b : GSsL X orelse u) : GSL X (.If test body orelse pos) (tGIf tc t u) := by
  refine ⟨fun pins W g D A rows T s σ H L c fs K J gd lv N x C k i ht => ?_⟩
  rw [exec_If]
  refine SgL.bind_wrapQ (wpAny_standAt ?_)
  refine SgL.bind_wrapQ ?_
  rw [C.over]
  refine wpAny_gsz (n := g + 1) i.lt (wpAny_mono (hc.run pins s σ H _ i.inv ht) (fun f s' hs z => ?_) fun e s' hx z => (x.xe _ _ hx).elim)
  obtain ⟨H1, I1, e1, q⟩ := hs
  cases f with
  | true =>
    rw [if_pos rfl] at q ⊢
    exact a.run pins W g D A rows T s' σ H1 L c fs K J gd lv N x C k (i.on I1 e1 z) q
  | false =>
    rw [if_neg Bool.false_ne_true] at q ⊢
    exact b.run pins W g D A rows T s' σ H1 L c fs K J gd lv N x C k (i.on I1 e1 z) q
/-- yield -/
def tGY (K : PySem.W.Frag) (te : TE) : TGL := fun D rows σ H => te σ H fun x H1 => Ex H H1 ∧ ∃ r rs, rows = r :: rs ∧ Dp K H1 x r ∧ ∀ H2, EnvH H1 H2 → D.nx rs σ H2
theorem gsl_yield {e : Expr} {te : TE} (he : PE X e te) (hco : X.env.scope.isCoroutine = false := by rfl) (hi : interactive X.env = false := by rfl) : GSL X (.Expr (.Yield (some e) ypos) pos) (tGY X.K te) := by
  refine ⟨fun pins W g D A rows T s σ H L c fs K J gd lv N x C k i ht => ?_⟩
  rw [exec_Expr X.env _ pos hi rfl]
  show Goes _ _ _ c (.at pos fun _ => ((eval e X.env >>= fun v => (standAt ypos >>= fun _ => yieldOut X.env v)) >>= fun x => dropValue (.Yield (some e) ypos) pos x).wrap K J gd lv) fs s L
  have hy : ∀ v, yieldOut X.env v = yieldValue v := fun v => by simp only [yieldOut, hco, Bool.false_eq_true, if_false]
  simp only [hy]
  refine SgL.at_ ?_
  rw [Sem.bind_eq_wrap', Sem.bind_eq_wrap', Sem.wrap_wrap, Sem.wrap_wrap]
  refine SgL.wrapQ ?_
  rw [C.over]
  refine wpAny_gsz (n := g + 1) i.lt (wpAny_mono (he.run pins s σ H _ i.inv ht) (fun v s' hs z => ?_) fun e s' hx z => (x.xe _ _ hx).elim)
  obtain ⟨xv, H1, I1, rv, e1, r, rs, rfl, d, q⟩ := hs
  have i1 := i.on I1 e1 z
  have fin : GYQ (gpOf X W g D A) (r :: rs) T v c (fun r => ((match r with | .send x => (pure x : Sem Value) | .throw e => throw e) >>= fun x => dropValue (.Yield (some e) ypos) pos x).wrap K J gd lv) fs s' L := by
    refine ⟨H1, xv, i1.gv x, i1.ex, i1.log, rv, d, fun s2 L2 H2 E => ?_⟩
    exact k rs H2 s2 L2 σ H2 ⟨inv_env i1.inv E, ExD.refl H2, fun b hb => E.dom b (i1.dom b hb), E.log, Nat.lt_of_lt_of_le i1.lt E.gsz, fun b hb => (E.ext b hb).2⟩ (q H2 E.envH)
  refine SgL.at_ ?_
  show Goes _ _ _ c (.yield v (gd false) _ _) fs s' L
  rw [C.gd]
  exact SgL.yield C.split C.guard fin
end
end LL
end

section
set_option Elab.async false
set_option linter.all false
set_option maxRecDepth 100000
set_option maxHeartbeats 1000000
/-! L6: a generator's for. -/
namespace LL
open PySem PySem.Spec PyProof.Rows L2 GenW Evl

section
variable {P : Program} {w : World} {A : Around} {fs : List Frame} {s : Shared} {L : Lg} {RQ : Result → Shared → Lg → Prop} {YQ : Value → Code → (Resume → Sem PySem.Fin) → List Frame → Shared → Lg → Prop} {env : Env}
theorem sgL_for {c : Code} {tg iter : Expr} {body : List Stmt} {pos : Pos} {K : Flow → Sem PySem.Fin} {J : Value → Sem PySem.Fin} {gd : Bool → Bool} {lv : List Value → List Value} (hgd : gd false = false)
    (hs : ∀ x, foldedSetIterable iter env x = pure x := by intro _; rfl)
    (h : wpAny (model P w) (A.over c fs) (eval iter env) (fun x s1 => wpAny (model P w) (A.over c fs) (pyIter x) (fun it s2 =>
      ∀ (k : Result → Sem PySem.Fin) (l : List Value) (p : Pos), (∀ f, k (.ok f) = K f) → SgL (model P w) A (.forLoop tg it body [] env) ((model P w).den (.forLoop tg it body [] env)) (.ret k none false l c p [] :: fs) s2 L RQ YQ) (fun _ _ => False) s1) (fun _ _ => False) s) :
    SgL (model P w) A c ((exec (.For tg iter body [] pos) env).wrap K J gd lv) fs s L RQ YQ := by
  rw [exec_For]
  refine SgL.bind_wrapQ (wpAny_standAt ?_)
  refine SgL.bind_wrapQ (wpAny_mono h (fun x s1 h1 => ?_) fun _ _ z => z.elim)
  refine SgL.bind_wrapQ (wpAny_of_eq (hs x) ?_)
  refine SgL.bind_wrapQ (wpAny_standAt ?_)
  refine SgL.bind_wrapQ (wpAny_holding (wpAny_mono h1 (fun it s2 h2 => ?_) fun _ _ z => z.elim))
  unfold runOwn
  rw [Sem.onRaise_eq_wrap, Sem.wrap_wrap]
  show SgL _ _ c (.call (.forLoop tg it body [] env) none (gd false) _ _) fs s2 L RQ YQ
  rw [hgd]
  exact SgL.call fun p => h2 _ _ p fun f => rfl
theorem sgL_forLoop {tg : Expr} {body : List Stmt} {it : Value}
    (h : wpAny (model P w) (A.over (.forLoop tg it body [] env) fs) (pyNext it) (fun r s1 => match r with
      | none => SgL (model P w) A (.block [] env) (.pure (.done .next)) fs s1 L RQ YQ
      | some v => wpAny (model P w) (A.over (.forLoop tg it body [] env) fs) (letOwnedTupleGo tg it v) (fun _ s2 => wpAny (model P w) (A.over (.forLoop tg it body [] env) fs) (assign tg env v) (fun _ s3 =>
          ∀ (K : Flow → Sem PySem.Fin) (J : Value → Sem PySem.Fin), K .next = .pure (.again (.forLoop tg it body [] env)) → SgL (model P w) A (.forLoop tg it body [] env) ((execs body env).wrap K J id id) fs s3 L RQ YQ) (fun _ _ => False) s2) (fun _ _ => False) s1) (fun _ _ => False) s) :
    SgL (model P w) A (.forLoop tg it body [] env) ((model P w).den (.forLoop tg it body [] env)) fs s L RQ YQ := by
  show SgL _ A _ ((forTurn tg it body [] env).onRaise (fun x => do noteFrame x env; theTreesLotGoes x)) fs s L RQ YQ
  unfold forTurn
  rw [Sem.onRaise_eq_wrap]
  refine SgL.bind_wrapQ (wpAny_standAt ?_)
  refine SgL.bind_wrapQ (wpAny_onRaise (wpAny_mono h (fun r s1 h1 => ?_) fun _ _ z => z.elim))
  cases r with
  | none =>
    refine SgL.again rfl ?_
    show SgL _ A _ ((execs [] env).onRaise (fun x => do noteFrame x env; theTreesLotGoes x) >>= fun f => pure (.done f)) fs s1 L RQ YQ
    exact h1
  | some v =>
    refine SgL.bind_wrapQ (wpAny_mono h1 (fun _ s2 h2 => ?_) fun _ _ z => z.elim)
    refine SgL.bind_wrapQ (wpAny_mono h2 (fun _ s3 h3 => ?_) fun _ _ z => z.elim)
    rw [Sem.bind_eq_wrap', Sem.wrap_wrap]
    exact h3 _ _ rfl
end

section
variable {X : Cx} {pos : Pos}
def tGFor (wi : TI) (gt : TG) (tb : TGL) : TGL := fun D rows σ H => wi σ H fun J H1 => Ex H H1 ∧ ∃ (n : Nat) (V : Nat → List PyData → L2.St → Hp → Prop), V 0 rows σ H1 ∧
  ∀ i rows' σ' H', V i rows' σ' H' → (J.stop i H' ∧ D.nx rows' σ' H') ∨ (i < n ∧ J.go i H' ∧ ∀ x H2, J.yld i H' x H2 → Ex H' H2 ∧ gt x σ' H2 fun σ3 H3 => Ex H2 H3 ∧ tb ⟨V (i + 1)⟩ rows' σ3 H3)
theorem gcl_loop {A : Around} {c c' : Code} {fs : List Frame} {gd : Bool → Bool} {k : Result → Sem PySem.Fin} {l kp : List Value} {p : Pos} (g : GCL X A c fs gd) (hw : c'.weight = 0) (hu : c'.cUnits = 0) : GCL X A c' (.ret k none false l c p kp :: fs) id where
  over := (over_loop hw hu).trans g.over
  split := by
    show (splitAtGen fs).map _ = none
    rw [g.split]; rfl
  guard := by
    show (false || fs.any Frame.guarded) = false
    rw [g.guard]; rfl
  gd := rfl
theorem gsl_for {tg iter : Expr} {body : List Stmt} {wi : TI} {gt : TG} {tb : TGL} (hc : X.calm = true) (hi : PI X tg iter wi) (hg : PG X tg gt) (hb : GSsL X body tb)
    (hs : ∀ x, foldedSetIterable iter X.env x = pure x := by intro _; rfl) : GSL X (.For tg iter body [] pos) (tGFor wi gt tb) := by
  refine ⟨fun pins W g D A rows T s σ H L c fs K J gd lv N x C k i ht => ?_⟩
  have nox : ∀ (e : Value) (s : Shared), X.xe e s → False := x.xe
  refine sgL_for C.gd hs ?_
  show wpAny (model X.prog X.w) (A.over c fs) _ _ _ s
  rw [C.over]
  refine wpAny_gsz (n := g + 1) i.lt (wpAny_mono (hi.run pins s σ H _ i.inv ht) (fun v s1 h1 z1 => ?_) fun e s' hx z => (nox _ _ hx).elim)
  refine wpAny_gsz (n := g + 1) z1 (wpAny_mono h1 (fun itv s2 h2 z2 => ?_) fun e s' hx z => (nox _ _ hx).elim)
  obtain ⟨it, fp, tn, Jt, H2, e, I2, Tn, st2, f2, e2, n, V, v0, turn⟩ := h2
  subst e
  intro kk l p hkk
  have C' : GCL X A (.forLoop tg (.ref it) body [] X.env) (.ret kk none false l c p [] :: fs) id := gcl_loop C rfl rfl
  have stat : ∀ {H' : Hp}, (∀ b ∈ fp, H' b = none) → ∀ b ∈ fp, FpOk X pins H' b := fun hn b hb => ⟨hn b hb, (f2 b hb).2⟩
  have loop : ∀ (m j : Nat) (rows : List PyData) (T : Hp) (s : Shared) (L : Lg) (σ : L2.St) (H : Hp), n - j ≤ m → V j rows σ H → GIn X pins W g D σ T H s L → tn j s.heap → (∀ b ∈ fp, H b = none) →
      Goes (gpOf X W g D A) rows T (.forLoop tg (.ref it) body [] X.env) ((model X.prog X.w).den (.forLoop tg (.ref it) body [] X.env)) (.ret kk none false l c p [] :: fs) s L := by
    intro m
    induction m with
    | zero =>
      intro j rows T s L σ H hm hv i st fr
      refine sgL_forLoop ?_
      show wpAny (model X.prog X.w) (A.over _ _) _ _ _ s
      rw [C'.over]
      rcases turn j rows σ H hv with ⟨stop, q⟩ | ⟨hlt, _⟩
      · refine wpAny_gsz (n := g + 1) i.lt (wpAny_mono (Tn.done X rfl rfl rfl hc j pins s σ H (fun _ _ => False) i.inv (stat fr) st stop) (fun r s4 ⟨hr, I4⟩ z => ?_) fun e s' hx z => hx.elim)
        subst hr
        refine SgL.leaf (.ok .next) ?_
        rw [hkk]
        exact k rows T s4 L σ H (i.on I4 (Ex.refl H) z) q
      · omega
    | succ m ih =>
      intro j rows T s L σ H hm hv i st fr
      refine sgL_forLoop ?_
      show wpAny (model X.prog X.w) (A.over _ _) _ _ _ s
      rw [C'.over]
      rcases turn j rows σ H hv with ⟨stop, q⟩ | ⟨hlt, go, step⟩
      · refine wpAny_gsz (n := g + 1) i.lt (wpAny_mono (Tn.done X rfl rfl rfl hc j pins s σ H (fun _ _ => False) i.inv (stat fr) st stop) (fun r s4 ⟨hr, I4⟩ z => ?_) fun e s' hx z => hx.elim)
        subst hr
        refine SgL.leaf (.ok .next) ?_
        rw [hkk]
        exact k rows T s4 L σ H (i.on I4 (Ex.refl H) z) q
      · refine wpAny_gsz (n := g + 1) i.lt (wpAny_mono (Tn.item X rfl rfl rfl hc j pins s σ H (fun _ _ => False) i.inv (stat fr) st go) (fun r s4 ⟨u, hr, h4⟩ z4 => ?_) fun e s' hx z => hx.elim)
        subst hr
        refine wpAny_gsz (n := g + 1) z4 (wpAny_mono h4 (fun _ s5 ⟨xv, H5, I5, r5, y5, st5, fr5⟩ z5 => ?_) fun e s' hx z => hx.elim)
        obtain ⟨e5, q5⟩ := step xv H5 y5
        have I5' := I5.pinned (stat fr5) (Tn.obj _ _ st5)
        refine wpAny_gsz (n := g + 1) z5 (wpAny_mono (hg.run _ s5 σ H5 xv u _ I5' r5 q5) (fun _ s6 ⟨σ6, H6, I6, e6, q6⟩ z6 => ?_) fun e s' hx z => (nox _ _ hx).elim)
        intro K6 J6 hK6
        refine hb.run (pins ++ pinsAt fp s5.heap) W g D A rows T s6 σ6 H6 L _ _ K6 J6 id id ⟨V (j + 1)⟩ x C' (fun rows' T' s' L' σ' H' i' q' => ?_) (i.on I6 (e5.trans e6) z6) q6
        rw [hK6]
        refine SgL.again rfl ?_
        refine ih (j + 1) rows' T' s' L' σ' H' (by omega) q' ⟨i'.inv.unpinned, i'.ex, i'.dom, i'.log, i'.lt, i'.ext⟩ (Tn.keep _ _ _ st5 fun b hb o e => (i'.inv.pin (b, o) (List.mem_append_right _ (List.mem_append_right _ (mem_pinsAt hb e)))).1) fun b hb => ?_
        obtain ⟨o, e, d⟩ := Tn.obj _ _ st5 b hb
        exact (i'.inv.pin (b, o) (List.mem_append_right _ (List.mem_append_right _ (mem_pinsAt hb e)))).2.1
  exact loop n 0 rows T s2 L σ H2 (by omega) v0 (i.on I2 e2 z2) st2 fun b hb => (f2 b hb).1
end
end LL
end

section
set_option Elab.async false
set_option linter.all false
set_option maxRecDepth 100000
set_option maxHeartbeats 1000000
/-! L7: a call of a generator def; yield from it. -/
namespace LL
open PySem PySem.Spec PyProof.Rows L2 GenW Evl

/-- the heap and the abstract heap at a generator's first turn; s1: where it was made -/
structure St0 (P : Program) (w : World) (Hc : Hp) (sc s1 : Shared) (a : Addr) (W : List Addr) (g : Nat) (D : Addr → Prop) (H2 : Hp) (s2 : Shared) (L2 : Lg) : Prop where
  os : s2.os = sc.os
  bare : AllBare s2.gens
  hok : HOk P w H2 s2.heap
  keep : ∀ b o, b ∉ W → s1.heap.get? b = some o → s2.heap.get? b = some o
  there : ∀ b o, s1.heap.get? b = some o → ∃ o', s2.heap.get? b = some o'
  free : ∀ b o, b ∉ W → s1.heap.get? b = some o → Hc b = none → H2 b = none
  same : ∀ b o, Hc b = some o → b ∉ W → H2 b = some o
  ext : ∀ b ∈ W, (b = a ∨ s1.heap.objs.size ≤ b ∨ ∃ φ, Hc b = some (.ext φ)) ∧ ∃ ψ, H2 b = some (.ext ψ)
  lt : g < s2.gens.size
  log : LH H2 L2
  dom : ∀ b, D b → H2 b ≠ none
/-- what a call of a generator def gives -/
def GMadeL (P : Program) (w : World) (K : PySem.W.Frag) (k : Nat) (outer : List Env) (Hc : Hp) (sc : Shared) (rows : List PyData) (u : Value) (s1 : Shared) : Prop :=
  ∃ (a : Addr) (g : Nat) (c : Code), u = .ref a ∧ sc.heap.objs.size ≤ a ∧ a < s1.heap.objs.size ∧ s1.heap.IsGen a g ∧ s1.gens[g]? = some (.fresh c) ∧ sc.gens.size ≤ g ∧ s1.os = sc.os ∧ AllBare s1.gens ∧ (∀ b o, sc.heap.get? b = some o → s1.heap.get? b = some o) ∧ Hc a = none ∧
    ∀ (A : Around) (W : List Addr) (D : Addr → Prop) (s2 : Shared) (H2 : Hp) (L2 : Lg), Room k A → A.frames = some outer → St0 P w Hc sc s1 a W g D H2 s2 L2 → Goes ⟨P, w, K, outer, Hc, sc, W, g, A, D⟩ rows H2 c ((model P w).den c) [] s2 L2
/-- a generator def's promise: its arguments, the heap, the rows -/
abbrev SpGL := List V → Hp → List PyData → Prop
structure GFnL (P : Program) (w : World) (K : PySem.W.Frag) (mg : Str → Option Value) (base : Heap) (k : Nat) (f : Addr) (fd : FuncData) (ps : List Str) (sp : SpGL) : Prop where
  len : ∀ vs H rows, sp vs H rows → vs.length = ps.length
  run : ∀ (A : Around) (outer : List Env) (s : Shared) (H : Hp) (args : Args) (us : List Value) (vs : List V) (rows : List PyData), Room k A → Env0 P w K mg base A outer s H → BindsTo s fd args (ps.zip us) → Vals vs us → sp vs H rows →
    codeAny (model P w) A (.call (.ref f) args) (fun r s' => match r with | .ok (.ret u) => GMadeL P w K k outer H s rows u s' | _ => False) s

/-- the context of a generator def's body -/
abbrev gcx (P : Program) (w : World) (K : PySem.W.Frag) (mg : Str → Option Value) (base : Heap) (N : List Str) (qual : Str) (scope : Scope) (f : Addr) (cd : Value) (A : Around) (outer : List Env) (s : Shared) (H : Hp) : Cx :=
  (gcxOf P w K mg base N qual scope f cd A outer s H (fun _ _ _ => False) []).nox

theorem sgL_func {P : Program} {w : World} {A : Around} {fs : List Frame} {s : Shared} {L : Lg} {RQ : Result → Shared → Lg → Prop} {YQ : Value → Code → (Resume → Sem PySem.Fin) → List Frame → Shared → Lg → Prop} {env : Env} {body : List Stmt}
    (h : ∀ (K : Flow → Sem PySem.Fin) (J : Value → Sem PySem.Fin), K .next = .pure (.done (.ret .none)) → SgL (model P w) A (.func body env) ((execs body env).wrap K J id id) fs s L RQ YQ) :
    SgL (model P w) A (.func body env) ((model P w).den (.func body env)) fs s L RQ YQ := by
  show SgL _ A _ (.point [] fun _ => ((execs body env).onRaise (leaving env)) >>= _) fs s L RQ YQ
  refine SgL.point ?_
  rw [Sem.onRaise_eq_wrap, Sem.bind_eq_wrap', Sem.wrap_wrap]
  exact h _ _ rfl

/-- THE RULE: a generator def, by its body -/
theorem gfnL_of {P : Program} {w : World} {K : PySem.W.Frag} {mg : Str → Option Value} {base : Heap} {k : Nat} {f : Addr} {name qual : Str} {params : Arguments} {body : List Stmt} {scope : Scope} {dV kV doc pm cdv ct oc : Value} {an od : Option Addr}
    {osl : Array (Option Value)} {N ps : List Str} {sp : SpGL} (lk : K.lookup f = some ⟨oc, od, .func (PySem.W.fnOf name qual params body scope dV kV doc pm an cdv ct), osl⟩) (hcd : PySem.W.codeIn K cdv qual = true) (S : GScope N ps scope)
    (len : ∀ vs H rows, sp vs H rows → vs.length = ps.length)
    (hbody : ∀ (A : Around) (outer : List Env) (s : Shared) (H : Hp) (vs : List V) (rows : List PyData), Room k (A.deeper (envOfC qual scope s.heap.objs.size f cdv)) → sp vs H rows →
      ∃ t, GSsL (gcx P w K mg base N qual scope f cdv A outer s H) body t ∧ ∀ H2, EnvH H H2 → t ⟨fun rows' _ _ => rows' = []⟩ rows (start N vs) H2) :
    GFnL P w K mg base (k + 1) f (PySem.W.fnOf name qual params body scope dV kV doc pm an cdv ct) ps sp := by
  refine ⟨len, fun A outer s H args us vs rows hr e0 hb r hsp => ?_⟩
  have hl := len _ _ _ hsp
  have here : ∀ b o, base.get? b = some o → s.heap.get? b = some o := fun b o e => (e0.bs b o e).1
  refine codeAny_call_generator hr.depth (e0.mod.kin.keeps here _ _ lk) rfl S.co S.gen rfl (PySem.W.codeRec_of (e0.mod.kin.keeps here) hcd) (hb _ _ _ _ (wpAny_newFunctionEnv_cells S.kind (fun y hy => ?_) fun env he s1 x => ?_))
  · exact (S.par y.1 (List.of_mem_zip hy).1).imp id fun q => ⟨q, PySem.W.cellsFrom_some _ _ _ (.inl q)⟩
  subst he
  have kp1 : ∀ b o, s.heap.get? b = some o → s1.heap.get? b = some o := x.toInCall.keep
  refine ⟨(e0.mod.nolimit.keeps here).keeps kp1, ?_⟩
  obtain ⟨os1, gen1⟩ : s1.os = s.os ∧ s1.gens = s.gens := by
    obtain ⟨_, _, es, _⟩ := x.done
    exact ⟨by rw [es], by rw [es]⟩
  have lt1 : s.heap.objs.size < s1.heap.objs.size := x.toInCall.ns.lt
  have sz1 := Nat.le_of_lt lt1
  have main : ∀ (go : Obj) (nm qn : Value) (tk2 : Nat), go.cls = .type "generator" → go.data = .fields #[.int s1.gens.size 0, nm, qn] → go.slots = #[] → (∀ h : Heap, (h.push go).get? h.objs.size = some go) →
      GMadeL P w K (k + 1) outer H s rows (.ref s1.heap.objs.size) { s1 with gens := s1.gens.push (.fresh (.func body (envOfC qual scope s.heap.objs.size f cdv))), toks := tk2, heap := s1.heap.push go } := by
    intro go nm qn tk2 hgc hgd0 hgs hgp
    have hpushed : (s1.heap.push go).get? s1.heap.objs.size = some go := hgp _
    have kpp : ∀ b o, s.heap.get? b = some o → (s1.heap.push go).get? b = some o := fun b o e => Heap.get?_push_of_some _ (kp1 b o e)
    refine ⟨s1.heap.objs.size, s1.gens.size, _, rfl, sz1, ?_, ⟨go, nm, qn, hpushed, hgc, hgd0, hgs⟩, Array.getElem?_push_size .., by rw [gen1]; exact Nat.le_refl _, os1, ?_, kpp, e0.hok.fresh sz1, ?_⟩
    · show _ < (s1.heap.push _).objs.size
      rw [Heap.size_push]; exact Nat.lt_succ_self _
    · exact AllBare.push (by rw [gen1]; exact e0.bare) rfl
    intro Aw W D s2 H2 L2 hrw hfr B
    have e0w : Env0 P w K mg base Aw outer s H := ⟨hfr, e0.mod, e0.bs, e0.bsz, e0.funs, e0.frf, e0.hok, e0.bare⟩
    obtain ⟨t, ht, hq⟩ := hbody Aw outer s H vs rows (hrw.deeper _) hsp
    have I1 : Inv (gcxOf P w K mg base N qual scope f cdv Aw outer s H (fun _ _ _ => False) []) [] (start N vs) H s1 := inv_startG S hrw.hd e0w hl r x
    -- what was there is not among the changing ones, unless tracked as such
    have nW : ∀ b o, s1.heap.get? b = some o → H b = none → b ∉ W := fun b o q n hb => by
      have lb := Heap.lt_size q
      rcases (B.ext b hb).1 with z | z | ⟨φ, z⟩
      · rw [z] at lb; exact absurd lb (Nat.lt_irrefl _)
      · exact absurd (Nat.lt_of_lt_of_le (Nat.lt_trans lb (Nat.lt_succ_self _)) (Nat.le_trans (Nat.le_of_eq (Heap.size_push _ _).symm) z)) (Nat.lt_irrefl _)
      · rw [n] at z; cases z
    have nX : ∀ b o, H b = some o → (∀ φ, o ≠ .ext φ) → H2 b = some o := fun b o q n => by
      refine B.same b o q fun hb => ?_
      have lb := (e0.hok.lt q)
      rcases (B.ext b hb).1 with z | z | ⟨φ, z⟩
      · rw [z] at lb; exact absurd (Nat.lt_trans lb lt1) (Nat.lt_irrefl _)
      · exact absurd (Nat.lt_of_lt_of_le (Nat.lt_trans (Nat.lt_trans lb lt1) (Nat.lt_succ_self _)) (Nat.le_trans (Nat.le_of_eq (Heap.size_push _ _).symm) z)) (Nat.lt_irrefl _)
      · rw [q] at z; exact n φ (Option.some.inj z)
    have kq : ∀ b o, s1.heap.get? b = some o → (s1.heap.push go).get? b = some o := fun b o e => Heap.get?_push_of_some _ e
    have Bkeep := B.keep
    have I2 : Inv (gcxOf P w K mg base N qual scope f cdv Aw outer s H (fun _ _ _ => False) []) [] (start N vs) H2 s2 := by
      obtain ⟨h', g', d', t', o'⟩ := s2
      obtain rfl : o' = s1.os := B.os.trans os1.symm
      refine I1.step (ch := []) (fun b hb => by cases hb) (fun b o _ _ _ q n => B.keep b o (nW b o q n) (kq b o q)) (fun b o _ _ _ q n => ⟨o.slots, B.keep b o (nW b o q n) (kq b o q)⟩) (fun b o _ q n => B.free b o (nW b o q n) (kq b o q) n)
        (fun b o _ q => B.there b o (kq b o q)) (fun b xs q => nX b _ q fun φ z => by cases z) (fun b o u q => nX b _ q fun φ z => by cases z) (fun b ps q => ⟨#[], by rw [nX b _ q fun φ z => by cases z]; simp⟩) (fun m hm => ?_) B.hok B.bare
      obtain ⟨o, es, ep, ho, rr⟩ := hm
      exact ⟨o, es, ep, Bkeep _ o (nW _ o ho I1.free) (kq _ o ho), rr⟩
    have x0 : GX0 (gcx P w K mg base N qual scope f cdv Aw outer s H) := ⟨fun _ _ z => z, rfl⟩
    refine sgL_func fun KK JJ hK => ?_
    refine ht.run [] W s1.gens.size D Aw rows H2 s2 (start N vs) H2 L2 _ [] KK JJ id id ⟨fun rows' _ _ => rows' = []⟩ x0 ⟨over_func, rfl, rfl, rfl⟩ (fun rows' T' s' L' σ' H' i' q' => ?_) ⟨I2.wish _, ExD.refl H2, B.dom, B.log, B.lt, fun b hb => (B.ext b hb).2⟩ (hq H2 nX)
    rw [hK]
    exact SgL.end_ (.ok (.ret .none)) ⟨q', .inl rfl, H', i'.gv x0, i'.ex, i'.log⟩
  exact main _ _ _ _ rfl rfl rfl fun h => Heap.get?_push_size _ rfl
end LL
end

section
set_option Elab.async false
set_option linter.all false
set_option maxRecDepth 100000
set_option maxHeartbeats 1000000
/-! L8: yield from a generator. -/
namespace LL
open PySem PySem.Spec PyProof.Rows L2 GenW Evl

theorem slept_of {M : Model} {A : Around} {E : Value → Shared → Prop} {s : Shared} {a : Addr} {o : Obj} {more : Bool} {n : Int} {Q : Unit → Shared → Prop} (ho : s.heap.get? a = some o) (hc : o.cls = .type "generator") {nm qn : Value} {g : Nat} (hd : o.data = .fields #[.int g 0, nm, qn])
    (hs : (o.slots = #[] ∧ n = 0) ∨ o.slots = #[some (rawInt n)])
    (h : ∀ h', h'.get? a = some { o with slots := #[some (rawInt (if more then n + 1 else n - 1))] } → (∀ b, b ≠ a → h'.get? b = s.heap.get? b) → Q () { s with heap := h' }) : wpAny M A (Builtin.Generator.sleptOver (.ref a) more) Q E s := by
  unfold Builtin.Generator.sleptOver
  refine wpAny_bind (wpAny_load ho ?_)
  rw [hc, if_neg (by decide)]
  have fin : wpAny M A (setSlotAt a 0 (some (rawInt (if more = true then n + 1 else n - 1)))) Q E s := by
    unfold setSlotAt
    rw [if_neg (by decide)]
    refine wpAny_updatePart ho ?_
    have hf : ({ o with slots := (o.slots ++ Array.replicate (0 + 1 - o.slots.size) none).setIfInBounds 0 (some (rawInt (if more = true then n + 1 else n - 1))) } : Obj) = { o with slots := #[some (rawInt (if more = true then n + 1 else n - 1))] } := by
      rcases hs with ⟨e, _⟩ | e <;> rw [e] <;> rfl
    refine h _ ?_ fun b hb => Heap.get?_update_other _ _ (Ne.symm hb)
    rw [← hf]
    exact Heap.get?_update_self (fun o => { o with slots := (o.slots ++ Array.replicate (0 + 1 - o.slots.size) none).setIfInBounds 0 (some (rawInt (if more = true then n + 1 else n - 1))) }) ho (Obj.isFreed_of_fields (h := hd))
  rcases hs with ⟨e, rfl⟩ | e
  · rw [e]; exact fin
  · rw [e]; exact fin

mutual
theorem dp_env {K : PySem.W.Frag} {H H' : Hp} (e : EnvH H H') : ∀ {x : V} {d : PyData}, Dp K H x d → Dp K H' x d
  | _, _, .non => .non
  | _, _, .bl b => .bl b
  | _, _, .int i => .int i
  | _, _, .str x => .str x
  | _, _, .lst h r => .lst (h.imp (fun q => q.imp (fun q => e _ _ q nofun) fun ⟨o, q⟩ => ⟨o, e _ _ q nofun⟩) id) (dpAll_env e r)
  | _, _, .tup h r => .tup (h.imp (fun q => q.imp (fun q => e _ _ q nofun) fun ⟨o, q⟩ => ⟨o, e _ _ q nofun⟩) id) (dpAll_env e r)
theorem dpAll_env {K : PySem.W.Frag} {H H' : Hp} (e : EnvH H H') : ∀ {xs : List V} {ds : List PyData}, DpAll K H xs ds → DpAll K H' xs ds
  | _, _, .nil => .nil
  | _, _, .cons h r => .cons (dp_env e h) (dpAll_env e r)
end
theorem setGen_ne {s : Shared} {g i : Nat} {x : GenState} (h : g ≠ i) : (s.setGen g x).gens[i]? = s.gens[i]? := by
  show (s.gens.setIfInBounds g x)[i]? = _
  rw [Array.getElem?_setIfInBounds_ne h]
theorem envH_form {H : Hp} {a : Addr} {φ ψ : Heap → Prop} (ha : H a = some (.ext φ)) : EnvH H (upd H a (.ext ψ)) := fun b o q n => by
  by_cases e : b = a
  · subst e; rw [ha] at q; exact absurd (Option.some.inj q).symm (n φ)
  · rw [upd_ne e]; exact q
abbrev yfc (a : Addr) : Code := .builtin "proto.yield_from" ⟨[.ref a, .bool false, .none], []⟩
theorem gen_close : ∃ v, typeLookup (.type "generator") "close" = pure (some v) := ⟨.builtin "generator.close", by rw [typeLookup_type, builtinLookup_eq_fast]; kernel_rfl⟩

section
variable {X : Cx} {pins : List (Addr × Obj)} {W : List Addr} {g gi : Nat} {D D1 : Addr → Prop} {A : Around} {σ : L2.St} {Hc Hb : Hp} {sc : Shared} {a : Addr} {fs : List Frame} {rest : List PyData}
/-- the object at a, changed in form -/
theorem inv_form {H : Hp} {s : Shared} {h' : Heap} {φ ψ : Heap → Prop} (I : Inv X pins σ H s) (ha : H a = some (.ext φ)) (hk : ∀ b, b ≠ a → h'.get? b = s.heap.get? b) (new : ObjOk X.prog X.w (upd H a (.ext ψ)) h' a (.ext ψ)) : Inv X pins σ (upd H a (.ext ψ)) { s with heap := h' } :=
  I.write (x := a) (e := a) (t' := s.toks) (by rw [ha]; trivial) (.inl rfl) (fun b u n q => (hk b n).trans q) new.2.1 new
theorem gin_form {T H : Hp} {s : Shared} {L : Lg} {h' : Heap} {φ ψ : Heap → Prop} {n : Nat} (i : GIn X pins W g D σ T H s L) (hla : a ∉ W) (hD : ¬ D a) (ha : H a = some (.ext φ)) (r : GenE a n ψ) (hk : ∀ b, b ≠ a → h'.get? b = s.heap.get? b) (new : ObjOk X.prog X.w (upd H a (.ext ψ)) h' a (.ext ψ)) :
    GIn X pins W g D σ T (upd H a (.ext ψ)) { s with heap := h' } L where
  inv := inv_form i.inv ha hk new
  ex := ⟨fun b o d q => by
    rw [upd_ne (show b ≠ a from fun e => hD (by rw [← e]; exact d))]
    exact i.ex.on b o d q, i.ex.env.trans (envH_form ha)⟩
  dom := fun b d n => by
    by_cases e : b = a
    · subst e; rw [upd_same] at n; cases n
    · rw [upd_ne e] at n; exact i.dom b d n
  log := i.log.upd r
  lt := i.lt
  ext := fun b hb => by
    rw [upd_ne (show b ≠ a from fun e => hla (by rw [← e]; exact hb))]
    exact i.ext b hb

theorem sgL_yf (x : GX0 X) (Isc : Inv X pins σ Hc sc) (hla : a ∉ W) (hDa : ¬ D a) (hgi : g < gi) (hh : (A.over (yfc a) fs).handled = none) (hroom : (A.over (yfc a) fs).depth < recursionLimit) (hsp : splitAtGen fs = none) (hgd : fs.any Frame.guarded = false)
    (hD1 : ∀ b, D b → D1 b) (hDa1 : D1 a) (hb1 : ∀ b, Hb b ≠ none → D1 b) (hW1 : ∀ b ∈ W, D1 b)
    (hend : ∀ T' s' L' H', GIn X pins W g D σ T' H' s' L' → EnvH Hb H' → Goes (gpOf X W g D A) rest T' (yfc a) (.pure (.done (.ret .none))) fs s' L') :
    ∀ (rows1 : List PyData) (T H : Hp) (s : Shared) (L : Lg) (gs : GenState) (ci : Code) (ti : Sem PySem.Fin) (fsi : List Frame), GIn X pins W g D σ T H s L → EnvH Hb H → (∀ b, D1 b → H b ≠ none) → H a = some (GXZ a gi) → s.gens[gi]? = some gs → Stands (model X.prog X.w) gs ci ti fsi →
      Goes ⟨X.prog, X.w, X.K, X.stack, Hc, sc, a :: W, gi, (A.over (yfc a) fs).in1, D1⟩ rows1 H ci ti fsi (s.setGen gi .running) L →
      Goes (gpOf X W g D A) (rows1 ++ rest) T (yfc a) ((model X.prog X.w).den (yfc a)) fs s L := by
  intro rows1
  -- behind a turn of the inner one
  have back : ∀ {T H H' : Hp} {s s' : Shared} {L L' : Lg} {gst : GenState}, GIn X pins W g D σ T H s L → EnvH Hb H → (∀ b, D1 b → H b ≠ none) → H a = some (GXZ a gi) →
      Gv ⟨X.prog, X.w, X.K, X.stack, Hc, sc, a :: W, gi, (A.over (yfc a) fs).in1, D1⟩ H' s' → ExD D1 H H' → LH H' L' → gst.bare = true →
      GIn X pins W g D σ T H' (s'.setGen gi gst) L' ∧ EnvH Hb H' ∧ (∀ b, D1 b → H' b ≠ none) ∧ H' a = some (GXZ a gi) := by
    intro T H H' s s' L L' gst i eb dm ha gv e lg hb
    have I' : Inv X pins σ H' (s'.setGen gi gst) := Isc.call' (ch := []) gv.os gv.un gv.hok (allBare_setGen gv.bare hb) fun b hb => by cases hb
    refine ⟨⟨I', i.ex.trans e hD1, fun b d n => ?_, lg, ?_, fun b hb => ?_⟩, fun b o q n => ?_, fun b d n => ?_, e.on a _ hDa1 ha⟩
    · cases q : H b with
      | none => exact i.dom b d q
      | some o => rw [e.on b o (hD1 b d) q] at n; cases n
    · rw [setGen_size]; exact Nat.lt_trans hgi gv.lt
    · obtain ⟨φ, q⟩ := i.ext b hb
      exact ⟨φ, e.on b _ (hW1 b hb) q⟩
    · exact e.on b o (hb1 b (by rw [q]; nofun)) (eb b o q n)
    · cases q : H b with
      | none => exact dm b d q
      | some o => rw [e.on b o d q] at n; cases n
  induction rows1 with
  | nil =>
    intro T H s L gs ci ti fsi i eb dm ha hgs hst hgo
    rw [den_yf]
    unfold Builtin.«proto.yield_from»
    try dsimp only
    refine SgL.bindQ (wpAny_pure ?_)
    try dsimp only
    refine SgL.bind (WpL.attempt (WpL.holding ?_))
    rw [if_neg Bool.false_ne_true, if_pos (show (Value.none == Value.none) = true from rfl)]
    refine WpL.bind (.of (wpAny_rule ?_))
    refine WpL.bind (WpL.nextGen (A := A.over (yfc a) fs) hh i.inv.nolimit hroom (i.inv.hok a _ ha).1 hgs hst hgo (fun r s' L' hr => ?_) fun v c' kk fs' s' L' lv p' hy => hy.elim)
    obtain ⟨_, hr, H', gv, e, lg⟩ := hr
    refine ⟨hr, fun ev h' hS hk => ?_⟩
    obtain ⟨ae, oe, vs, rfl, hoa, hcls, hdat, h5⟩ := hS
    obtain ⟨i', eb', _, _⟩ := back (gst := .finished) i eb dm ha gv e lg rfl
    have i2 : GIn X pins W g D σ T H' { s'.setGen gi .finished with heap := h' } L' := ⟨i'.inv.kept (t' := _) hk, i'.ex, i'.dom, i'.log, i'.lt, i'.ext⟩
    try dsimp only
    refine SgL.bindQ (wpAny_endsTurn hoa hcls ?_)
    try dsimp only
    rw [if_pos rfl]
    first
      | refine SgL.bindQ (wpAny_rule ?_)
      | (rw [if_neg Bool.false_ne_true]; refine SgL.bindQ (wpAny_rule ?_))
      | (rw [if_neg Bool.false_ne_true]; refine SgL.bindQ (wpAny_pure ?_); refine SgL.bindQ (wpAny_rule ?_))
    refine SgL.bindQ (wpAny_field hoa hdat h5 ?_)
    exact hend _ _ _ _ i2 eb'
  | cons r rows1 ih =>
    intro T H s L gs ci ti fsi i eb dm ha hgs hst hgo
    rw [den_yf]
    unfold Builtin.«proto.yield_from»
    try dsimp only
    refine SgL.bindQ (wpAny_pure ?_)
    try dsimp only
    refine SgL.bind (WpL.attempt (WpL.holding ?_))
    rw [if_neg Bool.false_ne_true, if_pos (show (Value.none == Value.none) = true from rfl)]
    refine WpL.bind (.of (wpAny_rule ?_))
    refine WpL.bind (WpL.nextGen (A := A.over (yfc a) fs) hh i.inv.nolimit hroom (i.inv.hok a _ ha).1 hgs hst hgo (fun r s' L' hr => by cases hr.1) fun v c' kk fs' s' L' lv p' hy => ?_)
    obtain ⟨H', xv, gv, e, lg, rv, d, cont⟩ := hy
    obtain ⟨i', eb', dm', ha'⟩ := back (gst := .suspended kk lv c' p' fs' false) i eb dm ha gv e lg rfl
    have hz : IsGenZ s'.heap a gi := (i'.inv.hok a _ ha').1
    obtain ⟨o, nm, qn, ho, hc, hd, hsl⟩ := hz
    refine WpL.pure ?_
    try dsimp only
    refine SgL.bindQ (wpAny_typeOf (T := "generator") ⟨o, ho, hc⟩ ?_)
    try dsimp only
    obtain ⟨cv, hcl⟩ := gen_close
    first
      | (refine SgL.bindQ (wpAny_of_eq hcl ?_); refine SgL.bindQ (wpAny_pure ?_))
      | refine SgL.bindQ (wpAny_bind (wpAny_of_eq hcl (wpAny_pure ?_)))
      | refine SgL.bindQ (wpAny_of_eq hcl ?_)
    try dsimp only
    refine SgL.bindQ (slept_of (n := 0) ho hc hd (by rcases hsl with q | q; exact .inl ⟨q, rfl⟩; exact .inr q) fun h1 q1 q2 => ?_)
    have h1g : IsGen1 h1 a gi := ⟨_, nm, qn, q1, hc, hd, rfl⟩
    have i1 := gin_form (h' := h1) i' hla hDa ha' gen_1 q2 (ok_g1 (H := upd H' a (GX1 a gi)) h1g)
    have n1 : ∀ b, b ≠ a → upd H' a (GX1 a gi) b = H' b := fun b n => upd_ne n
    refine SgL.loud (a := a) (more := [.bool false, .none]) (kw := []) hsp hgd (gen_1 _ h1g).isGn ?_
    refine ⟨upd H' a (GX1 a gi), xv, i1.gv x, i1.ex, i1.log.cons upd_same gen_1, rv, dp_env (envH_form ha') d, fun s2 L2 H2 E => ?_⟩
    have ea : s2.heap.get? a = some { o with slots := #[some (rawInt (if true then 0 + 1 else 0 - 1))] } := E.keep a _ hla q1
    have h2a : H2 a = some (GX1 a gi) := E.same a _ upd_same hla
    show SgL _ _ _ (Builtin.Generator.sleptOver (.ref a) false >>= fun _ => _) fs s2 L2 _ _
    refine SgL.bindQ (slept_of (n := 1) ea hc hd (.inr rfl) fun h3 r1 r2 => ?_)
    try dsimp only
    refine SgL.bindQ (wpAny_pure ?_)
    refine SgL.again (plainId_quiet plain_yf _) ?_
    have h3g : IsGenZ h3 a gi := ⟨_, nm, qn, r1, hc, hd, .inr rfl⟩
    have i2 : GIn X pins W g D σ H2 H2 s2 L2 := ⟨inv_env i1.inv E, ExD.refl H2, fun b hb => E.dom b (i1.dom b hb), E.log, Nat.lt_of_lt_of_le i1.lt E.gsz, fun b hb => (E.ext b hb).2⟩
    have i3 := gin_form (h' := h3) i2 hla hDa h2a gen_z r2 (ok_gz (H := upd H2 a (GXZ a gi)) h3g)
    have gl : gi < (s'.setGen gi (.suspended kk lv c' p' fs' false)).gens.size := by rw [setGen_size]; exact gv.lt
    have gat : s2.gens[gi]? = some (.suspended kk lv c' p' fs' false) := (E.gens gi hgi gl).trans (setGen_at gv.lt)
    have eq1 : ∀ b, b ≠ a → h1.get? b = s'.heap.get? b := q2
    refine ih H2 (upd H2 a (GXZ a gi)) { s2 with heap := h3 } L2 _ c' _ fs' i3 ((eb'.trans (envH_form ha')).trans (E.envH.trans (envH_form h2a))) (fun b hb => ?_) upd_same gat (.asleep kk lv c' p' fs' false) (cont _ L2 (upd H2 a (GXZ a gi)) ⟨?_, ?_, ?_, ?_, ?_, ?_, ?_, ?_, ?_, ?_, ?_⟩)
    · intro n
      by_cases z : b = a
      · subst z; rw [upd_same] at n; cases n
      · rw [upd_ne z] at n
        exact E.dom b (by rw [n1 b z]; exact dm' b hb) n
    · exact E.os
    · exact allBare_setGen (s := { s2 with heap := h3 }) E.bare rfl
    · exact i3.inv.hok
    · intro b ob hb q
      have z : b ≠ a := fun z => hb (by rw [z]; exact List.mem_cons_self)
      exact (r2 b z).trans (E.keep b ob (fun y => hb (List.mem_cons_of_mem _ y)) ((eq1 b z).trans q))
    · intro b ob q
      by_cases z : b = a
      · subst z; exact ⟨_, r1⟩
      · obtain ⟨o', q'⟩ := E.there b ob ((eq1 b z).trans q)
        exact ⟨o', (r2 b z).trans q'⟩
    · intro b ob q n
      have z : b ≠ a := fun z => by rw [z, ha'] at n; cases n
      rw [upd_ne z]
      exact E.free b ob ((eq1 b z).trans q) (by rw [n1 b z]; exact n)
    · intro b ob q hb
      have z : b ≠ a := fun z => hb (by rw [z]; exact List.mem_cons_self)
      rw [upd_ne z]
      exact E.same b ob (by rw [n1 b z]; exact q) fun y => hb (List.mem_cons_of_mem _ y)
    · intro b hb
      by_cases z : b = a
      · subst z; exact ⟨⟨_, ha'⟩, _, upd_same⟩
      · rcases List.mem_cons.mp hb with y | y
        · exact absurd y z
        · refine ⟨i'.ext b y, ?_⟩
          rw [upd_ne z]
          exact (E.ext b y).2
    · intro j hj hl
      refine (setGen_ne (Nat.ne_of_lt hj)).trans ?_
      refine (E.gens j (Nat.lt_trans hgi hj) (by show j < (s'.setGen gi _).gens.size; rw [setGen_size]; exact hl)).trans ?_
      exact setGen_ne (Nat.ne_of_lt hj)
    · exact Nat.le_trans (Nat.le_of_eq (setGen_size s' gi (.suspended kk lv c' p' fs' false)).symm) (Nat.le_trans E.gsz (Nat.le_of_eq (setGen_size { s2 with heap := h3 } gi .running).symm))
    · exact i3.log
end
end LL
end

section
set_option Elab.async false
set_option linter.all false
set_option maxRecDepth 100000
set_option maxHeartbeats 1000000
/-! L9: the statement yield from f(..). -/
namespace LL
open PySem PySem.Spec PyProof.Rows L2 GenW Evl

theorem over_under {A : Around} {c c' : Code} {fs : List Frame} {k : Result → Sem PySem.Fin} {g : Bool} {l kp : List Value} {p : Pos} : A.over c' (.ret k none g l c p kp :: fs) = (A.over c fs).under c' := by
  have e2 : A.depth + frameCount ((Frame.ret k none g l c p kp :: fs).map Frame.where_) + c'.weight = A.depth + frameCount (fs.map Frame.where_) + c.weight + c'.weight := by
    show A.depth + frameCount ((c, p) :: fs.map Frame.where_) + c'.weight = _
    rw [frameCount_cons]; omega
  have e3 : pushEnvs (envsOf ((Frame.ret k none g l c p kp :: fs).map Frame.where_)) A.frames = pushEnvs c.envs (pushEnvs (envsOf (fs.map Frame.where_)) A.frames) := by
    show pushEnvs (envsOf ((c, p) :: fs.map Frame.where_)) A.frames = _
    rw [envsOf_cons]
    simp only [pushEnvs_eq]
    cases A.frames <;> simp [List.append_assoc]
  have e4 : pushGuards (guardsOf ((Frame.ret k none g l c p kp :: fs).map Frame.where_)) A.guards = pushGuards c.guards (pushGuards (guardsOf (fs.map Frame.where_)) A.guards) := by
    show pushGuards (guardsOf ((c, p) :: fs.map Frame.where_)) A.guards = _
    rw [guardsOf_cons]
    simp only [pushGuards_eq]
    cases A.guards <;> simp [List.append_assoc]
  have e5 : A.units + unitsOf ((Frame.ret k none g l c p kp :: fs).map Frame.where_) + c'.cUnits = A.units + unitsOf (fs.map Frame.where_) + c.cUnits + c'.cUnits := by
    show A.units + unitsOf ((c, p) :: fs.map Frame.where_) + c'.cUnits = _
    rw [unitsOf_cons]; omega
  have e1 : (marksOver (Frame.ret k none g l c p kp :: fs) (A.handled, A.handled)).1 = (marksOver fs (A.handled, A.handled)).1 := rfl
  show (⟨(marksOver (Frame.ret k none g l c p kp :: fs) (A.handled, A.handled)).1, A.depth + frameCount ((Frame.ret k none g l c p kp :: fs).map Frame.where_) + c'.weight,
    pushEnvs c'.envs (pushEnvs (envsOf ((Frame.ret k none g l c p kp :: fs).map Frame.where_)) A.frames), pushGuards c'.guards (pushGuards (guardsOf ((Frame.ret k none g l c p kp :: fs).map Frame.where_)) A.guards),
    A.units + unitsOf ((Frame.ret k none g l c p kp :: fs).map Frame.where_) + c'.cUnits⟩ : Around) = _
  rw [e1, e2, e3, e4, e5]
  rfl
theorem over_yf {A : Around} {c : Code} {fs : List Frame} {k : Result → Sem PySem.Fin} {g : Bool} {l kp : List Value} {p : Pos} {a : Addr} : A.over (yfc a) (.ret k none g l c p kp :: fs) = (A.over c fs).in1 :=
  over_under.trans (Around.under_plainId plain_yf _)

section
variable {X : Cx} {k : Nat} {f : Addr} {fd : FuncData} {ps : List Str} {sp : SpGL} {x : Str} {p yp pos pos' : Pos}
def tGFrom (sp : SpGL) (t : TA) : TGL := fun D rows σ H => t σ H fun vs H1 => Ex H H1 ∧ ∃ rows1 rest, rows = rows1 ++ rest ∧ sp vs H1 rows1 ∧ ∀ H2, EnvH H1 H2 → D.nx rest σ H2
/-- from a made generator: the first turn's state; a is tracked -/
theorem made_start {pins : List (Addr × Obj)} {W : List Addr} {g : Nat} {D : Addr → Prop} {σ : L2.St} {T H : Hp} {sc s1 : Shared} {L : Lg} {a gi : Nat} {c : Code}
    (i : GIn X pins W g D σ T H sc L) (h1 : sc.heap.objs.size ≤ a) (h3 : s1.heap.IsGen a gi) (h4 : s1.gens[gi]? = some (.fresh c)) (h5 : sc.gens.size ≤ gi) (h6 : s1.os = sc.os) (h7 : AllBare s1.gens) (h8 : ∀ b o, sc.heap.get? b = some o → s1.heap.get? b = some o) (h9 : H a = none) :
    GIn X pins W g D σ T (upd H a (GXZ a gi)) s1 L ∧ St0 X.prog X.w H sc s1 a (a :: W) gi (fun b => upd H a (GXZ a gi) b ≠ none) (upd H a (GXZ a gi)) (s1.setGen gi .running) L := by
  have hz : IsGenZ s1.heap a gi := .of h3
  have hgl : gi < s1.gens.size := (Array.getElem?_eq_some_iff.mp h4).1
  have hok : HOk X.prog X.w (upd H a (GXZ a gi)) s1.heap := i.inv.hok.laid h8 h1 (ok_gz hz)
  have I1 : Inv X pins σ (upd H a (GXZ a gi)) s1 := i.inv.call' (ch := []) h6 (Un.laid h8 h1 h9) hok h7 fun b hb => by cases hb
  have eD : ∀ b o, H b = some o → upd H a (GXZ a gi) b = some o := Ex.new h9
  have nWa : a ∉ W := fun hb => by
    obtain ⟨φ, q⟩ := i.ext a hb
    rw [h9] at q; cases q
  refine ⟨⟨I1, i.ex.ex eD, fun b d n => ?_, i.log.ex eD, by have := i.lt; omega, fun b hb => ?_⟩, ⟨h6, allBare_setGen h7 rfl, hok, fun b o _ q => q, fun b o q => ⟨o, q⟩, fun b o hb q n => ?_, fun b o q _ => eD b o q, fun b hb => ?_, ?_, i.log.ex eD, fun b hb => hb⟩⟩
  · cases q : H b with
    | none => exact i.dom b d q
    | some o => rw [eD b o q] at n; cases n
  · obtain ⟨φ, q⟩ := i.ext b hb
    exact ⟨φ, eD b _ q⟩
  · rw [upd_ne (show b ≠ a from fun z => hb (by rw [z]; exact List.mem_cons_self))]
    exact n
  · by_cases z : b = a
    · subst z; exact ⟨.inl rfl, _, upd_same⟩
    · rcases List.mem_cons.mp hb with y | y
      · exact absurd y z
      · obtain ⟨φ, q⟩ := i.ext b y
        exact ⟨.inr (.inr ⟨φ, q⟩), φ, eD b _ q⟩
  · rw [setGen_size]; exact hgl

theorem gsl_from {e : Expr} {es : List Expr} {t : TA} (F : GFnL X.prog X.w X.K X.mg X.base k f fd ps sp) (hr : Room (k + 2) X.A) (hg : Gl X x) (hm : X.mg x = some (.ref f)) (hk : PySem.W.keepIn X.K (.ref f) = true) (hb : Binds X.K fd ps [])
    (ha : PA X (e :: es) t) (hdb : (x == ("__debug__" : Str)) = false := by decide) (he : starEach (e :: es) X.env = (false, eval e X.env) :: starEach es X.env := by rfl) (hpl : (backTo pos' (starEach es X.env)).any (·.1) = false := by rfl)
    (hi : interactive X.env = false := by rfl) : GSL X (.Expr (.YieldFrom (.Call (.Name x p) (e :: es) [] pos') yp) pos) (tGFrom sp t) := by
  refine ⟨fun pins W g D A rows T s σ H L c fs K J gd lv N x0 C kk i ht => ?_⟩
  rw [exec_Expr X.env _ pos hi rfl]
  show Goes _ _ _ c (.at pos fun _ => ((eval (.Call (.Name x p) (e :: es) [] pos') X.env >>= fun v => (standAt yp >>= fun _ => yieldFrom X.env v)) >>= fun z => dropValue (.YieldFrom (.Call (.Name x p) (e :: es) [] pos') yp) pos z).wrap K J gd lv) fs s L
  refine SgL.at_ ?_
  rw [Sem.bind_eq_wrap' (eval (.Call (.Name x p) (e :: es) [] pos') X.env >>= fun v => (standAt yp >>= fun _ => yieldFrom X.env v)), Sem.wrap_wrap]
  refine SgL.bind_wrapQ ?_
  rw [C.over]
  refine wpAny_mono (E := X.xe) (Q := fun v s1 => ∃ (H1 : Hp) (sc : Shared) (rows1 rest : List PyData), rows = rows1 ++ rest ∧ GIn X pins W g D σ T H1 sc L ∧ (∀ H2, EnvH H1 H2 → N.nx rest σ H2) ∧ GMadeL X.prog X.w X.K k X.stack H1 sc rows1 v s1) ?_ (fun v s1 hv => ?_) fun e s' hx => (x0.xe _ _ hx).elim
  · refine wpAny_Call_Name_kw (ld_glob i.inv hg hm ?_ hdb)
    refine PySem.W.callWith_K (h₀ := X.base) i.inv.ok.mod.kin hk (wpAny_gsz (n := g + 1) i.lt (wpAny_mono (ha.run pos' pins s σ H _ i.inv ht) (fun us s1 ⟨vs, H1, I1, r, e1, rows1, rest, q1, q2, q3⟩ z => ⟨I1.kIn, ?_⟩) fun e s' hx z => hx)) he hpl
    have i1 := i.on I1 e1 z
    have hl : (us ++ []).length = ps.length := by rw [List.append_nil, ← r.length]; exact F.len _ _ _ q2
    have hbb := hb s1 us I1.kIn hl
    rw [List.append_nil] at hbb
    refine wpAny_call (codeAny_mono (F.run X.A X.stack s1 H1 ⟨us, []⟩ us vs rows1 ⟨hr.hd, by have := hr.dp; omega, by have := hr.un; omega⟩ I1.env0 hbb r q2) fun r s' hq => ?_)
    cases r with
    | error e => exact False.elim hq
    | ok fl =>
      cases fl with
      | ret u => exact ⟨H1, s1, rows1, rest, q1, i1, q3, hq⟩
      | next => exact False.elim hq
      | brk => exact False.elim hq
      | cont => exact False.elim hq
  obtain ⟨H1, sc, rows1, rest, rfl, i1, hnx, a, gi, c1, rfl, h1, h2, h3, h4, h5, h6, h7, h8, h9, run⟩ := hv
  obtain ⟨i2, st0⟩ := made_start i1 h1 h3 h4 h5 h6 h7 h8 h9
  refine SgL.bind_wrapQ (wpAny_standAt ?_)
  show Goes _ _ _ c ((yieldFrom X.env (.ref a)).wrap _ J _ _) fs s1 L
  unfold yieldFrom
  refine SgL.bind_wrapQ (wpAny_typeOf h3.typeIs ?_)
  rw [if_neg (show ¬ ((Value.type "generator" == Value.type "coroutine") = true) by decide)]
  refine SgL.bind_wrapQ (wpAny_holding (wpAny_pyIter_gen h3 ?_))
  refine SgL.call fun pp => ?_
  have hAY : ∀ (kf : Result → Sem PySem.Fin) (gg : Bool) (l kp : List Value), A.over (yfc a) (.ret kf none gg l c pp kp :: fs) = X.A.in1 := fun kf gg l kp => by rw [over_yf, C.over]
  have hsz : sc.gens.size ≤ gi := h5
  refine sgL_yf (X := X) (pins := pins) (W := W) (g := g) (gi := gi) (D := D) (D1 := fun b => upd H1 a (GXZ a gi) b ≠ none) (A := A) (σ := σ) (Hc := H1) (Hb := upd H1 a (GXZ a gi)) (sc := sc) (a := a) (rest := rest) x0 i1.inv ?_ ?_ ?_ ?_ ?_ ?_ ?_ ?_ ?_ ?_ ?_ ?_ rows1 T (upd H1 a (GXZ a gi)) s1 L (.fresh c1) c1 _ [] i2 (EnvH.refl _) (fun b hb => hb) upd_same h4 (.fresh c1) ?_
  · exact fun hb => by
      obtain ⟨φ, q⟩ := i1.ext a hb
      rw [h9] at q; cases q
  · exact fun d => i1.dom a d h9
  · have := i1.lt; omega
  · rw [hAY]; exact hr.hd
  · rw [hAY]
    have := hr.dp
    show X.A.depth < _
    omega
  · show (splitAtGen fs).map _ = none
    rw [C.split]; rfl
  · show (gd false || fs.any Frame.guarded) = false
    rw [C.gd, C.guard]; rfl
  · exact fun b d => i2.dom b d
  · show upd H1 a (GXZ a gi) a ≠ none
    rw [upd_same]; nofun
  · exact fun b hb => hb
  · exact fun b hb n => by
      obtain ⟨φ, q⟩ := i2.ext b hb
      rw [n] at q; cases q
  · intro T' s' L' H' i' e'
    refine SgL.leaf (.ok (.ret .none)) ?_
    refine kk rest T' s' L' σ H' i' (hnx H' fun b o q n => e' b o ?_ n)
    rw [upd_ne (show b ≠ a from fun z => by rw [z, h9] at q; cases q)]
    exact q
  · rw [hAY]
    refine run X.A.in1.in1 (a :: W) _ _ _ _ ⟨hr.hd, ?_, ?_⟩ i1.inv.ok.frames st0
    · have := hr.dp
      show X.A.depth + 3 * k + 5 < _
      omega
    · have := hr.un
      show X.A.units + 1 + 1 + 16 * k + 200 < _
      omega
end
end LL
end

section
set_option Elab.async false
set_option linter.all false
set_option maxRecDepth 100000
set_option maxHeartbeats 1000000
/-! L10: list(g), a generator over generators walked to its end. -/
namespace LL
open PySem PySem.Spec PyProof.Rows L2 GenW Evl

section
variable {prog : Program} {w : World} {A : Around} {s : Shared} {L : Lg}
theorem CodeL.builtin_at {id : String} {args : Args} {b : Builtin} {R : Result → Shared → Lg → Prop} (hu : A.under (.builtin id args) = A.in1) (hb : entryFor table id = some b)
    (h : WpL (model prog w) A.in1 (b args) (fun fin s' L' => match fin with | .done f => R (.ok f) s' L' | .again c' => c'.quiet = true ∧ CodeL (model prog w) A c' R s' L') (fun e s' L' => R (.error e) s' L') s L) :
    CodeL (model prog w) A (.builtin id args) R s L := by
  refine .of_tree ?_
  show WpL _ (A.under (.builtin id args)) (match entryFor table id with | some b => b args | none => unsupported ((withoutEnding? id "#data").getD id)) _ _ s L
  rw [hb, hu]
  exact h
/-- list(u), by the code of list.__init__ -/
theorem WpL.call_list {u : Value} {Q : Value → Shared → Lg → Prop} {E : Value → Shared → Lg → Prop}
    (h : WpL (model prog w) A.in1.in1 (Builtin.«list.__init__» ⟨[.ref s.heap.objs.size, u], []⟩) (fun fin s' L' => match fin with
        | .done f => f = .ret .none ∧ Q (.ref s.heap.objs.size) s' L'
        | .again c' => c'.quiet = true ∧ CodeL (model prog w) A.in1 c' (fun r s' L' => match r with | .ok (.ret v) => v = .none ∧ Q (.ref s.heap.objs.size) s' L' | .ok _ => False | .error e => E e s' L') s' L') E
      { s with heap := s.heap.push { cls := .type "list", data := .seq #[] } } L)
    (keep : ∀ v s' L', Q v s' L' → True) : WpL (model prog w) A (PySem.call (.type "list") [u]) (fun v s' L' => Q v s' L') E s L := by
  have ft := F.called_list
  have hct := F.typeCall_list_1 u
  have h1 := ft.notType
  have h2 := ft.canCreate
  have hm := F.mro_list
  have hmade := ft.made
  have hsub := sub_list_self
  refine WpL.call (.of_tree ?_)
  show WpL _ _ (callAny (.type "list") _) _ _ s L
  refine WpL.pure ⟨Code.quiet_builtin _ (by decide +kernel), CodeL.builtin_at (Around.under_plain (weight_type_call_type "list" [u] []) rfl) F.entry_type_call ?_⟩
  unfold Builtin.«type.__call__»
  simp only [hct, h1, h2, hm, hmade, pure_bind, List.isEmpty_cons, Bool.false_eq_true, if_false]
  refine WpL.bind (WpL.holding (WpL.of (wpAny_call (codeAny_mono (code_list_new (Q₁ := fun v s₁ => v = .ref s.heap.objs.size ∧ s₁ = { s with heap := s.heap.push { cls := .type "list", data := .seq #[] } }) (E := fun _ _ => False) u ⟨rfl, rfl⟩) fun r s₁ hr => ?_))))
  cases r with
  | error e => exact False.elim hr
  | ok fl =>
    cases fl with
    | next => exact False.elim hr
    | brk => exact False.elim hr
    | cont => exact False.elim hr
    | ret v =>
      obtain ⟨rfl, rfl⟩ := hr
      have hT : Shared.TypeIs { s with heap := s.heap.push { cls := .type "list", data := .seq #[] } } (.ref s.heap.objs.size) "list" := ⟨_, Heap.get?_push_size _ rfl, rfl⟩
      refine WpL.bind (.of (wpAny_isInstance hT hsub ?_))
      simp only [Bool.not_true, Bool.false_eq_true, if_false]
      refine WpL.bind (WpL.holding ?_)
      have hli := ft.init.lookup
      have hbi := ft.init.bind (.ref s.heap.objs.size)
      simp only [callSpecial?]
      refine .bind (.of (wpAny_specialOf hT hli ?_))
      simp only [hbi]
      refine WpL.holding (WpL.bind (WpL.pure (WpL.bind (WpL.call (CodeL.call_builtin ft.init.plain F.entry_list_init (ft.init.check _ _ _ _ _ _ _ _ hT (F.args_list_init_2 _ _) (h.mono (fun fin s' L' h' => ?_) fun e s' L' h' => h')))))))
      cases fin with
      | done f =>
        obtain ⟨rfl, hq⟩ := h'
        exact WpL.pure (WpL.pure hq)
      | again c' =>
        refine ⟨h'.1, h'.2.mono fun r s2 L2 h2 => ?_⟩
        cases r with
        | error e => exact h2
        | ok fl =>
          cases fl with
          | ret v =>
            obtain ⟨rfl, hq⟩ := h2
            exact WpL.pure (WpL.pure hq)
          | next => exact False.elim h2
          | brk => exact False.elim h2
          | cont => exact False.elim h2
end

section
variable {prog : Program} {w : World} {A : Around} {s : Shared} {L : Lg}
/-- list.__init__ of a generator: to the loop -/
theorem list_init_gen {S a g : Nat} {c0 : Nat} {Q : PySem.Fin → Shared → Prop} {E : Value → Shared → Prop} (hg : s.heap.IsGen a g) (hS : s.heap.get? S = some (lstObj #[] c0)) (hne : S ≠ a)
    (h : ∀ h' c, h'.get? S = some (lstObj #[] c) → (∀ b, b ≠ S → h'.get? b = s.heap.get? b) → Q (.again (.builtin "list.extend.loop" ⟨[.ref S, .ref a, .none], []⟩)) { s with heap := h' }) :
    wpAny (model prog w) A (Builtin.«list.__init__» ⟨[.ref S, .ref a], []⟩) Q E s := by
  have e1 : Builtin.List.listSameRef (.ref S) (.ref a) = false := by simp [Builtin.List.listSameRef, hne]
  have e2 : (Value.type "generator" == Value.type "list") = false := by decide
  have e3 : (Value.type "generator" == Value.type "tuple") = false := by decide
  have other : ∀ (h : Heap) (f : Obj → Obj) (b : Addr), b ≠ S → (h.update S f).get? b = h.get? b := fun h f b hb => Heap.get?_update_other _ _ (Ne.symm hb)
  have gen : ∀ {h : Heap}, (∀ b, b ≠ S → h.get? b = s.heap.get? b) → h.IsGen a g := fun {h} k => by
    obtain ⟨o, nm, qn, ho, r⟩ := hg
    exact ⟨o, nm, qn, (k a (Ne.symm hne)).trans ho, r⟩
  have start : wpAny (model prog w) A (Builtin.List.listItems (.ref S) >>= fun old => Builtin.List.listUpdate (.ref S) (fun _ => #[]) >>= fun _ => letGo old.toList.reverse >>= fun _ => Builtin.List.listExtendWith (.ref S) (.ref a) .none) Q E s := by
    unfold Builtin.List.listItems; refine wpAny_bind (wpAny_bind (wpAny_seqItems hS rfl (wpAny_pure ?_)))
    show wpAny _ A (updateSeq S (fun _ => #[]) >>= _) Q E s
    refine wpAny_bind (wpAny_updateSeq hS rfl ?_)
    have u1 := Heap.get?_update_self (Obj.mapSeq (fun _ => (#[] : Array Value))) hS rfl
    have k1 : ∀ b, b ≠ S → (s.heap.update S (Obj.mapSeq (fun _ => (#[] : Array Value)))).get? b = s.heap.get? b := other _ _
    refine wpAny_bind (wpAny_letGo ?_); unfold Builtin.List.listExtendWith
    refine wpAny_bind (wpAny_typeOf (Heap.IsGen.typeIs (s := { s with heap := _ }) (gen k1)) ?_); simp only [e1, e2, e3, Bool.or_false, Bool.false_eq_true, if_false]
    refine wpAny_bind (wpAny_pyIter_gen (s := { s with heap := _ }) (gen k1) ?_); refine wpAny_bind (wpAny_holding ?_)
    unfold Builtin.List.listLengthHint; refine wpAny_bind (wpAny_specialOf (Heap.IsGen.typeIs (s := { s with heap := _ }) (gen k1)) F.gen_no_len ?_)
    show wpAny _ A (specialOf (Value.ref a) (Str.ofString "__length_hint__") >>= _) _ _ _; refine wpAny_bind (wpAny_specialOf (Heap.IsGen.typeIs (s := { s with heap := _ }) (gen k1)) F.gen_no_hint ?_)
    refine wpAny_pure ?_; show wpAny _ A (rule "list.extend.makes-room" >>= fun _ => Builtin.List.listTouch (.ref S) >>= fun _ => again (.builtin "list.extend.loop" ⟨[.ref S, .ref a, .none], []⟩)) Q E _
    refine wpAny_bind (wpAny_rule ?_); refine wpAny_bind ?_
    show wpAny _ A (updateSeq S (·.push .none) >>= fun _ => updateSeq S (·.pop)) _ _ _; refine wpAny_bind (wpAny_updateSeq u1 rfl ?_)
    have u2 := Heap.get?_update_self (Obj.mapSeq (·.push Value.none)) u1 rfl
    refine wpAny_updateSeq (hz := by seq_fits) u2 rfl ?_
    have u3 := Heap.get?_update_self (Obj.mapSeq (·.pop)) u2 rfl
    exact wpAny_pure (h _ _ u3 fun b hb => (other _ _ b hb).trans ((other _ _ b hb).trans (k1 b hb)))
  exact start

/-- the next item of a generator, for a loop -/
theorem WpL.pyNextGen {a : Addr} {g : Nat} {gs : GenState} {c : Code} {t : Sem PySem.Fin} {fs : List Frame} {RQ : Result → Shared → Lg → Prop} {YQ : Value → Code → (Resume → Sem PySem.Fin) → List Frame → Shared → Lg → Prop}
    {Q : Option Value → Shared → Lg → Prop} {E : Value → Shared → Lg → Prop} (hh : A.handled = none) (hl : s.heap.NoLimit) (hroom : A.depth < recursionLimit) (hg : IsGenZ s.heap a g) (hgs : s.gens[g]? = some gs) (hst : Stands (model prog w) gs c t fs)
    (h : SgL (model prog w) A.in1 c t fs (s.setGen g .running) L RQ YQ)
    (hR : ∀ r s' L', RQ r s' L' → (r = .ok (.ret .none) ∨ r = .ok .next) ∧ ∀ h', (∀ b o, s'.heap.get? b = some o → h'.get? b = some o) → Q none { s'.setGen g .finished with heap := h' } L')
    (hY : ∀ v c' kk fs' s' L' lv p', YQ v c' kk fs' s' L' → Q (some v) (s'.setGen g (.suspended kk lv c' p' fs' false)) L') : WpL (model prog w) A (pyNext (.ref a)) Q E s L := by
  unfold pyNext
  refine WpL.bind (WpL.attempt (WpL.nextGen hh hl hroom hg hgs hst h (fun r s' L' hr => ?_) fun v c' kk fs' s' L' lv p' hy => ?_))
  · obtain ⟨q1, q2⟩ := hR r s' L' hr
    refine ⟨q1, fun e h' hS hk => ?_⟩
    obtain ⟨ae, oe, vs, rfl, hoa, hcls, hdat, h5⟩ := hS
    refine WpL.bind (.of (wpAny_isInstance (T := "StopIteration") (b := true) ⟨oe, hoa, hcls⟩ isSubtype_stop ?_))
    exact WpL.pure (q2 h' hk)
  · exact WpL.pure (hY _ _ _ _ _ _ _ _ hy)
end

theorem dpAll_app {K : PySem.W.Frag} {H : Hp} : ∀ {xs ys : List V} {ds es : List PyData}, DpAll K H xs ds → DpAll K H ys es → DpAll K H (xs ++ ys) (ds ++ es)
  | _, _, _, _, .nil, h => h
  | _, _, _, _, .cons a b, h => .cons a (dpAll_app b h)
/-- a list as it stands -/
abbrev EXO (S : Addr) (o : Obj) : HO := .ext fun h => h.get? S = some o
theorem ok_exo {P : Program} {w : World} {H : Hp} {h : Heap} {S : Addr} {o : Obj} (d : h.get? S = some o) : ObjOk P w H h S (EXO S o) := ⟨d, ⟨o, d⟩, fun h1 h2 q k => k o q⟩

section
variable {X : Cx} {pins : List (Addr × Obj)} {σ : L2.St} {Hc Hb : Hp} {sc : Shared} {A : Around} {a S : Addr} {g : Nat} {D : Addr → Prop} {R : Result → Shared → Lg → Prop}
theorem drainL (Isc : Inv X pins σ Hc sc) (hSa : S ≠ a) (hh : A.handled = none) (hd : A.depth < recursionLimit) (hDa : D a) (hDS : D S) (hb1 : ∀ b, Hb b ≠ none → D b) :
    ∀ (rows ds : List PyData) (xs : List V) (acc : Array Value) (c : Nat) (H : Hp) (s : Shared) (L : Lg) (gs : GenState) (ci : Code) (ti : Sem PySem.Fin) (fsi : List Frame),
      Inv X pins σ H s → LH H L → EnvH Hb H → (∀ b, D b → H b ≠ none) → H a = some (GXZ a g) → H S = some (EXO S (lstObj acc c)) → s.gens[g]? = some gs → Stands (model X.prog X.w) gs ci ti fsi →
      Goes ⟨X.prog, X.w, X.K, X.stack, Hc, sc, [a, S], g, A.in1.in1, D⟩ rows H ci ti fsi (s.setGen g .running) L → Vals xs acc.toList → DpAll X.K H xs ds → acc.size + rows.length < sizeLine →
      (∀ s' L' H' xs' acc' c', Inv X pins σ H' s' → LH H' L' → EnvH Hb H' → H' S = some (EXO S (lstObj acc' c')) → Vals xs' acc'.toList → DpAll X.K H' xs' (ds ++ rows) → acc'.size < sizeLine → R (.ok (.ret .none)) s' L') →
      CodeL (model X.prog X.w) A (.builtin "list.extend.loop" ⟨[.ref S, .ref a, .none], []⟩) R s L := by
  intro rows
  have back : ∀ {H H' : Hp} {s s' : Shared} {L L' : Lg} {gst : GenState}, EnvH Hb H → (∀ b, D b → H b ≠ none) → Gv ⟨X.prog, X.w, X.K, X.stack, Hc, sc, [a, S], g, A.in1.in1, D⟩ H' s' → ExD D H H' → gst.bare = true →
      Inv X pins σ H' (s'.setGen g gst) ∧ EnvH Hb H' ∧ ∀ b, D b → H' b ≠ none := by
    intro H H' s s' L L' gst eb dm gv e hb
    have I' : Inv X pins σ H' (s'.setGen g gst) := Isc.call' (ch := []) gv.os gv.un gv.hok (allBare_setGen gv.bare hb) fun b hb => by cases hb
    refine ⟨I', fun b o q n => e.on b o (hb1 b (by rw [q]; nofun)) (eb b o q n), fun b d n => ?_⟩
    cases q : H b with
    | none => exact dm b d q
    | some o => rw [e.on b o d q] at n; cases n
  induction rows with
  | nil =>
    intro ds xs acc c H s L gs ci ti fsi I lg eb dm ha hS hgs hst hgo hv hds hz fin
    refine CodeL.builtin F.plain_extend_loop F.entry_extend_loop ?_
    show WpL _ A.in1 (pyNext (.ref a) >>= _) _ _ s L
    refine WpL.bind (WpL.pyNextGen (A := A.in1) hh I.nolimit hd (I.hok a _ ha).1 hgs hst hgo (fun r s' L' hr => ?_) fun v c' kk fs' s' L' lv p' hy => hy.elim)
    obtain ⟨_, hr, H', gv, e, lg'⟩ := hr
    refine ⟨hr, fun h' hk => WpL.pure ?_⟩
    obtain ⟨I', eb', dm'⟩ := back (s := s) (L := L) (L' := L') (gst := .finished) eb dm gv e rfl
    refine fin _ L' H' xs acc c (I'.kept (t' := _) hk) lg' eb' (e.on S _ hDS hS) hv ?_ (by simpa using hz)
    rw [List.append_nil]
    exact dpAll_env e.env hds
  | cons r rows ih =>
    intro ds xs acc c H s L gs ci ti fsi I lg eb dm ha hS hgs hst hgo hv hds hz fin
    refine CodeL.builtin F.plain_extend_loop F.entry_extend_loop ?_
    show WpL _ A.in1 (pyNext (.ref a) >>= _) _ _ s L
    refine WpL.bind (WpL.pyNextGen (A := A.in1) hh I.nolimit hd (I.hok a _ ha).1 hgs hst hgo (fun r s' L' hr => by cases hr.1) fun v c' kk fs' s' L' lv p' hy => ?_)
    obtain ⟨H', xv, gv, e, lg', rv, d, cont⟩ := hy
    obtain ⟨I', eb', dm'⟩ := back (s := s) (L := L) (L' := L') (gst := .suspended kk lv c' p' fs' false) eb dm gv e rfl
    have ha' : H' a = some (GXZ a g) := e.on a _ hDa ha
    have hS' : H' S = some (EXO S (lstObj acc c)) := e.on S _ hDS hS
    have oS : s'.heap.get? S = some (lstObj acc c) := (I'.hok S _ hS').1
    show WpL _ A.in1 (updateSeq S (·.push v) >>= _) _ _ _ _
    have hlt : acc.size < sizeLine := by have : (r :: rows).length = rows.length + 1 := rfl; omega
    refine WpL.bind (.of (wpAny_updateSeq (s := s'.setGen g (.suspended kk lv c' p' fs' false)) oS rfl (WpL.pure ⟨plainId_quiet F.plain_extend_loop _, ?_⟩) (Nat.le_of_lt hlt) (by show (acc.push v).size ≤ sizeLine + 1; rw [Array.size_push]; omega)))
    obtain ⟨c2, n1⟩ : ∃ c2, (s'.heap.update S (Obj.mapSeq (·.push v))).get? S = some (lstObj (acc.push v) c2) := ⟨_, Heap.get?_update_self _ oS rfl⟩
    have k1 : ∀ b, b ≠ S → (s'.heap.update S (Obj.mapSeq (·.push v))).get? b = s'.heap.get? b := fun b hb => Heap.get?_update_other _ _ (Ne.symm hb)
    have I2 := inv_form (a := S) (h' := s'.heap.update S (Obj.mapSeq (·.push v))) I' hS' k1 (ok_exo (H := upd H' S (EXO S (lstObj (acc.push v) c2))) n1)
    have lg2 : LH (upd H' S (EXO S (lstObj (acc.push v) c2))) L' := fun b hb => by
      obtain ⟨g', φ, q, r'⟩ := lg' b hb
      have z : b ≠ S := fun z => by
        rw [z, hS'] at q
        have e1 := HO.ext.inj (Option.some.inj q)
        have q2 := r' s'.heap (by rw [← e1]; exact oS)
        obtain ⟨o, nm, qn, o1, o2, _⟩ := q2
        rw [z, oS] at o1
        cases o1
        exact absurd (show Value.type "list" = Value.type "generator" from o2) (by decide)
      exact ⟨g', φ, (upd_ne z).trans q, r'⟩
    have h2a : upd H' S (EXO S (lstObj (acc.push v) c2)) a = some (GXZ a g) := (upd_ne (Ne.symm hSa)).trans ha'
    have gl : g < s'.gens.size := gv.lt
    refine ih (ds ++ [r]) (xs ++ [xv]) (acc.push v) c2 (upd H' S (EXO S (lstObj (acc.push v) c2))) { s'.setGen g (.suspended kk lv c' p' fs' false) with heap := s'.heap.update S (Obj.mapSeq (·.push v)) } L' (.suspended kk lv c' p' fs' false) c' (kk (.send .none)) fs' I2 lg2 (eb'.trans (envH_form hS')) (fun b hb n => ?_) h2a upd_same (setGen_at gl) (.asleep kk lv c' p' fs' false) (cont _ L' _ ⟨?_, ?_, ?_, ?_, ?_, ?_, ?_, ?_, ?_, ?_, ?_⟩) ?_ ?_ ?_ ?_
    · by_cases z : b = S
      · rw [z, upd_same] at n; cases n
      · rw [upd_ne z] at n; exact dm' b hb n
    · rfl
    · exact allBare_setGen (s := { s'.setGen g (.suspended kk lv c' p' fs' false) with heap := s'.heap.update S (Obj.mapSeq (·.push v)) }) I'.bare rfl
    · exact I2.hok
    · intro b o hb q
      exact (k1 b fun z => hb (by rw [z]; simp)).trans q
    · intro b o q
      by_cases z : b = S
      · rw [z]; exact ⟨_, n1⟩
      · exact ⟨o, (k1 b z).trans q⟩
    · intro b o q n
      have z : b ≠ S := fun z => by rw [z, hS'] at n; cases n
      exact (upd_ne z).trans n
    · intro b o q hb
      exact (upd_ne fun z => hb (by rw [z]; simp)).trans q
    · intro b hb
      by_cases z : b = S
      · rw [z]; exact ⟨⟨_, hS'⟩, _, upd_same⟩
      · have z2 : b = a := by
          rcases List.mem_cons.mp hb with y | y
          · exact y
          · exact absurd (List.mem_singleton.mp y) z
        rw [z2]; exact ⟨⟨_, ha'⟩, _, h2a⟩
    · intro j hj hl
      exact (setGen_ne (Nat.ne_of_lt hj)).trans (setGen_ne (Nat.ne_of_lt hj))
    · exact Nat.le_of_eq ((setGen_size s' g (.suspended kk lv c' p' fs' false)).symm.trans (setGen_size { s'.setGen g (.suspended kk lv c' p' fs' false) with heap := s'.heap.update S (Obj.mapSeq (·.push v)) } g .running).symm)
    · exact lg2
    · rw [Array.toList_push]; exact hv.append (.cons rv .nil)
    · exact dpAll_app (dpAll_env (e.env.trans (envH_form hS')) hds) (.cons (dp_env (envH_form hS') d) .nil)
    · rw [Array.size_push]
      have : (r :: rows).length = rows.length + 1 := rfl
      omega
    · intro s2 L2 H2 xs2 acc2 c3 J1 J2 J3 J4 J5 J6 J7
      refine fin s2 L2 H2 xs2 acc2 c3 J1 J2 J3 J4 J5 ?_ J7
      have e1 : ds ++ [r] ++ rows = ds ++ r :: rows := by rw [List.append_assoc]; rfl
      rw [← e1]; exact J6
end
end LL
end

section
set_option Elab.async false
set_option linter.all false
set_option maxRecDepth 100000
set_option maxHeartbeats 1000000
/-! L11: expressions and statements of plain defs whose runs may be loud. -/
namespace LL
open PySem PySem.Spec PyProof.Rows L2 GenW Evl

/-- what is known to change stays so known -/
def ExX (H H' : Hp) : Prop := ∀ b φ, H b = some (.ext φ) → H' b = some (.ext φ)
theorem ExX.refl (H : Hp) : ExX H H := fun _ _ h => h
theorem ExX.trans {H H1 H2 : Hp} (a : ExX H H1) (b : ExX H1 H2) : ExX H H2 := fun x φ h => b x φ (a x φ h)
theorem ExX.of {H H' : Hp} (e : Ex H H') : ExX H H' := fun b φ h => e b _ h
theorem LH.exX {H H' : Hp} {L : Lg} (h : LH H L) (e : ExX H H') : LH H' L := fun a ha => let ⟨g, φ, q, r⟩ := h a ha; ⟨g, φ, e _ _ q, r⟩

section
variable {M : Model} {A : Around} {s : Shared} {L : Lg} {E : Value → Shared → Lg → Prop}
theorem WpL.keep {vs : List Value} {α : Type} {m : Sem α} {Q : α → Shared → Lg → Prop} (h : WpL M A m Q E s L) : WpL M A (m.keep vs) Q E s L :=
  .wrapped (Sem.keep_eq_wrap _ m) (h.mono (fun _ _ _ z => .pure z) fun _ _ _ z => .raise z)
theorem WpL.spliced_nil {Q : List Value → Shared → Lg → Prop} (h : Q [] s L) : WpL M A (spliced []) Q E s L := by
  rw [spliced]; exact .pure h
theorem WpL.spliced_cons {x : Sem Value} {rest : List (Bool × Sem Value)} {Q : List Value → Shared → Lg → Prop} (h : WpL M A x (fun v s1 L1 => WpL M A (spliced rest) (fun vs s2 L2 => Q (v :: vs) s2 L2) E s1 L1) E s L) :
    WpL M A (spliced ((false, x) :: rest)) Q E s L := by
  rw [spliced]
  refine .bind (h.mono (fun v s1 L1 h1 => ?_) fun _ _ _ z => z)
  simp only [Bool.false_eq_true, if_false]
  exact .bind (.pure (.bind (.holding (h1.mono (fun vs s2 L2 h2 => .pure h2) fun _ _ _ z => z))))
theorem WpL.evalArgs {f : Value} {x : Sem Value} {rest : List (Bool × Sem Value)} {Q : Args → Shared → Lg → Prop} (h : WpL M A (spliced ((false, x) :: rest)) (fun vs s' L' => Q ⟨vs, []⟩ s' L') E s L) :
    WpL M A (evalArgs f true ((false, x) :: rest) []) Q E s L := by
  unfold PySem.evalArgs
  show WpL M A (spliced ((false, x) :: rest) >>= _) Q E s L
  refine .bind (h.mono (fun vs s' L' h' => ?_) fun _ _ _ z => z)
  exact .holding (.bind (.pure (.bind (.pure (.pure h')))))
/-- a call with plain arguments: of a def of the program -/
theorem WpL.callDef {K : PySem.W.Frag} {f : Value} {pos : Pos} {x : Sem Value} {rest : List (Bool × Sem Value)} {Q : Value → Shared → Lg → Prop} (hk : PySem.W.keepIn K f = true) (hpl : rest.any (·.1) = false)
    (h : WpL M A (spliced ((false, x) :: rest)) (fun vs s1 L1 => K.In s1.heap ∧ WpL M A (PySem.call f vs) Q E s1 L1) E s L) : WpL M A (callWith pos f [] ((false, x) :: rest) []) Q E s L := by
  have hplain : (((false, x) :: rest).any (·.1) || ([] : List (Option Str × Sem Value)).any (·.1.isNone)) = false := by
    show ((false || rest.any (·.1)) || false) = false
    rw [hpl]; rfl
  unfold callWith
  refine .bind (.holding (WpL.evalArgs (h.mono (fun vs s1 L1 h1 => .bind (.of (wpAny_standAt ?_))) fun _ _ _ z => z)))
  obtain ⟨k, hk', Lk⟩ := PySem.W.keeps_K (M := M) hk _ h1.1
  simp only [hplain]
  refine .bind (.of (Lk.here ?_))
  have tail : ∀ {t : Sem Value}, WpL M A t Q E s1 L1 → WpL M A (t >>= fun r => PySem.holding [r] PySem.point >>= fun _ => (Pure.pure r : Sem Value)) Q E s1 L1 :=
    fun ht => .bind (ht.mono (fun r s2 L2 hr => .bind (.of (wpAny_holding (wpAny_point (WpL.pure hr))))) fun _ _ _ z => z)
  have marked (mk : Value) : WpL M A (callMarked mk f ([] ++ vs) []) Q E s1 L1 := by unfold callMarked; exact .keep h1.2
  rcases hk' with rfl | rfl | rfl <;> dsimp only <;> first | exact tail h1.2 | (split <;> first | exact tail h1.2 | exact tail (marked _))
/-- .. of a builtin type -/
theorem WpL.callTy {T : String} {pos : Pos} {x : Sem Value} {rest : List (Bool × Sem Value)} {Q : Value → Shared → Lg → Prop} (hpl : rest.any (·.1) = false)
    (h : WpL M A (spliced ((false, x) :: rest)) (fun vs s1 L1 => WpL M A (PySem.call (.type T) vs) Q E s1 L1) E s L) : WpL M A (callWith pos (.type T) [] ((false, x) :: rest) []) Q E s L := by
  have hplain : (((false, x) :: rest).any (·.1) || ([] : List (Option Str × Sem Value)).any (·.1.isNone)) = false := by
    show ((false || rest.any (·.1)) || false) = false
    rw [hpl]; rfl
  unfold callWith
  refine .bind (.holding (WpL.evalArgs (h.mono (fun vs s1 L1 h1 => .bind (.of (wpAny_standAt ?_))) fun _ _ _ z => z)))
  simp only [hplain]
  refine .bind (.pure ?_)
  exact .bind (h1.mono (fun r s2 L2 hr => .bind (.of (wpAny_holding (wpAny_point (WpL.pure hr))))) fun _ _ _ z => z)
end

/-- an exception that leaves a loud def -/
def CXL (P : Program) (w : World) (outer : List Env) (H : Hp) (s : Shared) (E : XK) (e : Value) (s' : Shared) (L' : Lg) : Prop := CX P w outer H s (fun cls d H' => E cls d H' ∧ LH H' L') e s'
def CEL (P : Program) (w : World) (outer : List Env) (H : Hp) (s : Shared) (Q : VK) (u : Value) (s' : Shared) (L' : Lg) : Prop := CE outer P w H s (fun v H' => Q v H' ∧ LH H' L') u s'
def CRL (P : Program) (w : World) (outer : List Env) (H : Hp) (s : Shared) (Q : VK) (E : XK) (r : Result) (s' : Shared) (L' : Lg) : Prop := match r with
  | .ok (.ret u) => CEL P w outer H s Q u s' L'
  | .ok _ => False
  | .error e => CXL P w outer H s E e s' L'
/-- a loud def's promise -/
structure FnL (P : Program) (w : World) (K : PySem.W.Frag) (mg : Str → Option Value) (base : Heap) (k : Nat) (f : Addr) (fd : FuncData) (ps : List Str) (sp : Sp) : Prop where
  len : ∀ vs H Q E, sp vs H Q E → vs.length = ps.length
  run : ∀ (A : Around) (outer : List Env) (s : Shared) (H : Hp) (L : Lg) (args : Args) (us : List Value) (vs : List V) (Q : VK) (E : XK), Room k A → Env0 P w K mg base A outer s H → LH H L → BindsTo s fd args (ps.zip us) → Vals vs us → sp vs H Q E →
    CodeL (model P w) A (.call (.ref f) args) (CRL P w outer H s Q E) s L

/-! ### expressions -/
abbrev XL := Lg → Value → Shared → Prop
def EPL (X : Cx) (pins : List (Addr × Obj)) (σ : L2.St) (Q : VK) (u : Value) (s' : Shared) (L' : Lg) : Prop := ∃ v H', Inv X pins σ H' s' ∧ LH H' L' ∧ RelV v u ∧ Q v H'
structure PEL (X : Cx) (xl : XL) (e : Expr) (t : TE) : Prop where
  run : ∀ (pins : List (Addr × Obj)) (s : Shared) (σ : L2.St) (H : Hp) (L : Lg) (Q : VK), Inv X pins σ H s → LH H L → t σ H Q → WpL (model X.prog X.w) X.A (eval e X.env) (EPL X pins σ Q) (fun e s' L' => xl L' e s') s L
structure PTL (X : Cx) (xl : XL) (e : Expr) (t : TT) : Prop where
  run : ∀ (pins : List (Addr × Obj)) (s : Shared) (σ : L2.St) (H : Hp) (L : Lg) (Q : Bool → Hp → Prop), Inv X pins σ H s → LH H L → t σ H Q →
    WpL (model X.prog X.w) X.A (isTrue e X.env (eval e X.env)) (fun b s' L' => ∃ H', Inv X pins σ H' s' ∧ LH H' L' ∧ Q b H') (fun e s' L' => xl L' e s') s L
structure PAL (X : Cx) (xl : XL) (es : List Expr) (t : TA) : Prop where
  run : ∀ (pos : Pos) (pins : List (Addr × Obj)) (s : Shared) (σ : L2.St) (H : Hp) (L : Lg) (Q : List V → Hp → Prop), Inv X pins σ H s → LH H L → t σ H Q →
    WpL (model X.prog X.w) X.A (spliced (backTo pos (starEach es X.env))) (fun us s' L' => ∃ vs H', Inv X pins σ H' s' ∧ LH H' L' ∧ Vals vs us ∧ Q vs H') (fun e s' L' => xl L' e s') s L
def tQE (t : TE) : TE := fun σ H Q => t σ H fun v H' => ExX H H' ∧ Q v H'
def tQT (t : TT) : TT := fun σ H Q => t σ H fun b H' => ExX H H' ∧ Q b H'
def tQA (t : TA) : TA := fun σ H Q => t σ H fun vs H' => ExX H H' ∧ Q vs H'
section
variable {X : Cx} {xl : XL} {e : Expr} {es : List Expr} {t te : TE} {ta tr : TA} {p pos pos' : Pos} {x : Str} {f : Addr} {fd : FuncData} {ps : List Str} {k : Nat} {sp : Sp}
theorem pel_q (h : ∀ L, PE (X.wish (xl L)) e t) : PEL X xl e (tQE t) := ⟨fun pins s σ H L Q I lg ht =>
  .of (wpAny_mono ((h L).run pins s σ H _ (I.wish _) ht) (fun u s' ⟨v, H', I', r, e, q⟩ => ⟨v, H', I'.unwish, lg.exX e, r, q⟩) fun _ _ z => z)⟩
theorem ptl_q {t : TT} (h : ∀ L, PT (X.wish (xl L)) e t) : PTL X xl e (tQT t) := ⟨fun pins s σ H L Q I lg ht =>
  .of (wpAny_mono ((h L).run pins s σ H _ (I.wish _) ht) (fun u s' ⟨H', I', e, q⟩ => ⟨H', I'.unwish, lg.exX e, q⟩) fun _ _ z => z)⟩
theorem pal_q (h : ∀ L, PA (X.wish (xl L)) es ta) : PAL X xl es (tQA ta) := ⟨fun pos pins s σ H L Q I lg ht =>
  .of (wpAny_mono ((h L).run pos pins s σ H _ (I.wish _) ht) (fun u s' ⟨vs, H', I', r, e, q⟩ => ⟨vs, H', I'.unwish, lg.exX e, r, q⟩) fun _ _ z => z)⟩
theorem pal_cons (ha : PEL X xl e te) (hr : PAL X xl es tr) (hs : starEach (e :: es) X.env = (false, eval e X.env) :: starEach es X.env := by rfl) : PAL X xl (e :: es) (tCons te tr) := by
  refine ⟨fun pos pins s σ H L Q I lg ht => ?_⟩
  rw [hs]
  show WpL _ _ (spliced ((false, eval e X.env) :: backTo pos (starEach es X.env))) _ _ s L
  refine .spliced_cons ((ha.run pins s σ H L _ I lg ht).mono (fun u s1 L1 ⟨v, H1, I1, l1, r1, q1⟩ => ?_) fun _ _ _ z => z)
  exact (hr.run pos pins s1 σ H1 L1 _ I1 l1 q1).mono (fun us s2 L2 ⟨vs, H2, I2, l2, r2, q2⟩ => ⟨v :: vs, H2, I2, l2, .cons r1 r2, q2⟩) fun _ _ _ z => z
/-- a def's name, loud arguments, then the call -/
theorem calls_L {Q : Value → Shared → Lg → Prop} {pins : List (Addr × Obj)} {s : Shared} {σ : L2.St} {H : Hp} {L : Lg} {R : List V → Hp → Prop} (hg : Gl X x) (hm : X.mg x = some (.ref f)) (hk : PySem.W.keepIn X.K (.ref f) = true) (ha : PAL X xl (e :: es) ta)
    (I : Inv X pins σ H s) (lg : LH H L) (ht : ta σ H R) (hq : ∀ us s1 L1 vs H1, Inv X pins σ H1 s1 → LH H1 L1 → Vals vs us → R vs H1 → WpL (model X.prog X.w) X.A (PySem.call (.ref f) us) Q (fun e s' L' => xl L' e s') s1 L1)
    (hdb : (x == ("__debug__" : Str)) = false) (he : starEach (e :: es) X.env = (false, eval e X.env) :: starEach es X.env) (hpl : (backTo pos' (starEach es X.env)).any (·.1) = false) :
    WpL (model X.prog X.w) X.A (eval (.Call (.Name x p) (e :: es) [] pos') X.env) Q (fun e s' L' => xl L' e s') s L := by
  rw [arm_eval_Call_Name']
  refine .bind (.of (ld_glob I hg hm ?_ hdb))
  have h1 := ha.run pos' pins s σ H L _ I lg ht
  rw [he] at h1 ⊢
  exact WpL.callDef (K := X.K) hk hpl (h1.mono (fun us s1 L1 ⟨vs, H1, I1, l1, r1, q1⟩ => ⟨I1.kIn, hq us s1 L1 vs H1 I1 l1 r1 q1⟩) fun _ _ _ z => z)
/-- what a loud callee may let out is taken -/
def PassesL (X : Cx) (xl : XL) (E : XK) : Prop := ∀ (pins : List (Addr × Obj)) (σ : L2.St) (H : Hp) (s : Shared) (e : Value) (s' : Shared) (L' : Lg), Inv X pins σ H s → CXL X.prog X.w X.stack H s E e s' L' → xl L' e s'
/-- a call of a loud def -/
theorem pel_call {E : XK} (F : FnL X.prog X.w X.K X.mg X.base k f fd ps sp) (hr : Room k X.A) (hx : PassesL X xl E) (hg : Gl X x) (hm : X.mg x = some (.ref f)) (hk : PySem.W.keepIn X.K (.ref f) = true) {dvs : List V} {ds : List Value} (hb : Binds X.K fd ps ds) (hd : Vals dvs ds) (ha : PAL X xl (e :: es) ta)
    (hdb : (x == ("__debug__" : Str)) = false := by decide) (he : starEach (e :: es) X.env = (false, eval e X.env) :: starEach es X.env := by rfl) (hpl : (backTo pos' (starEach es X.env)).any (·.1) = false := by rfl) :
    PEL X xl (.Call (.Name x p) (e :: es) [] pos') (fun σ H Q => ta σ H fun vs H1 => sp (vs ++ dvs) H1 Q E) := by
  refine ⟨fun pins s σ H L Q I lg ht => ?_⟩
  refine calls_L hg hm hk ha I lg ht (fun us s1 L1 vs H1 I1 l1 r1 q1 => ?_) hdb he hpl
  have hl : (us ++ ds).length = ps.length := by rw [← (r1.append hd).length]; exact F.len _ _ _ _ q1
  refine WpL.call ((F.run X.A X.stack s1 H1 L1 ⟨us, []⟩ (us ++ ds) (vs ++ dvs) Q E hr I1.env0 l1 (hb s1 us I1.kIn hl) (r1.append hd) q1).mono fun r s' L' hr' => ?_)
  cases r with
  | error e => exact hx pins σ H1 s1 e s' L' I1 hr'
  | ok fl =>
    cases fl with
    | next => exact False.elim hr'
    | brk => exact False.elim hr'
    | cont => exact False.elim hr'
    | ret u =>
      obtain ⟨v, H', I', r, q, l⟩ := I1.after hr'
      exact ⟨v, H', I', l, r, q⟩
/-- a call of a quiet def with loud arguments -/
theorem pel_callQ {CX0' : CXT} {E : XK} (F : FnOk X.prog X.w X.K X.mg X.base CX0' k f fd ps sp) (hr : Room k X.A) (hx : ∀ L, Passes CX0' (X.wish (xl L)) E) (hg : Gl X x) (hm : X.mg x = some (.ref f)) (hk : PySem.W.keepIn X.K (.ref f) = true) {dvs : List V} {ds : List Value} (hb : Binds X.K fd ps ds) (hd : Vals dvs ds)
    (ha : PAL X xl (e :: es) ta) (hdb : (x == ("__debug__" : Str)) = false := by decide) (he : starEach (e :: es) X.env = (false, eval e X.env) :: starEach es X.env := by rfl) (hpl : (backTo pos' (starEach es X.env)).any (·.1) = false := by rfl) :
    PEL X xl (.Call (.Name x p) (e :: es) [] pos') (fun σ H Q => ta σ H fun vs H1 => sp (vs ++ dvs) H1 (fun v H' => ExX H1 H' ∧ Q v H') E) := by
  refine ⟨fun pins s σ H L Q I lg ht => ?_⟩
  refine calls_L hg hm hk ha I lg ht (fun us s1 L1 vs H1 I1 l1 r1 q1 => ?_) hdb he hpl
  refine .of (wpAny_mono (run_fn (X := X.wish (xl L1)) F hr hb hd (hx L1) (I1.wish _) r1 q1) (fun u s' hu => ?_) fun _ _ z => z)
  obtain ⟨v, H', I', r, e, q⟩ := hu
  exact ⟨v, H', I'.unwish, l1.exX e, r, q⟩
end
end LL
end

section
set_option Elab.async false
set_option linter.all false
set_option maxRecDepth 100000
set_option maxHeartbeats 1000000
/-! L12: list(f(..)) of a generator def; statements of loud defs. -/
namespace LL
open PySem PySem.Spec PyProof.Rows L2 GenW Evl

section
variable {X : Cx} {xl : XL} {k : Nat} {f : Addr} {fd : FuncData} {ps : List Str} {sp : SpGL} {x : Str} {p pos pos' : Pos} {e : Expr} {es : List Expr} {t : TA} {pins : List (Addr × Obj)} {σ : L2.St} {H : Hp} {s : Shared}
/-- f(..) of a generator def: what is made -/
theorem gen_callQ {Rr : List PyData → Hp → Prop} (F : GFnL X.prog X.w X.K X.mg X.base k f fd ps sp) (hr : Room k X.A) (hg : Gl X x) (hm : X.mg x = some (.ref f)) (hk : PySem.W.keepIn X.K (.ref f) = true) (hb : Binds X.K fd ps []) (ha : PA X (e :: es) t)
    (I : Inv X pins σ H s) (ht : t σ H fun vs H1 => ∃ rows, sp vs H1 rows ∧ Rr rows H1)
    (hdb : (x == ("__debug__" : Str)) = false := by decide) (he : starEach (e :: es) X.env = (false, eval e X.env) :: starEach es X.env := by rfl) (hpl : (backTo pos' (starEach es X.env)).any (·.1) = false := by rfl) :
    wpAny (model X.prog X.w) X.A (eval (.Call (.Name x p) (e :: es) [] pos') X.env) (fun v s1 => ∃ H1 sc rows, Inv X pins σ H1 sc ∧ Rr rows H1 ∧ GMadeL X.prog X.w X.K k X.stack H1 sc rows v s1) X.xe s := by
  refine wpAny_Call_Name_kw (ld_glob I hg hm ?_ hdb)
  refine PySem.W.callWith_K (h₀ := X.base) I.ok.mod.kin hk (thn (ha.run pos' pins s σ H _ I ht) fun us s1 ⟨vs, H1, I1, r, rows, q1, q2⟩ => ⟨I1.kIn, ?_⟩) he hpl
  have hl : (us ++ []).length = ps.length := by rw [List.append_nil, ← r.length]; exact F.len _ _ _ q1
  have hbb := hb s1 us I1.kIn hl
  rw [List.append_nil] at hbb
  refine wpAny_call (codeAny_mono (F.run X.A X.stack s1 H1 ⟨us, []⟩ us vs rows hr I1.env0 hbb r q1) fun r s' hq => ?_)
  cases r with
  | error e => exact False.elim hq
  | ok fl =>
    cases fl with
    | ret u => exact ⟨H1, s1, rows, I1, q2, hq⟩
    | next => exact False.elim hq
    | brk => exact False.elim hq
    | cont => exact False.elim hq

theorem lh_list {P : Program} {w : World} {L : Lg} {S : Addr} {acc : Array Value} {c : Nat} {o : HO} (lg : LH H L) (hok : HOk P w H s.heap) (hS : H S = some (EXO S (lstObj acc c))) : LH (upd H S o) L := fun b hb => by
  obtain ⟨g', φ, q, r'⟩ := lg b hb
  have z : b ≠ S := fun z => by
    rw [z, hS] at q
    have e1 := HO.ext.inj (Option.some.inj q)
    have oS : s.heap.get? S = some (lstObj acc c) := (hok S _ hS).1
    have q2 := r' s.heap (by rw [← e1]; exact oS)
    obtain ⟨o, nm, qn, o1, o2, _⟩ := q2
    rw [z, oS] at o1
    cases o1
    exact absurd (show Value.type "list" = Value.type "generator" from o2) (by decide)
  exact ⟨g', φ, (upd_ne z).trans q, r'⟩

def tListL (K : PySem.W.Frag) (sp : SpGL) (t : TA) : TE := fun σ H Q => t σ H fun vs H1 => ∃ rows, sp vs H1 rows ∧ ExX H H1 ∧ rows.length < 100000 ∧ ∀ S H2 xs, EnvH H1 H2 → H2 S = some (.lst xs) → DpAll K H2 xs rows → Q (.ref S) H2
/-- list(f(..)) -/
theorem pel_list {p2 pos2 : Pos} (F : GFnL X.prog X.w X.K X.mg X.base k f fd ps sp) (hr : Room (k + 3) X.A) (hg : Gl X x) (hm : X.mg x = some (.ref f)) (hk : PySem.W.keepIn X.K (.ref f) = true) (hb : Binds X.K fd ps []) (ha : ∀ L, PA (X.wish (xl L)) (e :: es) t)
    (hgl : Gl X "list") (hml : X.mg "list" = none) (hdb : (x == ("__debug__" : Str)) = false := by decide) (he : starEach (e :: es) X.env = (false, eval e X.env) :: starEach es X.env := by rfl) (hpl : (backTo pos' (starEach es X.env)).any (·.1) = false := by rfl)
    (he2 : starEach [.Call (.Name x p) (e :: es) [] pos'] X.env = [(false, eval (.Call (.Name x p) (e :: es) [] pos') X.env)] := by rfl) : PEL X xl (.Call (.Name "list" p2) [.Call (.Name x p) (e :: es) [] pos'] [] pos2) (tListL X.K sp t) := by
  refine ⟨fun pins s σ H L Q I lg ht => ?_⟩
  rw [arm_eval_Call_Name']
  refine .bind (.of (ld_blt I hgl hml PyProof.Rows.boot_list ?_))
  rw [he2]
  refine WpL.callTy rfl (.spliced_cons (.of (wpAny_mono (gen_callQ (X := X.wish (xl L)) (Rr := fun rows H1 => ExX H H1 ∧ rows.length < 100000 ∧ ∀ S H2 xs, EnvH H1 H2 → H2 S = some (.lst xs) → DpAll X.K H2 xs rows → Q (.ref S) H2) F ⟨hr.hd, by have := hr.dp; show X.A.depth + 3 * k + 5 < _; omega, by have := hr.un; show X.A.units + 16 * k + 200 < _; omega⟩ hg hm hk hb (ha L) (I.wish _) ht hdb he hpl) (fun v s1 hv => ?_) fun _ _ z => z)))
  obtain ⟨H1, sc, rows, I1w, ⟨hx, hlen, hQ⟩, a, g, c, rfl, h1, h2, h3, h4, h5, h6, h7, h8, h9, run⟩ := hv
  have Isc : Inv X pins σ H1 sc := I1w.unwish
  refine .spliced_nil ?_
  have lg1 : LH H1 L := lg.exX hx
  have hz : IsGenZ s1.heap a g := .of h3
  have hgl2 : g < s1.gens.size := (Array.getElem?_eq_some_iff.mp h4).1
  have hSa : s1.heap.objs.size ≠ a := Nat.ne_of_gt h2
  have Ia : Inv X pins σ (upd H1 a (GXZ a g)) s1 := Isc.call' (ch := []) h6 (Un.laid h8 h1 h9) (Isc.hok.laid h8 h1 (ok_gz hz)) h7 fun b hb => by cases hb
  refine WpL.call_list ?_ fun _ _ _ _ => trivial
  have hS0 : (s1.heap.push { cls := .type "list", data := .seq #[] }).get? s1.heap.objs.size = some (lstObj #[] 0) := Heap.get?_push_size _ rfl
  have hpush : ∀ b o, s1.heap.get? b = some o → (s1.heap.push { cls := .type "list", data := .seq #[] }).get? b = some o := fun b o e => Heap.get?_push_of_some _ e
  have hgp : (s1.heap.push { cls := .type "list", data := .seq #[] }).IsGen a g := h3.keeps hpush
  refine .of (list_init_gen (s := { s1 with heap := s1.heap.push { cls := .type "list", data := .seq #[] } }) (c0 := 0) hgp hS0 hSa fun h' c0 q1 q2 => ⟨plainId_quiet PySem.F.plain_extend_loop _, ?_⟩)
  have hk2 : ∀ b o, s1.heap.get? b = some o → h'.get? b = some o := fun b o e => (q2 b (Nat.ne_of_lt (Heap.lt_size e))).trans (hpush b o e)
  have IS : Inv X pins σ (upd (upd H1 a (GXZ a g)) s1.heap.objs.size (EXO s1.heap.objs.size (lstObj #[] c0))) { s1 with heap := h' } := Ia.laid (t' := s1.toks) hk2 (Nat.le_refl _) (ok_exo q1)
  have nS : upd H1 a (GXZ a g) s1.heap.objs.size = none := Ia.hok.fresh (Nat.le_refl _)
  have e1 : Ex H1 (upd (upd H1 a (GXZ a g)) s1.heap.objs.size (EXO s1.heap.objs.size (lstObj #[] c0))) := (Ex.new h9).trans (Ex.new nS)
  have atA : upd (upd H1 a (GXZ a g)) s1.heap.objs.size (EXO s1.heap.objs.size (lstObj #[] c0)) a = some (GXZ a g) := (upd_ne (Ne.symm hSa)).trans upd_same
  have other : ∀ b, b ∉ [a, s1.heap.objs.size] → upd (upd H1 a (GXZ a g)) s1.heap.objs.size (EXO s1.heap.objs.size (lstObj #[] c0)) b = H1 b := fun b hb => by
    rw [upd_ne (fun z => hb (by rw [z]; simp)), upd_ne (fun z => hb (by rw [z]; simp))]
  refine drainL (X := X) (pins := pins) (σ := σ) (Hc := H1) (Hb := upd (upd H1 a (GXZ a g)) s1.heap.objs.size (EXO s1.heap.objs.size (lstObj #[] c0))) (sc := sc) (A := X.A.in1) (a := a) (S := s1.heap.objs.size) (g := g) (D := fun b => upd (upd H1 a (GXZ a g)) s1.heap.objs.size (EXO s1.heap.objs.size (lstObj #[] c0)) b ≠ none)
    Isc hSa hr.hd (by have := hr.dp; show X.A.depth < _; omega) (by rw [atA]; nofun) (by rw [upd_same]; nofun) (fun b hb => hb) rows [] [] #[] c0 _ { s1 with heap := h' } L (.fresh c) c _ [] IS (lg1.ex e1) (EnvH.refl _) (fun b hb => hb) atA upd_same h4 (.fresh c) ?_ .nil .nil (by show 0 + rows.length < sizeLine; rw [sizeLine_eq]; omega) ?_
  · refine run X.A.in1.in1.in1 [a, s1.heap.objs.size] _ _ _ _ ⟨hr.hd, ?_, ?_⟩ Isc.ok.frames ⟨h6, allBare_setGen (s := { s1 with heap := h' }) h7 rfl, IS.hok, fun b o _ q => hk2 b o q, fun b o q => ⟨o, hk2 b o q⟩, fun b o hb _ n => by rw [other b hb]; exact n, fun b o q hb => by rw [other b hb]; exact q, fun b hb => ?_, ?_, lg1.ex e1, fun b hb => hb⟩
    · have := hr.dp
      show X.A.depth + 3 * k + 5 < _
      omega
    · have := hr.un
      show X.A.units + 1 + 1 + 1 + 16 * k + 200 < _
      omega
    · rcases List.mem_cons.mp hb with z | z
      · rw [z]; exact ⟨.inl rfl, _, atA⟩
      · rw [List.mem_singleton.mp z]; exact ⟨.inr (.inl (Nat.le_refl _)), _, upd_same⟩
    · rw [setGen_size]; exact hgl2
  · intro s' L' H' xs' acc' c' J1 J2 J3 J4 J5 J6 J7
    have oS : s'.heap.get? s1.heap.objs.size = some (lstObj acc' c') := (J1.hok _ _ J4).1
    have hlx : xs'.length ≤ sizeLine := by
      have e2 := J5.length
      have e3 : acc'.toList.length = acc'.size := by simp
      omega
    have J8 : Inv X pins σ (upd H' s1.heap.objs.size (.lst xs')) s' :=
      J1.write (x := s1.heap.objs.size) (e := s1.heap.objs.size) (h' := s'.heap) (t' := s'.toks) (by rw [J4]; trivial) (.inl rfl) (fun _ _ _ q => q) ⟨_, oS⟩ ⟨hlx, acc'.toList, c', J5, by rw [oS]⟩
    have e4 : EnvH H1 (upd H' s1.heap.objs.size (.lst xs')) := fun b o q n => by
      have h0 := (EnvH.of e1).trans J3 b o q n
      rw [upd_ne (fun z => by rw [z, J4] at h0; exact n _ (Option.some.inj h0).symm)]
      exact h0
    refine ⟨rfl, .ref s1.heap.objs.size, upd H' s1.heap.objs.size (.lst xs'), J8, lh_list J2 J1.hok J4, rfl, hQ _ _ xs' e4 upd_same ?_⟩
    refine dpAll_env (fun b o q n => ?_) J6
    rw [upd_ne (fun z => by rw [z, J4] at q; exact n _ (Option.some.inj q).symm)]
    exact q
end
end LL
end

section
set_option Elab.async false
set_option linter.all false
set_option maxRecDepth 100000
set_option maxHeartbeats 1000000
/-! L13: statements of loud defs. -/
namespace LL
open PySem PySem.Spec PyProof.Rows L2 GenW Evl

def SPL (X : Cx) (pins : List (Addr × Obj)) (D : Ends) (f : Flow) (s' : Shared) (L' : Lg) : Prop :=
  match f with
  | .next => ∃ σ' H', Inv X pins σ' H' s' ∧ LH H' L' ∧ D.nx σ' H'
  | .brk => ∃ σ' H', Inv X pins σ' H' s' ∧ LH H' L' ∧ D.bk σ' H'
  | .cont => ∃ σ' H', Inv X pins σ' H' s' ∧ LH H' L' ∧ D.ct σ' H'
  | .ret u => ∃ v σ' H', Inv X pins σ' H' s' ∧ LH H' L' ∧ RelV v u ∧ D.rt v H'
structure PSL (X : Cx) (xl : XL) (st : Stmt) (t : TS) : Prop where
  run : ∀ (pins : List (Addr × Obj)) (s : Shared) (σ : L2.St) (H : Hp) (L : Lg) (D : Ends), Inv X pins σ H s → LH H L → t D σ H → WpL (model X.prog X.w) X.A (exec st X.env) (SPL X pins D) (fun e s' L' => xl L' e s') s L
structure PSsL (X : Cx) (xl : XL) (st : List Stmt) (t : TS) : Prop where
  run : ∀ (pins : List (Addr × Obj)) (s : Shared) (σ : L2.St) (H : Hp) (L : Lg) (D : Ends), Inv X pins σ H s → LH H L → t D σ H → WpL (model X.prog X.w) X.A (execs st X.env) (SPL X pins D) (fun e s' L' => xl L' e s') s L
/-- quiet -/
def exD (H : Hp) (D : Ends) : Ends := { nx := fun σ' H' => ExX H H' ∧ D.nx σ' H', rt := fun v H' => ExX H H' ∧ D.rt v H', bk := fun σ' H' => ExX H H' ∧ D.bk σ' H', ct := fun σ' H' => ExX H H' ∧ D.ct σ' H' }
def tQS (t : TS) : TS := fun D σ H => t (exD H D) σ H
section
variable {X : Cx} {xl : XL} {st : Stmt} {rest body orelse : List Stmt} {e : Expr} {te : TE} {t u : TS} {pos : Pos} {pins : List (Addr × Obj)}
theorem spl_of {L : Lg} {H : Hp} {D : Ends} {f : Flow} {s' : Shared} (lg : LH H L) (h : SP X pins (exD H D) f s') : SPL X pins D f s' L := by
  cases f with
  | next => obtain ⟨σ', H', I, e, q⟩ := h; exact ⟨σ', H', I, lg.exX e, q⟩
  | brk => obtain ⟨σ', H', I, e, q⟩ := h; exact ⟨σ', H', I, lg.exX e, q⟩
  | cont => obtain ⟨σ', H', I, e, q⟩ := h; exact ⟨σ', H', I, lg.exX e, q⟩
  | ret u => obtain ⟨v, σ', H', I, r, e, q⟩ := h; exact ⟨v, σ', H', I, lg.exX e, r, q⟩
theorem psl_q (h : ∀ L, PS (X.wish (xl L)) st t) : PSL X xl st (tQS t) := ⟨fun pins s σ H L D I lg ht =>
  .of (wpAny_mono ((h L).run pins s σ H _ (I.wish _) ht) (fun f s' q => spl_of lg q.unwish) fun _ _ z => z)⟩
theorem pssl_q (h : ∀ L, PSs (X.wish (xl L)) rest t) : PSsL X xl rest (tQS t) := ⟨fun pins s σ H L D I lg ht =>
  .of (wpAny_mono ((h L).run pins s σ H _ (I.wish _) ht) (fun f s' q => spl_of lg q.unwish) fun _ _ z => z)⟩
theorem execs_consL {M : Model} {A : Around} {env : Env} {s : Shared} {L : Lg} {Q : Flow → Shared → Lg → Prop} {E : Value → Shared → Lg → Prop}
    (h : WpL M A (exec st env) (fun f s' L' => match f with | .next => WpL M A (execs rest env) Q E s' L' | f => Q f s' L') E s L) : WpL M A (execs (st :: rest) env) Q E s L := by
  rw [execs_cons]
  refine .bind (h.mono (fun f s' L' q => ?_) fun _ _ _ z => z)
  cases f with
  | next => exact q
  | _ => exact .pure q
def tThenL (t u : TS) : TS := fun D σ H => t { D with nx := fun σ' H' => u D σ' H' } σ H
theorem pssl_cons (a : PSL X xl st t) (b : PSsL X xl rest u) : PSsL X xl (st :: rest) (tThenL t u) := by
  refine ⟨fun pins s σ H L D I lg ht => ?_⟩
  refine execs_consL ((a.run pins s σ H L _ I lg ht).mono (fun f s' L' q => ?_) fun _ _ _ z => z)
  cases f with
  | next => obtain ⟨σ', H', I', l', q'⟩ := q; exact b.run pins s' σ' H' L' D I' l' q'
  | brk => exact q
  | cont => exact q
  | ret v => exact q
theorem pssl_nil : PSsL X xl [] (fun D σ H => D.nx σ H) := ⟨fun pins s σ H L D I lg ht => .of (wpAny_execs_nil ⟨σ, H, I, lg, ht⟩)⟩
theorem pssl_one (a : PSL X xl st t) : PSsL X xl [st] (tThenL t fun D σ H => D.nx σ H) := pssl_cons a pssl_nil

theorem ptl_val (h : PEL X xl e te) (he : ∀ whole, isTrue e X.env whole = (do let v ← whole; standAt e.pos; holding [v] (truthy v)) := by intro _; rfl) : PTL X xl e (tB te) := by
  refine ⟨fun pins s σ H L Q I lg ht => ?_⟩
  rw [he]
  refine .bind ((h.run pins s σ H L _ I lg ht).mono (fun v s' L' ⟨x, H', I', l', r, b, eb, q⟩ => ?_) fun _ _ _ z => z)
  subst eb
  obtain rfl : v = Value.bool b := r
  exact .of (wpAny_bind (wpAny_standAt (wpAny_holding (wpAny_truthy_bool ⟨H', I', l', q⟩))))
theorem ptl_not {t : TT} (h : PTL X xl e t) : PTL X xl (.UnaryOp .Not e pos) (tNot t) := by
  refine ⟨fun pins s σ H L Q I lg ht => ?_⟩
  rw [arm_isTrue_UnaryOp]
  exact .bind ((h.run pins s σ H L _ I lg ht).mono (fun b s' L' ⟨H', I', l', q⟩ => .pure ⟨H', I', l', q⟩) fun _ _ _ z => z)
/-- a or b: a quiet -/
def tOrL (ta tb : TE) : TE := fun σ H Q => ta σ H fun x H1 => ∃ b, x = .bl b ∧ if b = true then Q (.bl true) H1 else tb σ H1 Q
theorem pel_or {a b : Expr} {ta tb : TE} (ha : PEL X xl a ta) (hb : PEL X xl b tb) : PEL X xl (.BoolOp .Or [a, b] pos) (tOrL ta tb) := by
  refine ⟨fun pins s σ H L Q I lg ht => ?_⟩
  rw [arm_eval_BoolOp]
  show WpL _ _ (boolOp pos .Or [eval a X.env, eval b X.env]) _ _ s L
  unfold boolOp
  refine .bind ((ha.run pins s σ H L _ I lg ht).mono (fun v s1 L1 ⟨x, H1, I1, l1, r1, k, ek, q⟩ => ?_) fun _ _ _ z => z)
  subst ek
  obtain rfl : v = Value.bool k := r1
  refine .bind (.of (wpAny_standAt ?_))
  refine .bind (.of (wpAny_holding (wpAny_truthy_bool ?_)))
  cases k with
  | true =>
    rw [if_pos rfl] at q
    exact .pure ⟨.bl true, H1, I1, l1, rfl, q⟩
  | false =>
    rw [if_neg Bool.false_ne_true] at q
    show WpL _ _ (boolOp pos .Or [eval b X.env]) _ _ s1 L1
    unfold boolOp
    exact hb.run pins s1 σ H1 L1 _ I1 l1 q

/-- name = e -/
theorem psl_set {i : Nat} {x : Str} {pos' : Pos} (hN : X.N.Nodup) (hi : X.N[i]? = some x) (hx : Loc X.env.scope x) (he : PEL X xl e te) (hs : swapsWith e (some (.Name x pos')) pos.line X.env = pure false := by rfl) (hf : X.fn x = true ∨ X.env.scope.names.lookup x = some .local := by first | exact .inl rfl | exact .inr rfl | assumption) :
    PSL X xl (.Assign [.Name x pos'] e pos) (tAsg te (gName i)) := by
  refine ⟨fun pins s σ H L D I lg ht => ?_⟩
  rw [exec_Assign_Name (hs := hs)]
  refine .bind (.of (wpAny_standAt ?_))
  refine .bind ((he.run pins s σ H L _ I lg ht).mono (fun v s1 L1 ⟨y, H1, I1, l1, r1, q1⟩ => ?_) fun _ _ _ z => z)
  exact .of (wpAny_bind (wpAny_standAt (wpAny_bind (wpAny_bindName (store_ok I1 hN hi hx r1 (fun s2 I2 => wpAny_pure ⟨_, H1, I2, l1, q1⟩) hf)))))
/-- e, dropped -/
theorem psl_expr (he : PEL X xl e te) (hs : swapsWith e none pos.line X.env = pure false := by rfl) : PSL X xl (.Expr e pos) (tDrop te) := by
  refine ⟨fun pins s σ H L D I lg ht => ?_⟩
  rw [exec_Expr X.env e pos I.quiet hs]
  refine .bind (.of (wpAny_standAt ?_))
  exact .bind ((he.run pins s σ H L _ I lg ht).mono (fun v s1 L1 ⟨y, H1, I1, l1, r1, q1⟩ => .of (wpAny_dropValue ⟨σ, H1, I1, l1, q1⟩)) fun _ _ _ z => z)
/-- return e -/
theorem psl_ret (he : PEL X xl e te) : PSL X xl (.Return (some e) pos) (tRet te) := by
  refine ⟨fun pins s σ H L D I lg ht => ?_⟩
  rw [exec_Return_some]
  refine .bind (.of (wpAny_standAt ?_))
  exact .bind ((he.run pins s σ H L _ I lg ht).mono (fun v s1 L1 ⟨y, H1, I1, l1, r1, q1⟩ => .pure ⟨y, σ, H1, I1, l1, r1, q1⟩) fun _ _ _ z => z)
/-- if -/
theorem psl_if {c : Expr} {tc : TT} (hc : PTL X xl c tc) (ha : PSsL X xl body t) (hb : PSsL X xl orelse u) : PSL X xl (.If c body orelse pos) (tIfS tc t u) := by
  refine ⟨fun pins s σ H L D I lg ht => ?_⟩
  rw [exec_If]
  refine .bind (.of (wpAny_standAt ?_))
  refine .bind ((hc.run pins s σ H L _ I lg ht).mono (fun b s1 L1 ⟨H1, I1, l1, q1⟩ => ?_) fun _ _ _ z => z)
  cases b with
  | true => exact ha.run pins s1 σ H1 L1 D I1 l1 q1
  | false => exact hb.run pins s1 σ H1 L1 D I1 l1 q1
end
end LL
end

section
set_option Elab.async false
set_option linter.all false
set_option maxRecDepth 100000
set_option maxHeartbeats 1000000
/-! L14: for, a loud def by its body, try. -/
namespace LL
open PySem PySem.Spec PyProof.Rows L2 GenW Evl

section
variable {P : Program} {w : World} {A : Around} {s : Shared} {L : Lg} {env : Env}
theorem CodeL.loop' {c : Code} {R : Result → Shared → Lg → Prop} (hq : c.quiet = true) (I : Nat → Shared → Lg → Prop)
    (turn : ∀ n s L, I n s L → WpL (model P w) (A.under c) ((model P w).den c) (fun fin s' L' => match fin with | .done f => R (.ok f) s' L' | .again c' => (c' = c ∧ ∃ m, m < n ∧ I m s' L') ∨ (c'.quiet = true ∧ CodeL (model P w) A c' R s' L')) (fun e s' L' => R (.error e) s' L') s L)
    (n : Nat) (h : I n s L) : CodeL (model P w) A c R s L := by
  induction n using Nat.strongRecOn generalizing s L with
  | ind n ih =>
    refine .of_tree ((turn n s L h).mono (fun fin s' L' hf => ?_) fun _ _ _ h' => h')
    cases fin with
    | done f => exact hf
    | again c' =>
      rcases hf with ⟨rfl, m, hm, hI⟩ | hf
      · exact ⟨hq, ih m hm hI⟩
      · exact hf
/-- a for loop's code -/
theorem CodeL.forLoop {R : Result → Shared → Lg → Prop} {tg : Expr} {it : Value} {body : List Stmt} {En : Lg → Value → Shared → Prop} (hE : ∀ L e s', En L e s' → notedBy (model P w) A env (fun e s' => R (.error e) s' L) e s') (I : Nat → Shared → Lg → Prop)
    (turn : ∀ n s L, I n s L → WpL (model P w) A (pyNext it) (fun r s1 L1 => match r with
      | none => R (.ok .next) s1 L1
      | some v => wpAny (model P w) A (letOwnedTupleGo tg it v) (fun _ s2 => wpAny (model P w) A (assign tg env v) (fun _ s3 => WpL (model P w) A (execs body env) (fun f s4 L4 => match f with
          | .next | .cont => ∃ m, m < n ∧ I m s4 L4
          | .brk => R (.ok .next) s4 L4
          | .ret v => R (.ok (.ret v)) s4 L4) (fun e s' L' => En L' e s') s3 L1) (En L1) s2) (En L1) s1) (fun e s' L' => En L' e s') s L) (n : Nat) (h : I n s L) : CodeL (model P w) A (.forLoop tg it body [] env) R s L := by
  refine CodeL.loop' rfl I (fun n s L hI => ?_) n h
  show WpL _ A ((forTurn tg it body [] env).onRaise (fun x => do noteFrame x env; theTreesLotGoes x)) _ _ s L
  refine WpL.onRaise ?_
  have err : ∀ (e : Value) (s' : Shared) (L' : Lg), En L' e s' → WpL (model P w) A (do noteFrame e env; theTreesLotGoes e) (fun _ s'' L'' => R (.error e) s'' L'') (fun e s' L' => R (.error e) s' L') s' L' := fun e s' L' q =>
    .bind (.of (wpAny_mono (hE L' e s' q) (fun _ s2 h2 => .of (wpAny_theTreesLotGoes h2)) fun _ _ z => z))
  unfold forTurn
  refine .bind (.of (wpAny_standAt ?_))
  refine .bind (.onRaise ((turn n s L hI).mono (fun r s1 L1 h1 => ?_) fun e s' L' q => .of (wpAny_standAt (err e s' L' q))))
  cases r with
  | none => exact .pure (.inr ⟨rfl, .of_tree (.bind (.of (wpAny_onRaise (wpAny_execs_nil (WpL.pure h1)))))⟩)
  | some v =>
    refine .bind (.of (wpAny_mono h1 (fun _ s2 h2 => ?_) fun e s' q => err e s' L1 q))
    refine .bind (.of (wpAny_mono h2 (fun _ s3 h3 => ?_) fun e s' q => err e s' L1 q))
    refine .bind (h3.mono (fun f s4 L4 h4 => ?_) fun e s' L' q => err e s' L' q)
    cases f with
    | next => obtain ⟨m, hm, hI'⟩ := h4; exact .pure (.inl ⟨rfl, m, hm, hI'⟩)
    | cont => obtain ⟨m, hm, hI'⟩ := h4; exact .pure (.inl ⟨rfl, m, hm, hI'⟩)
    | brk => exact .pure h4
    | ret v => exact .pure h4
end

section
variable {X : Cx} {xl : XL} {pos : Pos}
/-- a loop's code and what comes back -/
theorem runOwn_L {c : Code} {Q : Flow → Shared → Lg → Prop} {s : Shared} {L : Lg} (h : CodeL (model X.prog X.w) X.A c (fun r s' L' => match r with | .ok f => Q f s' L' | .error e => cameBackBy (model X.prog X.w) X.A X.env (xl L') e s') s L) :
    WpL (model X.prog X.w) X.A (runOwn c X.env) Q (fun e s' L' => xl L' e s') s L := by
  unfold runOwn
  refine WpL.onRaise (WpL.run (E := fun e s' L' => cameBackBy (model X.prog X.w) X.A X.env (xl L') e s') ?_ |>.mono (fun _ _ _ z => z) fun e s' L' z => .of z)
  rw [Around.mark_none]
  exact h.mono fun r s' L' z => by cases r <;> exact z
def tForL (wi : TI) (g : TG) (tb : TS) : TS := fun D σ H => wi σ H fun J H1 => ExX H H1 ∧ ∃ W : Nat → Nat → L2.St → Hp → Prop, (∃ m, W 0 m σ H1) ∧ ∀ i m σ H, W i m σ H →
  (J.stop i H ∧ D.nx σ H) ∨ (J.go i H ∧ ∃ N : L2.St → Hp → Prop, (∀ σ' H', N σ' H' → ∃ m', m' < m ∧ W (i + 1) m' σ' H') ∧ ∀ x H', J.yld i H x H' → ExX H H' ∧ g x σ H' fun σ2 H2 => ExX H' H2 ∧ tb { D with nx := N, ct := N, bk := D.nx } σ2 H2)
theorem psl_for {tg iter : Expr} {body : List Stmt} {wi : TI} {g : TG} {tb : TS} (hp : ∀ L, PassesOwn (model X.prog X.w) X.A X.env (xl L)) (hc : X.calm = true) (hi : ∀ L, PI (X.wish (xl L)) tg iter wi) (hg : ∀ L, PG (X.wish (xl L)) tg g) (hb : PSsL X xl body tb)
    (hs : ∀ x, foldedSetIterable iter X.env x = pure x := by intro _; rfl) : PSL X xl (.For tg iter body [] pos) (tForL wi g tb) := by
  refine ⟨fun pins s σ H L D I lg ht => ?_⟩
  rw [exec_For]
  refine .bind (.of (wpAny_standAt ?_))
  refine .bind (.of (wpAny_mono ((hi L).run pins s σ H _ (I.wish _) ht) (fun v s1 h1 => ?_) fun _ _ z => z))
  refine .bind (.of (wpAny_of_eq (hs v) ?_))
  refine .bind (.of (wpAny_standAt ?_))
  refine .bind (.of (wpAny_holding (wpAny_mono h1 (fun itv s2 h2 => ?_) fun _ _ z => z)))
  obtain ⟨it, fp, tn, J, H2, e, I2w, T, st2, f2, x2, W, ⟨m0, w0⟩, turn⟩ := h2
  subst e
  have I2 : Inv X pins σ H2 s2 := I2w.unwish
  have stat : ∀ {H' : Hp}, (∀ b ∈ fp, H' b = none) → ∀ b ∈ fp, FpOk X pins H' b := fun hn b hb => ⟨hn b hb, (f2 b hb).2⟩
  refine runOwn_L (CodeL.forLoop (En := xl) (fun L => hp L) (fun n s' L' => ∃ i σ' H', Inv X pins σ' H' s' ∧ LH H' L' ∧ tn i s'.heap ∧ (∀ b ∈ fp, H' b = none) ∧ W i n σ' H') ?_ m0 ⟨0, σ, H2, I2, lg.exX x2, st2, fun b hb => (f2 b hb).1, w0⟩)
  rintro n s3 L3 ⟨i, σ3, H3, I3, l3, st3, fr3, w3⟩
  rcases turn i n σ3 H3 w3 with ⟨stop, qn⟩ | ⟨go, N, hN, step⟩
  · refine .of (wpAny_mono (T.done X rfl rfl rfl hc i pins s3 σ3 H3 (xl L3) I3 (stat fr3) st3 stop) (fun r s4 ⟨hr, I4⟩ => ?_) fun _ _ z => z)
    subst hr
    exact ⟨σ3, H3, I4, l3, qn⟩
  · refine .of (wpAny_mono (T.item X rfl rfl rfl hc i pins s3 σ3 H3 (xl L3) I3 (stat fr3) st3 go) (fun r s4 ⟨u, hr, h4⟩ => ?_) fun _ _ z => z)
    subst hr
    refine wpAny_mono h4 (fun _ s5 ⟨x, H5, I5, r5, y5, st5, fr5⟩ => ?_) fun _ _ z => z
    have I5' := I5.pinned (stat fr5) (T.obj _ _ st5)
    obtain ⟨e5, q5⟩ := step x H5 y5
    refine wpAny_mono ((hg L3).run _ s5 σ3 H5 x u _ (I5'.wish _) r5 q5) (fun _ s6 ⟨σ6, H6, I6w, e6, q6⟩ => ?_) fun _ _ z => z
    refine (hb.run _ s6 σ6 H6 L3 _ I6w.unwish (l3.exX (e5.trans e6)) q6).mono (fun f s7 L7 q7 => ?_) fun _ _ _ z => z
    have again : ∀ {σ7 : L2.St} {H7 : Hp}, Inv X (pins ++ pinsAt fp s5.heap) σ7 H7 s7 → LH H7 L7 → N σ7 H7 → ∃ m, m < n ∧ ∃ i σ' H', Inv X pins σ' H' s7 ∧ LH H' L7 ∧ tn i s7.heap ∧ (∀ b ∈ fp, H' b = none) ∧ W i m σ' H' := fun {σ7 H7} I7 l7 n7 => by
      obtain ⟨m', hm, w7⟩ := hN σ7 H7 n7
      refine ⟨m', hm, i + 1, σ7, H7, I7.unpinned, l7, T.keep _ _ _ st5 fun b hb o e => (I7.pin (b, o) (List.mem_append_right _ (List.mem_append_right _ (mem_pinsAt hb e)))).1, fun b hb => ?_, w7⟩
      obtain ⟨o, e, d⟩ := T.obj _ _ st5 b hb
      exact (I7.pin (b, o) (List.mem_append_right _ (List.mem_append_right _ (mem_pinsAt hb e)))).2.1
    cases f with
    | next => obtain ⟨σ7, H7, I7, l7, n7⟩ := q7; exact again I7 l7 n7
    | cont => obtain ⟨σ7, H7, I7, l7, n7⟩ := q7; exact again I7 l7 n7
    | brk => obtain ⟨σ7, H7, I7, l7, q7⟩ := q7; exact ⟨σ7, H7, I7.unpinned, l7, q7⟩
    | ret v => obtain ⟨x7, σ7, H7, I7, l7, r7, q7⟩ := q7; exact ⟨x7, σ7, H7, I7.unpinned, l7, r7, q7⟩

/-! ### for over a generator def's call: its body raises at the first item -/
def noD : Ends := { nx := fun _ _ => False, rt := fun _ _ => False }
def tForGen (sp : SpGL) (t : TA) (i : Nat) (tb : Lg → TS) : TS := fun D σ H => t σ H fun vs H1 => ∃ rows, sp vs H1 rows ∧ ExX H H1 ∧ (rows = [] → ∀ H2, EnvH H1 H2 → D.nx σ H2) ∧
  (rows ≠ [] → ∀ v L' H2, EnvH H1 H2 → LH H2 L' → tb L' noD (σ.set i (some v)) H2)
theorem psl_forGen {k : Nat} {f : Addr} {fd : FuncData} {ps : List Str} {sp : SpGL} {x y : Str} {p p2 pos' : Pos} {e : Expr} {es : List Expr} {t : TA} {i : Nat} {body : List Stmt} {tb : Lg → TS} (hp : ∀ L, PassesOwn (model X.prog X.w) X.A X.env (xl L))
    (F : GFnL X.prog X.w X.K X.mg X.base k f fd ps sp) (hr : Room (k + 2) X.A) (hg : Gl X x) (hm : X.mg x = some (.ref f)) (hk : PySem.W.keepIn X.K (.ref f) = true) (hb : Binds X.K fd ps []) (ha : ∀ L, PA (X.wish (xl L)) (e :: es) t)
    (hN : X.N.Nodup) (hi : X.N[i]? = some y) (hy : Loc X.env.scope y) (hbd : ∀ L, PSs (X.wish (xl L)) body (tb L)) (hf : X.fn y = true ∨ X.env.scope.names.lookup y = some .local := by first | exact .inl rfl | exact .inr rfl | assumption)
    (hdb : (x == ("__debug__" : Str)) = false := by decide) (he : starEach (e :: es) X.env = (false, eval e X.env) :: starEach es X.env := by rfl) (hpl : (backTo pos' (starEach es X.env)).any (·.1) = false := by rfl)
    (hs : ∀ z, foldedSetIterable (.Call (.Name x p) (e :: es) [] pos') X.env z = pure z := by intro _; rfl) : PSL X xl (.For (.Name y p2) (.Call (.Name x p) (e :: es) [] pos') body [] pos) (tForGen sp t i tb) := by
  refine ⟨fun pins s σ H L D I lg ht => ?_⟩
  rw [exec_For]
  refine .bind (.of (wpAny_standAt ?_))
  refine .bind (.of (wpAny_mono (gen_callQ (X := X.wish (xl L)) (Rr := fun rows H1 => ExX H H1 ∧ (rows = [] → ∀ H2, EnvH H1 H2 → D.nx σ H2) ∧ (rows ≠ [] → ∀ v L' H2, EnvH H1 H2 → LH H2 L' → tb L' noD (σ.set i (some v)) H2)) F ⟨hr.hd, by have := hr.dp; show X.A.depth + 3 * k + 5 < _; omega, by have := hr.un; show X.A.units + 16 * k + 200 < _; omega⟩ hg hm hk hb (ha L) (I.wish _) ht hdb he hpl) (fun v s1 hv => ?_) fun _ _ z => z))
  obtain ⟨H1, sc, rows, I1w, ⟨hx, hq0, hq1⟩, a, g, c, rfl, h1, h2, h3, h4, h5, h6, h7, h8, h9, run⟩ := hv
  have Isc : Inv X pins σ H1 sc := I1w.unwish
  refine .bind (.of (wpAny_of_eq (hs _) ?_))
  refine .bind (.of (wpAny_standAt ?_))
  refine .bind (.of (wpAny_holding (wpAny_pyIter_gen h3 ?_)))
  have lg1 : LH H1 L := lg.exX hx
  have hz : IsGenZ s1.heap a g := .of h3
  have hgl : g < s1.gens.size := (Array.getElem?_eq_some_iff.mp h4).1
  have hok : HOk X.prog X.w (upd H1 a (GXZ a g)) s1.heap := Isc.hok.laid h8 h1 (ok_gz hz)
  have Ia : Inv X pins σ (upd H1 a (GXZ a g)) s1 := Isc.call' (ch := []) h6 (Un.laid h8 h1 h9) hok h7 fun b hb => by cases hb
  have eA : Ex H1 (upd H1 a (GXZ a g)) := Ex.new h9
  have st0 : St0 X.prog X.w H1 sc s1 a [a] g (fun b => upd H1 a (GXZ a g) b ≠ none) (upd H1 a (GXZ a g)) (s1.setGen g .running) L :=
    ⟨h6, allBare_setGen h7 rfl, hok, fun b o _ q => q, fun b o q => ⟨o, q⟩, fun b o hb q n => by rw [upd_ne (show b ≠ a from fun z => hb (by rw [z]; simp))]; exact n, fun b o q _ => eA b o q,
      fun b hb => by rw [List.mem_singleton.mp hb]; exact ⟨.inl rfl, _, upd_same⟩, by rw [setGen_size]; exact hgl, lg1.ex eA, fun b hb => hb⟩
  have go := run X.A.in1 [a] _ _ _ _ ⟨hr.hd, by have := hr.dp; show X.A.depth + 3 * k + 5 < _; omega, by have := hr.un; show X.A.units + 1 + 16 * k + 200 < _; omega⟩ Isc.ok.frames st0
  refine runOwn_L (CodeL.forLoop (En := xl) (fun L => hp L) (fun n s' L' => s' = s1 ∧ L' = L) ?_ 0 ⟨rfl, rfl⟩)
  rintro n s3 L3 ⟨rfl, rfl⟩
  have back : ∀ {H' : Hp} {s' : Shared} {gst : GenState}, Gv ⟨X.prog, X.w, X.K, X.stack, H1, sc, [a], g, X.A.in1, fun b => upd H1 a (GXZ a g) b ≠ none⟩ H' s' → ExD (fun b => upd H1 a (GXZ a g) b ≠ none) (upd H1 a (GXZ a g)) H' → gst.bare = true → Inv X pins σ H' (s'.setGen g gst) ∧ EnvH H1 H' ∧ H' a = some (GXZ a g) := by
    intro H' s' gst gv e hb
    have I' : Inv X pins σ H' (s'.setGen g gst) := Isc.call' (ch := []) gv.os gv.un gv.hok (allBare_setGen gv.bare hb) fun b hb => by cases hb
    exact ⟨I', (EnvH.of eA).trans e.env, e.on a _ (by rw [upd_same]; nofun) upd_same⟩
  cases rows with
  | nil =>
    refine WpL.pyNextGen hr.hd Ia.nolimit (by have := hr.dp; show X.A.depth < _; omega) hz h4 (.fresh c) go (fun r s' L' hr' => ?_) fun v c' kk fs' s' L' lv p' hy => hy.elim
    obtain ⟨_, hrr, H', gv, e, lg'⟩ := hr'
    refine ⟨hrr, fun h' hk => ?_⟩
    obtain ⟨I', e', _⟩ := back (gst := .finished) gv e rfl
    exact ⟨σ, H', I'.kept (t' := _) hk, lg', hq0 rfl H' e'⟩
  | cons r rs =>
    refine WpL.pyNextGen hr.hd Ia.nolimit (by have := hr.dp; show X.A.depth < _; omega) hz h4 (.fresh c) go (fun r s' L' hr' => by cases hr'.1) fun v c' kk fs' s' L' lv p' hy => ?_
    obtain ⟨H', xv, gv, e, lg', rv, d, cont⟩ := hy
    obtain ⟨I', e', ha'⟩ := back (gst := .suspended kk lv c' p' fs' false) gv e rfl
    obtain ⟨o, nm, qn, ho, hcl, hd, _⟩ := (I'.hok a _ ha').1
    refine go_of ho hcl hd (by decide) (wpAny_assign_Name (store_ok I' hN hi hy rv (fun s2 I2 => ?_) hf))
    refine .of (wpAny_mono ((hbd L').run pins s2 _ H' noD (I2.wish _) (hq1 (by nofun) xv L' H' e' lg')) (fun f s3 q => ?_) fun _ _ z => z)
    cases f with
    | next => obtain ⟨_, _, _, q⟩ := q; exact q.elim
    | brk => obtain ⟨_, _, _, q⟩ := q; exact q.elim
    | cont => obtain ⟨_, _, _, q⟩ := q; exact q.elim
    | ret v => obtain ⟨_, _, _, _, _, q⟩ := q; exact q.elim
end
end LL
end

section
set_option Elab.async false
set_option linter.all false
set_option maxRecDepth 100000
set_option maxHeartbeats 1000000
/-! L15: a loud def by its body, try, the law at the head. -/
namespace LL
open PySem PySem.Spec PyProof.Rows L2 GenW Evl

section
variable {prog : Program} {w : World} {A : Around} {s : Shared} {L : Lg} {R : Result → Shared → Lg → Prop}
theorem CodeL.call_function {a : Addr} {args : Args} {o : Obj} {fd : FuncData} {body : List Stmt} (hroom : A.depth < recursionLimit) (ho : s.heap.get? a = some o) (hd : o.data = .func fd) (hco : fd.scope.isCoroutine = false) (hgen : fd.scope.isGenerator = false) (hbody : fd.body = .stmts body)
    (hcd : s.heap.CodeRec fd.code fd.qualname)
    (h : wpAny (model prog w) A.in1 (bindArgs fd args) (fun binds s1 => wpAny (model prog w) A.in1 (newFunctionEnv fd.scope fd.globals fd.closure binds (fd.qualname ++ ".<locals>.") (some a) fd.code none fd.builtins)
        (fun env s2 => s2.heap.NoLimit ∧ CodeL (model prog w) A (.func body env) R s2 L) (fun e s' => R (.error e) s' L) s1) (fun e s' => R (.error e) s' L) s) : CodeL (model prog w) A (.call (.ref a) args) R s L := by
  refine .of_tree (.of ?_)
  show wpAny _ A.in1 (callAny (.ref a) args) _ _ s
  obtain ⟨c, oc, vs, tq, hc, hoc, hdc, hq⟩ := hcd
  simp only [callAny]
  refine wpAny_bind (wpAny_load ho ?_); simp only [hd, callFunction, hco, hgen, hbody, hc]
  rw [hc] at h
  refine wpAny_bind (m := field (.ref c) 1) (wpAny_field hoc hdc hq (wpAny_bind (wpAny_pure (wpAny_bind (wpAny_mono h (fun binds s1 h1 => ?_) fun _ _ z => z)))))
  exact wpAny_bind (wpAny_mono h1 (fun env s2 h2 => wpAny_bind (wpAny_enterFrame h2.1 hroom (wpAny_pure (And.intro rfl h2.2)))) fun _ _ z => z)
theorem CodeL.func {body : List Stmt} {env : Env} (h : WpL (model prog w) (A.deeper env) (execs body env) (fun f s' L' => R (.ok (.ret (match f with | .ret v => v | _ => .none))) s' L')
      (fun e s' L' => wpAny (model prog w) (A.deeper env) (leaving env e) (fun _ s'' => R (.error e) s'' L') (fun e' s'' => R (.error e') s'' L') s') s L) : CodeL (model prog w) A (.func body env) R s L := by
  refine .of_tree ?_
  show WpL _ (A.deeper env) (do PySem.point; match ← (execs body env).onRaise (leaving env) with | .ret v => ret v | _ => ret .none) _ _ s L
  refine .bind (.of (wpAny_point (.bind (.onRaise (h.mono (fun f s' L' q => ?_) fun e s' L' q => .of q)))))
  cases f <;> exact .pure q
end

/-- the wish of a loud def's body -/
abbrev xlOf (P : Program) (w : World) (K : PySem.W.Frag) (mg : Str → Option Value) (base : Heap) (N : List Str) (qual : Str) (scope : Scope) (f : Addr) (cd : Value) (A : Around) (outer : List Env) (s : Shared) (H : Hp) (E : XK) : XL :=
  fun L e s' => (cxOf (CX P w) P w K mg base N qual scope f cd A outer s H (fun cls d H' => E cls d H' ∧ LH H' L)).xe e s'
theorem fnL_of {P : Program} {w : World} {K : PySem.W.Frag} {mg : Str → Option Value} {base : Heap} {k : Nat} {f : Addr} {name qual : Str} {params : Arguments} {body : List Stmt} {scope : Scope} {dV kV doc pm cdv ct oc : Value} {an od : Option Addr}
    {osl : Array (Option Value)} {N ps : List Str} {sp : Sp} (lk : K.lookup f = some ⟨oc, od, .func (PySem.W.fnOf name qual params body scope dV kV doc pm an cdv ct), osl⟩) (hcd : PySem.W.codeIn K cdv qual = true) (S : FnScope N ps scope)
    (len : ∀ vs H Q E, sp vs H Q E → vs.length = ps.length)
    (hbody : ∀ (A : Around) (outer : List Env) (s : Shared) (H : Hp) (vs : List V) (Q : VK) (E : XK), Room k (A.deeper (envOfC qual scope s.heap.objs.size f cdv)) → sp vs H Q E →
      ∃ t, PSsL (cxOf (CX P w) P w K mg base N qual scope f cdv A outer s H E) (xlOf P w K mg base N qual scope f cdv A outer s H E) body t ∧ t { nx := fun _ H' => Q .non H', rt := Q } (start N vs) H) :
    FnL P w K mg base (k + 1) f (PySem.W.fnOf name qual params body scope dV kV doc pm an cdv ct) ps sp := by
  refine ⟨len, fun A outer s H L args us vs Q E hr e0 lg hb r hsp => ?_⟩
  have hl := len _ _ _ _ hsp
  have KX : K.In s.heap := e0.mod.kin.keeps fun b o e => (e0.bs b o e).1
  have lim : s.heap.NoLimit := e0.mod.nolimit.keeps fun b o e => (e0.bs b o e).1
  have hkind : ∀ y ∈ ps.zip us, scope.names.lookup y.1 = some .local ∨ (scope.names.lookup y.1 = some .cell ∧ ((cellsFrom (s.heap.objs.size + 1) scope.names []).lookup y.1).isSome = true) := fun ⟨n, v⟩ hy =>
    (S.par n (List.of_mem_zip hy).1).imp id fun q => ⟨q, PySem.W.cellsFrom_some _ _ _ (.inl q)⟩
  refine CodeL.call_function hr.depth (KX _ _ lk) rfl S.co S.gen rfl (PySem.W.codeRec_of KX hcd) (hb _ _ _ _ (wpAny_newFunctionEnv_cells S.kind hkind fun env he s1 x => ?_))
  subst he
  obtain ⟨t, ht, hq⟩ := hbody A outer s H vs Q E (hr.deeper _) hsp
  have I : Inv (cxOf (CX P w) P w K mg base N qual scope f cdv A outer s H E) [] (start N vs) H s1 := inv_start S hr.hd e0 hl r x
  refine ⟨lim.keeps x.toInCall.keep, CodeL.func ((ht.run [] s1 (start N vs) H L _ I lg hq).mono (fun fl s' L' hs => ?_) fun e s' L' hs => hs)⟩
  have fin : ∀ {σ' : L2.St} {H' : Hp} {v : V} {u : Value}, Inv (cxOf (CX P w) P w K mg base N qual scope f cdv A outer s H E) [] σ' H' s' → LH H' L' → RelV v u → Q v H' → CEL P w outer H s Q u s' L' :=
    fun {σ' H' v u} J l rv q => ⟨v, H', J.os, J.bare, J.base, J.hok, rv, q, l⟩
  cases fl with
  | ret u => obtain ⟨v, σ', H', J, l, rv, q⟩ := hs; exact fin J l rv q
  | next => obtain ⟨σ', H', J, l, q⟩ := hs; exact fin (v := V.non) (u := Value.none) J l rfl q
  | brk => obtain ⟨_, _, _, _, q⟩ := hs; exact False.elim q
  | cont => obtain ⟨_, _, _, _, q⟩ := hs; exact False.elim q
/-- what a quiet statement of such a body may raise is taken -/
theorem takes_xl {P : Program} {w : World} {K : PySem.W.Frag} {mg : Str → Option Value} {base : Heap} {N : List Str} {qual : Str} {scope : Scope} {f : Addr} {cd : Value} {A : Around} {outer : List Env} {s : Shared} {H : Hp} {E E' : XK} {L : Lg} :
    Takes ((cxOf (CX P w) P w K mg base N qual scope f cd A outer s H E').wish (xlOf P w K mg base N qual scope f cd A outer s H E L)) (fun cls d _ H' => E cls d H' ∧ LH H' L) :=
  takes_of (E := fun cls d H' => E cls d H' ∧ LH H' L) rfl rfl rfl rfl
theorem owns_xl {P : Program} {w : World} {K : PySem.W.Frag} {mg : Str → Option Value} {base : Heap} {N : List Str} {qual : Str} {scope : Scope} {f : Addr} {cd : Value} {A : Around} {outer : List Env} {s : Shared} {H : Hp} {E E' : XK} {L : Lg} :
    PassesOwn (model P w) (cxOf (CX P w) P w K mg base N qual scope f cd A outer s H E').A (cxOf (CX P w) P w K mg base N qual scope f cd A outer s H E').env (xlOf P w K mg base N qual scope f cd A outer s H E L) :=
  passes_of (X := (cxOf (CX P w) P w K mg base N qual scope f cd A outer s H E').wish (xlOf P w K mg base N qual scope f cd A outer s H E L)) (K := fun e s'' => CX P w outer H s (fun cls d H' => E cls d H' ∧ LH H' L) e s'') (E₁ := fun e' s'' => CX P w outer H s (fun cls d H' => E cls d H' ∧ LH H' L) e' s'') rfl
/-- a loud callee's exception, on its way out -/
theorem passes_xl {P : Program} {w : World} {K : PySem.W.Frag} {mg : Str → Option Value} {base : Heap} {N : List Str} {qual : Str} {scope : Scope} {f : Addr} {cd : Value} {A : Around} {outer : List Env} {s : Shared} {H : Hp} {E E' : XK} :
    PassesL (cxOf (CX P w) P w K mg base N qual scope f cd A outer s H E') (xlOf P w K mg base N qual scope f cd A outer s H E) E := fun pins σ H1 s1 e s' L' I c =>
  passes_call (X := (cxOf (CX P w) P w K mg base N qual scope f cd A outer s H E').wish (xlOf P w K mg base N qual scope f cd A outer s H E L')) takes_xl (fun _ _ _ _ h => h) pins σ H1 s1 e s' (I.wish _) c

/-! ### try: a call that raises, caught -/
section
variable {X : Cx} {xl : XL} {x : Str} {c : Value} {suite : List Stmt} {b₀ : Stmt} {body : List Stmt} {np pos pos' : Pos} {tb : TS} {ts : Addr → Value → Option Addr → TS}
/-- behind the body's exception: the clause's suite -/
theorem caught {pins : List (Addr × Obj)} {D : Ends} {L' : Lg} {xe0 : Value → Shared → Prop} {u : Value} {s' : Shared} (ok : X.Ok) (hs : X.stack = X.env :: X.outer) (hf : X.env.frame = some X.env.locals) (hc : Names X x c)
    (hsu : ∀ (a : Addr) (oe : Obj) (cls : Value) (d : Option Addr) (pn : List (Addr × Obj)), Zc cls d oe → (∃ vs, oe.data = .fields vs) → PSs (X.suite a ((a, oe) :: pn)) (b₀ :: suite) (ts a cls d))
    (xx : XE (X.tr (X.pn ++ pins) xe0) (fun cls d σ H => PySem.W.exmOne X.K cls c = some true ∧ LH H L' ∧ ∀ a, H a = none → ts a cls d (exD H D) σ H) u s') :
    wpAny (model X.prog X.w) X.A (noteFrame u X.env) (fun _ s2 => wpAny (model X.prog X.w) X.A (setFlight u none) (fun _ s3 => wpAny (model X.prog X.w) X.A (handleBy u X.env [.ExceptHandler (some (.Name x np)) none (b₀ :: suite) pos']) (fun f s4 => SPL X pins D f s4 L') (fun _ _ => False) s3) (fun _ _ => False) s2) (fun _ _ => False) s' := by
  have hfr : X.A.frames = some (X.env :: X.outer) := by rw [ok.frames, hs]
  obtain ⟨a, B, sI, pins', σ', H', cls, d, rfl, J', nb, up, sky, na, os, ag, hx, lg, hts⟩ := xx
  have J : Inv X pins σ' H' sI := J'.ofTry ok
  have sky' : Sky B (X.env :: X.outer) a (Zc cls d) X.env.locals s'.heap := by rw [← hs]; exact sky
  refine Sky.land Zc.steady hfr hf sky' fun h3 fl3 up3 => ?_
  have J3 : Inv X pins σ' H' { s' with heap := h3 } := J.landed nb fl3.1 (up.trans up3) os ag
  obtain ⟨oe3, vs3, he3, hz3, hd3⟩ := fl3.there
  have nfr : a ∉ frs (X.env :: X.outer) := fun hm => by
    obtain ⟨_, o', e', hnf⟩ := fl3.2.2.1.mem hm
    rw [he3] at e'; cases e'; exact hnf _ hd3
  have nL : a ≠ X.env.locals := fun z => nfr (List.mem_filterMap.mpr ⟨X.env, List.mem_cons_self, by rw [hf, z]⟩)
  have nF : a ∉ X.fs := fun hm => let ⟨e, he, q⟩ := List.mem_filterMap.mp hm; nfr (List.mem_filterMap.mpr ⟨e, List.mem_cons_of_mem _ he, q⟩)
  have S3 := J3.suite he3 hd3 na nL nF
  refine wpAny_handleBy_cons (codeAny_handlers_test ?_) (by intro q; cases q)
  have LM := PySem.W.exm_one (M := model X.prog X.w) J3.kIn (fun A Q E s k q => wpAny_typeOf_ref (k _ _ he3) (by rw [hz3.1]; exact q)) hx
  have inst : ∀ {Q : Value → Shared → Prop} {E : Value → Shared → Prop}, Q c { s' with heap := h3 } → wpAny (model X.prog X.w) (X.A.mark (some (.ref a))) (eval (.Name x np) X.env) Q E { s' with heap := h3 } := fun {Q E} q => by
    obtain ⟨hg, hdbg, hm | ⟨hm, hv, hnn⟩⟩ := hc
    · exact ld_glob (X := X.suite a ((a, oe3) :: (X.pn ++ pins))) S3 hg hm q hdbg
    · exact ld_blt (X := X.suite a ((a, oe3) :: (X.pn ++ pins))) S3 hg hm hv q hnn hdbg
  refine inst (LM.here (codeAny_handlers_suite (HandSPX.lands_againZ fl3 fun h4 fl4 up4 => ?_)))
  have J4 : Inv X pins σ' H' { s' with heap := h4 } := J.landed nb fl4.1 ((up.trans up3).trans up4) os ag
  obtain ⟨oe4, vs4, he4, hz4, hd4⟩ := fl4.there
  refine wpAny_mono ((hsu a oe4 cls d (X.pn ++ pins) hz4 ⟨_, hd4⟩).run [] _ _ H' _ (J4.suite he4 hd4 na nL nF) (hts a na)) (fun f s6 hsp => ?_) (fun _ _ z => False.elim z)
  cases f with
  | next => obtain ⟨σ6, H6, S6, e6, q6⟩ := hsp; exact ⟨_, _, S6.unsuite ok, lg.exX e6, q6⟩
  | brk => obtain ⟨σ6, H6, S6, e6, q6⟩ := hsp; exact ⟨_, _, S6.unsuite ok, lg.exX e6, q6⟩
  | cont => obtain ⟨σ6, H6, S6, e6, q6⟩ := hsp; exact ⟨_, _, S6.unsuite ok, lg.exX e6, q6⟩
  | ret u => obtain ⟨v6, σ6, H6, S6, r6, e6, q6⟩ := hsp; exact ⟨_, _, _, S6.unsuite ok, lg.exX e6, r6, q6⟩
end
end LL
end

section
set_option Elab.async false
set_option linter.all false
set_option maxRecDepth 100000
set_option maxHeartbeats 1000000
/-! L16: try, the law at the head. -/
namespace LL
open PySem PySem.Spec PyProof.Rows L2 GenW Evl

section
variable {X : Cx} {xl : XL} {x : Str} {c : Value} {suite : List Stmt} {b₀ : Stmt} {body : List Stmt} {np pos pos' : Pos} {tb : WX → TS} {ts : Addr → Value → Option Addr → TS}
/-- try: a loud body, except x: suite (every exception of the body is caught) -/
theorem psl_try (hs : X.stack = X.env :: X.outer) (hf : X.env.frame = some X.env.locals) (hc : Names X x c)
    (hb : ∀ (W : WX) (pn : List (Addr × Obj)) (xe0 : Value → Shared → Prop) (xl' : XL), (∀ L, Takes ((X.tr pn xe0).wish (xl' L)) (fun cls d σ H => W cls d σ H ∧ LH H L)) → (∀ L, PassesOwn (model X.prog X.w) X.A X.env (xl' L)) → PSsL (X.tr pn xe0) xl' body (tb W))
    (hsu : ∀ (a : Addr) (oe : Obj) (cls : Value) (d : Option Addr) (pn : List (Addr × Obj)), Zc cls d oe → (∃ vs, oe.data = .fields vs) → PSs (X.suite a ((a, oe) :: pn)) (b₀ :: suite) (ts a cls d)) :
    PSL X xl (.Try body [.ExceptHandler (some (.Name x np)) none (b₀ :: suite) pos'] [] [] pos)
      (fun D σ H => tb (fun cls d σ1 H1 => PySem.W.exmOne X.K cls c = some true ∧ ∀ a, H1 a = none → ts a cls d (exD H1 D) σ1 H1) D σ H) := by
  refine ⟨fun pins s σ H L D I lg h => ?_⟩
  have ok := I.ok
  rw [arm_exec_Try]
  refine .bind (.of (wpAny_standAt ?_))
  unfold tryStmt
  simp only [List.isEmpty_nil, if_true]
  refine .bind ?_
  have hbody := hb (fun cls d σ1 H1 => PySem.W.exmOne X.K cls c = some true ∧ ∀ a, H1 a = none → ts a cls d (exD H1 D) σ1 H1) (X.pn ++ pins) (fun _ _ => False)
    (fun L' u s1 => wpAny (model X.prog X.w) X.A (noteFrame u X.env) (fun _ s2 => wpAny (model X.prog X.w) X.A (setFlight u none) (fun _ s3 => wpAny (model X.prog X.w) X.A (handleBy u X.env [.ExceptHandler (some (.Name x np)) none (b₀ :: suite) pos']) (fun f s4 => SPL X pins D f s4 L') (fun _ _ => False) s3) (fun _ _ => False) s2) (fun _ _ => False) s1)
    (fun L' u s1 xx => caught (L' := L') ok hs hf hc hsu (let ⟨a, B, sI, pins', σ', H', cls, d, e, J', nb, up, sky, na, os, ag, ⟨w1, w2⟩, w3⟩ := xx; ⟨a, B, sI, pins', σ', H', cls, d, e, J'.unwish, nb, up, sky, na, os, ag, w1, w3, w2⟩)) (fun L' => PassesOwn.looking)
  refine WpL.attempt ((hbody.run [] s σ H L D (I.toTry _) lg h).mono (fun f s1 L1 hsp => ?_) fun u s1 L1 q => ?_)
  · cases f with
    | next => obtain ⟨σ', H', J', l', q⟩ := hsp; exact .of (wpAny_execs_nil ⟨σ', H', J'.ofTry ok, l', q⟩)
    | brk => obtain ⟨σ', H', J', l', q⟩ := hsp; exact .pure ⟨σ', H', J'.ofTry ok, l', q⟩
    | cont => obtain ⟨σ', H', J', l', q⟩ := hsp; exact .pure ⟨σ', H', J'.ofTry ok, l', q⟩
    | ret u => obtain ⟨v, σ', H', J', l', r, q⟩ := hsp; exact .pure ⟨v, σ', H', J'.ofTry ok, l', r, q⟩
  · refine .bind (.of (wpAny_mono q (fun _ s2 q2 => ?_) fun _ _ z => z.elim))
    simp only [List.isEmpty_cons, Bool.false_eq_true, if_false]
    refine .bind (.of (wpAny_mono q2 (fun _ s3 q3 => ?_) fun _ _ z => z.elim))
    simp only [Bool.false_and, Bool.false_eq_true, if_false]
    exact .of (wpAny_mono q3 (fun _ _ z => z) fun _ _ z => z.elim)
end
end LL
namespace LL
open PySem PySem.Spec PyProof.Rows L2 GenW Evl

theorem law_callL {P : Program} {w : World} {K : PySem.W.Frag} {mg mb : Str → Option Value} {k : Nat} {fa a : Addr} {fd : FuncData} {x : Str} {sp : Sp} {s₁ : Shared} {vs : List Value} {ns : List Int}
    (KX : K.In s₁.heap) (hns : s₁.heap.Ns mainGlobals mg) (hb : s₁.heap.Ns builtinsNs mb) (hbb : ∀ x : Str, x ≠ "__name__" → mb x = bootBuiltins x) (hlim : s₁.heap.NoLimit) (hg : s₁.gens = #[])
    (ha : s₁.heap.get? a = some { cls := .type "list", data := .seq vs.toArray }) (hi : IntsAre vs ns) (hl : ns.length ≤ sizeLine) (hr : Room k callerA)
    (F : ∀ base : Heap, K.In base → base.Ns mainGlobals mg → FnL P w K mg base k fa fd [x] sp) (hbind : ∀ (s : Shared) (u : Value), BindsTo s fd ⟨[u], []⟩ [(x, u)])
    (hsp : ∀ H : Hp, Only H → SqL K H a (ns.map V.int) → sp [.ref a] H (fun v _ => v = .bl true) fun _ _ _ => False) :
    CodeL (model P w) callerA (.call (.ref fa) ⟨[.ref a], []⟩) (fun r s' L => (r = .ok (.ret (.bool true)) ∧ OldK s₁.heap s'.heap ∧ s'.os = s₁.os ∧ AllBare s'.gens) ∧ LogOk s' L) s₁ [] := by
  have vals := vals_ints hi
  have run : ∀ H : Hp, Only H → SqL K H a (ns.map V.int) → HOk P w H s₁.heap → (∀ b, b ≠ a → H b = none) → (H a ≠ none → K.lookup a = none) →
      CodeL (model P w) callerA (.call (.ref fa) ⟨[.ref a], []⟩) (fun r s' L => (r = .ok (.ret (.bool true)) ∧ OldK s₁.heap s'.heap ∧ s'.os = s₁.os ∧ AllBare s'.gens) ∧ LogOk s' L) s₁ [] := by
    intro H hO hS hok off free
    -- what is no list of the script stands in the written part
    have seen : ∀ {b : Addr} {o : Obj}, s₁.heap.get? b = some o → (b = a → H a = none) → (hidT s₁.heap H).get? b = some o := fun {b o} e z => hidT_get e (by
      by_cases y : b = a
      · rw [y]; exact z y
      · exact off b y)
    have dicts : ∀ {b : Addr} {m : Str → Option Value}, s₁.heap.Ns b m → (hidT s₁.heap H).Ns b m := fun {b m} ⟨o, es, ep, e, d, r⟩ => ⟨o, es, ep, seen e (fun z => by
      rw [z, ha] at e
      cases e
      exact absurd (show Data.seq vs.toArray _ = Data.dict es ep from d) nofun), d, r⟩
    have kin : K.In (hidT s₁.heap H) := fun b o e => seen (KX b o e) fun z => Classical.byContradiction fun y => by
      rw [z, free y] at e
      cases e
    have e0 : Env0 P w K mg (hidT s₁.heap H) callerA [] s₁ H := ⟨rfl, ⟨kin, dicts hns, ⟨mb, dicts hb, hbb⟩, let ⟨mc, h1, h2⟩ := hlim; ⟨mc, dicts h1, h2⟩⟩, fun b o e => of_hidT e, Nat.le_of_eq (hidT_size _ _), trivial, fun _ z => (nomatch z), hok, .of_eq hg⟩
    refine ((F _ kin (dicts hns)).run callerA [] s₁ H [] ⟨[.ref a], []⟩ [.ref a] [.ref a] _ _ hr e0 (fun _ z => (nomatch z)) (hbind s₁ (.ref a)) (.cons rfl .nil) (hsp H hO hS)).mono fun r s' L' h => ?_
    match r, h with
    | .error e, h => obtain ⟨_, _, _, _, _, _, _, _, _, _, _, _, q⟩ := h; exact q.1.elim
    | .ok (.ret u), ⟨v, H', os, bare, un, hok', r', q, lg⟩ =>
      obtain rfl : v = .bl true := q
      obtain rfl : u = Value.bool true := r'
      refine ⟨⟨rfl, OldK.of_keep fun b o e => ?_, os, bare⟩, lg.ok hok'⟩
      rcases hO b with z | ⟨ob, xs, z⟩
      · exact un.keep b o e z (fun y => (nomatch y)) (fun y => (nomatch y))
      · have e1 := (hok b _ z).1
        rw [e] at e1
        rw [Option.some.inj e1]
        exact (hok' b _ (un.frzs b ob _ z)).1
  by_cases hk : K.lookup a = none
  · have here : upd (fun _ => none) a (.frz { cls := .type "list", data := .seq vs.toArray } (.lst (ns.map V.int))) a = _ := upd_same
    refine run (upd (fun _ => none) a (.frz { cls := .type "list", data := .seq vs.toArray } (.lst (ns.map V.int)))) (fun b => ?_) (.inl (.inr ⟨_, here⟩)) (fun b u z => ?_) (fun b ne => upd_ne ne) fun _ => hk
    · by_cases e : b = a
      · rw [e]; exact .inr ⟨_, _, here⟩
      · exact .inl (upd_ne e)
    · by_cases e : b = a
      · rw [e, here] at z
        cases z
        rw [e]
        exact ⟨ha, by rw [List.length_map]; exact hl, vs, _, vals, ha⟩
      · rw [upd_ne e] at z; cases z
  · obtain ⟨o, ho⟩ := Option.ne_none_iff_exists'.mp hk
    obtain rfl := Option.some.inj (ha.symm.trans (KX a o ho))
    exact run (fun _ => none) (fun _ => .inl rfl) (.inr ⟨_, vs.toArray, _, ho, rfl, rfl, rfl, by rw [List.size_toArray, hi.length]; exact hl, by simpa using vals⟩) (fun b u z => (nomatch z)) (fun _ _ => rfl) fun z => absurd rfl z
/-- the call that the head asks for, from the law's promise -/
theorem walk_ofL {l : PySem.W.OpenLaw} {n k : Nat} {q : Program} {loose : List Str} {XP : (Str → Option Value) → Heap → Prop} {YP : World → Heap → Prop} {d : DefRec} {K : Params → PySem.W.Frag} {sp : PySem.W.Frag → Sp} {x : Str}
    (hn : l.most = some n) (hn2 : n ≤ sizeLine) (hdf : d.params.defaults = []) (hr : Room k callerA) (hY : ∀ (w : World) (h : Heap), YP w h → (K w.params).In h)
    (F : ∀ (w : World) (mg : Str → Option Value) (fa : Addr) (h : Heap), (K w.params).In h → h.Ns mainGlobals mg → mg d.name = some (.ref fa) →
      ∃ fd : FuncData, (∀ (s : Shared) (u : Value), BindsTo s fd ⟨[u], []⟩ [(x, u)]) ∧
        ∀ base : Heap, (K w.params).In base → base.Ns mainGlobals mg → FnL l.prog w (K w.params) mg base k fa fd [x] (sp (K w.params)))
    (hsp : ∀ (K : PySem.W.Frag) (H : Hp) (a : Addr) (ns : List Int), ns.length ≤ n → Only H → SqL K H a (ns.map V.int) → sp K [.ref a] H (fun v _ => v = .bl true) fun _ _ _ => False) :
    WalkL q loose XP YP l.row.toRowW d [] :=
  attach_callL hn hdf fun w s₀ s₁ mg mb fa o pm cd doc a vs ns G Y ho hd hcd hmg hobj hints hlen hg => by
    have KX := hY w _ Y
    obtain ⟨fd, hb, hF⟩ := F w mg fa _ KX G.T.g hmg
    exact law_callL KX G.T.g G.T.b G.T.builtins G.T.nolimit hg hobj hints (Nat.le_trans hlen hn2) hr hF hb (fun H hO hS => hsp _ H a ns hlen hO hS)
end LL
end

section
set_option Elab.async false
set_option linter.all false
set_option maxRecDepth 100000
set_option maxHeartbeats 2000000
/-! S0: small questions asked of nested tuples (keys of sets). -/
namespace NS
open PySem PySem.Spec PyProof.Rows L2

/-- the tuple at a is the key k -/
def IsN (h : Heap) (k : NestedKey) (a : Addr) : Prop := NestedIs h k (.ref a) ∧ k.depth ≤ 6
theorem IsN.inj {h : Heap} {k k' : NestedKey} {a : Addr} (x : IsN h k a) (y : IsN h k' a) : k = k' := NestedIs.inj _ _ _ x.1 y.1
theorem IsN.keep {h h' : Heap} {k : NestedKey} {b : Addr} (x : IsN h k b) (hk : ∀ c o, h.get? c = some o → h'.get? c = some o) : IsN h' k b := ⟨NestedIs.at (fun c o _ _ e _ => hk c o e) _ _ x.1, x.2⟩
theorem IsN.same {h h' : Heap} {k : NestedKey} {a b : Addr} {o : Obj} {es : Array (Int × Value)} {ep : Nat} {t : SetTable} (hb : IsN h k b) (ho : h.get? a = some o) (hd : o.data = .set es ep t) (hs : Heap.SameBut a h h') : IsN h' k b :=
  ⟨NestedIs.at (fun c u vs n hc hd' => (hs.2 c fun e => by
    subst e
    rw [ho] at hc; cases hc
    rw [hd] at hd'; cases hd').trans hc) _ _ hb.1, hb.2⟩

section
variable {P : Program} {w : World} {A : Around} {E : Value → Shared → Prop} {s : Shared}
theorem hash_n {k : NestedKey} {b : Addr} {Q : Int → Shared → Prop} (hk : IsN s.heap k b) (hu : A.units + 6 < cLine) (h : Q (k.hash w) { s with toks := s.toks + k.draws }) : wpAny (model P w) A (pyHash (.ref b)) Q E s := by
  have := hk.2
  exact pyHash_key _ _ _ _ _ hk.1 (by omega) h
theorem eq_n {x y : NestedKey} {a b : Addr} {Q : Bool → Shared → Prop} (hx : IsN s.heap x a) (hy : IsN s.heap y b) (hu : A.units + 6 < cLine) (h : Q (decide (x = y)) s) : wpAny (model P w) A (eqBool (.ref a) (.ref b)) Q E s := by
  have := hx.2
  exact eqAt_key x y A s _ _ hx.1 hy.1 (by omega) _ _ _ _ (by rw [← NestedKey.decide_eq]; exact h)

/-- no class statement made it -/
def NoCls (P : Program) (w : World) (n : Nat) (s : Shared) (v : Value) : Prop := ∀ (A : Around) (E : Value → Shared → Prop) (Q : Bool → Shared → Prop), Q false s → wpAny (model P w) A (ofAClassStatement n v) Q E s
theorem NoCls.tuple {n : Nat} {a : Addr} {o : Obj} {vs : Array Value} {m : Nat} (ho : s.heap.get? a = some o) (hc : o.cls = .type "tuple") (hd : o.data = .seq vs m) (hq : ∀ v ∈ vs.toList, NoCls P w n s v) : NoCls P w (n + 1) s (.ref a) := fun A E Q h => by
  unfold ofAClassStatement
  refine wpAny_bind (wpAny_typeOf (T := "tuple") ⟨o, ho, hc⟩ ?_)
  have e : (("tuple" : String) == "tuple") = true := rfl
  simp only [e, if_true, Bool.not_true, Bool.false_eq_true, if_false]
  show wpAny _ _ (seqItems? (.ref a) >>= _) _ _ s
  refine wpAny_bind (wpAny_seqItems ho hd (wpAny_bind ?_))
  show wpAny _ _ (forIn vs _ _) _ _ s
  rw [← Array.forIn_toList]
  refine wpAny_forIn_list _ (fun rest r s' => r.1 = none ∧ s' = s ∧ ∀ v ∈ rest, NoCls P w n s v) _ (fun v rest r s' ⟨hr, e, all⟩ => ?_) (fun ⟨r1, r2⟩ s' ⟨hr, e, _⟩ => ?_) _ _ ⟨rfl, rfl, hq⟩
  · subst e
    refine wpAny_bind (all v List.mem_cons_self _ _ _ ?_)
    simp only [Bool.false_eq_true, if_false]
    exact wpAny_pure ⟨rfl, rfl, fun u hu => all u (List.mem_cons_of_mem _ hu)⟩
  · subst e
    obtain rfl : r1 = none := hr
    exact wpAny_pure h
mutual
theorem noCls : ∀ (k : NestedKey) (v : Value) (n : Nat), NestedIs s.heap k v → k.depth ≤ n → NoCls P w n s v
  | .none, _, n, x, _ => by cases x; cases n <;> exact fun A E Q h => wpAny_pure h
  | .num i, _, n, x, _ => by cases x <;> cases n <;> exact fun A E Q h => wpAny_pure h
  | .text y, _, n, x, _ => by cases x; cases n <;> exact fun A E Q h => wpAny_pure h
  | .tup ks, _, n, x, hn => by
    cases x with
    | tup hg hc hd hk =>
      simp only [NestedKey.depth] at hn
      cases n with
      | zero => omega
      | succ n => exact .tuple hg hc hd (noClss ks _ n hk (by omega))
theorem noClss : ∀ (ks : List NestedKey) (vs : List Value) (n : Nat), NestedAll s.heap ks vs → NestedKey.depthAll ks ≤ n → ∀ v ∈ vs, NoCls P w n s v
  | [], _, n, x, _, v, hv => by cases x; cases hv
  | k :: ks, _, n, x, hn, v, hv => by
    cases x with
    | cons x1 x2 =>
      simp only [NestedKey.depthAll] at hn
      rcases List.mem_cons.mp hv with e | hv
      · rw [e]; exact noCls k _ n x1 (by omega)
      · exact noClss ks _ n x2 (by omega) v hv
end
/-- whether a hash is by value: either answer, nothing told -/
def AsksHash (P : Program) (w : World) (n : Nat) (s : Shared) (v : Value) : Prop := ∀ (A : Around) (E : Value → Shared → Prop) (Q : Bool → Shared → Prop), (∀ b, Q b s) → wpAny (model P w) A (hashByValue n v) Q E s
theorem AsksHash.tuple {n : Nat} {a : Addr} {o : Obj} {vs : Array Value} {m : Nat} (ho : s.heap.get? a = some o) (hc : o.cls = .type "tuple") (hd : o.data = .seq vs m) (hq : ∀ v ∈ vs.toList, AsksHash P w n s v) : AsksHash P w (n + 1) s (.ref a) := fun A E Q h => by
  unfold hashByValue
  refine wpAny_bind (wpAny_specialOf ⟨o, ho, hc⟩ F.slot_tuple_hash.lookup ?_)
  show wpAny _ _ (seqItems? (.ref a) >>= _) _ _ s
  refine wpAny_bind (wpAny_seqItems ho hd (wpAny_bind ?_))
  show wpAny _ _ (forIn vs _ _) _ _ s
  rw [← Array.forIn_toList]
  refine wpAny_forIn_list _ (fun rest r s' => (r.1 = none ∨ r.1 = some false) ∧ s' = s ∧ ∀ v ∈ rest, AsksHash P w n s v) _ (fun v rest r s' ⟨hr, e, all⟩ => ?_) (fun ⟨r1, r2⟩ s' ⟨hr, e, _⟩ => ?_) _ _ ⟨.inl rfl, rfl, hq⟩
  · subst e
    refine wpAny_bind (all v List.mem_cons_self _ _ _ fun b => ?_)
    cases b
    · exact wpAny_pure (wpAny_pure (h false))
    · exact wpAny_pure ⟨.inl rfl, rfl, fun u hu => all u (List.mem_cons_of_mem _ hu)⟩
  · subst e
    rcases hr with hr | hr
    · obtain rfl : r1 = none := hr
      exact wpAny_pure (h true)
    · obtain rfl : r1 = some false := hr
      exact wpAny_pure (h false)
mutual
theorem asksHash : ∀ (k : NestedKey) (v : Value) (n : Nat), NestedIs s.heap k v → AsksHash P w n s v
  | .none, _, n, x => by cases x; cases n <;> exact fun A E Q h => wpAny_pure (h _)
  | .num i, _, n, x => by cases x <;> cases n <;> exact fun A E Q h => wpAny_pure (h _)
  | .text y, _, n, x => by cases x; cases n <;> exact fun A E Q h => wpAny_pure (h _)
  | .tup ks, _, n, x => by
    cases x with
    | tup hg hc hd hk =>
      cases n with
      | zero => exact fun A E Q h => wpAny_pure (h _)
      | succ n => exact .tuple hg hc hd (asksHashs ks _ n hk)
theorem asksHashs : ∀ (ks : List NestedKey) (vs : List Value) (n : Nat), NestedAll s.heap ks vs → ∀ v ∈ vs, AsksHash P w n s v
  | [], _, n, x, v, hv => by cases x; cases hv
  | k :: ks, _, n, x, v, hv => by
    cases x with
    | cons x1 x2 =>
      rcases List.mem_cons.mp hv with e | hv
      · rw [e]; exact asksHash k _ n x1
      · exact asksHashs ks _ n x2 v hv
end
/-- a search among such tuples shows nothing -/
theorem seen_n {k : NestedKey} {b : Addr} {Q : Bool → Shared → Prop} (hk : IsN s.heap k b) {ys : List Value} (hy : ∀ y ∈ ys, ∃ k' c, y = Value.ref c ∧ IsN s.heap k' c) (h : Q false s) :
    wpAny (model P w) A (searchCouldBeSeen (.ref b) ys) Q E s := by
  unfold searchCouldBeSeen
  refine wpAny_bind ?_
  refine wpAny_forIn_list _ (fun rest r s' => r.1 = none ∧ s' = s ∧ ∀ y ∈ rest, ∃ k' c, y = Value.ref c ∧ IsN s.heap k' c) _ ?_ ?_ _ _ ⟨rfl, rfl, hy⟩
  · rintro v rest r s' ⟨hr, rfl, all⟩
    obtain ⟨k', c, rfl, hc⟩ := all v List.mem_cons_self
    have on : ∀ y ∈ rest, ∃ k' c, y = Value.ref c ∧ IsN s'.heap k' c := fun u hu => all u (List.mem_cons_of_mem _ hu)
    by_cases hv : (b == c || (carriedByValue (.ref b) && carriedByValue (.ref c))) = true
    · exact wp_if_pos hv (wpAny_pure ⟨rfl, rfl, on⟩)
    have d1 := hk.2
    have d2 := hc.2
    refine wp_if_neg hv (wpAny_bind (quiet_key _ _ 8 _ hk.1 (by omega) _ _ _ ?_))
    simp only [Bool.not_true, Bool.false_eq_true, if_false]
    refine wpAny_bind (quiet_key _ _ 8 _ hc.1 (by omega) _ _ _ ?_)
    simp only [Bool.not_true, Bool.false_eq_true, if_false]
    exact wpAny_bind (noCls _ _ 8 hk.1 (by omega) _ _ _ (wp_if_neg Bool.false_ne_true (wpAny_bind (noCls _ _ 8 hc.1 (by omega) _ _ _ (wp_if_neg Bool.false_ne_true (wpAny_pure ⟨rfl, rfl, on⟩))))))
  · rintro ⟨r1, r2⟩ s' ⟨hr, rfl, _⟩
    obtain rfl : r1 = none := hr
    exact wpAny_pure h
end
end NS
end

section
set_option Elab.async false
set_option linter.all false
set_option maxRecDepth 100000
set_option maxHeartbeats 2000000
/-! S1: a set of nested tuples: its rows and its table; the search; adding. -/
namespace NS
open PySem PySem.Spec PyProof.Rows L2

abbrev Ent : Type := Addr × NestedKey
def row (w : World) (p : Ent) : Int × Value := (p.2.hash w, .ref p.1)
/-- rows and table agree with the entries L -/
structure TabN (w : World) (L : List Ent) (es : Array (Int × Value)) (t : SetTable) : Prop where
  rows : es.toList = L.map (row w)
  tab : TabOk t (L.map fun p => p.2.hash w)
  apart : (L.map (·.2)).Nodup
  ord : w.params.followText "set-order" = true ∨ t.led = true
  slack : 5 * L.length < 3 * t.mask
  few : L.length < 64
/-- the object at a is a set with the entries L, but for the tuples themselves -/
def SetD0 (w : World) (h : Heap) (a : Addr) (L : List Ent) : Prop :=
  ∃ (es : Array (Int × Value)) (ep : Nat) (t : SetTable), (∃ o, h.get? a = some o ∧ o.ExactSet ∧ o.data = .set es ep t) ∧ TabN w L es t
section
variable {w : World} {L : List Ent} {es : Array (Int × Value)} {t : SetTable}
theorem TabN.size (T : TabN w L es t) : es.size = L.length := by simpa using congrArg List.length T.rows
theorem TabN.places (T : TabN w L es t) : t.place.size = L.length := by simpa using T.tab.sz
theorem TabN.fits (T : TabN w L es t) : t.fits es.size = true := by
  have := T.places
  have := T.slack
  simp only [SetTable.fits, SetTable.fill, T.tab.dm, T.size, T.places, Array.size_empty, beq_self_eq_true, Bool.true_and, decide_eq_true_eq]
  omega
theorem TabN.at (T : TabN w L es t) {i : Nat} {p : Ent} (h : L[i]? = some p) : es[i]? = some (row w p) := by
  have e := congrArg (·[i]?) T.rows
  simpa [h] using e
theorem TabN.ent (T : TabN w L es t) {i j : Nat} (h : t.place.toList[i]? = some j) : ∃ p, L[i]? = some p := by
  have h1 := (List.getElem?_eq_some_iff.mp h).1
  have h2 := T.places
  rw [Array.length_toList] at h1
  exact ⟨_, List.getElem?_eq_getElem (by omega)⟩
theorem TabN.stays (T : TabN w L es t) : ¬ t.gaveWay = true := by
  have := mask_odd T.tab.mok
  simp [SetTable.gaveWay, this]
/-- the c-th place on the way of h -/
abbrev prb (t : SetTable) (h : Int) (c : Nat) : SetTable.Probe := nth t.mask (runAt t.mask (SetTable.bits h % (t.mask + 1)) (SetTable.bits h)) c
theorem nth_dummy (m : Nat) : ∀ (c : Nat) (p : SetTable.Probe), p.dummy = none → (nth m p c).dummy = none
  | 0, _, h => h
  | c + 1, p, h => nth_dummy m c _ (by unfold adv; split <;> exact h)
theorem prb_on (t : SetTable) (h : Int) (c q : Nat) : nth t.mask (prb t h c) q = prb t h (c + q) := (nth_add t.mask c _ q).symm
/-- no entry of this hash stands at the places c to d of the way -/
def NoneAt (w : World) (L : List Ent) (t : SetTable) (h : Int) (c d : Nat) : Prop := ∀ (q i : Nat) (p : Ent), c ≤ q → q < d → L[i]? = some p → t.place.toList[i]? = some (way t.mask h q) → p.2.hash w ≠ h
/-- a probe from the c-th place on: the next entry of this hash, or the empty place -/
theorem probe_at (T : TabN w L es t) (h : Int) {c K : Nat} (hc : c ≤ K) (hK : K < 10 * SetTable.turns t.mask) (free : way t.mask h K ∉ t.place.toList) (full : ∀ q, q < K → way t.mask h q ∈ t.place.toList) :
    (∃ q i p, c ≤ q ∧ q < K ∧ L[i]? = some p ∧ t.place.toList[i]? = some (way t.mask h q) ∧ NoneAt w L t h c q ∧ t.probe (fun i => (es[i]?.map (·.1)).getD 0) h (prb t h c) = some (.candidate (way t.mask h q) i (prb t h (q + 1)))) ∨
    (NoneAt w L t h c K ∧ t.probe (fun i => (es[i]?.map (·.1)).getD 0) h (prb t h c) = some (.empty (way t.mask h K) none)) := by
  have key : ∀ {i : Nat} {p : Ent}, L[i]? = some p → (es[i]?.map (·.1)).getD 0 = p.2.hash w := fun {i p} e => by rw [T.at e]; rfl
  have none : ∀ {d : Nat}, (∀ q i : Nat, q < d - c → t.place.toList[i]? = some (nth t.mask (prb t h c) q).j → (es[i]?.map (·.1)).getD 0 ≠ h) → NoneAt w L t h c d := fun {d} g q i p h1 h2 h3 h4 z => by
    refine g (q - c) i (by omega) ?_ ((key h3).trans z)
    rw [prb_on, show c + (q - c) = q by omega]
    exact h4
  rcases go_spec t T.tab.ris T.tab.dm (fun i => (es[i]?.map (·.1)).getD 0) h (10 * SetTable.turns t.mask) (K - c) (prb t h c) (nth_dummy _ _ _ rfl) (by omega) (fun q hq => by rw [prb_on]; exact full _ (by omega)) (by rw [prb_on, show c + (K - c) = K by omega]; exact free) with ⟨q, i, g1, g2, g3, g4, g5⟩ | ⟨g4, g5⟩
  · rw [prb_on] at g2
    obtain ⟨p, hp⟩ := T.ent g2
    rw [prb_on, prb_on] at g5
    exact .inl ⟨c + q, i, p, Nat.le_add_right _ _, by omega, hp, g2, none (fun q' i' z => g4 q' i' (by omega)), g5⟩
  · rw [prb_on, show c + (K - c) = K by omega] at g5
    exact .inr ⟨none g4, g5⟩
end

section
variable {P : Program} {w : World} {A : Around} {E : Value → Shared → Prop} {s : Shared} {a x : Addr} {k : NestedKey} {L : List Ent} {es : Array (Int × Value)} {ep : Nat} {t : SetTable} {o : Obj}
/-- the search, from a place behind which k does not stand -/
theorem hunt (ho : s.heap.get? a = some o) (hd : o.data = .set es ep t) (T : TabN w L es t) (keys : ∀ p ∈ L, IsN s.heap p.2 p.1) (hx : IsN s.heap k x) (hu : A.units + 6 < cLine) {K : Nat} (hK : K < 10 * SetTable.turns t.mask)
    (free : way t.mask (k.hash w) K ∉ t.place.toList) (full : ∀ q, q < K → way t.mask (k.hash w) q ∈ t.place.toList) {Q : SetFound → Shared → Prop}
    (there : k ∈ L.map (·.2) → Q (.there none) s) (gone : k ∉ L.map (·.2) → Q (.free (way t.mask (k.hash w) K) false) s) :
    ∀ (f c : Nat) (st : Option SetTable.Probe), K - c < f → c ≤ K → st.getD (t.probeStart (k.hash w)) = prb t (k.hash w) c → (∀ (q i : Nat) (p : Ent), q < c → L[i]? = some p → t.place.toList[i]? = some (way t.mask (k.hash w) q) → p.2 ≠ k) →
      wpAny (model P w) A (setSearchFrom a (.ref x) (k.hash w) true f st) Q E s := by
  intro f
  induction f with
  | zero => intro c st h; omega
  | succ f ih =>
    intro c st hf hc hst past
    rw [setSearchFrom_succ]
    refine wpAny_bind (wpAny_setState_of ho hd T.fits (wp_if_neg T.stays ?_))
    rw [hst]
    rcases probe_at T (k.hash w) hc hK free full with ⟨q, i, p, c1, c2, hp, hi, no, e⟩ | ⟨no, e⟩
    · rw [e]
      have hpk := keys p (List.mem_of_getElem? hp)
      have on : wpAny (model P w) A (searchRest a (.ref x) (k.hash w) true f es t (way t.mask (k.hash w) q) i (prb t (k.hash w) (q + 1))) Q E s := by
        unfold searchRest
        rw [T.at hp]
        refine wpAny_bind (wpAny_holding (eq_n hpk hx hu (wpAny_bind (wpAny_setState_of ho hd T.fits ?_))))
        by_cases same : p.2 = k
        · exact wp_if_pos (by simp [same]) (wpAny_pure (there (List.mem_map.mpr ⟨p, List.mem_of_getElem? hp, same⟩)))
        · refine wp_if_neg (by simp [same]) ?_
          have live := slot_live T.tab.ris hi
          simp only [SetTable.sameMemory, beq_self_eq_true, if_true, live, T.at hp, row]
          refine wpAny_bind (wpAny_isSame_ref_self (wpAny_bind (wpAny_pure (wp_if_neg (by simp [same]) ?_))))
          refine ih (q + 1) _ (by omega) c2 rfl fun q' i' p' h1 h2 h3 z => ?_
          rcases Nat.lt_or_ge q' c with y | y
          · exact past q' i' p' y h2 h3 z
          rcases Nat.lt_or_ge q' q with y' | y'
          · exact no q' i' p' y y' h2 h3 (by rw [z])
          · obtain rfl : q' = q := by omega
            have two := slot_live T.tab.ris h3
            rw [live] at two
            injection two with two
            rw [← two, hp] at h2
            exact same (by rw [Option.some.inj h2, z])
      by_cases led : t.led = true
      · exact wp_if_neg (by simp [led]) on
      · refine wp_if_pos (by simp [led]) (wpAny_bind (seen_n hx (fun y hy => ?_) (wp_if_neg (by decide) on)))
        obtain ⟨en, h1, rfl⟩ := List.mem_map.mp hy
        have h2 : en ∈ es.toList := by
          have := Array.mem_toList_iff.mp h1
          exact Array.mem_toList_iff.mpr (Array.mem_filter.mp this).1
        rw [T.rows] at h2
        obtain ⟨p2, h3, rfl⟩ := List.mem_map.mp h2
        exact ⟨_, _, rfl, keys p2 h3⟩
    · rw [e]
      refine wpAny_pure (gone fun hm => ?_)
      obtain ⟨p, hp, rfl⟩ := List.mem_map.mp hm
      obtain ⟨i, hil, rfl⟩ := List.getElem_of_mem hp
      have hp' := List.getElem?_eq_getElem hil
      have hlt : i < t.place.toList.length := by rw [Array.length_toList, T.places]; exact hil
      have hj := List.getElem?_eq_getElem hlt
      obtain ⟨q, hq, eq⟩ := T.tab.before free (i := i) (by rw [List.getElem?_map, hp']; rfl) hj
      rw [← eq] at hj
      rcases Nat.lt_or_ge q c with y | y
      · exact past q i _ y hp' hj rfl
      · exact no q i _ y hq hp' hj rfl
theorem filterMap_all {α β : Type} {f : α → Option β} {g : α → β} : ∀ {l : List α}, (∀ i ∈ l, f i = some (g i)) → l.filterMap f = l.map g
  | [], _ => rfl
  | i :: l, h => by rw [List.filterMap_cons_some (h i List.mem_cons_self), List.map_cons, filterMap_all fun j hj => h j (List.mem_cons_of_mem _ hj)]
/-- rows in another order -/
theorem spread (rows : es.toList = L.map (row w)) {order : Array Nat} (hp : order.toList.Perm (List.range L.length)) :
    ∃ M : List Ent, M.Perm L ∧ (order.filterMap (es[·]?)).toList = M.map (row w) ∧ (M.map fun p => p.2.hash w) = order.toList.map fun i => (es.map (·.1)).getD i 0 := by
  have at_ : ∀ {i : Nat}, i ∈ order.toList → ∃ h : i < L.length, L.getD i (0, .none) = L[i] ∧ es[i]? = some (row w L[i]) := fun {i} hi => by
    have hl := List.mem_range.mp (hp.mem_iff.mp hi)
    have e := congrArg (·[i]?) rows
    exact ⟨hl, by simp [List.getD_eq_getElem?_getD, hl], by simpa [hl] using e⟩
  refine ⟨order.toList.map fun i => L.getD i (0, .none), ?_, ?_, ?_⟩
  · have e : (List.range L.length).map (fun i => L.getD i (0, .none)) = L := by
      refine List.ext_getElem (by simp) fun i h1 h2 => ?_
      simp [List.getD_eq_getElem?_getD, h2]
    have := hp.map fun i => L.getD i (0, .none)
    rwa [e] at this
  · rw [Array.toList_filterMap, List.map_map]
    refine filterMap_all fun i hi => ?_
    obtain ⟨_, e1, e2⟩ := at_ hi
    rw [e2, Function.comp_apply, e1]
  · rw [List.map_map]
    refine List.map_congr_left fun i hi => ?_
    obtain ⟨_, e1, e2⟩ := at_ hi
    simp only [Function.comp_apply, e1]
    rw [Array.getD_eq_getD_getElem?, Array.getElem?_map, e2]
    rfl
/-- the table laid anew -/
theorem relay_at (ho : s.heap.get? a = some o) (hex : o.ExactSet) (hd : o.data = .set es ep t) (rows : es.toList = L.map (row w)) (pl : t.place.size = L.length) (dm : t.dummies = #[]) (apart : (L.map (·.2)).Nodup)
    (led : w.params.followText "set-order" = true ∨ t.led = true) (few : L.length < 64) (hm : L.length ≤ t.mask) {wanted M : Nat} (hw : SetTable.sizeAbove wanted - 1 = M) (hM : MaskOk M) (hs : SetTable.sizeAbove wanted ≤ 128) (hr : 5 * L.length < 3 * M) {Q : Unit → Shared → Prop}
    (q : ∀ h' L', Heap.SameBut a s.heap h' → SetD0 w h' a L' → L'.Perm L → Q () { s with heap := h' }) : wpAny (model P w) A (setRelay a wanted) Q E s := by
  have sz : es.size = L.length := by simpa using congrArg List.length rows
  have fits : t.fits es.size = true := by
    simp only [SetTable.fits, SetTable.fill, dm, sz, pl, Array.size_empty, beq_self_eq_true, Bool.true_and, decide_eq_true_eq]
    omega
  obtain ⟨t', order, e, hp, T, em, el, _, _⟩ := relaid_ok t (hs := es.map (·.1)) (wanted := wanted) hw hM (by rw [Array.size_map, sz]; omega)
  rw [Array.size_map, sz] at hp
  obtain ⟨M', pm, r1, r2⟩ := spread rows hp
  have sz' : (order.filterMap (es[·]?)).size = es.size := by
    have := congrArg List.length r1
    rw [Array.length_toList, List.length_map, pm.length_eq, ← sz] at this
    exact this
  rw [setRelay_eq]
  refine wpAny_bind (wpAny_setState_of ho hd fits (wp_if_neg (by rw [sizeLine_eq]; omega) ?_))
  rw [e]
  refine wpAny_bind (wp_if_neg (by rw [sz']; simp) (wpAny_pure ?_))
  refine wpAny_storeSet_of ho hd (q _ M' (Heap.SameBut.update ..) ⟨_, ep + 1, t', ⟨_, store_at ho hd, ⟨hex.1, hex.2.1, hex.2.2⟩, rfl⟩, r1, by rw [r2]; exact T, (pm.map _).nodup_iff.mpr apart, by rw [el]; exact led, by rw [pm.length_eq, em]; exact hr, by rw [pm.length_eq]; exact few⟩ pm) (by rw [sz', sz, sizeLine_eq]; omega)
/-- the new rows are stored, and the table is laid anew if it is too full -/
theorem settle (ho : s.heap.get? a = some o) (hex : o.ExactSet) (hd : o.data = .set es ep t) (T : TabN w L es t) {es1 : Array (Int × Value)} {t1 : SetTable} {L1 : List Ent} (pm : L1.Perm ((x, k) :: L)) (hk : k ∉ L.map (·.2)) (few : L.length + 1 < 64)
    (rows : es1.toList = L1.map (row w)) (tab : TabOk t1 (L1.map fun p => p.2.hash w)) (mask : t1.mask = t.mask) (led : t1.led = t.led) (fill : t1.fill = L.length + 1) {Q : Bool → Shared → Prop}
    (q : ∀ h' L', Heap.SameBut a s.heap h' → SetD0 w h' a L' → L'.Perm ((x, k) :: L) → Q true { s with heap := h' }) :
    wpAny (model P w) A (do
      storeSet a es1 t1
      if (!false && t1.tooFull) = true then do
        setRelay a (SetTable.grown (es.size + 1))
        pure true
      else pure true) Q E s := by
  have len : L1.length = L.length + 1 := pm.length_eq
  have sz : es1.size = L.length + 1 := by rw [← len]; simpa using congrArg List.length rows
  have apart : (L1.map (·.2)).Nodup := (pm.map _).nodup_iff.mpr (List.nodup_cons.mpr ⟨hk, T.apart⟩)
  have ord : w.params.followText "set-order" = true ∨ t1.led = true := by rw [led]; exact T.ord
  have slack := T.slack
  refine wpAny_bind (wpAny_storeSet_of ho hd ?_ (by rw [sz, sizeLine_eq]; omega))
  have sb : Heap.SameBut a s.heap (s.heap.update a (Obj.putSet es1 t1)) := Heap.SameBut.update ..
  have ho1 := store_at (es' := es1) (t' := t1) ho hd
  generalize s.heap.update a (Obj.putSet es1 t1) = h1 at sb ho1 ⊢
  have fullAt : t1.tooFull = decide ((L.length + 1) * 5 ≥ t1.mask * 3) := by unfold SetTable.tooFull; rw [fill]
  by_cases full : (L.length + 1) * 5 ≥ t1.mask * 3
  · refine wp_if_pos (by rw [fullAt]; simpa using full) (wpAny_bind ?_)
    have wide : ∃ M, SetTable.sizeAbove (SetTable.grown (L.length + 1)) - 1 = M ∧ MaskOk M ∧ SetTable.sizeAbove (SetTable.grown (L.length + 1)) ≤ 128 ∧ 5 * (L.length + 1) < 3 * M := by
      rw [mask] at full
      rcases T.tab.mok with e | e | e <;> rw [e] at full slack
      · obtain e4 : L.length = 4 := by omega
        exact ⟨31, by rw [e4, size_20], .inr (.inl rfl), by rw [e4, size_20]; decide, by omega⟩
      · obtain e18 : L.length = 18 := by omega
        exact ⟨127, by rw [e18, size_76], .inr (.inr rfl), by rw [e18, size_76]; decide, by omega⟩
      · omega
    obtain ⟨M, m1, m2, m3, m4⟩ := wide
    rw [T.size]
    refine relay_at (s := { s with heap := h1 }) ho1 ⟨hex.1, hex.2.1, hex.2.2⟩ rfl rows (by have := tab.sz; rwa [List.length_map] at this) tab.dm apart ord (by omega) ?_ m1 m2 m3 (by rw [len]; exact m4) fun h2 L2 sb2 R2 pm2 => wpAny_pure (q h2 L2 (sb.trans sb2) R2 (pm2.trans pm))
    rw [len, mask]
    omega
  · refine wp_if_neg (by rw [fullAt]; simpa using full) (wpAny_pure (q h1 L1 sb ⟨es1, ep + 1, t1, ⟨_, ho1, ⟨hex.1, hex.2.1, hex.2.2⟩, rfl⟩, rows, tab, apart, ord, ?_, by omega⟩ pm))
    rw [len]
    omega
/-- adding -/
theorem add_at (R : SetD0 w s.heap a L) (keys : ∀ p ∈ L, IsN s.heap p.2 p.1) (hx : IsN s.heap k x) (hu : A.units + 6 < cLine) (few : L.length + 1 < 64) {Q : Bool → Shared → Prop}
    (q : ∀ b h' L', Heap.SameBut a s.heap h' → SetD0 w h' a L' → (k ∈ L.map (·.2) → L' = L) → (k ∉ L.map (·.2) → L'.Perm ((x, k) :: L)) → Q b { s with heap := h' }) : wpAny (model P w) A (setAddHashed a (.ref x) (k.hash w)) Q E s := by
  obtain ⟨es, ep, t, ⟨o, ho, hex, hd⟩, T⟩ := R
  have slack := T.slack
  obtain ⟨K, hK, free, full⟩ := T.tab.first (by rw [List.length_map]; omega) (k.hash w)
  have turns : 10 * SetTable.turns t.mask < 100000 := by
    unfold SetTable.turns
    rcases T.tab.mok with e | e | e <;> omega
  unfold setAddHashed
  refine wpAny_holding ?_
  rw [show (100000 : Nat) = 99999 + 1 from rfl, setAddHashedIn_succ]
  refine wpAny_bind (wpAny_setState_of ho hd T.fits (wp_if_neg (by simp [byScan, Value.scannable]) (wpAny_bind ?_)))
  unfold setSearch
  refine hunt ho hd T keys hx hu hK free full (fun hm => wpAny_pure (q false s.heap L (Heap.SameBut.refl a s.heap) ⟨es, ep, t, ⟨o, ho, hex, hd⟩, T⟩ (fun _ => rfl) fun z => absurd hm z)) (fun hm => ?_) 100000 0 none (by omega) (Nat.zero_le _) rfl (fun q' _ _ z => absurd z (Nat.not_lt_zero _))
  refine wpAny_bind (wpAny_setState_of ho hd T.fits ?_)
  dsimp only
  obtain ⟨g1, g2, g3, g4, g5, _, _, _, g9⟩ := T.tab.put free full
  generalize t.put (way t.mask (k.hash w) K) = pt at g1 g3 g4 g5 g9 ⊢
  obtain ⟨t1, j⟩ := pt
  dsimp only at g1 g3 g4 g5 g9 ⊢
  subst g1
  generalize SetTable.below t.place (way t.mask (k.hash w) K) = j at g2 g3 ⊢
  have rows : (SetTable.insertAt es j (k.hash w, Value.ref x)).toList = (L.take j ++ (x, k) :: L.drop j).map (row w) := by
    rw [SetTable.toList_insertAt, T.rows, List.map_append, List.map_cons, List.map_take, List.map_drop]
    rfl
  have hs : (L.take j ++ (x, k) :: L.drop j).map (fun p => p.2.hash w) = (L.map fun p => p.2.hash w).take j ++ k.hash w :: (L.map fun p => p.2.hash w).drop j := by
    rw [List.map_append, List.map_cons, List.map_take, List.map_drop]
  rw [← hs] at g3
  rw [List.length_map] at g9
  have fin := fun (t2 : SetTable) (e1 : TabOk t2 ((L.take j ++ (x, k) :: L.drop j).map fun p => p.2.hash w)) (e2 : t2.mask = t.mask) (e3 : t2.led = t.led) (e4 : t2.fill = L.length + 1) =>
    settle (P := P) (A := A) (E := E) ho hex hd T (put_perm L j (x, k)) hm few rows e1 e2 e3 e4 (Q := Q) fun h' L' sb R' pm => q true h' L' sb R' (fun z => absurd z hm) fun _ => pm
  split
  · refine wpAny_bind (asksHash _ _ _ hx.1 _ _ _ fun b => ?_)
    cases b
    · exact fin _ ⟨g3.ris, g3.dm, g3.sz, g3.mok, g3.bd, g3.reach⟩ g4 g5 g9
    · exact fin _ g3 g4 g5 g9
  · exact wpAny_bind (wpAny_pure (fin _ g3 g4 g5 g9))
end
end NS
end

section
set_option Elab.async false
set_option linter.all false
set_option maxRecDepth 100000
set_option maxHeartbeats 2000000
/-! S2: data without lists (tuples, texts, numbers, truth values), as keys; the tracked set of such tuples. -/
namespace NS
open PySem PySem.Spec PyProof.Rows L2 GenW Evl

/-! ### list-free data -/
mutual
def kb : PyData → Bool
  | .none => true
  | .bool _ => true
  | .int _ => true
  | .str _ => true
  | .tuple ds => kbs ds
  | .list _ => false
  | .dict _ => false
def kbs : List PyData → Bool
  | [] => true
  | d :: ds => kb d && kbs ds
end
mutual
def nk : PyData → NestedKey
  | .none => .none
  | .bool b => .num (if b = true then 1 else 0)
  | .int i => .num i
  | .str x => .text x
  | .tuple ds => .tup (nks ds)
  | .list _ => .none
  | .dict _ => .none
def nks : List PyData → List NestedKey
  | [] => []
  | d :: ds => nk d :: nks ds
end
theorem kbs_cons {d : PyData} {ds : List PyData} : kbs (d :: ds) = true ↔ kb d = true ∧ kbs ds = true := by rw [kbs, Bool.and_eq_true]
theorem kbs_mem : ∀ {ds : List PyData}, kbs ds = true ↔ ∀ d ∈ ds, kb d = true
  | [] => by simp [kbs]
  | d :: ds => by rw [kbs_cons, kbs_mem (ds := ds)]; simp

/-- the tuples stay -/
def TKp (K : PySem.W.Frag) (H H' : Hp) : Prop := ∀ b xs, SqT K H b xs → SqT K H' b xs
theorem TKp.refl {K : PySem.W.Frag} {H : Hp} : TKp K H H := fun _ _ h => h
theorem TKp.trans {K : PySem.W.Frag} {H H1 H2 : Hp} (a : TKp K H H1) (b : TKp K H1 H2) : TKp K H H2 := fun x xs h => b x xs (a x xs h)
theorem TKp.of {K : PySem.W.Frag} {H H' : Hp} (e : Ex H H') : TKp K H H' := fun _ _ h => ex_t e h
theorem TKp.upd {K : PySem.W.Frag} {H : Hp} {a : Addr} {o : HO} (h : ∀ u, H a = some u → (∀ xs, u ≠ .tup xs) ∧ ∀ ob xs, u ≠ .frz ob (.tup xs)) : TKp K H (upd H a o) := fun b xs q => by
  rcases q with (q | ⟨ob, q⟩) | q
  · by_cases e : b = a
    · subst e; exact absurd rfl ((h _ q).1 xs)
    · exact .inl (.inl (by rw [upd_ne e]; exact q))
  · by_cases e : b = a
    · subst e; exact absurd rfl ((h _ q).2 ob xs)
    · exact .inl (.inr ⟨ob, by rw [upd_ne e]; exact q⟩)
  · exact .inr q
theorem TKp.lst {K : PySem.W.Frag} {H : Hp} {a : Addr} {o : HO} {ys : List V} (h : H a = some (.lst ys)) : TKp K H (L2.upd H a o) := .upd fun u q => by
  rw [h] at q; cases q
  exact ⟨fun _ z => (nomatch z), fun _ _ z => (nomatch z)⟩
theorem TKp.new {K : PySem.W.Frag} {H : Hp} {a : Addr} {o : HO} (h : H a = none) : TKp K H (L2.upd H a o) := .of (Ex.new h)
theorem TKp.ext {K : PySem.W.Frag} {H : Hp} {a : Addr} {o : HO} {φ : Heap → Prop} (h : H a = some (.ext φ)) : TKp K H (L2.upd H a o) := .upd fun u q => by
  rw [h] at q; cases q
  exact ⟨fun _ z => (nomatch z), fun _ _ z => (nomatch z)⟩

end NS
namespace L2
open PySem PySem.Spec PyProof.Rows GenW Evl NS
section
variable {K : PySem.W.Frag} {H H' : Hp}
mutual
theorem dp_tk : ∀ (d : PyData) (v : V), NS.kb d = true → TKp K H H' → Dp K H v d → Dp K H' v d
  | .none, _, _, _, h => by cases h; exact .non
  | .bool b, _, _, _, h => by cases h; exact .bl b
  | .int i, _, _, _, h => by cases h; exact .int i
  | .str x, _, _, _, h => by cases h; exact .str x
  | .list ds, _, k, _, _ => by rw [NS.kb] at k; cases k
  | .dict _, _, _, _, h => by cases h
  | .tuple ds, _, k, e, h => by
    cases h with
    | tup hs ha => exact .tup (e _ _ hs) (dpAll_tk ds _ (by rwa [NS.kb] at k) e ha)
theorem dpAll_tk : ∀ (ds : List PyData) (vs : List V), NS.kbs ds = true → TKp K H H' → DpAll K H vs ds → DpAll K H' vs ds
  | [], _, _, _, h => by cases h; exact .nil
  | d :: ds, _, k, e, h => by
    cases h with
    | cons h1 h2 => exact .cons (dp_tk d _ (kbs_cons.mp k).1 e h1) (dpAll_tk ds _ (kbs_cons.mp k).2 e h2)
end
mutual
theorem dp_ex : ∀ (d : PyData) (v : V), Ex H H' → Dp K H v d → Dp K H' v d
  | .none, _, _, h => by cases h; exact .non
  | .bool b, _, _, h => by cases h; exact .bl b
  | .int i, _, _, h => by cases h; exact .int i
  | .str x, _, _, h => by cases h; exact .str x
  | .dict _, _, _, h => by cases h
  | .list ds, _, e, h => by
    cases h with
    | lst hs ha => exact .lst (ex_l e hs) (dpAll_ex ds _ e ha)
  | .tuple ds, _, e, h => by
    cases h with
    | tup hs ha => exact .tup (ex_t e hs) (dpAll_ex ds _ e ha)
theorem dpAll_ex : ∀ (ds : List PyData) (vs : List V), Ex H H' → DpAll K H vs ds → DpAll K H' vs ds
  | [], _, _, h => by cases h; exact .nil
  | d :: ds, _, e, h => by
    cases h with
    | cons h1 h2 => exact .cons (dp_ex d _ e h1) (dpAll_ex ds _ e h2)
end
theorem DpAll.length : ∀ {vs : List V} {ds : List PyData}, DpAll K H vs ds → vs.length = ds.length
  | _, _, .nil => rfl
  | _, _, .cons _ t => congrArg (· + 1) (DpAll.length t)
theorem DpAll.get : ∀ {vs : List V} {ds : List PyData} {i : Nat} {d : PyData}, DpAll K H vs ds → ds[i]? = some d → ∃ v, vs[i]? = some v ∧ Dp K H v d
  | _, _, _, _, .nil, e => by simp at e
  | _, _, 0, _, .cons r _, e => by simp at e; subst e; exact ⟨_, rfl, r⟩
  | _, _, i + 1, d, .cons _ t, e => by
    obtain ⟨v, h1, h2⟩ := DpAll.get (i := i) (d := d) t (by simpa using e)
    exact ⟨v, by simpa using h1, h2⟩
theorem DpAll.getV : ∀ {vs : List V} {ds : List PyData} {i : Nat} {v : V}, DpAll K H vs ds → vs[i]? = some v → ∃ d, ds[i]? = some d ∧ Dp K H v d
  | _, _, _, _, .nil, e => by simp at e
  | _, _, 0, _, .cons r _, e => by simp at e; subst e; exact ⟨_, rfl, r⟩
  | _, _, i + 1, v, .cons _ t, e => by
    obtain ⟨d, h1, h2⟩ := DpAll.getV (i := i) (v := v) t (by simpa using e)
    exact ⟨d, by simpa using h1, h2⟩
theorem DpAll.append : ∀ {vs ws : List V} {ds es : List PyData}, DpAll K H vs ds → DpAll K H ws es → DpAll K H (vs ++ ws) (ds ++ es)
  | _, _, _, _, .nil, b => b
  | _, _, _, _, .cons r t, b => .cons r (DpAll.append t b)
theorem DpAll.one {v : V} {d : PyData} (h : Dp K H v d) : DpAll K H [v] [d] := .cons h .nil
theorem Dp.lstI {v : V} {ds : List PyData} (h : Dp K H v (.list ds)) : ∃ a xs, v = .ref a ∧ SqL K H a xs ∧ DpAll K H xs ds := by
  cases h with
  | lst h1 h2 => exact ⟨_, _, rfl, h1, h2⟩
theorem Dp.tupI {v : V} {ds : List PyData} (h : Dp K H v (.tuple ds)) : ∃ a xs, v = .ref a ∧ SqT K H a xs ∧ DpAll K H xs ds := by
  cases h with
  | tup h1 h2 => exact ⟨_, _, rfl, h1, h2⟩
theorem Dp.blI {v : V} {b : Bool} (h : Dp K H v (.bool b)) : v = .bl b := by cases h; rfl
theorem Dp.intI {v : V} {i : Int} (h : Dp K H v (.int i)) : v = .int i := by cases h; rfl
theorem Dp.strI {v : V} {x : Str} (h : Dp K H v (.str x)) : v = .str x := by cases h; rfl
end

section
variable {X : Cx} {pins : List (Addr × Obj)} {σ : L2.St} {H : Hp} {s : Shared}
mutual
theorem Dp.nested (I : L2.Inv X pins σ H s) : ∀ (d : PyData) (v : V) (u : Value), kb d = true → Dp X.K H v d → RelV v u → NestedIs s.heap (nk d) u
  | .none, _, _, _, h, r => by cases h; cases r; exact .none
  | .bool b, _, _, _, h, r => by cases h; cases r; exact .bool rfl
  | .int i, _, _, _, h, r => by cases h; obtain ⟨t, rfl⟩ := r; exact .int i t
  | .str x, _, _, _, h, r => by cases h; obtain ⟨t, rfl⟩ := r; exact .text x t
  | .list ds, _, _, k, _, _ => by rw [kb] at k; cases k
  | .dict _, _, _, _, h, _ => by cases h
  | .tuple ds, _, _, k, h, r => by
    cases h with
    | tup hs ha =>
      cases r
      obtain ⟨its, rv, ⟨o, ho, hc, n, hd⟩, _⟩ := I.tuple hs
      exact .tup ho hc hd (by simpa using Dp.nesteds I ds _ its (by rwa [kb] at k) ha rv)
theorem Dp.nesteds (I : L2.Inv X pins σ H s) : ∀ (ds : List PyData) (vs : List V) (us : List Value), kbs ds = true → DpAll X.K H vs ds → Vals vs us → NestedAll s.heap (nks ds) us
  | [], _, _, _, h, r => by cases h; cases r; exact .nil
  | d :: ds, _, _, k, h, r => by
    cases h with
    | cons h1 h2 =>
      cases r with
      | cons r1 r2 => exact .cons (Dp.nested I d _ _ (kbs_cons.mp k).1 h1 r1) (Dp.nesteds I ds _ _ (kbs_cons.mp k).2 h2 r2)
end
end
end L2
namespace NS
open PySem PySem.Spec PyProof.Rows L2 GenW Evl
section
variable {X : Cx} {pins : List (Addr × Obj)} {σ : L2.St} {H : Hp} {s : Shared}
/-- a key of a set: a tuple, not deep -/
def keyed (d : PyData) : Bool := kb d && decide ((nk d).depth ≤ 6)
theorem keyed_kb {d : PyData} (h : keyed d = true) : NS.kb d = true := (Bool.and_eq_true_iff.mp h).1
theorem keyed_dep {d : PyData} (h : keyed d = true) : (nk d).depth ≤ 6 := of_decide_eq_true (Bool.and_eq_true_iff.mp h).2
theorem _root_.L2.Dp.isN (I : L2.Inv X pins σ H s) {d : PyData} {b : Addr} (k : keyed d = true) (h : Dp X.K H (.ref b) d) : IsN s.heap (nk d) b := ⟨Dp.nested I d _ _ (keyed_kb k) h rfl, keyed_dep k⟩
end

/-! ### the tracked set -/
abbrev LK (L : List (Addr × PyData)) : List (Addr × NestedKey) := L.map fun p => (p.1, nk p.2)
def SetDO (w : World) (a : Addr) (L : List (Addr × PyData)) : HO := .ext fun h => SetD0 w h a (LK L)
theorem setDO_new {P : Program} {w : World} {H : Hp} {h : Heap} {a : Addr} {L : List (Addr × PyData)} (R : SetD0 w h a (LK L)) : ObjOk P w H h a (SetDO w a L) := by
  have ⟨es, ep, t, ⟨o, ho, r⟩, q⟩ := R
  refine ⟨R, ⟨o, ho⟩, fun h1 h2 p k => ?_⟩
  have ⟨es', ep', t', ⟨o', ho', r'⟩, q'⟩ := p
  exact ⟨es', ep', t', ⟨o', k o' ho', r'⟩, q'⟩
/-- nothing is in a fresh table -/
theorem tabN_nil (w : World) : TabN w [] #[] (.fresh 0 0 (!w.params.followText "set-order")) where
  rows := rfl
  tab := { ris := .nil, dm := rfl, sz := rfl, mok := .inl rfl, bd := fun _ h => (nomatch h), reach := fun _ _ _ h => by simp at h }
  apart := .nil
  ord := by cases e : w.params.followText "set-order" <;> simp [SetTable.fresh]
  slack := show 5 * 0 < 3 * 7 by decide
  few := by decide
theorem setD_fresh {h : Heap} (w : World) : SetD0 w (h.push { cls := .type "set", dict := none, data := .set #[] 0 (.fresh 0 0 (!w.params.followText "set-order")) }) h.objs.size [] :=
  ⟨_, _, _, ⟨_, Heap.get?_push_size _ rfl, ⟨rfl, rfl, rfl⟩, rfl⟩, tabN_nil w⟩

/-- x put into L -/
def Put (L : List (Addr × PyData)) (b : Addr) (d : PyData) (L' : List (Addr × PyData)) : Prop :=
  (nk d ∈ L.map (fun p => nk p.2) → L' = L) ∧ (nk d ∉ L.map (fun p => nk p.2) → L'.Perm ((b, d) :: L))
section
variable {X : Cx} {pins : List (Addr × Obj)} {σ : L2.St} {H : Hp} {s : Shared} {E : Value → Shared → Prop}
theorem setD_get (I : L2.Inv X pins σ H s) {a : Addr} {L : List (Addr × PyData)} (ha : H a = some (SetDO X.w a L)) : SetD0 X.w s.heap a (LK L) := (I.hok a _ ha).1
/-- behind the search: a permutation of addresses and keys comes from one of addresses and data -/
theorem lk_perm {α β γ : Type} (f : α × β → γ) : ∀ {M : List γ} {L : List (α × β)}, M.Perm (L.map f) → ∃ L' : List (α × β), L'.Perm L ∧ M = L'.map f := by
  intro M L h
  generalize hN : L.map f = N at h
  induction h generalizing L with
  | nil => exact ⟨L, .refl _, hN.symm⟩
  | cons x _ ih =>
    cases L with
    | nil => cases hN
    | cons l L =>
      simp only [List.map_cons, List.cons.injEq] at hN
      obtain ⟨L', p, e⟩ := ih hN.2
      exact ⟨l :: L', p.cons _, by simp [hN.1, e]⟩
  | swap x y l =>
    cases L with
    | nil => cases hN
    | cons a L =>
      cases L with
      | nil => cases hN
      | cons b L =>
        simp only [List.map_cons, List.cons.injEq] at hN
        exact ⟨b :: a :: L, .swap _ _ _, by simp [hN.1, hN.2.1, hN.2.2]⟩
  | trans _ _ ih1 ih2 =>
    obtain ⟨M1, p1, e1⟩ := ih2 hN
    obtain ⟨M2, p2, e2⟩ := ih1 e1.symm
    exact ⟨M2, p2.trans p1, e2⟩
/-- set.add's heart -/
theorem addD_hashed {D b : Addr} {L : List (Addr × PyData)} {d : PyData} {Q : Bool → Shared → Prop} (I : L2.Inv X pins σ H s) (hu : X.A.units + 6 < cLine) {A : Around} (hA : A.units + 6 < cLine) (hD : H D = some (SetDO X.w D L)) (hk : ∀ p ∈ L, keyed p.2 = true ∧ Dp X.K H (.ref p.1) p.2) (hb : keyed d = true) (hd : Dp X.K H (.ref b) d) (room : L.length + 1 < 64)
    (h : ∀ r h' L', Heap.SameBut D s.heap h' → SetD0 X.w h' D (LK L') → Put L b d L' → Q r { s with heap := h' }) : wpAny (model X.prog X.w) A (setAddHashed D (.ref b) ((nk d).hash X.w)) Q E s := by
  have e1 : (LK L).map (·.2) = L.map fun p => nk p.2 := by rw [List.map_map]; rfl
  refine add_at (setD_get I hD) (fun p hp => ?_) (Dp.isN I hb hd) hA (by rw [List.length_map]; exact room) fun r h' M sb R' c1 c2 => ?_
  · obtain ⟨q, hq, rfl⟩ := List.mem_map.mp hp
    exact Dp.isN I (hk q hq).1 (hk q hq).2
  rw [e1] at c1 c2
  by_cases hm : nk d ∈ L.map (fun p => nk p.2)
  · have e2 := c1 hm
    subst e2
    exact h r h' L sb R' ⟨fun _ => rfl, fun z => absurd hm z⟩
  · obtain ⟨L', p, e2⟩ := lk_perm (fun p : Addr × PyData => (p.1, nk p.2)) (L := (b, d) :: L) (c2 hm)
    subst e2
    exact h r h' L' sb R' ⟨fun z => absurd z hm, fun _ => p⟩
/-- set.add -/
theorem addD_ok {D b : Addr} {L : List (Addr × PyData)} {d : PyData} {Q : Value → Shared → Prop} (I : L2.Inv X pins σ H s) (hu : X.A.units + 64 < cLine) (hD : H D = some (SetDO X.w D L)) (hk : ∀ p ∈ L, keyed p.2 = true ∧ Dp X.K H (.ref p.1) p.2) (hb : keyed d = true) (hd : Dp X.K H (.ref b) d) (room : L.length + 1 < 64)
    (h : ∀ s' L', Put L b d L' → L2.Inv X pins σ (upd H D (SetDO X.w D L')) s' → Q .none s') : wpAny (model X.prog X.w) X.A (call (.builtin "set.add") [.ref D, .ref b]) Q E s := by
  obtain ⟨_, _, _, ⟨o, ho, hex, _⟩, _⟩ := setD_get I hD
  refine wpAny_call_entry F.slot_set_add ⟨o, ho, hex.1⟩ F.entry_set_add ?_ (F.args_set_add_2 _ _)
  simp only [Builtin.«set.add», Builtin.Frozenset.oneOther, Builtin.Frozenset.addrOf, setAdd, List.isEmpty_nil, bind_assoc]
  refine wpAny_bind (wpAny_pure (wpAny_bind (wpAny_pure (wpAny_bind (wpAny_holding (wpAny_bind (hash_n (Dp.isN I hb hd) (by simp only [Around.in1_units]; omega) ?_)))))))
  refine addD_hashed (s := { s with toks := s.toks + (nk d).draws }) (I.tok _) (by omega) (by simp only [Around.in1_units]; omega) hD hk hb hd room fun r h' L' sb R' pt => ?_
  have ⟨_, _, _, ⟨o', ho', _⟩, _⟩ := R'
  exact wpAny_pure ⟨_, rfl, h _ L' pt (I.write (e := D) (t' := s.toks + (nk d).draws) (by rw [hD]; trivial) (.inl rfl) (fun b u hb hu => (sb.2 b hb).trans hu) ⟨o', ho'⟩ (setDO_new R'))⟩
end
end NS
end

section
set_option Elab.async false
set_option linter.all false
set_option maxRecDepth 100000
set_option maxHeartbeats 2000000
/-! S3: set comprehensions whose elements are nested tuples: a clause at any depth, the block, one for. -/
namespace NS
open PySem PySem.Spec PyProof.Rows L2 GenW Evl
/-- nothing is raised -/
abbrev noE : Value → Shared → Prop := fun _ _ => False
section
variable {prog : Program} {w : World} {A : Around} {R : Result → Shared → Prop} {s : Shared} {elt : Expr} {gens : List Comprehension} {scope : Scope} {pos : Pos} {it acc : Value} {env : Env} {d : Nat} {tg iter : Expr} {ifs : List Expr}
/-- a clause's loop; Bd: what stands behind its tests -/
theorem clause_loop (hg : gens[d]? = some ⟨tg, iter, ifs, 0⟩) (I Bd : Nat → Shared → Prop)
    (turn : ∀ n s, I n s → wpAny (model prog w) A (pyNext it) (fun r s1 => match r with
      | none => R (.ok .next) s1
      | some v => wpAny (model prog w) A (letOwnedTupleGo tg it v) (fun _ s2 => wpAny (model prog w) A (assign tg env v) (fun _ s3 =>
          wpAny (model prog w) A (forIn ifs true fun c r => if r = true then do let ok ← isTrue c env (eval c env); pure (ForInStep.yield ok) else pure (ForInStep.yield r))
            (fun ok s4 => if ok = true then Bd n s4 else ∃ m, m < n ∧ I m s4) noE s3) noE s2) noE s1) noE s)
    (body : (gens[d + 1]? = none ∧ ∀ n s, Bd n s → wpAny (model prog w) A (eval elt env) (fun v s1 => wpAny (model prog w) A (call (.builtin "set.add") [acc, v]) (fun _ s2 => ∃ m, m < n ∧ I m s2) noE s1) noE s) ∨
      ∃ tg1 iter1 ifs1, gens[d + 1]? = some ⟨tg1, iter1, ifs1, 0⟩ ∧ (∀ x, foldedSetIterable iter1 env x = pure x) ∧ ∀ n s, Bd n s → wpAny (model prog w) A (eval iter1 env) (fun x s1 => wpAny (model prog w) A (pyIter x)
        (fun it1 s2 => codeAny (model prog w) A (.compStart (.SetComp elt gens scope pos) (d + 1) it1 acc env) (fun r s3 => (∃ f, r = .ok f) ∧ ∃ m, m < n ∧ I m s3) s2) noE s1) noE s)
    (n : Nat) (h : I n s) : codeAny (model prog w) A (.compLoop (.SetComp elt gens scope pos) d it acc env) R s := by
  refine codeAny_loop rfl I (fun n s hI => ?_) n h
  show wpAny _ A ((compTurn (.SetComp elt gens scope pos) d it acc env).onRaise fun x => do noteFrame x env; theTreesLotGoes x) _ _ s
  refine wpAny_noted (wpAny_mono (E := noE) ?_ (fun _ _ z => z) fun _ _ z => z.elim)
  simp only [compTurn, hg, bne_self_eq_false, Bool.false_eq_true, if_false]
  refine wpAny_bind (wpAny_standAt (wpAny_bind (thn (turn n s hI) fun r s1 h1 => ?_)))
  cases r with
  | none => exact wpAny_pure h1
  | some v =>
    refine wpAny_bind (thn h1 fun _ s2 h2 => wpAny_bind (thn h2 fun _ s3 h3 => wpAny_bind (thn h3 fun ok s4 h4 => ?_)))
    cases ok with
    | false => exact wpAny_pure ⟨rfl, h4⟩
    | true =>
      rcases body with ⟨hn, hb⟩ | ⟨tg1, iter1, ifs1, hn, hs, hb⟩
      · simp only [hn, if_true]
        exact wpAny_bind (wpAny_bind (thn (hb n s4 h4) fun v s5 h5 => wpAny_bind (wpAny_standAt (wpAny_bind (thn h5 fun _ s6 h6 => wpAny_pure (wpAny_pure ⟨rfl, h6⟩))))))
      · simp only [hn, if_true, bne_self_eq_false, Bool.false_eq_true, if_false]
        refine wpAny_bind (thn (hb n s4 h4) fun x s5 h5 => wpAny_bind (wpAny_standAt (wpAny_bind (wpAny_of_eq (hs x) (wpAny_bind (wpAny_holding (thn h5 fun it1 s6 h6 => wpAny_bind (wpAny_runOwn ?_))))))))
        rw [Around.mark_none]
        refine codeAny_mono h6 fun r s7 ⟨⟨f, e⟩, h7⟩ => ?_
        subst e
        first
          | exact wpAny_pure ⟨rfl, h7⟩
          | exact wpAny_bind (wpAny_pure (wpAny_pure ⟨rfl, h7⟩))
/-- a clause's start, over an iterator of its own -/
theorem clause_start (hg : gens[d]? = some ⟨tg, iter, ifs, 0⟩) (loop : codeAny (model prog w) A (.compLoop (.SetComp elt gens scope pos) d it acc env) R s)
    (self : ∀ (Q : Value → Shared → Prop) (E : Value → Shared → Prop), Q it s → wpAny (model prog w) A (pyIter it) Q E s) : codeAny (model prog w) A (.compStart (.SetComp elt gens scope pos) d it acc env) R s := by
  refine codeAny_of_tree ?_
  show wpAny _ A ((compStart (.SetComp elt gens scope pos) d it acc env).onRaise fun x => do noteFrame x env; standAt theWindowsPlace) _ _ s
  refine wpAny_notedAt (wpAny_mono (E := noE) ?_ (fun _ _ z => z) fun _ _ z => z.elim)
  have hc : (clausesOf (.SetComp elt gens scope pos))[d]? = some ⟨tg, iter, ifs, 0⟩ := hg
  simp only [compStart, hc, Option.elim_some, bne_self_eq_false, Bool.false_eq_true, if_false]
  refine wpAny_bind (wpAny_askSetting (wpAny_ite ?_))
  split
  · first
      | exact wpAny_pure ⟨rfl, loop⟩
      | exact wpAny_bind (wpAny_pure (wpAny_pure ⟨rfl, loop⟩))
  · exact wpAny_bind (wpAny_rule (wpAny_bind (wpAny_standAt (wpAny_bind (self _ _ (wpAny_pure ⟨rfl, loop⟩))))))
end

/-! ### a clause's loop in a context that lets nothing out -/
/-- between two turns -/
def Lp (Y : Cx) (pins : List (Addr × Obj)) (σ0 : L2.St) (tn : Nat → Heap → Prop) (fp : List Addr) (W : Nat → Nat → Hp → Prop) (n : Nat) (s : Shared) : Prop := ∃ i H, L2.Inv Y pins σ0 H s ∧ tn i s.heap ∧ (∀ b ∈ fp, H b = none) ∧ W i n H
/-- σ' knows what σ0 knows -/
def Kn (σ0 σ' : L2.St) : Prop := σ0.length = σ'.length ∧ ∀ (j : Nat) v, σ0[j]? = some (some v) → σ'[j]? = some (some v)
theorem Kn.wiped {σ : L2.St} {vs : List Nat} : Kn (wipe σ vs) σ := ⟨wipe_length _ _, fun _ _ e => (wipe_some e).1⟩
/-- behind the tests: B of the word N, from which the next turn is reached -/
def Bh (Y : Cx) (pins : List (Addr × Obj)) (σ0 : L2.St) (tn : Nat → Heap → Prop) (fp : List Addr) (W : Nat → Nat → Hp → Prop) (vs : List Nat) (B : (Hp → Prop) → L2.St → Hp → Prop) (n : Nat) (s : Shared) : Prop :=
  ∃ (N : Hp → Prop) (σ2 : L2.St) (H2 : Hp) (pl : List (Addr × Obj)), L2.Inv Y (pins ++ pl) σ2 H2 s ∧ wipe σ2 vs = σ0 ∧ B N σ2 H2 ∧ ∀ σ' H' s', L2.Inv Y (pins ++ pl) σ' H' s' → Kn σ0 σ' → N H' → ∃ m, m < n ∧ Lp Y pins σ0 tn fp W m s'
section
variable {Y : Cx} {pins : List (Addr × Obj)} {σ0 : L2.St} {tn : Nat → Heap → Prop} {fp : List Addr} {W : Nat → Nat → Hp → Prop} {tg : Expr} {ifs : List Expr} {g : TG} {tt : TT} {J : It} {it : Addr} {vs : List Nat} {Z : Hp → Prop} {B : (Hp → Prop) → L2.St → Hp → Prop}
theorem clause_turn (hc : Y.calm = true) (hx : Y.xe = noE) (hg : PG Y tg g) (ht : PTs Y ifs tt) (T : Turn Y.prog Y.w Y.K tg J fp it tn) (free : ∀ H', (∀ b ∈ fp, H' b = none) → ∀ b ∈ fp, FpOk Y pins H' b)
    (word : ∀ i m H, W i m H → (J.stop i H ∧ Z H) ∨ (J.go i H ∧ ∃ N : Hp → Prop, (∀ H', N H' → ∃ m', m' < m ∧ W (i + 1) m' H') ∧ ∀ x H', J.yld i H x H' → g x σ0 H' fun σ2 H2 => wipe σ2 vs = σ0 ∧ tt σ2 H2 fun b H3 => if b = true then B N σ2 H3 else N H3))
    (R : Shared → Prop) (stop : ∀ H s, L2.Inv Y pins σ0 H s → Z H → R s) (n : Nat) (s : Shared) (h : Lp Y pins σ0 tn fp W n s) :
    wpAny (model Y.prog Y.w) Y.A (pyNext (.ref it)) (fun r s1 => match r with
      | none => R s1
      | some v => wpAny (model Y.prog Y.w) Y.A (letOwnedTupleGo tg (.ref it) v) (fun _ s2 => wpAny (model Y.prog Y.w) Y.A (assign tg Y.env v) (fun _ s3 =>
          wpAny (model Y.prog Y.w) Y.A (forIn ifs true fun c r => if r = true then do let ok ← isTrue c Y.env (eval c Y.env); pure (ForInStep.yield ok) else pure (ForInStep.yield r))
            (fun ok s4 => if ok = true then Bh Y pins σ0 tn fp W vs B n s4 else ∃ m, m < n ∧ Lp Y pins σ0 tn fp W m s4) noE s3) noE s2) noE s1) noE s := by
  obtain ⟨i, H, I, st, fr, wd⟩ := h
  rcases word i n H wd with ⟨sp, z⟩ | ⟨go, N, hN, step⟩
  · exact thnF (T.done Y rfl rfl rfl hc i pins s σ0 H noE I (free H fr) st sp) fun r s1 ⟨e, I1⟩ => by subst e; exact stop H s1 I1 z
  refine thnF (T.item Y rfl rfl rfl hc i pins s σ0 H noE I (free H fr) st go) fun r s1 ⟨u, e, h1⟩ => ?_
  subst e
  refine thnF h1 fun _ s2 ⟨x, H2, I2, rx, y, st2, fr2⟩ => ?_
  have a1 := hg.run _ s2 σ0 H2 x u _ (I2.pinned (free H2 fr2) (T.obj _ _ st2)) rx (step x H2 y)
  rw [hx] at a1
  refine thnF a1 fun _ s3 ⟨σ3, H3, I3, hw, q3⟩ => ?_
  have a2 := ht.run _ s3 σ3 H3 _ I3 q3
  rw [hx] at a2
  refine thnF a2 fun b s4 ⟨H4, I4, q4⟩ => ?_
  have next : ∀ σ' H' s', L2.Inv Y (pins ++ pinsAt fp s2.heap) σ' H' s' → Kn σ0 σ' → N H' → ∃ m, m < n ∧ Lp Y pins σ0 tn fp W m s' := fun σ' H' s' I' kn nx => by
    obtain ⟨m, hm, w'⟩ := hN H' nx
    have kept : ∀ b ∈ fp, ∀ o, s2.heap.get? b = some o → s'.heap.get? b = some o ∧ H' b = none := fun b hb o e =>
      have z := I'.pin (b, o) (List.mem_append_right _ (List.mem_append_right _ (mem_pinsAt hb e)))
      ⟨z.1, z.2.1⟩
    exact ⟨m, hm, i + 1, H', I'.unpinned.weak kn.1 kn.2, T.keep _ _ _ st2 fun b hb o e => (kept b hb o e).1, fun b hb => let ⟨o, e, _⟩ := T.obj _ _ st2 b hb; (kept b hb o e).2, w'⟩
  cases b with
  | true => exact ⟨N, σ3, H4, _, I4, hw, q4, next⟩
  | false => exact next σ3 H4 s4 I4 (by rw [← hw]; exact .wiped) q4
end

/-! ### the block -/
section
variable {X : Cx} {pins : List (Addr × Obj)} {s : Shared} {σ : L2.St} {H : Hp} {elt tg iter : Expr} {ifs : List Expr} {gens : List Comprehension} {scope : Scope} {own : List (PySem.Str × Nat)} {pos pos' : Pos} {wi : TI} {use : Option (Value → Sem Unit)} {Qf : Value → Shared → Prop}
/-- a set comprehension, up to its first clause's loop -/
theorem set_block (hN : X.N.Nodup) (I : L2.Inv X pins σ H s) (hi : PI X tg iter wi) (ok : BlkOk X.N X.env.scope scope own) (hs : ∀ x, foldedSetIterable iter X.env x = pure x) {Lw : It → Addr → Hp → Prop}
    (h : wi σ H fun J H1 => ∀ D, H1 D = none → Lw J D (upd H1 D (SetDO X.w D [])))
    (run : ∀ (J : It) (D C : Addr) (cl : List (PySem.Str × Addr)) (fp : List Addr) (it : Addr) (tn : Nat → Heap → Prop) (s3 s4 : Shared) (H3 : Hp), Lw J D H3 → Turn X.prog X.w X.K tg J fp it tn → L2.Inv (X.blk s3 H3 scope (compEnvC scope cl C X.env) fp) [] (wipe σ (own.map (·.2))) H3 s4 → tn 0 s4.heap → (∀ b ∈ fp, H3 b = none) →
      (∀ H', (∀ b ∈ fp, H' b = none) → ∀ b ∈ fp, FpOk (X.blk s3 H3 scope (compEnvC scope cl C X.env) fp) [] H' b) →
      (∀ H' s', L2.Inv (X.blk s3 H3 scope (compEnvC scope cl C X.env) fp) [] (wipe σ (own.map (·.2))) H' s' → L2.Inv X pins σ H' s' ∧ ∃ m, s'.heap.Ns C m ∧ FpOk X pins H' C) →
      codeAny (model X.prog X.w) X.A (.compLoop (.SetComp elt (⟨tg, iter, ifs, 0⟩ :: gens) scope pos) 0 (.ref it) (.ref D) (compEnvC scope cl C X.env)) (compPost (model X.prog X.w) X.A X.xe use Qf (.ref D) C) s4) :
    wpAny (model X.prog X.w) X.A (comprehension (.SetComp elt (⟨tg, iter, ifs, 0⟩ :: gens) scope pos) scope X.env pos' (newSet (.type "set")) false (eval iter X.env) use) Qf X.xe s := by
  refine wpAny_comprehension_free (use := use) rfl hs (closure_ok fun y hy e => I.ok.has _ (ok.free y hy e)) ok.kind (fun y hy e => by rw [ok.uniq y hy, e])
    (thn (hi.run pins s σ H _ I h) fun xv s1 hx => thn hx fun itv s2 ⟨it, fp, tn, J, H2, e, I2, T, st2, f2, lw⟩ => ?_)
  subst e
  refine PpSet.newSet_ok (newEnv_comp ?_)
  have lw := lw _ (I2.hok.fresh (Nat.le_refl s2.heap.objs.size))
  have I3 : L2.Inv X pins σ (upd H2 s2.heap.objs.size (SetDO X.w s2.heap.objs.size [])) { s2 with heap := s2.heap.push { cls := .type "set", dict := none, data := .set #[] 0 (.fresh 0 0 (!X.w.params.followText "set-order")) } } :=
    I2.laid (t' := s2.toks) (fun b o e => Heap.get?_push_of_some _ e) (Nat.le_refl _) (setDO_new (L := []) (setD_fresh X.w))
  have old : ∀ b ∈ fp, b < s2.heap.objs.size := fun b hb => let ⟨_, e, _⟩ := T.obj _ _ st2 b hb; Heap.lt_size e
  have st3 := T.keep _ _ (s2.heap.push { cls := .type "set", dict := none, data := .set #[] 0 (.fresh 0 0 (!X.w.params.followText "set-order")) }) st2 fun b _ o e => Heap.get?_push_of_some _ e
  have f3 : ∀ b ∈ fp, FpOk X pins (upd H2 s2.heap.objs.size (SetDO X.w s2.heap.objs.size [])) b ∧ b < (s2.heap.push { cls := .type "set", dict := none, data := .set #[] 0 (.fresh 0 0 (!X.w.params.followText "set-order")) }).objs.size := fun b hb =>
    ⟨⟨(upd_ne (Nat.ne_of_lt (old b hb))).trans (f2 b hb).1, (f2 b hb).2⟩, by rw [Heap.size_push]; exact Nat.lt_succ_of_lt (old b hb)⟩
  generalize upd H2 s2.heap.objs.size (SetDO X.w s2.heap.objs.size []) = H3 at lw I3 f3
  generalize s2.heap.objs.size = D at lw ⊢
  have I4 := block_start I3 ok hN f3
  have st4 := T.keep _ _ (pushCells ((s2.heap.push { cls := .type "set", dict := none, data := .set #[] 0 (.fresh 0 0 (!X.w.params.followText "set-order")) }).push { cls := .type "dict", data := .dict #[] }) scope.names) st3 fun b _ o e => pushCells_keeps _ _ _ _ (Heap.get?_push_of_some _ e)
  refine clause_start rfl (run J D _ _ fp it tn _ _ H3 lw T I4 st4 (fun b hb => (f3 b hb).1.1) (fun H' fr b hb => ⟨fr b hb, (I4.ok.exf b hb).1, I4.ok.exfs b hb, .inl hb, fun x c e => (I4.ok.exf b hb).2 x c e, fun p hp => (nomatch hp)⟩) fun H' s' I' => ⟨I3.call' (ch := fp) I'.os I'.base I'.hok I'.bare fun b hb => ?_, ?_⟩) fun Q E q => T.self X.A 0 _ Q E st4 q
  · have f := (f3 b hb).1
    exact ⟨f.2.2.2.1, f.2.1, f.2.2.2.2.1, f.2.2.2.2.2⟩
  · obtain ⟨m, hn, _⟩ := I'.loc
    exact ⟨m, hn, I3.fpOk (Nat.le_refl _) I'.free⟩

/-- the reading of {elt for tg in iter if ..}: elt a nested tuple, D the new set -/
abbrev LwD (w : World) (K : PySem.W.Frag) (g : TG) (tt : TT) (te : TE) (vs : List Nat) (σ : L2.St) (Q : VK) : It → Addr → Hp → Prop := fun J D H0 => ∃ W : Nat → Nat → Hp → Prop, (∃ m, W 0 m H0) ∧ ∀ i m H, W i m H →
  (J.stop i H ∧ Q (.ref D) H) ∨ (J.go i H ∧ ∃ Nx : Hp → Prop, (∀ H', Nx H' → ∃ m', m' < m ∧ W (i + 1) m' H') ∧ ∀ x H', J.yld i H x H' → g x (wipe σ vs) H' fun σ2 H2 => wipe σ2 vs = wipe σ vs ∧ tt σ2 H2 fun b H3 =>
    if b = true then te σ2 H3 fun y H4 => ∃ (b : Addr) (d : PyData) (L : List (Addr × PyData)), y = .ref b ∧ Dp K H4 (.ref b) d ∧ keyed d = true ∧ H4 D = some (SetDO w D L) ∧ (∀ p ∈ L, keyed p.2 = true ∧ Dp K H4 (.ref p.1) p.2) ∧ L.length + 1 < 64 ∧ ∀ L', Put L b d L' → Nx (upd H4 D (SetDO w D L')) else Nx H3)
def tScD (w : World) (K : PySem.W.Frag) (wi : TI) (g : TG) (tt : TT) (te : TE) (vs : List Nat) : TE := fun σ H Q => wi σ H fun J H1 => ∀ D, H1 D = none → LwD w K g tt te vs σ Q J D (upd H1 D (SetDO w D []))
theorem pe_scD (hu : X.A.units + 64 < cLine) {elt tg iter : Expr} {ifs : List Expr} {scope : Scope} {own : List (PySem.Str × Nat)} {pos : Pos} {wi : TI} {g : TG} {tt : TT} {te : TE} (hc : X.calm = true) (hN : X.N.Nodup) (hi : PI X tg iter wi) (ok : BlkOk X.N X.env.scope scope own)
    (hg : ∀ (s : Shared) (H : Hp) (C : Addr) (cl : List (PySem.Str × Addr)) (fp : List Addr), PG (X.blk s H scope (compEnvC scope cl C X.env) fp) tg g) (ht : ∀ (s : Shared) (H : Hp) (C : Addr) (cl : List (PySem.Str × Addr)) (fp : List Addr), PTs (X.blk s H scope (compEnvC scope cl C X.env) fp) ifs tt)
    (he : ∀ (s : Shared) (H : Hp) (C : Addr) (cl : List (PySem.Str × Addr)) (fp : List Addr), PE (X.blk s H scope (compEnvC scope cl C X.env) fp) elt te) (hs : ∀ x, foldedSetIterable iter X.env x = pure x := by intro _; rfl) :
    PE X (.SetComp elt [⟨tg, iter, ifs, 0⟩] scope pos) (tScD X.w X.K wi g tt te (own.map (·.2))) := by
  refine ⟨fun pins s σ H Q I h => ?_⟩
  rw [PpSet.eval_SetComp]
  refine set_block (use := none) hN I hi ok hs (Lw := LwD X.w X.K g tt te (own.map fun x : PySem.Str × Nat => x.2) σ Q) h fun J D C cl fp it tn s3 s4 H3 ⟨W, ⟨m0, w0⟩, word⟩ T I4 st4 fr4 free back => ?_
  refine clause_loop rfl _ _ (fun n s h => clause_turn (Y := X.blk s3 H3 scope (compEnvC scope cl C X.env) fp) hc rfl (hg s3 H3 C cl fp) (ht s3 H3 C cl fp) T free word (fun s' => compPost (model X.prog X.w) X.A X.xe none _ (.ref D) C (.ok .next) s') (fun H5 s5 I5 q => ?_) n s h) (.inl ⟨rfl, fun n s5 ⟨N, σ2, H2, pl, I2, hw, b, next⟩ => ?_⟩) m0 ⟨0, H3, I4, st4, fr4, w0⟩
  · obtain ⟨I7, m, hn, f0, f1, f2, f3, f4, f5⟩ := back H5 s5 I5
    exact ⟨m, hn, fun h'' sb => ⟨.ref D, H5, I7.turned (t' := s5.toks) (fun b o hb e => (sb.2 b hb).trans e) f0 f1 f3 f4 f5, rfl, q⟩⟩
  · refine thnF ((he s3 H3 C cl fp).run _ s5 σ2 H2 _ I2 b) fun v s6 ⟨y, H6, I6, ry, b0, d0, L0, ey, hd, hk, hD, hall, room, nx⟩ => ?_
    subst ey
    cases (show v = Value.ref b0 from ry)
    exact addD_ok (X := X.blk s3 H3 scope (compEnvC scope cl C X.env) fp) I6 hu hD hall hk hd room fun s7 L' pt I7 => next σ2 _ s7 I7 (by rw [← hw]; exact .wiped) (nx L' pt)
end
end NS
end

section
set_option Elab.async false
set_option linter.all false
set_option maxRecDepth 100000
set_option maxHeartbeats 2000000
/-! S4: set comprehensions with two fors, their elements nested tuples. -/
namespace NS
open PySem PySem.Spec PyProof.Rows L2 GenW Evl
section
variable {X : Cx}
/-- the reading of {elt for tg in iter if .. for tg1 in iter1 if ..}: vs the block's names, vs1 those of the second target -/
abbrev LwD2 (w : World) (K : PySem.W.Frag) (g : TG) (tt : TT) (wi1 : TI) (g1 : TG) (tt1 : TT) (te : TE) (vs vs1 : List Nat) (σ : L2.St) (Q : VK) : It → Addr → Hp → Prop := fun J D H0 => ∃ W : Nat → Nat → Hp → Prop, (∃ m, W 0 m H0) ∧ ∀ i m H, W i m H →
  (J.stop i H ∧ Q (.ref D) H) ∨ (J.go i H ∧ ∃ Nx : Hp → Prop, (∀ H', Nx H' → ∃ m', m' < m ∧ W (i + 1) m' H') ∧ ∀ x H', J.yld i H x H' → g x (wipe σ vs) H' fun σ2 H2 => wipe σ2 vs = wipe σ vs ∧ tt σ2 H2 fun b H3 =>
    if b = true then wi1 σ2 H3 fun J1 H4 => ∃ W1 : Nat → Nat → Hp → Prop, (∃ m, W1 0 m H4) ∧ ∀ j k H, W1 j k H →
      (J1.stop j H ∧ Nx H) ∨ (J1.go j H ∧ ∃ Nx1 : Hp → Prop, (∀ H', Nx1 H' → ∃ k', k' < k ∧ W1 (j + 1) k' H') ∧ ∀ x H', J1.yld j H x H' → g1 x (wipe σ2 vs1) H' fun σ3 H5 => wipe σ3 vs1 = wipe σ2 vs1 ∧ tt1 σ3 H5 fun b H6 =>
        if b = true then te σ3 H6 fun y H7 => ∃ (b : Addr) (d : PyData) (L : List (Addr × PyData)), y = .ref b ∧ Dp K H7 (.ref b) d ∧ keyed d = true ∧ H7 D = some (SetDO w D L) ∧ (∀ p ∈ L, keyed p.2 = true ∧ Dp K H7 (.ref p.1) p.2) ∧ L.length + 1 < 64 ∧ ∀ L', Put L b d L' → Nx1 (upd H7 D (SetDO w D L')) else Nx1 H6)
    else Nx H3)
def tScD2 (w : World) (K : PySem.W.Frag) (wi : TI) (g : TG) (tt : TT) (wi1 : TI) (g1 : TG) (tt1 : TT) (te : TE) (vs vs1 : List Nat) : TE := fun σ H Q => wi σ H fun J H1 => ∀ D, H1 D = none → LwD2 w K g tt wi1 g1 tt1 te vs vs1 σ Q J D (upd H1 D (SetDO w D []))
theorem Kn.inner {σ : L2.St} {vs vs1 : List Nat} (h : ∀ i ∈ vs1, i ∈ vs) : Kn (wipe σ vs) (wipe σ vs1) := ⟨by rw [wipe_length, wipe_length], fun j v e => by
  obtain ⟨e1, e2⟩ := wipe_some e
  rw [wipe_out fun z => e2 (h j z), e1]⟩
theorem pe_scD2 (hu : X.A.units + 64 < cLine) {elt tg iter tg1 iter1 : Expr} {ifs ifs1 : List Expr} {scope : Scope} {own : List (PySem.Str × Nat)} {vs1 : List Nat} {pos : Pos} {wi wi1 : TI} {g g1 : TG} {tt tt1 : TT} {te : TE} (hc : X.calm = true) (hN : X.N.Nodup) (hi : PI X tg iter wi) (ok : BlkOk X.N X.env.scope scope own) (hv : ∀ i ∈ vs1, i ∈ own.map (·.2))
    (hg : ∀ (s : Shared) (H : Hp) (C : Addr) (cl : List (PySem.Str × Addr)) (fp : List Addr), PG (X.blk s H scope (compEnvC scope cl C X.env) fp) tg g) (ht : ∀ (s : Shared) (H : Hp) (C : Addr) (cl : List (PySem.Str × Addr)) (fp : List Addr), PTs (X.blk s H scope (compEnvC scope cl C X.env) fp) ifs tt)
    (hi1 : ∀ (s : Shared) (H : Hp) (C : Addr) (cl : List (PySem.Str × Addr)) (fp : List Addr), PI (X.blk s H scope (compEnvC scope cl C X.env) fp) tg1 iter1 wi1)
    (hg1 : ∀ (s : Shared) (H : Hp) (C : Addr) (cl : List (PySem.Str × Addr)) (fp : List Addr), PG (X.blk s H scope (compEnvC scope cl C X.env) fp) tg1 g1) (ht1 : ∀ (s : Shared) (H : Hp) (C : Addr) (cl : List (PySem.Str × Addr)) (fp : List Addr), PTs (X.blk s H scope (compEnvC scope cl C X.env) fp) ifs1 tt1)
    (he : ∀ (s : Shared) (H : Hp) (C : Addr) (cl : List (PySem.Str × Addr)) (fp : List Addr), PE (X.blk s H scope (compEnvC scope cl C X.env) fp) elt te) (hs : ∀ x, foldedSetIterable iter X.env x = pure x := by intro _; rfl) (hs1 : ∀ env x, foldedSetIterable iter1 env x = pure x := by intro _ _; rfl) :
    PE X (.SetComp elt [⟨tg, iter, ifs, 0⟩, ⟨tg1, iter1, ifs1, 0⟩] scope pos) (tScD2 X.w X.K wi g tt wi1 g1 tt1 te (own.map (·.2)) vs1) := by
  refine ⟨fun pins s σ H Q I h => ?_⟩
  rw [PpSet.eval_SetComp]
  refine set_block (use := none) hN I hi ok hs (Lw := LwD2 X.w X.K g tt wi1 g1 tt1 te (own.map fun x : PySem.Str × Nat => x.2) vs1 σ Q) h fun J D C cl fp it tn s3 s4 H3 ⟨W, ⟨m0, w0⟩, word⟩ T I4 st4 fr4 free back => ?_
  refine clause_loop rfl _ _ (fun n s h => clause_turn (Y := X.blk s3 H3 scope (compEnvC scope cl C X.env) fp) hc rfl (hg s3 H3 C cl fp) (ht s3 H3 C cl fp) T free word (fun s' => compPost (model X.prog X.w) X.A X.xe none _ (.ref D) C (.ok .next) s') (fun H5 s5 I5 q => ?_) n s h) (.inr ⟨tg1, iter1, ifs1, rfl, hs1 _, fun n s5 ⟨N, σ2, H2, pl, I2, hw, b, next⟩ => ?_⟩) m0 ⟨0, H3, I4, st4, fr4, w0⟩
  · obtain ⟨I7, m, hn, f0, f1, f2, f3, f4, f5⟩ := back H5 s5 I5
    exact ⟨m, hn, fun h'' sb => ⟨.ref D, H5, I7.turned (t' := s5.toks) (fun b o hb e => (sb.2 b hb).trans e) f0 f1 f3 f4 f5, rfl, q⟩⟩
  refine thnF ((hi1 s3 H3 C cl fp).run _ s5 σ2 H2 _ I2 b) fun x s6 hx => thnF hx fun itv s7 ⟨it1, fp1, tn1, J1, H7, e, I7, T1, st7, f7, W1, ⟨m1, w1⟩, word1⟩ => ?_
  subst e
  refine clause_start rfl (clause_loop rfl _ _ (fun n' s' h' => clause_turn (Y := X.blk s3 H3 scope (compEnvC scope cl C X.env) fp) hc rfl (hg1 s3 H3 C cl fp) (ht1 s3 H3 C cl fp) T1 (fun H' fr b hb => ⟨fr b hb, (f7 b hb).2⟩) word1 _ (fun H8 s8 I8 nx => ⟨⟨_, rfl⟩, next _ H8 s8 I8 (by rw [← hw]; exact .inner hv) nx⟩) n' s' h') (.inl ⟨rfl, fun n' s8 ⟨N1, σ3, H8, pl1, I8, hw1, b1, next1⟩ => ?_⟩) m1 ⟨0, H7, I7.weak (wipe_length _ _) (fun j v e => (wipe_some e).1), st7, fun b hb => (f7 b hb).1, w1⟩) fun Q E q => T1.self X.A 0 _ Q E st7 q
  refine thnF ((he s3 H3 C cl fp).run _ s8 σ3 H8 _ I8 b1) fun v s9 ⟨y, H9, I9, ry, b0, d0, L0, ey, hd, hk, hD, hall, room, nx⟩ => ?_
  subst ey
  cases (show v = Value.ref b0 from ry)
  exact addD_ok (X := X.blk s3 H3 scope (compEnvC scope cl C X.env) fp) I9 hu hD hall hk hd room fun s10 L' pt I10 => next1 σ3 _ s10 I10 (by rw [← hw1]; exact .wiped) (nx L' pt)
end
end NS
end

section
set_option Elab.async false
set_option linter.all false
set_option maxRecDepth 100000
set_option maxHeartbeats 2000000
/-! S5: sorted(a list of data), sorted(a set of nested tuples). -/
namespace NS
open PySem PySem.Spec PyProof.Rows L2 GenW Evl PySem.W

/-- can be sorted -/
def Srt (ds : List PyData) : Prop := AllAlike ds ∧ (Sortable ds ∨ (ds.length ≤ 1 ∧ ∀ d ∈ ds, d ≠ .none)) ∧ ∀ d ∈ ds, d.depth ≤ 16
section
variable {prog : Program} {w : World} {A : Around} {s : Shared} {E : Value → Shared → Prop}
theorem sortsAt_few {vs : List Value} {ds : List PyData} (e : EachIs (fun v d => ∃ as, Reads s.heap v d as) vs ds) (hal : AllAlike ds) (hl : ds.length ≤ 1) (hn : ∀ d ∈ ds, d ≠ .none) (hu : ∀ d, d ∈ ds → A.units + d.depth < cLine) : SortsAt prog w A s (dataKind s.heap ds) vs := by
  refine ⟨fun v hv => ?_, general', ?_, fun h2 => absurd h2 (by rw [e.length]; omega)⟩
  · obtain ⟨d, hd, as, r⟩ := e.left v hv
    exact ⟨_, dataKind_some hal hd r⟩
  · intro E x y a b Q ha hb hq
    obtain ⟨d, as, hd, ra, rfl⟩ := dataKind_inv ha
    obtain ⟨d', as', hd', rb, rfl⟩ := dataKind_inv hb
    exact oneLt_alike (f := false) (by simp) ra rb (hal d hd d' hd') (hn d hd) (Nat.lt_of_le_of_lt (Nat.add_le_add_left (Nat.min_le_left _ _) _) (hu d hd)) hq
theorem sortsAt_any {vs : List Value} {ds : List PyData} (e : EachIs (fun v d => ∃ as, Reads s.heap v d as) vs ds) (h : Srt ds) (hu : A.units + 16 < cLine) : SortsAt prog w A s (dataKind s.heap ds) vs := by
  obtain ⟨h1, h2, h3⟩ := h
  have hu' : ∀ d, d ∈ ds → A.units + d.depth < cLine := fun d hd => by have := h3 d hd; omega
  rcases h2 with k | ⟨k, n⟩
  · exact .data e h1 k hu'
  · exact sortsAt_few e h1 k n hu'
/-- sorted(xs): a list -/
theorem sorted_any {l : Addr} {vs : List Value} {ds : List PyData} {R : Value → PyData → Prop} {Q : Value → Shared → Prop} (hl : s.heap.IsList l vs.toArray) (e : EachIs R vs ds) (er : EachIs (fun v d => ∃ as, Reads s.heap v d as) vs ds) (hs : Srt ds) (hL : ds.length ≤ sizeLine) (hu : A.units + 32 < cLine)
    (h : ∀ out, out.length = ds.length → EachIs R out (ds.mergeSort (dataLe false id)) → Q (.ref (s.heap.objs.size + 1)) { s with heap := sortedAll s.heap vs (List.toArray out) }) :
    wpAny (model prog w) A (call (.builtin "sorted") [.ref l]) Q E s := by
  have er' : EachIs (fun v b => ∃ as, Reads (sortingHeap (copyHeap s.heap vs) (s.heap.objs.size + 1) vs) v b as) vs ds := er.mono fun _ _ ⟨as, r⟩ => ⟨as, PyProof.Rows.Reads.keeps (fun _ _ => sorting_copy_old) r⟩
  exact sorted_vals hl (sortsAt_any (s := { s with heap := sortingHeap (copyHeap s.heap vs) (s.heap.objs.size + 1) vs }) er' hs (by simp only [Around.in1_units]; omega)) (by rw [e.length]; exact hL)
    (h _ (by rw [sortVals_length false rfl]; exact e.length) (by have := sortVals_data (enc := id) (bs := ds) false e er' (by rw [List.map_id]; exact hs.1); rwa [List.map_id] at this))
/-- xs.sort(), as sorted does it to its own list -/
theorem sort_any {a : Addr} {vs : List Value} {n : Nat} {ds : List PyData} {R : Value → PyData → Prop} {Q : Value → Shared → Prop} (ho : s.heap.get? a = some (seqObj "list" vs.toArray n)) (e : EachIs R vs ds) (er : EachIs (fun v d => ∃ as, Reads (sortingHeap s.heap a vs) v d as) vs ds) (hs : Srt ds) (hL : ds.length ≤ sizeLine) (hu : A.units + 32 < cLine)
    (h : ∀ out, out.length = ds.length → EachIs R out (ds.mergeSort (dataLe false id)) → Q .none { s with heap := sortedHeap s.heap a vs (List.toArray out) }) :
    wpAny (model prog w) A (call (.builtin "list.sort") [.ref a]) Q E s := by
  refine wpAny_call_entry slot_list_sort ⟨_, ho, rfl⟩ entry_list_sort (list_sort_vals (κ := dataKind (sortingHeap s.heap a vs) ds) ho (sortsAt_any (s := { s with heap := sortingHeap s.heap a vs }) er hs (by simp only [Around.in1_units]; omega)) (by rw [e.length]; exact hL) ⟨.none, rfl, ?_⟩) (args_list_sort _)
  exact h _ (by rw [sortVals_length false rfl]; exact e.length) (by have := sortVals_data (enc := id) (bs := ds) false e er (by rw [List.map_id]; exact hs.1); rwa [List.map_id] at this)
end

section
variable {X : Cx}
theorem each_of {K : PySem.W.Frag} {H : Hp} : ∀ {vs : List V} {us : List Value} {ds : List PyData}, Vals vs us → DpAll K H vs ds → EachIs (fun u d => ∃ v, RelV v u ∧ Dp K H v d) us ds
  | _, _, _, .nil, h => by cases h; exact .nil
  | _, _, _, .cons r t, h => by
    cases h with
    | cons h1 h2 => exact .cons ⟨_, r, h1⟩ (each_of t h2)
theorem of_each {K : PySem.W.Frag} {H : Hp} : ∀ {us : List Value} {ds : List PyData}, EachIs (fun u d => ∃ v, RelV v u ∧ Dp K H v d) us ds → ∃ vs, Vals vs us ∧ DpAll K H vs ds
  | _, _, .nil => ⟨[], .nil, .nil⟩
  | _, _, .cons ⟨v, r, h⟩ t => let ⟨vs, r', h'⟩ := of_each t; ⟨v :: vs, .cons r r', .cons h h'⟩
theorem each_reads {pins : List (Addr × Obj)} {σ : L2.St} {H : Hp} {s : Shared} (I : L2.Inv X pins σ H s) {us : List Value} {ds : List PyData} (e : EachIs (fun u d => ∃ v, RelV v u ∧ Dp X.K H v d) us ds) : EachIs (fun u d => ∃ as, Reads s.heap u d as) us ds :=
  e.mono fun u d ⟨v, r, h⟩ => Dp.reads I d v u h r
/-- sorted(xs), xs a list of data: a new list -/
def rSortedD (K : PySem.W.Frag) : List V → Hp → VK → Prop := fun vs H Q => ∃ (v : V) (ds : List PyData) (B : Hp), Ex B H ∧ vs = [v] ∧ Dp K B v (.list ds) ∧ Srt ds ∧
  ∀ out p, H p = none → DpAll K B out (ds.mergeSort (dataLe false id)) → Q (.ref p) (upd H p (.lst out))
theorem cr_sortedD (hu : X.A.units + 64 < cLine) : CallR X (.builtin "sorted") (rSortedD X.K) := by
  intro pins s σ H vs us Q I r h
  obtain ⟨v, ds, B, eB, rfl, hd, hs, q⟩ := h
  obtain ⟨l, xs, rfl, hl, ha⟩ := hd.lstI
  rw [Vals.ref1 r]
  obtain ⟨its, rv, pl, hz⟩ := I.list (ex_l eB hl)
  have e := each_of rv ha
  refine sorted_any pl.isList e (each_reads I (e.mono fun u d ⟨v, r, h⟩ => ⟨v, r, dp_ex d v eB h⟩)) hs (by rw [← ha.length]; exact hz) (by omega) fun out hlen eo => ?_
  obtain ⟨ws, rw', dw⟩ := of_each eo
  obtain ⟨ep, he'⟩ := PyProof.Rows.sortedAll_at s.heap its out.toArray
  have hlen' : ws.length ≤ sizeLine := by rw [rw'.length, hlen, ← ha.length]; exact hz
  exact ⟨.ref _, upd H (s.heap.objs.size + 1) (.lst ws), I.laid (t' := s.toks) (fun _ _ => PyProof.Rows.sortedAll_old) (Nat.le_succ _) ⟨hlen', out, ep, rw', he'⟩, rfl, q _ _ (I.hok.fresh (Nat.le_succ _)) dw⟩

/-- sorted(a set of nested tuples): a new list -/
def rSortedSet (K : PySem.W.Frag) (w : World) : List V → Hp → VK → Prop := fun vs H Q => ∃ (a : Addr) (L : List (Addr × PyData)) (B : Hp), Ex B H ∧ vs = [.ref a] ∧ H a = some (SetDO w a L) ∧ (∀ p ∈ L, keyed p.2 = true ∧ Dp K B (.ref p.1) p.2) ∧ Srt (L.map (·.2)) ∧ (∀ ds : List PyData, ds.Perm (L.map (·.2)) → Srt ds) ∧
  ∀ (ds : List PyData) out p, ds.Perm (L.map (·.2)) → (L.map fun p => nk p.2).Nodup → L.length < 64 → H p = none → DpAll K B out (ds.mergeSort (dataLe false id)) → Q (.ref p) (upd H p (.lst out))
theorem cr_sortedSet (hc : X.calm = true) (hu : X.A.units + 64 < cLine) : CallR X (.builtin "sorted") (rSortedSet X.K X.w) := by
  intro pins s σ H vs us Q I r h
  obtain ⟨a, L, B, eB, rfl, ha, hk, hs0, hs, q⟩ := h
  rw [Vals.ref1 r]
  obtain ⟨es, ep, t, ⟨o, ho, hex, hd⟩, R⟩ := setD_get I ha
  have hsz := R.size
  have hfew : L.length < 64 := by have := R.few; rwa [List.length_map] at this
  rw [List.length_map] at hsz
  refine Calls.call_function_entry kind_sorted plain_sorted entry_sorted (args_sorted1 _) ?_
  unfold Builtin.«sorted»
  refine wpAny_bind (m := checkCount "sorted" 1 1 _) (wpAny_pure ?_)
  refine wpAny_bind (collect_set (A := X.A.in1) (I.ok.hd hc) ⟨o, ho, hex.1, hd⟩ R.fits (by unfold scanBound; omega) R.tab.ris R.ord fun s1 vs k1 hz g1 o1 pm => ?_)
  have hes : es.toList.map (·.2) = L.map fun p => Value.ref p.1 := by
    rw [R.rows, List.map_map, List.map_map]
    rfl
  rw [hes] at pm
  obtain ⟨L1, pL, e1⟩ := lk_perm (fun p : Addr × PyData => Value.ref p.1) (pm)
  subst e1
  have hvl : (L1.map fun p => Value.ref p.1).length ≤ sizeLine := by rw [List.length_map, pL.length_eq, sizeLine_eq]; omega
  refine wpAny_bind (wpAny_newList ?_ hvl)
  have hoL : (s1.heap.push (seqObj "list" (L1.map fun p => Value.ref p.1).toArray 0)).get? s1.heap.objs.size = some (seqObj "list" (L1.map fun p => Value.ref p.1).toArray 0) := Heap.get?_push_size _ rfl
  have eR : ∀ M : List (Addr × PyData), (∀ p ∈ M, p ∈ L) → EachIs (fun u d => ∃ v, RelV v u ∧ Dp X.K B v d) (M.map fun p => Value.ref p.1) (M.map (·.2)) := by
    intro M
    induction M with
    | nil => intro _; exact .nil
    | cons p M ih => intro hM; exact .cons ⟨.ref p.1, rfl, (hk p (hM p List.mem_cons_self)).2⟩ (ih fun q hq => hM q (List.mem_cons_of_mem _ hq))
  have e := eR L1 fun p hp => pL.mem_iff.mp hp
  have hss : Srt (L1.map (·.2)) := hs _ (pL.map (·.2))
  have old : ∀ b o, s.heap.get? b = some o → (sortingHeap (s1.heap.push (seqObj "list" (L1.map fun p => Value.ref p.1).toArray 0)) s1.heap.objs.size (L1.map fun p => Value.ref p.1)).get? b = some o := fun b o eb => by
    have q1 := k1 b o eb
    exact sortingHeap_old (Nat.ne_of_lt (Heap.lt_size q1)) (Heap.get?_push_of_some _ q1)
  refine wpAny_bind (wpAny_holding (sort_any (s := { s1 with heap := s1.heap.push (seqObj "list" (L1.map fun p => Value.ref p.1).toArray 0) }) hoL e ((each_reads I (e.mono fun u d ⟨v, r, h⟩ => ⟨v, r, dp_ex d v eB h⟩)).mono fun _ _ ⟨as, r⟩ => ⟨as, PyProof.Rows.Reads.keeps old r⟩) hss (by rw [List.length_map, pL.length_eq, sizeLine_eq]; omega) (by simp only [Around.in1_units]; omega) fun out hlen eo => ?_))
  obtain ⟨ws, rw', dw⟩ := of_each eo
  obtain ⟨c, hc'⟩ := sortedHeap_at (vs := L1.map fun p => Value.ref p.1) (out := out.toArray) hoL
  have k2 : ∀ b o, s.heap.get? b = some o → (sortedHeap (s1.heap.push (seqObj "list" (L1.map fun p => Value.ref p.1).toArray 0)) s1.heap.objs.size (L1.map fun p => Value.ref p.1) out.toArray).get? b = some o := fun b o eb => by
    have q1 := k1 b o eb
    have hlt := Heap.lt_size q1
    rw [sortedHeap_old (Nat.ne_of_lt hlt) (by rw [size_push']; exact Nat.lt_succ_of_lt hlt)]
    exact Heap.get?_push_of_some _ q1
  have hp : s.heap.objs.size ≤ s1.heap.objs.size := hz
  have hn : H s1.heap.objs.size = none := I.hok.fresh hp
  have hlen' : ws.length ≤ sizeLine := by rw [rw'.length, hlen, List.length_map, pL.length_eq, sizeLine_eq]; omega
  have nd : (L.map fun p => nk p.2).Nodup := by have := R.apart; rwa [List.map_map] at this
  have eqs : s1.os = s.os := o1
  refine wpAny_pure ⟨_, rfl, .ref s1.heap.objs.size, upd H s1.heap.objs.size (.lst ws), ?_, rfl, q _ _ _ (pL.map (·.2)) nd hfew hn dw⟩
  exact I.call' (ch := []) o1 (Un.laid k2 hp hn) (I.hok.laid k2 hp ⟨hlen', out, c, rw', hc'⟩) (by show AllBare s1.gens; rw [g1]; exact I.bare) (fun _ z => nomatch z)
end
end NS
end

section
set_option Elab.async false
set_option linter.all false
set_option maxRecDepth 100000
set_option maxHeartbeats 3200000
/-! S6: set(a list of nested tuples). -/
namespace NS
open PySem PySem.Spec PyProof.Rows L2 GenW Evl
/-- what a set has of the entries ks -/
structure Got (ks L : List Ent) : Prop where
  sub : ∀ p ∈ L, p ∈ ks
  all : ∀ p ∈ ks, p.2 ∈ L.map (·.2)
  len : L.length ≤ ks.length
theorem Got.nil : Got [] [] := ⟨fun _ h => h, fun _ h => (nomatch h), Nat.le_refl _⟩
theorem Got.snoc {ks L L' : List Ent} {x : Ent} (g : Got ks L) (old : x.2 ∈ L.map (·.2) → L' = L) (new : x.2 ∉ L.map (·.2) → L'.Perm (x :: L)) : Got (ks ++ [x]) L' := by
  have gl := g.len
  by_cases h : x.2 ∈ L.map (·.2)
  · rw [old h]
    refine ⟨fun p hp => List.mem_append_left _ (g.sub p hp), fun p hp => ?_, by simp; omega⟩
    rcases List.mem_append.mp hp with z | z
    · exact g.all p z
    · exact List.mem_singleton.mp z ▸ h
  · have pm := new h
    refine ⟨fun p hp => ?_, fun p hp => (pm.map (·.2)).mem_iff.mpr ?_, by rw [pm.length_eq]; simp; omega⟩
    · have := pm.mem_iff.mp hp
      simp only [List.mem_cons, List.mem_append, List.mem_singleton, List.not_mem_nil, or_false] at this ⊢
      exact this.symm.imp_left (g.sub p)
    · rw [List.map_cons, List.mem_cons]
      simp only [List.mem_append, List.mem_singleton] at hp
      exact (hp.imp (g.all p) fun z => by rw [z]).symm
theorem SetD0.keep {w : World} {h h' : Heap} {a : Addr} {L : List Ent} (R : SetD0 w h a L) (k : ∀ o, h.get? a = some o → h'.get? a = some o) : SetD0 w h' a L :=
  let ⟨es, ep, t, ⟨o, ho, r⟩, T⟩ := R; ⟨es, ep, t, ⟨o, k o ho, r⟩, T⟩
/-- the object of set() -/
abbrev freshSet (w : World) : Obj := { cls := .type "set", dict := none, data := .set #[] 0 (.fresh 0 0 (!w.params.followText "set-order")) }
section
variable {P : Program} {w : World} {A : Around} {E : Value → Shared → Prop} {s : Shared}
/-- set.update's loop over a list's iterator -/
theorem fill {S I l : Addr} {items : Array Value} (hh : A.in1.handled = none) (hSI : S ≠ I) (hSl : S ≠ l) (hlI : l ≠ I) (hu : A.in1.units + 6 < cLine) {h0 : Heap} (nS : h0.get? S = none) (nI : h0.get? I = none) {R : Result → Shared → Prop} :
    ∀ (rest done : List Ent) (s : Shared) (L : List Ent), items.toList = (done ++ rest).map (fun p => Value.ref p.1) → (done ++ rest).length < 64 → (∀ p ∈ done ++ rest, IsN h0 p.2 p.1) → s.heap.IsListIter I l done.length → s.heap.IsList l items → (∀ b o, h0.get? b = some o → s.heap.get? b = some o) → SetD0 w s.heap S L → Got done L →
      (∀ h' tk L', SetD0 w h' S L' → Got (done ++ rest) L' → (∀ b o, h0.get? b = some o → h'.get? b = some o) → R (.ok (.ret .none)) { s with heap := h', toks := tk }) → codeAny (model P w) A (.builtin "set.update.loop" ⟨[.ref S, .ref I], []⟩) R s
  | [], done, s, L, hi, _, _, it, il, k, hS, g, q => by
    refine codeAny_builtin F.entry_set_update_loop ?_
    rw [Around.under_plainId F.plain_set_update_loop _]
    have e : items[done.length]? = none := by
      have := congrArg List.length hi
      simp at this
      simp [this]
    exact wpAny_bind (wpAny_pyNext_list_end hh it il e fun h' x => wpAny_pure (q h' s.toks L (hS.keep fun o e => x _ o hSI e) (by rwa [List.append_nil]) fun b o e => x b o (fun z => by rw [z, nI] at e; cases e) (k b o e)))
  | p :: rest, done, s, L, hi, few, keys, it, il, k, hS, g, q => by
    refine codeAny_builtin F.entry_set_update_loop ?_
    rw [Around.under_plainId F.plain_set_update_loop _]
    have e : items[done.length]? = some (.ref p.1) := by
      rw [← Array.getElem?_toList, hi]
      simp
    refine wpAny_bind (wpAny_pyNext_list_item it il e fun h1 it1 b1 => wpAny_bind (wpAny_holding ?_))
    have k1 : ∀ b o, h0.get? b = some o → h1.get? b = some o := fun b o e => (b1.2 b fun z => by rw [z, nI] at e; cases e).trans (k b o e)
    have key : ∀ x ∈ done ++ p :: rest, IsN h1 x.2 x.1 := fun x hx => (keys x hx).keep k1
    have hp : IsN h1 p.2 p.1 := key p (by simp)
    unfold setAdd
    refine wpAny_holding (wpAny_bind (hash_n (s := { s with heap := h1 }) hp hu ?_))
    refine add_at (s := { s with heap := h1, toks := s.toks + p.2.draws }) (hS.keep fun o e => (b1.2 S hSI).trans e) (fun x hx => key x (List.mem_append_left _ (g.sub x hx))) hp hu (by have := g.len; simp at few; omega) fun b h2 L2 b2 R2 c1 c2 => ?_
    have same : done ++ p :: rest = (done ++ [p]) ++ rest := by simp
    rw [same] at hi few keys q
    refine wpAny_pure ⟨plainId_quiet F.plain_set_update_loop _, fill hh hSI hSl hlI hu nS nI rest (done ++ [p]) _ L2 hi few keys ?_ ?_ (fun b o e => (b2.2 b fun z => by rw [z, nS] at e; cases e).trans (k1 b o e)) R2 (g.snoc c1 c2) fun h' tk L' r1 r2 r3 => q h' tk L' r1 r2 r3⟩
    · rw [List.length_append]
      exact it1.at fun o e => (b2.2 I hSI.symm).trans e
    · exact (il.at fun o e => (b1.2 l hlI).trans e).at fun o e => (b2.2 l hSl.symm).trans e
/-- set(u), by set.__init__ over the new set -/
theorem call_set_by {u : Value} {Q : Value → Shared → Prop}
    (h : wpAny (model P w) A.in1.in1 (Builtin.«set.__init__» ⟨[.ref s.heap.objs.size, u], []⟩) (fun fin s' => fin = .done (.ret .none) ∧ Q (.ref s.heap.objs.size) s') E
      { s with heap := s.heap.push (freshSet w) }) : wpAny (model P w) A (call (.type "set") [u]) Q E s := by
  obtain ⟨c, tl, hm⟩ := F.called_set.mro
  refine wpAny_call (codeAny_of_tree ?_)
  show wpAny _ _ (callAny (.type "set") _) _ _ s
  refine wpAny_pure ⟨Code.quiet_builtin _ (by decide +kernel), codeAny_builtin F.entry_type_call ?_⟩
  rw [Around.under_plain (weight_type_call_type "set" [u] []) rfl]
  unfold Builtin.«type.__call__»
  simp only [F.typeCall_set_1 u, F.called_set.notType, F.called_set.canCreate, hm, F.called_set.made, pure_bind, List.isEmpty_cons, Bool.false_eq_true, if_false]
  refine wpAny_bind (wpAny_holding (wpAny_call (codeAny_mono (code_set_led1 u (E := E) (Q₁ := fun v s1 => v = .ref s.heap.objs.size ∧ s1 = { s with heap := s.heap.push (freshSet w) }) ⟨rfl, rfl⟩) fun r s1 hr => ?_)))
  cases r with
  | error e => exact hr
  | ok fl =>
    cases fl with
    | ret v =>
      obtain ⟨rfl, rfl⟩ := hr
      have hT : Shared.TypeIs { s with heap := s.heap.push (freshSet w) } (.ref s.heap.objs.size) "set" := ⟨_, Heap.get?_push_size _ rfl, rfl⟩
      refine wpAny_bind (wpAny_isInstance hT F.called_set.sub ?_)
      simp only [Bool.not_true, Bool.false_eq_true, if_false, callSpecial?]
      refine wpAny_bind (wpAny_holding (wpAny_bind (wpAny_specialOf hT F.called_set.init.lookup ?_)))
      simp only [F.called_set.init.bind (.ref s.heap.objs.size)]
      refine wpAny_holding (wpAny_bind (wpAny_pure (wpAny_bind (wpAny_call (codeAny_mono (codeAny_call_builtin (R := fun r s' => match r with | .ok f => f = .ret .none ∧ Q (.ref s.heap.objs.size) s' | .error e => E e s') F.called_set.init.plain F.entry_set_init (check_set_init_1 hT (wpAny_mono h (fun fin s' ⟨e, q⟩ => by subst e; exact ⟨rfl, q⟩) fun _ _ z => z))) fun r s' hr => ?_)))))
      cases r with
      | error e => exact hr
      | ok f =>
        obtain ⟨rfl, q⟩ := hr
        exact wpAny_pure (wpAny_pure q)
    | next => exact hr.elim
    | brk => exact hr.elim
    | cont => exact hr.elim
/-- set(xs) -/
theorem call_set_n {l : Addr} {items : Array Value} (ks : List Ent) {Q : Value → Shared → Prop} (hh : A.handled = none) (hl : s.heap.IsList l items) (hi : items.toList = ks.map fun p => Value.ref p.1)
    (keys : ∀ p ∈ ks, IsN s.heap p.2 p.1) (few : ks.length < 64) (hu : A.units + 16 < cLine)
    (q : ∀ h' tk L, SetD0 w h' s.heap.objs.size L → Got ks L → (∀ b o, s.heap.get? b = some o → h'.get? b = some o) → Q (.ref s.heap.objs.size) { s with heap := h', toks := tk }) :
    wpAny (model P w) A (call (.type "set") [.ref l]) Q E s := by
  refine call_set_by ?_
  have hlt : l < s.heap.objs.size := by obtain ⟨o, e, _⟩ := hl; exact Heap.lt_size e
  have sub1 := F.sub_list_set
  have sub2 := F.sub_list_frozenset
  have nd : (Value.type "list" == Value.type "dict") = false := by decide
  have il : (s.heap.push (freshSet w)).IsList l items := hl.push _
  have hS : (s.heap.push (freshSet w)).get? s.heap.objs.size = some (freshSet w) := Heap.get?_push_size _ rfl
  have sz : (s.heap.push (freshSet w)).objs.size = s.heap.objs.size + 1 := Heap.size_push ..
  have nn : ∀ b, s.heap.objs.size ≤ b → s.heap.get? b = none := fun b hb => by
    cases e : s.heap.get? b with
    | none => rfl
    | some o => exact absurd (Nat.lt_of_lt_of_le (Heap.lt_size e) hb) (Nat.lt_irrefl _)
  have end_ := fill (P := P) (w := w) (A := A.in1.in1) (S := s.heap.objs.size) (I := (s.heap.push (freshSet w)).objs.size) (l := l) (items := items) (by simp [hh]) (by rw [sz]; exact Nat.ne_of_lt (Nat.lt_succ_self _)) (Nat.ne_of_gt hlt) (by rw [sz]; exact Nat.ne_of_lt (Nat.lt_succ_of_lt hlt)) (by simp only [Around.in1_units]; omega) (nn _ (Nat.le_refl _)) (nn _ (by rw [sz]; exact Nat.le_succ _))
    (R := fun r s' => r = .ok (.ret .none) ∧ Q (.ref s.heap.objs.size) s') ks []
  obtain ⟨ol, hol, hcl, nl, hdl⟩ := hl
  obtain ⟨ocls, odict, odata, oslots⟩ := ol
  simp only at hcl hdl
  subst hcl; subst hdl
  have hol' : (s.heap.push (freshSet w)).get? l = some { cls := .type "list", dict := odict, data := .seq items nl, slots := oslots } := Heap.get?_push_of_some _ hol
  unfold Builtin.«set.__init__» noKeywords Builtin.Frozenset.updateFrom
  generalize hPI : pyIter = PI
  wp_walk
  subst hPI
  refine wpAny_pyIter_list il (wpAny_bind (wpAny_runValue (codeAny_mono (end_ { s with heap := (s.heap.push (freshSet w)).push { cls := .type "list_iterator", data := .fields #[.ref l, .int 0 0] } } [] hi few keys ⟨_, Heap.get?_push_size _ rfl, rfl, rfl⟩ (il.push _) (fun b o e => Heap.get?_push_of_some _ (Heap.get?_push_of_some _ e))
    ⟨#[], 0, _, ⟨freshSet w, Heap.get?_push_of_some _ hS, ⟨rfl, rfl, rfl⟩, rfl⟩, tabN_nil w⟩ .nil fun h' tk L r1 r2 r3 => ⟨rfl, q h' tk L r1 r2 r3⟩) fun r s' ⟨e, z⟩ => ?_)))
  subst e
  exact wpAny_pure (wpAny_pure ⟨rfl, z⟩)
end
end NS
end

section
set_option Elab.async false
set_option linter.all false
set_option maxRecDepth 100000
set_option maxHeartbeats 2000000
/-! S7: set(a list of nested tuples) as a rule. -/
namespace NS
open PySem PySem.Spec PyProof.Rows L2 GenW Evl

theorem sub_map {α β : Type} {f : α → β} {ks : List α} : ∀ {L : List β}, (∀ p ∈ L, p ∈ ks.map f) → ∃ L0 : List α, L = L0.map f ∧ ∀ p ∈ L0, p ∈ ks
  | [], _ => ⟨[], rfl, fun _ h => by cases h⟩
  | x :: L, h => by
    obtain ⟨p, hp, rfl⟩ := List.mem_map.mp (h x List.mem_cons_self)
    obtain ⟨L0, e, hs⟩ := sub_map (f := f) (ks := ks) (L := L) fun q hq => h q (List.mem_cons_of_mem _ hq)
    exact ⟨p :: L0, by rw [e]; rfl, fun q hq => by
      rcases List.mem_cons.mp hq with rfl | hq
      · exact hp
      · exact hs q hq⟩
def isTup : PyData → Bool
  | .tuple _ => true
  | _ => false
theorem refs_of {K : PySem.W.Frag} {H : Hp} : ∀ {vs : List V} {us : List Value} {ds : List PyData}, Vals vs us → DpAll K H vs ds → (∀ d ∈ ds, isTup d = true) → ∃ ks : List (Addr × PyData), us = ks.map (fun p => Value.ref p.1) ∧ ks.map (·.2) = ds ∧ ∀ p ∈ ks, Dp K H (.ref p.1) p.2
  | _, _, _, .nil, h, _ => by cases h; exact ⟨[], rfl, rfl, fun _ h => by cases h⟩
  | v :: vs, u :: us, _, .cons r t, h, ht => by
    cases h with
    | @cons _ _ d ds h1 h2 =>
      obtain ⟨ks, e1, e2, e3⟩ := refs_of t h2 fun d hd => ht d (List.mem_cons_of_mem _ hd)
      cases d with
      | tuple es =>
        obtain ⟨a, xs, rfl, _⟩ := h1.tupI
        cases r
        exact ⟨(a, .tuple es) :: ks, by rw [e1]; rfl, by rw [List.map_cons, e2], fun p hp => by
          rcases List.mem_cons.mp hp with rfl | hp
          · exact h1
          · exact e3 p hp⟩
      | _ => exact absurd (ht _ List.mem_cons_self) (by simp [isTup])
section
variable {X : Cx}
/-- set(xs) -/
def rSetD (K : PySem.W.Frag) (w : World) : List V → Hp → VK → Prop := fun vs H Q => ∃ (v : V) (ds : List PyData) (B : Hp), Ex B H ∧ vs = [v] ∧ Dp K B v (.list ds) ∧ (∀ d ∈ ds, keyed d = true ∧ isTup d = true) ∧ ds.length < 64 ∧
  ∀ (a : Addr) (L : List (Addr × PyData)), H a = none → (∀ p ∈ L, p.2 ∈ ds ∧ Dp K B (.ref p.1) p.2) → (∀ d ∈ ds, nk d ∈ L.map fun p => nk p.2) → Q (.ref a) (upd H a (SetDO w a L))
theorem cr_setD (hc : X.calm = true) (hu : X.A.units + 64 < cLine) : CallR X (.type "set") (rSetD X.K X.w) := by
  intro pins s σ H vs us Q I r h
  obtain ⟨v, ds, B, eB, rfl, hd, hk, hf, q⟩ := h
  obtain ⟨l, xs, rfl, hl, ha⟩ := hd.lstI
  rw [Vals.ref1 r]
  obtain ⟨its, rv, pl, hz⟩ := I.list (ex_l eB hl)
  obtain ⟨ks, e1, e2, e3⟩ := refs_of rv ha fun d hd => (hk d hd).2
  have hn : H s.heap.objs.size = none := I.hok.fresh (Nat.le_refl _)
  have hk2 : ∀ p ∈ ks, keyed p.2 = true := fun p hp => (hk _ (by rw [← e2]; exact List.mem_map.mpr ⟨p, hp, rfl⟩)).1
  have hlen : ks.length < 64 := by have := congrArg List.length e2; rw [List.length_map] at this; omega
  refine call_set_n (P := X.prog) (w := X.w) (LK ks) (I.ok.hd hc) pl.isList (by rw [List.map_map, show its.toArray.toList = its by simp]; exact e1) (fun p hp => ?_) (by rw [List.length_map]; exact hlen) (by omega) fun h' tk L R g k => ?_
  · obtain ⟨p0, hp0, rfl⟩ := List.mem_map.mp hp
    exact Dp.isN I (hk2 p0 hp0) (dp_ex _ _ eB (e3 p0 hp0))
  · obtain ⟨L0, rfl, hs⟩ := sub_map (f := fun p : Addr × PyData => (p.1, nk p.2)) (ks := ks) (L := L) g.sub
    refine ⟨.ref s.heap.objs.size, upd H s.heap.objs.size (SetDO X.w s.heap.objs.size L0), I.laid (t' := tk) k (Nat.le_refl _) (setDO_new R), rfl, q _ L0 hn (fun p hp => ⟨?_, e3 p (hs p hp)⟩) fun d hd => ?_⟩
    · rw [← e2]; exact List.mem_map.mpr ⟨p, hs p hp, rfl⟩
    · rw [← e2] at hd
      obtain ⟨p, hp, rfl⟩ := List.mem_map.mp hd
      have := g.all (p.1, nk p.2) (List.mem_map.mpr ⟨p, hp, rfl⟩)
      rw [List.map_map] at this
      exact this
end
end NS
end

section
set_option Elab.async false
set_option linter.all false
set_option maxRecDepth 100000
set_option maxHeartbeats 2000000
/-! D1: expressions by data (Dp), over a base: B, a part of the heap; what comes is made of B and of new addresses. -/
namespace DL
open PySem PySem.Spec PyProof.Rows L2 GenW Evl NS

/-- the heap goes from H to H2, the base from B to B2 -/
structure Fz (B H B2 H2 : Hp) : Prop where
  b : Ex B B2
  h : Ex H H2
  i : Ex B2 H2
  n : ∀ l, H l ≠ none → B l = none → B2 l = none
/-- the union of two parts -/
def hun (B1 B2 : Hp) : Hp := fun a => match B1 a with | some o => some o | none => B2 a
section
variable {B B1 B2 B3 H H1 H2 : Hp} {p : Addr} {o : HO}
theorem Fz.refl (e : Ex B H) : Fz B H B H := ⟨Ex.refl B, Ex.refl H, e, fun _ _ h => h⟩
theorem some_ne {H : Hp} {a : Addr} {o : HO} (h : H a = some o) : H a ≠ none := by rw [h]; simp
theorem Fz.trans (a : Fz B H B1 H1) (b : Fz B1 H1 B2 H2) : Fz B H B2 H2 := ⟨a.b.trans b.b, a.h.trans b.h, b.i, fun l h1 h2 => by
  refine b.n l ?_ (a.n l h1 h2)
  cases q : H l with
  | none => exact absurd q h1
  | some o => exact some_ne (a.h l o q)⟩
theorem Fz.new (e : Ex B H) (hp : H p = none) : Fz B H (upd B p o) (upd H p o) := by
  have hb : B p = none := fresh_back e hp
  refine ⟨Ex.new hb, Ex.new hp, fun a u q => ?_, fun l h1 h2 => ?_⟩
  · by_cases e' : a = p
    · subst e'; rw [upd_same] at q ⊢; exact q
    · rw [upd_ne e'] at q ⊢; exact e a u q
  · have : l ≠ p := fun z => h1 (z ▸ hp)
    rw [upd_ne this]; exact h2
/-- a new thing that the base does not take -/
theorem Fz.aside (e : Ex B H) (hp : H p = none) : Fz B H B (upd H p o) := ⟨Ex.refl B, Ex.new hp, e.trans (Ex.new hp), fun _ _ h => h⟩
theorem ex_hunL : Ex B1 (hun B1 B2) := fun a o h => by unfold hun; rw [h]
theorem ex_hun (e1 : Ex B1 H) (e2 : Ex B2 H) : Ex (hun B1 B2) H := fun a o h => by
  unfold hun at h
  cases q : B1 a with
  | some u => rw [q] at h; rw [← h]; exact e1 a u q
  | none => rw [q] at h; exact e2 a o h
theorem ex_hunR (e1 : Ex B1 H) (e2 : Ex B2 H) : Ex B2 (hun B1 B2) := fun a o h => by
  unfold hun
  cases q : B1 a with
  | some u =>
    have := e1 a u q
    rw [e2 a o h] at this
    exact this.symm
  | none => exact h
theorem hun_none {a : Addr} (h1 : B1 a = none) (h2 : B2 a = none) : hun B1 B2 a = none := by unfold hun; rw [h1]; exact h2
/-- a larger base -/
theorem Fz.wide (x : Ex B B1) (e : Ex B1 H) (f : Fz B H B2 H2) : ∃ B3, Fz B1 H B3 H2 ∧ Ex B2 B3 := by
  have e1 := e.trans f.h
  refine ⟨hun B1 B2, ⟨ex_hunL, f.h, ex_hun e1 f.i, fun l h1 h2 => hun_none h2 (f.n l h1 ?_)⟩, ex_hunR e1 f.i⟩
  cases q : B l with
  | none => rfl
  | some o => rw [x l o q] at h2; cases h2
end

def ED (K : PySem.W.Frag) (te : TE) (σ : L2.St) (B : Hp) (d : PyData) : Prop := ∀ H1, Ex B H1 → ∀ Q : VK, (∀ v B2 H2, Fz B H1 B2 H2 → Dp K B2 v d → Q v H2) → te σ H1 Q
def EDA (K : PySem.W.Frag) (ta : TA) (σ : L2.St) (B : Hp) (ds : List PyData) : Prop := ∀ H1, Ex B H1 → ∀ Q : List V → Hp → Prop, (∀ vs B2 H2, Fz B H1 B2 H2 → DpAll K B2 vs ds → Q vs H2) → ta σ H1 Q
/-- an operation's reading on data -/
def RD2 (K : PySem.W.Frag) (r : R2) (d e z : PyData) : Prop := ∀ B H, Ex B H → ∀ x y, Dp K B x d → Dp K B y e → ∀ Q : VK, (∀ v B2 H2, Fz B H B2 H2 → Dp K B2 v z → Q v H2) → r x y H Q
def RDC (K : PySem.W.Frag) (r : List V → Hp → VK → Prop) (ds : List PyData) (z : PyData) : Prop := ∀ B H, Ex B H → ∀ vs, DpAll K B vs ds → ∀ Q : VK, (∀ v B2 H2, Fz B H B2 H2 → Dp K B2 v z → Q v H2) → r vs H Q

section
variable {K : PySem.W.Frag} {σ : L2.St} {B B' H : Hp} {te te2 ta tb tc : TE} {tr : TA} {tt tu : TT} {d e z : PyData} {ds es : List PyData} {v : V} {r : R2} {D : Ends} {tz tw tx : TS}
theorem ED.mono (x : Ex B B') (h : ED K te σ B d) : ED K te σ B' d := fun H1 a Q q => h H1 (x.trans a) Q fun v B2 H2 f hd => let ⟨B3, g, k⟩ := f.wide x a; q v B3 H2 g (dp_ex d v k hd)
theorem EDA.mono (x : Ex B B') (h : EDA K tr σ B ds) : EDA K tr σ B' ds := fun H1 a Q q => h H1 (x.trans a) Q fun v B2 H2 f hd => let ⟨B3, g, k⟩ := f.wide x a; q v B3 H2 g (dpAll_ex ds v k hd)
theorem ED.is (h : ED K te σ B d) (x : d = e) : ED K te σ B e := x ▸ h
theorem ed_var {i : Nat} (h : σ[i]? = some (some v)) (hd : Dp K B v d) : ED K (tVar i) σ B d := fun H1 a Q q => ⟨v, h, q v B H1 (.refl a) hd⟩
theorem ed_c (hd : Dp K B v d) : ED K (tC v) σ B d := fun H1 a Q q => q v B H1 (.refl a) hd
theorem ed_bl {b : Bool} : ED K (tC (.bl b)) σ B (.bool b) := ed_c (.bl b)
theorem ed_int {i : Int} : ED K (tC (.int i)) σ B (.int i) := ed_c (.int i)
theorem ed_str {x : Str} : ED K (tC (.str x)) σ B (.str x) := ed_c (.str x)
theorem ed_non : ED K (tC .non) σ B .none := ed_c .non
theorem ev_bl {b : Bool} (h : ED K te σ B (.bool b)) : Ev te σ B (.bl b) := fun H1 a Q q => h H1 a Q fun v B2 H2 x hd => by rw [hd.blI]; exact q H2 x.h
theorem ev_int {i : Int} (h : ED K te σ B (.int i)) : Ev te σ B (.int i) := fun H1 a Q q => h H1 a Q fun v B2 H2 x hd => by rw [hd.intI]; exact q H2 x.h
theorem ev_str {x : Str} (h : ED K te σ B (.str x)) : Ev te σ B (.str x) := fun H1 a Q q => h H1 a Q fun v B2 H2 y hd => by rw [hd.strI]; exact q H2 y.h
/-- nothing new for the base -/
theorem Fz.step {H2 : Hp} (a : Ex B H) (b : Ex H H2) : Fz B H B H2 := ⟨Ex.refl B, b, a.trans b, fun _ _ h => h⟩
theorem ed_flat (h : Ev te σ B v) (hd : Dp K B v d) : ED K te σ B d := fun H1 a Q q => h H1 a Q fun H2 b => q v B H2 (.step a b) hd
theorem ed_i {i : Int} (h : Ev te σ B (.int i)) : ED K te σ B (.int i) := ed_flat h (.int i)
theorem ed_b {b : Bool} (h : Ev te σ B (.bl b)) : ED K te σ B (.bool b) := ed_flat h (.bl b)
theorem et_d {b : Bool} (h : ED K te σ B (.bool b)) : EvT (tTest te) σ B b := et_test (ev_bl h)
theorem et_dB {b : Bool} (h : ED K te σ B (.bool b)) : EvT (tB te) σ B b := et_B (ev_bl h)
theorem eda_nil : EDA K tNil σ B [] := fun H1 a Q q => q [] B H1 (.refl a) .nil
theorem eda_cons (h : ED K te σ B d) (hr : EDA K tr σ B ds) : EDA K (tCons te tr) σ B (d :: ds) := fun H1 a Q q =>
  h H1 a _ fun v B2 H2 b hd => hr.mono b.b H2 b.i _ fun vs B3 H3 c hv => q (v :: vs) B3 H3 (b.trans c) (.cons (dp_ex d v c.b hd) hv)
theorem eda_1 (h : ED K te σ B d) : EDA K (tCons te tNil) σ B [d] := eda_cons h eda_nil
theorem eda_2 (h : ED K te σ B d) (h2 : ED K te2 σ B e) : EDA K (tCons te (tCons te2 tNil)) σ B [d, e] := eda_cons h (eda_1 h2)
theorem ed_tup (h : EDA K tr σ B ds) (hl : ds.length ≤ 100000) : ED K (tTup tr) σ B (.tuple ds) := fun H1 a Q q =>
  h H1 a _ fun vs B2 H2 b hv => ⟨by rw [hv.length]; exact sz_of hl, fun p hp =>
    have f := Fz.new (o := .tup vs) b.i hp
    q (.ref p) _ _ (b.trans f) (.tup (st_of upd_same) (dpAll_ex ds vs f.b hv))⟩
theorem ed_lst (h : EDA K tr σ B ds) (hl : ds.length ≤ 100000) : ED K (tLst tr) σ B (.list ds) := fun H1 a Q q =>
  h H1 a _ fun vs B2 H2 b hv => ⟨by rw [hv.length]; exact sz_of hl, fun p hp =>
    have f := Fz.new (o := .lst vs) b.i hp
    q (.ref p) _ _ (b.trans f) (.lst (sq_of upd_same) (dpAll_ex ds vs f.b hv))⟩
theorem ed_op (ha : ED K ta σ B d) (hb : ED K tb σ B e) (hr : RD2 K r d e z) : ED K (tOp r ta tb) σ B z := fun H1 a Q q =>
  ha H1 a _ fun x B2 H2 b hx => hb.mono b.b H2 b.i _ fun y B3 H3 c hy => hr B3 H3 c.i x y (dp_ex d x c.b hx) hy Q fun v B4 H4 w hv => q v B4 H4 ((b.trans c).trans w) hv
theorem ed_cb {r : List V → Hp → VK → Prop} (h : EDA K tr σ B ds) (hr : RDC K r ds z) : ED K (tCB r tr) σ B z := fun H1 a Q q =>
  h H1 a _ fun vs B2 H2 b hv => hr B2 H2 b.i vs hv Q fun v B3 H3 c hd => q v B3 H3 (b.trans c) hd
theorem ed_ifT {b : Bool} {t : TT} (h : EvT t σ B b) (h1 : b = true → ED K ta σ B d) (h2 : b = false → ED K tb σ B d) : ED K (tIf t ta tb) σ B d := fun H1 e Q q => h H1 e _ fun H2 e2 => by
  cases b with
  | true => exact h1 rfl H2 (e.trans e2) Q fun v B3 H3 f hd => q v B3 H3 ((Fz.step e e2).trans f) hd
  | false => exact h2 rfl H2 (e.trans e2) Q fun v B3 H3 f hd => q v B3 H3 ((Fz.step e e2).trans f) hd
/-- a call of a pure def -/
def spD (K : PySem.W.Frag) (R : List PyData → PyData → Prop) : Sp := fun vs H Q _ => ∃ B ds d, Ex B H ∧ DpAll K B vs ds ∧ R ds d ∧ ∀ v B2 H2, Fz B H B2 H2 → Dp K B2 v d → Q v H2
theorem ed_call {R : List PyData → PyData → Prop} {dvs : List V} {dd : List PyData} {E : XK} (h : EDA K tr σ B ds) (hd : DpAll K B dvs dd) (hr : R (ds ++ dd) z) : ED K (tCall (spD K R) dvs E tr) σ B z := fun H1 a Q q =>
  h H1 a _ fun vs B2 H2 b hv => ⟨B2, ds ++ dd, z, b.i, hv.append (dpAll_ex dd dvs b.b hd), hr, fun v B3 H3 c hz => q v B3 H3 (b.trans c) hz⟩
theorem ed_call0 {R : List PyData → PyData → Prop} {E : XK} (h : EDA K tr σ B ds) (hr : R ds z) : ED K (tCall (spD K R) [] E tr) σ B z := ed_call (dd := []) h .nil (by rw [List.append_nil]; exact hr)

/-! operations -/
theorem rd_eq (h1 : SeqAt.shaped d = true) (h2 : SeqAt.shaped e = true) : RD2 K (rEqD K) d e (.bool (PyData.eqv d e)) := fun B H a x y hx hy Q q => ⟨d, e, dp_ex d x a hx, dp_ex e y a hy, h1, h2, q _ B H (.refl a) (.bl _)⟩
theorem rd_ne (h1 : SeqAt.shaped d = true) (h2 : SeqAt.shaped e = true) : RD2 K (rNeD K) d e (.bool (!PyData.eqv d e)) := fun B H a x y hx hy Q q => ⟨d, e, dp_ex d x a hx, dp_ex e y a hy, h1, h2, q _ B H (.refl a) (.bl _)⟩
/-- x in xs: a list or a tuple of data -/
def rInS (K : PySem.W.Frag) (neg : Bool) : R2 := fun x y H Q => ∃ d ds, Dp K H x d ∧ (Dp K H y (.list ds) ∨ Dp K H y (.tuple ds)) ∧ SeqAt.shaped d = true ∧ SeqAt.shaped (.list ds) = true ∧ Q (.bl (if neg then !(ds.any fun z => PyData.eqv z d) else ds.any fun z => PyData.eqv z d)) H
theorem rd_in {neg : Bool} (h1 : SeqAt.shaped d = true) (h2 : SeqAt.shaped (.list ds) = true) (he : e = .list ds ∨ e = .tuple ds) : RD2 K (rInS K neg) d e (.bool (if neg then !(ds.any fun z => PyData.eqv z d) else ds.any fun z => PyData.eqv z d)) := fun B H a x y hx hy Q q =>
  ⟨d, ds, dp_ex d x a hx, by rcases he with rfl | rfl; exact .inl (dp_ex _ y a hy); exact .inr (dp_ex _ y a hy), h1, h2, q _ B H (.refl a) (.bl _)⟩
theorem atI_dp {xs : List V} {i : Int} (h : DpAll K H xs ds) (ha : atI ds i = some d) : ∃ v, atI xs i = some v ∧ Dp K H v d := by
  unfold atI at ha ⊢
  rw [h.length]
  cases q : ixN ds.length i with
  | none => rw [q] at ha; cases ha
  | some j =>
    rw [q] at ha
    exact h.get ha
theorem rd_ixT {i : Int} (ha : atI ds i = some d) : RD2 K (rIx K) (.tuple ds) (.int i) d := fun B H a x y hx hy Q q => by
  obtain ⟨p, xs, rfl, h1, h2⟩ := hx.tupI
  obtain ⟨v, e1, e2⟩ := atI_dp h2 ha
  exact .inr (.inl ⟨p, xs, i, v, rfl, hy.intI, ex_t a h1, e1, q v B H (.refl a) e2⟩)
theorem rd_ixL {i : Int} (ha : atI ds i = some d) : RD2 K (rIx K) (.list ds) (.int i) d := fun B H a x y hx hy Q q => by
  obtain ⟨p, xs, rfl, h1, h2⟩ := hx.lstI
  obtain ⟨v, e1, e2⟩ := atI_dp h2 ha
  exact .inl ⟨p, xs, i, v, rfl, hy.intI, ex_l a h1, e1, q v B H (.refl a) e2⟩
theorem rd_ixS {x : Str} {i : Int} {c : Nat} (hl : x.length ≤ 100000) (ha : atI x.cps.toList i = some c) : RD2 K (rIx K) (.str x) (.int i) (.str ⟨#[c]⟩) := fun B H a u y hx hy Q q =>
  .inr (.inr ⟨x, i, c, hx.strI, hy.intI, sz_of hl, ha, q _ B H (.refl a) (.str _)⟩)
/-- t + u for tuples, t empty too -/
def rCatD (K : PySem.W.Frag) : R2 := fun x y H Q => ∃ (a b : Addr) (xs ys : List V), x = .ref a ∧ y = .ref b ∧ SqT K H a xs ∧ SqT K H b ys ∧ xs.length + ys.length ≤ 100000 ∧ (xs = [] → Q (.ref b) H) ∧ (ys = [] → Q (.ref a) H) ∧ ∀ p, H p = none → Q (.ref p) (upd H p (.tup (xs ++ ys)))
theorem dp_nil {xs : List V} (h : DpAll K H xs ds) (e : xs = []) : ds = [] := by subst e; cases h; rfl
theorem rd_cat (h : ds.length + es.length ≤ 100000) : RD2 K (rCatD K) (.tuple ds) (.tuple es) (.tuple (ds ++ es)) := fun B H a x y hx hy Q q => by
  obtain ⟨p, xs, rfl, h1, h2⟩ := id hx.tupI
  obtain ⟨p', ys, rfl, h3, h4⟩ := id hy.tupI
  refine ⟨p, p', xs, ys, rfl, rfl, ex_t a h1, ex_t a h3, by rw [h2.length, h4.length]; exact h, fun e => ?_, fun e => ?_, fun r hr => ?_⟩
  · exact q _ B H (.refl a) (by rw [dp_nil h2 e]; exact hy)
  · exact q _ B H (.refl a) (by rw [dp_nil h4 e, List.append_nil]; exact hx)
  · have f := Fz.new (o := .tup (xs ++ ys)) a hr
    exact q _ _ _ f (.tup (st_of upd_same) (dpAll_ex _ _ f.b (h2.append h4)))
/-- int operations -/
theorem rd_I0 {g : Int → Int → Int} {i j : Int} : RD2 K (rI0 fun i j => .int (g i j)) (.int i) (.int j) (.int (g i j)) := fun B H a x y hx hy Q q => ⟨i, j, hx.intI, hy.intI, q _ B H (.refl a) (.int _)⟩
theorem rd_I {C : Int → Int → Prop} {g : Int → Int → Int} {i j : Int} (h : C i j) : RD2 K (rI C fun i j => .int (g i j)) (.int i) (.int j) (.int (g i j)) := fun B H a x y hx hy Q q => ⟨i, j, hx.intI, hy.intI, h, q _ B H (.refl a) (.int _)⟩
theorem rd_I0b {g : Int → Int → Bool} {i j : Int} : RD2 K (rI0 fun i j => .bl (g i j)) (.int i) (.int j) (.bool (g i j)) := fun B H a x y hx hy Q q => ⟨i, j, hx.intI, hy.intI, q _ B H (.refl a) (.bl _)⟩

/-! built-in calls -/
theorem dpAll_1 {vs : List V} (h : DpAll K H vs [d]) : ∃ v, vs = [v] ∧ Dp K H v d := by
  cases h with
  | cons h t => cases t; exact ⟨_, rfl, h⟩
theorem rc_len : RDC K (rLenS K) [.list ds] (.int ds.length) := fun B H a vs hv Q q => by
  obtain ⟨v, rfl, h⟩ := dpAll_1 hv
  obtain ⟨p, xs, rfl, h1, h2⟩ := h.lstI
  exact ⟨p, xs, rfl, .inl (ex_l a h1), by rw [h2.length]; exact q _ B H (.refl a) (.int _)⟩
theorem rc_lenT : RDC K (rLenS K) [.tuple ds] (.int ds.length) := fun B H a vs hv Q q => by
  obtain ⟨v, rfl, h⟩ := dpAll_1 hv
  obtain ⟨p, xs, rfl, h1, h2⟩ := h.tupI
  exact ⟨p, xs, rfl, .inr (ex_t a h1), by rw [h2.length]; exact q _ B H (.refl a) (.int _)⟩
theorem rc_list : RDC K (rListS K) [.list ds] (.list ds) := fun B H a vs hv Q q => by
  obtain ⟨v, rfl, h⟩ := dpAll_1 hv
  obtain ⟨p, xs, rfl, h1, h2⟩ := h.lstI
  exact ⟨p, xs, rfl, .inl (ex_l a h1), fun l hl => have f := Fz.new (o := .lst xs) a hl; q _ _ _ f (.lst (sq_of upd_same) (dpAll_ex ds xs f.b h2))⟩
theorem rc_listT : RDC K (rListS K) [.tuple ds] (.list ds) := fun B H a vs hv Q q => by
  obtain ⟨v, rfl, h⟩ := dpAll_1 hv
  obtain ⟨p, xs, rfl, h1, h2⟩ := h.tupI
  exact ⟨p, xs, rfl, .inr (ex_t a h1), fun l hl => have f := Fz.new (o := .lst xs) a hl; q _ _ _ f (.lst (sq_of upd_same) (dpAll_ex ds xs f.b h2))⟩
def rTupleS (K : PySem.W.Frag) : List V → Hp → VK → Prop := fun xs H Q => ∃ p ys, xs = [.ref p] ∧ ((SqL K H p ys ∧ ∀ l, H l = none → Q (.ref l) (upd H l (.tup ys))) ∨ (SqT K H p ys ∧ Q (.ref p) H))
theorem rc_tuple : RDC K (rTupleS K) [.list ds] (.tuple ds) := fun B H a vs hv Q q => by
  obtain ⟨v, rfl, h⟩ := dpAll_1 hv
  obtain ⟨p, xs, rfl, h1, h2⟩ := h.lstI
  exact ⟨p, xs, rfl, .inl ⟨ex_l a h1, fun l hl => have f := Fz.new (o := .tup xs) a hl; q _ _ _ f (.tup (st_of upd_same) (dpAll_ex ds xs f.b h2))⟩⟩
theorem rc_sorted (h : Srt ds) : RDC K (rSortedD K) [.list ds] (.list (ds.mergeSort (PySem.W.dataLe false id))) := fun B H a vs hv Q q => by
  obtain ⟨v, rfl, h1⟩ := dpAll_1 hv
  exact ⟨_, ds, B, a, rfl, h1, h, fun out p hp ho => have f := Fz.new (o := .lst out) a hp; q _ _ _ f (.lst (sq_of upd_same) (dpAll_ex _ out f.b ho))⟩
theorem dp_ints : ∀ {xs : List V} {ns : List Int}, DpAll K H xs (ns.map PyData.int) → xs = ns.map V.int
  | _, [], h => by cases h; rfl
  | _, n :: ns, h => by
    cases h with
    | cons h1 h2 => rw [h1.intI, dp_ints h2]; rfl
theorem dp_bls : ∀ {xs : List V} {bs : List Bool}, DpAll K H xs (bs.map PyData.bool) → xs = bs.map V.bl
  | _, [], h => by cases h; rfl
  | _, n :: ns, h => by
    cases h with
    | cons h1 h2 => rw [h1.blI, dp_bls h2]; rfl
theorem rc_sum {ns : List Int} : RDC K (rSum K) [.list (ns.map PyData.int)] (.int ns.sum) := fun B H a vs hv Q q => by
  obtain ⟨v, rfl, h1⟩ := dpAll_1 hv
  obtain ⟨p, xs, rfl, h2, h3⟩ := h1.lstI
  exact ⟨p, ns, rfl, by rw [← dp_ints h3]; exact ex_l a h2, q _ B H (.refl a) (.int _)⟩
theorem rc_any {bs : List Bool} : RDC K (rAny K) [.list (bs.map PyData.bool)] (.bool (bs.any id)) := fun B H a vs hv Q q => by
  obtain ⟨v, rfl, h1⟩ := dpAll_1 hv
  obtain ⟨p, xs, rfl, h2, h3⟩ := h1.lstI
  exact ⟨p, bs, rfl, by rw [← dp_bls h3]; exact ex_l a h2, q _ B H (.refl a) (.bl _)⟩

/-! statements: the heap H over the base B -/
theorem q_asgD {i : Nat} (h : ED K te σ B d) (a : Ex B H) (k : ∀ v B1 H1, Fz B H B1 H1 → Dp K B1 v d → tz D (σ.set i (some v)) H1) : tSeq (tAsg te (gName i)) tz D σ H := h H a _ k
theorem s_asgD {i : Nat} (h : ED K te σ B d) (a : Ex B H) (k : ∀ v B1 H1, Fz B H B1 H1 → Dp K B1 v d → D.nx (σ.set i (some v)) H1) : tAsg te (gName i) D σ H := h H a _ k
theorem s_retD (h : ED K te σ B d) (a : Ex B H) (k : ∀ v B1 H1, Fz B H B1 H1 → Dp K B1 v d → D.rt v H1) : tRet te D σ H := h H a _ k
end

section
variable {X : Cx}
theorem op_inS (hu : X.A.units + 65 < cLine) : OpR X (compareOp .In) (rInS X.K false) := by
  intro pins s σ H x y v u Q I rx ry h
  obtain ⟨d, ds, hd, he, sd, se, q⟩ := h
  obtain ⟨as, r1⟩ := Dp.reads I d x v hd rx
  rcases he with he | he
  · obtain ⟨bs, r2⟩ := Dp.reads I (.list ds) y u he ry
    exact SeqAt.in_list_reads r2 r1 (SeqAt.canLay_of_shaped se) (SeqAt.canLay_of_shaped sd) (room_in_shaped sd hu) ⟨.bl _, H, I, rfl, q⟩
  · obtain ⟨bs, r2⟩ := Dp.reads I (.tuple ds) y u he ry
    exact SeqAt.in_tuple_reads r2 r1 (SeqAt.canLay_of_shaped se) (SeqAt.canLay_of_shaped sd) (room_in_shaped sd hu) ⟨.bl _, H, I, rfl, q⟩
theorem op_notInS (hu : X.A.units + 65 < cLine) : OpR X (compareOp .NotIn) (rInS X.K true) := by
  intro pins s σ H x y v u Q I rx ry h
  obtain ⟨d, ds, hd, he, sd, se, q⟩ := h
  obtain ⟨as, r1⟩ := Dp.reads I d x v hd rx
  rcases he with he | he
  · obtain ⟨bs, r2⟩ := Dp.reads I (.list ds) y u he ry
    exact SeqAt.notIn_list_reads r2 r1 (SeqAt.canLay_of_shaped se) (SeqAt.canLay_of_shaped sd) (room_in_shaped sd hu) ⟨.bl _, H, I, rfl, q⟩
  · obtain ⟨bs, r2⟩ := Dp.reads I (.tuple ds) y u he ry
    exact SeqAt.notIn_tuple_reads r2 r1 (SeqAt.canLay_of_shaped se) (SeqAt.canLay_of_shaped sd) (room_in_shaped sd hu) ⟨.bl _, H, I, rfl, q⟩
theorem op_catD : OpR X (binaryOp .Add) (rCatD X.K) := by
  intro pins s σ H x y v u Q I rx ry h
  obtain ⟨a, b, xs, ys, rfl, rfl, ha, hb, hz, q1, q2, q3⟩ := h
  cases rx
  cases ry
  obtain ⟨its, r1, p1, _⟩ := I.tuple ha
  obtain ⟨its2, r2, p2, _⟩ := I.tuple hb
  have l1 := r1.length; have l2 := r2.length
  have hz' : its.length + its2.length ≤ sizeLine := sz_of (by omega)
  by_cases h0 : its = []
  · subst h0
    obtain ⟨⟨cls, dd, data, sl⟩, ho, hc, n, hd'⟩ := id p1
    obtain ⟨⟨cls2, dd2, data2, sl2⟩, ho2, hc2, n2, hd2⟩ := id p2
    simp only at hc hd' hc2 hd2
    subst hc hd' hc2 hd2
    exact concat_meets ⟨_, ho, rfl⟩ ⟨_, ho2, rfl⟩ noFill_tuple_add seq_tuple_add PySem.F.slot_tuple_add PySem.F.entry_tuple_add (PySem.F.args_tuple_add_2 _ _)
      (tuple_addW0 a b _ its2.toArray n n2 dd dd2 sl sl2 (by simp)) ⟨ho, ho2, ⟨.ref b, H, I, rfl, q1 (List.length_eq_zero_iff.mp (by simpa using l1))⟩⟩
  · refine HT.cat_tup p1 p2 h0 (fun z => ⟨.ref a, H, I, rfl, q2 (r2.nil_iff.mp z)⟩) (fun z => ?_) hz'
    exact ⟨.ref s.heap.objs.size, _, I.laid (t' := s.toks) (o := .tup (xs ++ ys)) (fun b ob q => Heap.get?_push_of_some _ q) (Nat.le_refl _) ⟨by rw [List.length_append]; exact sz_of (by omega), _, r1.append r2, IsTup.new _ _⟩, rfl, q3 _ (I.hok.fresh (Nat.le_refl _))⟩
end
end DL
end

section
set_option Elab.async false
set_option linter.all false
set_option maxRecDepth 100000
set_option maxHeartbeats 2000000
/-! D2: walked things, comprehensions, loops by data. -/
namespace DL
open PySem PySem.Spec PyProof.Rows L2 GenW Evl NS

structure JV (J : It) (xs : List V) (B : Hp) : Prop where
  go : ∀ i H, Ex B H → i < xs.length → J.go i H
  stop : ∀ H, Ex B H → J.stop xs.length H
  yld : ∀ i H x H', Ex B H → i < xs.length → J.yld i H x H' → H' = H ∧ xs[i]? = some x
theorem JV.mono {J : It} {xs : List V} {B B' : Hp} (e : Ex B B') (h : JV J xs B) : JV J xs B' := ⟨fun i H a => h.go i H (e.trans a), fun H a => h.stop H (e.trans a), fun i H x H' a => h.yld i H x H' (e.trans a)⟩
def ID (K : PySem.W.Frag) (wi : TI) (σ : L2.St) (B : Hp) (ds : List PyData) : Prop := ∀ H1, Ex B H1 → ∀ R : It → Hp → Prop, (∀ J xs B2 H2, Fz B H1 B2 H2 → JV J xs B2 → DpAll K B2 xs ds → R J H2) → wi σ H1 R

section
variable {K : PySem.W.Frag} {σ : L2.St} {B B' H : Hp} {te : TE} {wi wi1 : TI} {tr : TA} {tt tt1 : TT} {d : PyData} {ds : List PyData} {v : V} {D : Ends} {tu : TS}
theorem jv_list {a : Addr} {xs : List V} (h : SqL K B a xs) : JV (Itl K a) xs B := ⟨fun i H e hi => ⟨xs, xs[i], ex_l e h, by simp [hi]⟩, fun H e => ⟨xs, ex_l e h, Nat.le_refl _⟩, fun i H x H' e hi y => ⟨y.1, y.2 xs (ex_l e h)⟩⟩
theorem jv_tup {a : Addr} {xs : List V} (h : SqT K B a xs) : JV (Itt K a) xs B := ⟨fun i H e hi => ⟨xs, xs[i], ex_t e h, by simp [hi]⟩, fun H e => ⟨xs, ex_t e h, Nat.le_refl _⟩, fun i H x H' e hi y => ⟨y.1, y.2 xs (ex_t e h)⟩⟩
theorem id_list (h : ED K te σ B (.list ds)) : ID K (iList K te) σ B ds := fun H1 a R q => h H1 a _ fun v B2 H2 f hd => by
  obtain ⟨p, xs, rfl, h1, h2⟩ := hd.lstI
  exact ⟨p, rfl, ⟨xs, ex_l f.i h1⟩, q _ xs B2 H2 f (jv_list h1) h2⟩
theorem id_tup (h : ED K te σ B (.tuple ds)) : ID K (iTup K te) σ B ds := fun H1 a R q => h H1 a _ fun v B2 H2 f hd => by
  obtain ⟨p, xs, rfl, h1, h2⟩ := hd.tupI
  exact ⟨p, rfl, ⟨xs, ex_t f.i h1⟩, q _ xs B2 H2 f (jv_tup h1) h2⟩
/-- a list or a tuple -/
def iSeq (K : PySem.W.Frag) (tl : TE) : TI := fun σ H R => iList K tl σ H R ∨ iTup K tl σ H R
theorem pi_seq {X : Cx} {tg l : Expr} {tl : TE} (hl : PE X l tl) : PI X tg l (iSeq X.K tl) := ⟨fun pins s σ H R I h => by
  rcases h with h | h
  · exact (pi_list hl).run pins s σ H R I h
  · exact (pi_tup hl).run pins s σ H R I h⟩
theorem id_seqL (h : ED K te σ B (.list ds)) : ID K (iSeq K te) σ B ds := fun H1 a R q => .inl (id_list h H1 a R q)
theorem id_seqT (h : ED K te σ B (.tuple ds)) : ID K (iSeq K te) σ B ds := fun H1 a R q => .inr (id_tup h H1 a R q)
/-- a list or tuple of data -/
def IsSeq (d : PyData) (ds : List PyData) : Prop := d = .list ds ∨ d = .tuple ds
theorem id_seq (e : IsSeq d ds) (h : ED K te σ B d) : ID K (iSeq K te) σ B ds := by
  rcases e with rfl | rfl
  · exact id_seqL h
  · exact id_seqT h
theorem dp_range (n : Nat) : DpAll K B ((List.range n).map fun i : Nat => V.int (i : Int)) ((List.range n).map fun i : Nat => PyData.int (i : Int)) := by
  induction List.range n with
  | nil => exact .nil
  | cons i l ih => exact .cons (.int _) ih
theorem id_range {n : Nat} (h : EDA K tr σ B [.int (n : Int)]) (hn : n ≤ 100000) : ID K (iRng1 tr) σ B ((List.range n).map fun i : Nat => PyData.int (i : Int)) := fun H1 a R q => h H1 a _ fun vs B2 H2 f hv => by
  obtain ⟨v, rfl, h1⟩ := dpAll_1 hv
  refine ⟨(n : Int), by rw [h1.intI], by omega, by omega, q _ ((List.range n).map fun i : Nat => V.int (i : Int)) B2 H2 f ⟨fun i H e hi => ?_, fun H e => ?_, fun i H x H' e hi y => ?_⟩ (dp_range n)⟩
  · show i < (n : Int).toNat
    simpa using hi
  · show (n : Int).toNat ≤ _
    simp
  · obtain ⟨y1, y2⟩ := y
    refine ⟨y1, ?_⟩
    rw [y2]
    have : i < n := by simpa using hi
    simp [this]

theorem take_nextP {α : Type} {ds : List α} {i : Nat} {d : α} (h : ds[i]? = some d) : ds.take (i + 1) = ds.take i ++ [d] := by rw [List.take_succ, h]; rfl
theorem map_get {α β : Type} {f : α → β} {as : List α} {i : Nat} {b : β} (h : (as.map f)[i]? = some b) : ∃ a, as[i]? = some a ∧ b = f a := by
  rw [List.getElem?_map] at h
  cases q : as[i]? with
  | none => rw [q] at h; cases h
  | some a => rw [q] at h; exact ⟨a, rfl, (Option.some.inj h).symm⟩
/-- [te for j in wi if tt] -/
theorem ed_lc {α : Type} {j : Nat} {vs : List Nat} (enc : α → PyData) (ds : List α) (f : α → Bool) (g : α → PyData) (hs : ID K wi σ B (ds.map enc)) (hz : ds.length ≤ 40000) (hw : ∀ x, wipe ((wipe σ vs).set j (some x)) vs = wipe σ vs)
    (ht : ∀ (i : Nat) d x B1, Ex B B1 → ds[i]? = some d → Dp K B1 x (enc d) → EvT tt ((wipe σ vs).set j (some x)) B1 (f d)) (he : ∀ (i : Nat) d x B1, Ex B B1 → ds[i]? = some d → Dp K B1 x (enc d) → f d = true → ED K te ((wipe σ vs).set j (some x)) B1 (g d)) :
    ED K (tLc wi (gName j) tt te vs) σ B (.list ((ds.filter f).map g)) := fun H1 a Q q => hs H1 a _ fun J xs B2 H2 fz jv hd Dl hD => by
  have hl := hd.length
  rw [List.length_map] at hl
  refine ⟨fun i m H => m = ds.length - i ∧ i ≤ ds.length ∧ ∃ B3 acc, Fz B H1 B3 H ∧ Ex B2 B3 ∧ B3 Dl = none ∧ H Dl = some (.lst acc) ∧ DpAll K B3 acc (((ds.take i).filter f).map g), ⟨ds.length, by simp, Nat.zero_le _, B2, [], ?_, Ex.refl _, fresh_back fz.i hD, upd_same, .nil⟩, ?_⟩
  · exact fz.trans (Fz.aside fz.i hD)
  rintro i m H ⟨rfl, hi, B3, acc, f3, e3, n3, l3, d3⟩
  have hD1 : H1 Dl = none := fresh_back fz.h hD
  by_cases hlt : i < ds.length
  · refine .inr ⟨jv.go i H (e3.trans f3.i) (by omega), fun H' => i + 1 ≤ ds.length ∧ ∃ B3 acc, Fz B H1 B3 H' ∧ Ex B2 B3 ∧ B3 Dl = none ∧ H' Dl = some (.lst acc) ∧ DpAll K B3 acc (((ds.take (i + 1)).filter f).map g), fun H' p' => ⟨ds.length - (i + 1), by omega, rfl, p'⟩, fun x H' y => ?_⟩
    obtain ⟨rfl, hx⟩ := jv.yld i H x H' (e3.trans f3.i) (by omega) y
    obtain ⟨d0, hd0, hxd⟩ := hd.getV hx
    obtain ⟨d, hdi, rfl⟩ := map_get hd0
    have hxd3 := dp_ex _ x e3 hxd
    have hal : acc.length ≤ 40000 := by
      rw [d3.length, List.length_map]
      exact Nat.le_trans (List.length_filter_le _ _) (Nat.le_trans (by rw [List.length_take]; omega) hz)
    refine ⟨hw x, ht i d x B3 f3.b hdi hxd3 H' f3.i _ fun H4 e4 => ?_⟩
    cases hf : f d with
    | false =>
      rw [if_neg Bool.false_ne_true]
      refine ⟨hlt, B3, acc, ⟨f3.b, f3.h.trans e4, f3.i.trans e4, f3.n⟩, e3, n3, e4 _ _ l3, ?_⟩
      rw [take_nextP hdi, List.filter_append, List.filter_cons, if_neg (by rw [hf]; decide), List.filter_nil, List.append_nil]
      exact d3
    | true =>
      rw [if_pos rfl]
      refine he i d x B3 f3.b hdi hxd3 hf H4 (f3.i.trans e4) _ fun y B5 H5 f5 hy => ?_
      have l5 : H5 Dl = some (.lst acc) := f5.h _ _ (e4 _ _ l3)
      have n5 : B5 Dl = none := f5.n Dl (some_ne (e4 _ _ l3)) n3
      refine ⟨acc, l5, sz_lt (by omega), hlt, B5, acc ++ [y], ⟨f3.b.trans f5.b, Ex.mut ((f3.h.trans e4).trans f5.h) hD1, Ex.mut f5.i n5, fun l k1 k2 => f5.n l ?_ (f3.n l k1 k2)⟩, e3.trans f5.b, n5, upd_same, ?_⟩
      · cases hq : H1 l with
        | none => exact absurd hq k1
        | some o => exact some_ne (e4 _ _ (f3.h _ _ hq))
      · rw [take_nextP hdi, List.filter_append, List.filter_cons, if_pos hf, List.filter_nil, List.map_append]
        exact (dpAll_ex _ _ f5.b d3).append (.one hy)
  · have e : i = ds.length := by omega
    subst e
    refine .inl ⟨by rw [← hl]; exact jv.stop H (e3.trans f3.i), ?_⟩
    rw [List.take_length] at d3
    refine q (.ref Dl) (upd B3 Dl (.lst acc)) H ⟨f3.b.trans (Ex.new n3), f3.h, fun b o hb => ?_, fun l k1 k2 => ?_⟩ (.lst (sq_of upd_same) (dpAll_ex _ _ (Ex.new n3) d3))
    · by_cases hbD : b = Dl
      · subst hbD; rw [upd_same] at hb; cases hb; exact l3
      · rw [upd_ne hbD] at hb; exact f3.i b o hb
    · rw [upd_ne (show l ≠ Dl from fun z => k1 (by rw [z]; exact hD1))]; exact f3.n l k1 k2
theorem et_yes {σ' : L2.St} : EvT tYes σ' B true := fun H1 e Q q => q H1 (Ex.refl H1)
/-- without a test -/
theorem ed_lcY {α : Type} {j : Nat} {vs : List Nat} (enc : α → PyData) (ds : List α) (g : α → PyData) (hs : ID K wi σ B (ds.map enc)) (hz : ds.length ≤ 40000) (hw : ∀ x, wipe ((wipe σ vs).set j (some x)) vs = wipe σ vs)
    (he : ∀ (i : Nat) d x B1, Ex B B1 → ds[i]? = some d → Dp K B1 x (enc d) → ED K te ((wipe σ vs).set j (some x)) B1 (g d)) : ED K (tLc wi (gName j) tYes te vs) σ B (.list (ds.map g)) := by
  have h := ed_lc (te := te) enc ds (fun _ => true) g hs hz hw (fun i d x B1 _ _ _ => et_yes) fun i d x B1 h1 h2 h3 _ => he i d x B1 h1 h2 h3
  rwa [List.filter_eq_self.mpr (by simp)] at h

/-- a loop -/
theorem s_forD {j : Nat} (hs : ID K wi σ B ds) (a : Ex B H)
    (h0 : ∀ xs B1 H1, Fz B H B1 H1 → DpAll K B1 xs ds → ∃ Pv : Nat → L2.St → Hp → Prop, Pv 0 σ H1 ∧ (∀ i σ' H', Pv i σ' H' → Ex B1 H') ∧
      (∀ (i : Nat) x d σ' H', ds[i]? = some d → Dp K B1 x d → Pv i σ' H' → tu { D with nx := Pv (i + 1), ct := Pv (i + 1), bk := D.nx } (σ'.set j (some x)) H') ∧ ∀ σ' H', Pv ds.length σ' H' → D.nx σ' H') : tFor wi (gName j) tu D σ H :=
  hs H a _ fun J xs B1 H1 fz jv hd => by
    obtain ⟨Pv, p0, pe, ps, pd⟩ := h0 xs B1 H1 fz hd
    have hl := hd.length
    refine ⟨fun i m σ H => m = ds.length - i ∧ i ≤ ds.length ∧ Pv i σ H, ⟨ds.length, by simp, Nat.zero_le _, p0⟩, ?_⟩
    rintro i m σ' H' ⟨rfl, hi, p⟩
    by_cases hlt : i < ds.length
    · refine .inr ⟨jv.go i H' (pe _ _ _ p) (by omega), Pv (i + 1), fun σ2 H2 p' => ⟨ds.length - (i + 1), by omega, rfl, hlt, p'⟩, fun x H2 y => ?_⟩
      obtain ⟨rfl, hx⟩ := jv.yld i H' x H2 (pe _ _ _ p) (by omega) y
      obtain ⟨d, hdi, hxd⟩ := hd.getV hx
      exact ps i x d σ' _ hdi hxd p
    · have e : i = ds.length := by omega
      subst e
      exact .inl ⟨by rw [← hl]; exact jv.stop H' (pe _ _ _ p), pd σ' H' p⟩
end
end DL
end

section
set_option Elab.async false
set_option linter.all false
set_option maxRecDepth 100000
set_option maxHeartbeats 2000000
/-! D3: sets of nested tuples by data; sorted(them). -/
namespace DL
open PySem PySem.Spec PyProof.Rows L2 GenW Evl NS

def ES (K : PySem.W.Frag) (w : World) (te : TE) (σ : L2.St) (B : Hp) (ds : List PyData) : Prop := ∀ H1, Ex B H1 → ∀ Q : VK,
  (∀ (a : Addr) (L : List (Addr × PyData)) B2 H2, Fz B H1 B2 H2 → H2 a = some (SetDO w a L) → (∀ p ∈ L, p.2 ∈ ds ∧ keyed p.2 = true ∧ Dp K B2 (.ref p.1) p.2) → (∀ d ∈ ds, nk d ∈ L.map fun p => nk p.2) → Q (.ref a) H2) → te σ H1 Q
structure SInv (K : PySem.W.Frag) (w : World) (B H1 : Hp) (D : Addr) (B2 : Hp) (done : List PyData) (H : Hp) : Prop where
  ex : ∃ (B3 : Hp) (L : List (Addr × PyData)), Fz B H1 B3 H ∧ Ex B2 B3 ∧ B3 D = none ∧ H D = some (SetDO w D L) ∧ (∀ p ∈ L, p.2 ∈ done ∧ keyed p.2 = true ∧ Dp K B3 (.ref p.1) p.2) ∧ (∀ d ∈ done, nk d ∈ L.map fun p => nk p.2) ∧ (L.map fun p => nk p.2).Nodup

section
variable {K : PySem.W.Frag} {w : World} {σ : L2.St} {B B2 B3 H H1 H4 : Hp} {te : TE} {wi wi1 : TI} {tr : TA} {d : PyData} {ds done : List PyData} {D : Addr}
theorem SInv.start {H2 : Hp} (fz : Fz B H1 B2 H2) (hD : H2 D = none) : SInv K w B H1 D B2 [] (upd H2 D (SetDO w D [])) :=
  ⟨B2, [], fz.trans (Fz.aside fz.i hD), Ex.refl _, fresh_back fz.i hD, upd_same, fun p hp => (by cases hp), fun d hd => (by cases hd), List.nodup_nil⟩
theorem SInv.lower (e : Ex B2 B3) (h : SInv K w B H1 D B3 done H) : SInv K w B H1 D B2 done H := by
  obtain ⟨B4, L, f, x, r⟩ := h.ex
  exact ⟨B4, L, f, e.trans x, r⟩
theorem SInv.elt (h : SInv K w B H1 D B2 done H) (hD1 : H1 D = none) (he : ∀ B3, Ex B2 B3 → ED K te σ B3 d) (hk : keyed d = true) (ht : isTup d = true) (hz : ∀ M : List PyData, (∀ d ∈ M, d ∈ done) → (M.map nk).Nodup → M.length ≤ 60) {Nx : Hp → Prop} (hN : ∀ H', SInv K w B H1 D B2 (done ++ [d]) H' → Nx H') :
    te σ H fun y H4 => ∃ (b : Addr) (d : PyData) (L : List (Addr × PyData)), y = .ref b ∧ Dp K H4 (.ref b) d ∧ keyed d = true ∧ H4 D = some (SetDO w D L) ∧ (∀ p ∈ L, keyed p.2 = true ∧ Dp K H4 (.ref p.1) p.2) ∧ L.length + 1 < 64 ∧
      ∀ L', Put L b d L' → Nx (upd H4 D (SetDO w D L')) := by
  obtain ⟨B3, L, f, x, n3, l3, a3, c3, z3⟩ := h.ex
  refine he B3 x H f.i _ fun y B5 H5 f5 hy => ?_
  cases d with
  | tuple es =>
    obtain ⟨b, xs, rfl, _⟩ := hy.tupI
    have l5 : H5 D = some (SetDO w D L) := f5.h _ _ l3
    have n5 : B5 D = none := f5.n D (some_ne l3) n3
    refine ⟨b, .tuple es, L, rfl, dp_ex _ _ f5.i hy, hk, l5, fun p hp => ⟨(a3 p hp).2.1, dp_ex _ _ (f5.b.trans f5.i) (a3 p hp).2.2⟩, by have := hz (L.map (·.2)) (fun d hd => by obtain ⟨p, hp, rfl⟩ := List.mem_map.mp hd; exact (a3 p hp).1) (by rw [List.map_map]; exact z3); rw [List.length_map] at this; omega, fun L' pt => hN _ ⟨?_⟩⟩
    have base : Fz B H1 B5 (upd H5 D (SetDO w D L')) := ⟨f.b.trans f5.b, Ex.mut (f.h.trans f5.h) hD1, Ex.mut f5.i n5, fun l k1 k2 => f5.n l (by
      cases hq : H1 l with
      | none => exact absurd hq k1
      | some o => exact some_ne (f.h _ _ hq)) (f.n l k1 k2)⟩
    have old : ∀ p ∈ L, p.2 ∈ done ++ [PyData.tuple es] ∧ keyed p.2 = true ∧ Dp K B5 (.ref p.1) p.2 := fun p hp => ⟨List.mem_append_left _ (a3 p hp).1, (a3 p hp).2.1, dp_ex _ _ f5.b (a3 p hp).2.2⟩
    by_cases hm : nk (.tuple es) ∈ L.map (fun p => nk p.2)
    · rw [pt.1 hm]
      refine ⟨B5, L, by rw [← pt.1 hm]; exact base, x.trans f5.b, n5, upd_same, old, fun e he => ?_, z3⟩
      rcases List.mem_append.mp he with he | he
      · exact c3 e he
      · rw [List.mem_singleton.mp he]; exact hm
    · have pm := pt.2 hm
      refine ⟨B5, L', base, x.trans f5.b, n5, upd_same, fun p hp => ?_, fun e he => ?_, (pm.map fun p => nk p.2).nodup_iff.mpr (List.nodup_cons.mpr ⟨hm, z3⟩)⟩
      · rcases List.mem_cons.mp (pm.mem_iff.mp hp) with e | hp
        · rw [e]; exact ⟨List.mem_append_right _ List.mem_cons_self, hk, hy⟩
        · exact old p hp
      · rw [(pm.map fun p => nk p.2).mem_iff, List.map_cons]
        rcases List.mem_append.mp he with he | he
        · exact List.mem_cons_of_mem _ (c3 e he)
        · rw [List.mem_singleton.mp he]; exact List.mem_cons_self
  | _ => exact absurd ht (by simp [isTup])
/-- {te for j in wi} -/
theorem es_sc {α : Type} {j : Nat} {vs : List Nat} (enc : α → PyData) (ds : List α) (g : α → PyData) (hs : ID K wi σ B (ds.map enc)) (hz : ∀ M : List PyData, (∀ d ∈ M, d ∈ ds.map g) → (M.map nk).Nodup → M.length ≤ 60) (hw : ∀ x, wipe ((wipe σ vs).set j (some x)) vs = wipe σ vs)
    (he : ∀ (i : Nat) d x B1, Ex B B1 → ds[i]? = some d → Dp K B1 x (enc d) → ED K te ((wipe σ vs).set j (some x)) B1 (g d)) (hk : ∀ d ∈ ds, keyed (g d) = true ∧ isTup (g d) = true) :
    ES K w (tScD w K wi (gName j) tYes te vs) σ B (ds.map g) := fun H1 a Q q => hs H1 a _ fun J xs B2 H2 fz jv hd D hD => by
  have hl := hd.length
  rw [List.length_map] at hl
  have hD1 : H1 D = none := fresh_back fz.h hD
  refine ⟨fun i m H => m = ds.length - i ∧ i ≤ ds.length ∧ SInv K w B H1 D B2 ((ds.take i).map g) H, ⟨ds.length, by simp, Nat.zero_le _, .start fz hD⟩, ?_⟩
  rintro i m H ⟨rfl, hi, p⟩
  have up : Ex B2 H := by obtain ⟨B3, L, f, x, _⟩ := p.ex; exact x.trans f.i
  by_cases hlt : i < ds.length
  · refine .inr ⟨jv.go i H up (by omega), fun H' => i + 1 ≤ ds.length ∧ SInv K w B H1 D B2 ((ds.take (i + 1)).map g) H', fun H' p' => ⟨ds.length - (i + 1), by omega, rfl, p'⟩, fun x H' y => ?_⟩
    obtain ⟨rfl, hx⟩ := jv.yld i H x H' up (by omega) y
    obtain ⟨d0, hd0, hxd⟩ := hd.getV hx
    obtain ⟨d, hdi, rfl⟩ := map_get hd0
    have hkd := hk d (List.mem_of_getElem? hdi)
    refine ⟨hw x, ?_⟩
    dsimp only [tYes]
    rw [if_pos rfl]
    refine p.elt (Nx := fun H' => i + 1 ≤ ds.length ∧ SInv K w B H1 D B2 ((ds.take (i + 1)).map g) H') (te := te) (σ := (wipe σ vs).set j (some x)) hD1 (fun B3 e3 => he i d x B3 (fz.b.trans e3) hdi (dp_ex _ x e3 hxd)) hkd.1 hkd.2 (fun M hM => hz M fun d hd => by obtain ⟨a, ha, e⟩ := List.mem_map.mp (hM d hd); exact List.mem_map.mpr ⟨a, List.mem_of_mem_take ha, e⟩) fun H' p' => ⟨hlt, ?_⟩
    have e : (ds.take (i + 1)).map g = (ds.take i).map g ++ [g d] := by rw [take_nextP hdi, List.map_append]; rfl
    rw [e]
    exact p'
  · have e : i = ds.length := by omega
    subst e
    refine .inl ⟨by rw [← hl]; exact jv.stop H up, ?_⟩
    rw [List.take_length] at p
    obtain ⟨B3, L, f, x, n3, l3, a3, c3, z3⟩ := p.ex
    exact q D L B3 H f l3 a3 c3
/-- {te for j in wi for j1 in wi1} -/
theorem es_sc2 {α β : Type} {j j1 : Nat} {vs vs1 : List Nat} (enc : α → PyData) (enc1 : β → PyData) (ds : List α) (inn : α → List β) (g : β → PyData) (hs : ID K wi σ B (ds.map enc)) (hz : ∀ M : List PyData, (∀ d ∈ M, d ∈ (ds.flatMap inn).map g) → (M.map nk).Nodup → M.length ≤ 60) (hw : ∀ x, wipe ((wipe σ vs).set j (some x)) vs = wipe σ vs)
    (hw1 : ∀ x y, wipe ((wipe ((wipe σ vs).set j (some x)) vs1).set j1 (some y)) vs1 = wipe ((wipe σ vs).set j (some x)) vs1)
    (hi : ∀ (i : Nat) d x B1, Ex B B1 → ds[i]? = some d → Dp K B1 x (enc d) → ID K wi1 ((wipe σ vs).set j (some x)) B1 ((inn d).map enc1))
    (he : ∀ (i : Nat) d x B1, Ex B B1 → ds[i]? = some d → Dp K B1 x (enc d) → ∀ (k : Nat) d' y B2, Ex B1 B2 → (inn d)[k]? = some d' → Dp K B2 y (enc1 d') → ED K te ((wipe ((wipe σ vs).set j (some x)) vs1).set j1 (some y)) B2 (g d'))
    (hk : ∀ d ∈ ds, ∀ d' ∈ inn d, keyed (g d') = true ∧ isTup (g d') = true) :
    ES K w (tScD2 w K wi (gName j) tYes wi1 (gName j1) tYes te vs vs1) σ B ((ds.flatMap inn).map g) := fun H1 a Q q => hs H1 a _ fun J xs B2 H2 fz jv hd D hD => by
  have hl := hd.length
  rw [List.length_map] at hl
  have hD1 : H1 D = none := fresh_back fz.h hD
  refine ⟨fun i m H => m = ds.length - i ∧ i ≤ ds.length ∧ SInv K w B H1 D B2 (((ds.take i).flatMap inn).map g) H, ⟨ds.length, by simp, Nat.zero_le _, .start fz hD⟩, ?_⟩
  rintro i m H ⟨rfl, hii, p⟩
  have up : Ex B2 H := by obtain ⟨B3, L, f, x, _⟩ := p.ex; exact x.trans f.i
  by_cases hlt : i < ds.length
  · refine .inr ⟨jv.go i H up (by omega), fun H' => i + 1 ≤ ds.length ∧ SInv K w B H1 D B2 (((ds.take (i + 1)).flatMap inn).map g) H', fun H' p' => ⟨ds.length - (i + 1), by omega, rfl, p'⟩, fun x H' y => ?_⟩
    obtain ⟨rfl, hx⟩ := jv.yld i H x H' up (by omega) y
    obtain ⟨d0, hd0, hxd⟩ := hd.getV hx
    obtain ⟨d, hdi, rfl⟩ := map_get hd0
    refine ⟨hw x, ?_⟩
    dsimp only [tYes]
    rw [if_pos rfl]
    have eT : (ds.take (i + 1)).flatMap inn = (ds.take i).flatMap inn ++ inn d := by rw [take_nextP hdi, List.flatMap_append]; simp
    obtain ⟨B3, L, f, x3, n3, l3, a3, c3, z3⟩ := id p.ex
    refine hi i d x B3 f.b hdi (dp_ex _ x x3 hxd) H' f.i _ fun J1 ys B4 H4 f4 jv1 hd1 => ?_
    have hl1 := hd1.length
    rw [List.length_map] at hl1
    have l4 : H4 D = some (SetDO w D L) := f4.h _ _ l3
    have n4 : B4 D = none := f4.n D (some_ne l3) n3
    have p4 : SInv K w B H1 D B4 (((ds.take i).flatMap inn ++ (inn d).take 0).map g) H4 := by
      refine ⟨B4, L, f.trans f4, Ex.refl _, n4, l4, ?_⟩
      rw [List.take_zero, List.append_nil]
      exact ⟨fun p hp => ⟨(a3 p hp).1, (a3 p hp).2.1, dp_ex _ _ f4.b (a3 p hp).2.2⟩, c3, z3⟩
    refine ⟨fun k m H => m = (inn d).length - k ∧ k ≤ (inn d).length ∧ SInv K w B H1 D B4 (((ds.take i).flatMap inn ++ (inn d).take k).map g) H, ⟨(inn d).length, by simp, Nat.zero_le _, p4⟩, ?_⟩
    rintro k m H5 ⟨rfl, hki, p5⟩
    have up5 : Ex B4 H5 := by obtain ⟨B6, L, f, x, _⟩ := p5.ex; exact x.trans f.i
    by_cases hlt1 : k < (inn d).length
    · refine .inr ⟨jv1.go k H5 up5 (by omega), fun H' => k + 1 ≤ (inn d).length ∧ SInv K w B H1 D B4 (((ds.take i).flatMap inn ++ (inn d).take (k + 1)).map g) H', fun H' p' => ⟨(inn d).length - (k + 1), by omega, rfl, p'⟩, fun y1 H6 yy => ?_⟩
      obtain ⟨rfl, hy⟩ := jv1.yld k H5 y1 H6 up5 (by omega) yy
      obtain ⟨d0', hd0', hyd⟩ := hd1.getV hy
      obtain ⟨d', hdk, rfl⟩ := map_get hd0'
      have hkd := hk d (List.mem_of_getElem? hdi) d' (List.mem_of_getElem? hdk)
      refine ⟨hw1 x y1, ?_⟩
      dsimp only [tYes]
      rw [if_pos rfl]
      refine p5.elt (Nx := fun H' => k + 1 ≤ (inn d).length ∧ SInv K w B H1 D B4 (((ds.take i).flatMap inn ++ (inn d).take (k + 1)).map g) H') (te := te) (σ := (wipe ((wipe σ vs).set j (some x)) vs1).set j1 (some y1)) hD1 (fun B7 e7 => he i d x B3 f.b hdi (dp_ex _ x x3 hxd) k d' y1 B7 (f4.b.trans e7) hdk (dp_ex _ y1 e7 hyd)) hkd.1 hkd.2 ?_ fun H' p' => ⟨hlt1, ?_⟩
      · refine fun M hM => hz M fun d0 hd0 => ?_
        obtain ⟨b, hb, e⟩ := List.mem_map.mp (hM d0 hd0)
        refine List.mem_map.mpr ⟨b, ?_, e⟩
        rcases List.mem_append.mp hb with hb | hb
        · obtain ⟨a, ha, hab⟩ := List.mem_flatMap.mp hb
          exact List.mem_flatMap.mpr ⟨a, List.mem_of_mem_take ha, hab⟩
        · exact List.mem_flatMap.mpr ⟨d, List.mem_of_getElem? hdi, List.mem_of_mem_take hb⟩
      · have e : ((ds.take i).flatMap inn ++ (inn d).take (k + 1)).map g = ((ds.take i).flatMap inn ++ (inn d).take k).map g ++ [g d'] := by rw [take_nextP hdk, ← List.append_assoc, List.map_append]; rfl
        rw [e]
        exact p'
    · have e : k = (inn d).length := by omega
      subst e
      rw [List.take_length, ← eT] at p5
      exact .inl ⟨by rw [← hl1]; exact jv1.stop H5 up5, hlt, p5.lower (x3.trans f4.b)⟩
  · have e : i = ds.length := by omega
    subst e
    refine .inl ⟨by rw [← hl]; exact jv.stop H up, ?_⟩
    rw [List.take_length] at p
    obtain ⟨B3, L, f, x, n3, l3, a3, c3, z3⟩ := p.ex
    exact q D L B3 H f l3 a3 c3
theorem cap_enc {α : Type} {enc : α → PyData} {as : List α} (hn : ∀ l : List α, l.Nodup → l.length ≤ 60) : ∀ M : List PyData, (∀ d ∈ M, d ∈ as.map enc) → (M.map nk).Nodup → M.length ≤ 60 := fun M hM nd => by
  obtain ⟨bs, rfl, _⟩ := sub_map (f := enc) (ks := as) (L := M) hM
  rw [List.map_map] at nd
  rw [List.length_map]
  exact hn bs (nodup_of_map nd)
/-- set(xs) -/
theorem es_set {ta : TE} (h : ED K ta σ B (.list ds)) (hk : ∀ d ∈ ds, keyed d = true ∧ isTup d = true) (hz : ds.length < 64) : ES K w (tCB (rSetD K w) (tCons ta tNil)) σ B ds := fun H1 a Q q => h H1 a _ fun v B2 H2 f hd =>
  ⟨v, ds, B2, f.i, rfl, hd, hk, hz, fun p L hp hL hc => q p L B2 _ (f.trans (.aside f.i hp)) upd_same (fun x hx => ⟨(hL x hx).1, (hk _ (hL x hx).1).1, (hL x hx).2⟩) hc⟩
end

/-! ### the sorted members, each once -/
/-- the members of ds as a row of their own kind: enc on α -/
structure EncOk {α : Type} (enc : α → PyData) : Prop where
  inj : ∀ a b, nk (enc a) = nk (enc b) → a = b
  alike : ∀ a b, PySem.W.alike (enc a) (enc b) = true
  keyed : ∀ a, keyed (enc a) = true
  tup : ∀ a, ∃ x r, enc a = .tuple (x :: r)
  dep : ∀ a, (enc a).depth ≤ 16
def leOf {α : Type} (enc : α → PyData) : α → α → Bool := PySem.W.dataLe false enc
/-- each once, sorted -/
def sortU {α : Type} [DecidableEq α] (enc : α → PyData) (as : List α) : List α := as.eraseDups.mergeSort (leOf enc)

section
open PySem.W
mutual
theorem nk_eqv : ∀ x y : PyData, NS.kb x = true → NS.kb y = true → PyData.eqv x y = true → nk x = nk y
  | .none, y, _, hy, h => by cases y <;> first | rfl | (simp [PyData.eqv] at h; done) | (simp [kb] at hy; done)
  | .bool a, y, _, hy, h => by cases y <;> first | (simp [PyData.eqv] at h; simp [nk, h]; done) | (simp [PyData.eqv] at h; done) | (simp [kb] at hy; done)
  | .int a, y, _, hy, h => by cases y <;> first | (simp [PyData.eqv] at h; simp [nk, h]; done) | (simp [PyData.eqv] at h; done) | (simp [kb] at hy; done)
  | .str a, y, _, hy, h => by cases y <;> first | (simp [PyData.eqv] at h; simp [nk, h]; done) | (simp [PyData.eqv] at h; done) | (simp [kb] at hy; done)
  | .list a, _, hx, _, _ => by simp [kb] at hx
  | .dict a, _, hx, _, _ => by simp [kb] at hx
  | .tuple a, y, hx, hy, h => by
    cases y with
    | tuple b =>
      rw [nk, nk, nks_eqv a b (by rwa [kb] at hx) (by rwa [kb] at hy) (by rwa [PyData.eqv] at h)]
    | _ => simp [PyData.eqv] at h
theorem nks_eqv : ∀ xs ys : List PyData, NS.kbs xs = true → NS.kbs ys = true → PyData.eqvAll xs ys = true → nks xs = nks ys
  | [], [], _, _, _ => rfl
  | [], _ :: _, _, _, h => by simp [PyData.eqvAll] at h
  | _ :: _, [], _, _, h => by simp [PyData.eqvAll] at h
  | x :: xs, y :: ys, hx, hy, h => by
    rw [PyData.eqvAll, Bool.and_eq_true] at h
    rw [nks, nks, nk_eqv x y (kbs_cons.mp hx).1 (kbs_cons.mp hy).1 h.1, nks_eqv xs ys (kbs_cons.mp hx).2 (kbs_cons.mp hy).2 h.2]
end
theorem eqv_of_toks {x y : PyData} (h : alike x y = true) (e : keyToks x = keyToks y) : PyData.eqv x y = true := by
  cases q : PyData.eqv x y with
  | true => rfl
  | false =>
    have h2 := (toks_eqv x y h).2 q [] [.inl 0]
    rw [e, lex_pre] at h2
    have h3 : PyProof.Rows.lexLt itemOrd (keyToks y) (keyToks y) = false := lex_irrefl (O := itemOrd) _
    rw [h3] at h2
    exact absurd h2 (by simp [PyProof.Rows.lexLt])
variable {α : Type} {enc : α → PyData}
theorem leOf_total (enc : α → PyData) : TotalLe (leOf enc) := sortLe_total (listOrd itemOrd) false fun b => keyToks (enc b)
theorem leOf_anti (E : EncOk enc) {a b : α} (h1 : leOf enc a b = true) (h2 : leOf enc b a = true) : a = b := by
  have h1' : (!dataLt (enc b) (enc a)) = true := h1
  have h2' : (!dataLt (enc a) (enc b)) = true := h2
  rw [Bool.not_eq_true'] at h1' h2'
  have e := (listOrd itemOrd).total _ _ h2' h1'
  exact E.inj a b (nk_eqv _ _ (keyed_kb (E.keyed a)) (keyed_kb (E.keyed b)) (eqv_of_toks (E.alike a b) e))
theorem perm_sort (E : EncOk enc) {l m : List α} (p : l.Perm m) : l.mergeSort (leOf enc) = m.mergeSort (leOf enc) := by
  have T := leOf_total enc
  have sl : (l.mergeSort (leOf enc)).Pairwise (fun a b => leOf enc a b = true) := List.pairwise_mergeSort (fun a b c => T.trans a b c) (fun a b => by rcases T.total a b with h | h <;> simp [h]) l
  have sm : (m.mergeSort (leOf enc)).Pairwise (fun a b => leOf enc a b = true) := List.pairwise_mergeSort (fun a b c => T.trans a b c) (fun a b => by rcases T.total a b with h | h <;> simp [h]) m
  exact List.Perm.eq_of_pairwise (fun a b _ _ h1 h2 => leOf_anti E h1 h2) sl sm (((List.mergeSort_perm l _).trans p).trans (List.mergeSort_perm m _).symm)
theorem sort_enc (bs : List α) : (bs.map enc).mergeSort (dataLe false id) = (bs.mergeSort (leOf enc)).map enc := (List.map_mergeSort (f := enc) (r := leOf enc) (s := dataLe false id) fun a _ b _ => rfl).symm
theorem EncOk.srt (E : EncOk enc) (bs : List α) : Srt (bs.map enc) := ⟨AllAlike.of E.alike, .inl (Sortable.tuples E.tup), fun d hd => by obtain ⟨a, _, rfl⟩ := List.mem_map.mp hd; exact E.dep a⟩
theorem EncOk.isTup (E : EncOk enc) (a : α) : NS.isTup (enc a) = true := by obtain ⟨x, r, e⟩ := E.tup a; rw [e]; rfl
theorem nodup_eraseDups [DecidableEq α] : ∀ l : List α, l.eraseDups.Nodup := fun l => by
  induction h : l.length using Nat.strongRecOn generalizing l with
  | ind n ih =>
    cases l with
    | nil => simp
    | cons a l =>
      rw [List.eraseDups_cons, List.nodup_cons]
      refine ⟨fun hm => ?_, ih _ ?_ _ rfl⟩
      · rw [List.mem_eraseDups] at hm
        have := (List.mem_filter.mp hm).2
        simp at this
      · subst h
        exact Nat.lt_succ_of_le (List.length_filter_le _ _)
variable {K : PySem.W.Frag} {w : World} {σ : L2.St} {B : Hp} {te : TE}
theorem ed_sortU [DecidableEq α] (E : EncOk enc) (as : List α) (h : ES K w te σ B (as.map enc)) : ED K (tCB (rSortedSet K w) (tCons te tNil)) σ B (.list ((sortU enc as).map enc)) := fun H1 a Q q => h H1 a _ fun p L B2 H2 f hp hL hc => by
  have hm : ∀ ds : List PyData, ds.Perm (L.map (·.2)) → ∃ bs : List α, ds = bs.map enc ∧ ∀ b ∈ bs, b ∈ as := fun ds pm => sub_map (f := enc) (ks := as) (L := ds) fun d hd => by
    obtain ⟨x, hx, rfl⟩ := List.mem_map.mp (pm.mem_iff.mp hd)
    exact (hL x hx).1
  have hs : ∀ ds : List PyData, ds.Perm (L.map (·.2)) → Srt ds := fun ds pm => by obtain ⟨bs, rfl, _⟩ := hm ds pm; exact E.srt bs
  refine ⟨p, L, B2, f.i, rfl, hp, fun x hx => (hL x hx).2, hs _ (.refl _), hs, fun ds out r pm nd _ hr ho => ?_⟩
  obtain ⟨bs, rfl, hb⟩ := hm ds pm
  have e : bs.mergeSort (leOf enc) = sortU enc as := by
    refine perm_sort E ((List.perm_ext_iff_of_nodup ?_ (nodup_eraseDups as)).mpr fun b => ?_)
    · have nd1 : ((bs.map enc).map nk).Nodup := ((pm.map nk).nodup_iff).mpr (by rw [List.map_map]; exact nd)
      rw [List.map_map] at nd1
      exact nodup_of_map nd1
    · rw [List.mem_eraseDups]
      refine ⟨hb b, fun hba => ?_⟩
      have := hc (enc b) (List.mem_map.mpr ⟨b, hba, rfl⟩)
      obtain ⟨x, hx, ex⟩ := List.mem_map.mp this
      have hx2 : x.2 ∈ bs.map enc := pm.mem_iff.mpr (List.mem_map.mpr ⟨x, hx, rfl⟩)
      obtain ⟨b', hb', e'⟩ := List.mem_map.mp hx2
      rw [← e'] at ex
      rw [← E.inj _ _ ex]
      exact hb'
  rw [sort_enc, e] at ho
  have g := Fz.new (o := .lst out) f.i hr
  exact q _ _ _ (f.trans g) (.lst (sq_of upd_same) (dpAll_ex _ out g.b ho))
end
end DL
end

section
set_option Elab.async false
set_option linter.all false
set_option maxRecDepth 100000
set_option maxHeartbeats 2000000
/-! D4: dicts with int keys by data. -/
namespace DL
open PySem PySem.Spec PyProof.Rows L2 GenW Evl NS

/-- an int dict -/
def DI (K : PySem.W.Frag) (B : Hp) (v : V) (ps : List (Int × PyData)) : Prop :=
  ∃ (a : Addr) (kvs : List (Key × V)), v = .ref a ∧ B a = some (.dK kvs) ∧ kvs.map (·.1) = ps.map (fun p => (Sum.inl p.1 : Key)) ∧ DpAll K B (kvs.map (·.2)) (ps.map (·.2)) ∧ (ps.map (·.1)).Nodup ∧ ∀ p ∈ ps, NS.kb p.2 = true
section
variable {K : PySem.W.Frag} {σ : L2.St} {B B' H : Hp} {v : V} {ps : List (Int × PyData)} {ty : TE} {k : Int} {d : PyData} {i j : Nat} {vs : List Nat}
theorem DI.ex (e : Ex B B') (h : DI K B v ps) : DI K B' v ps := let ⟨a, kvs, h1, h2, h3, h4, h5⟩ := h; ⟨a, kvs, h1, e a _ h2, h3, dpAll_ex _ _ e h4, h5⟩
theorem valV_dp : ∀ {kvs : List (Key × V)} {ps : List (Int × PyData)}, kvs.map (·.1) = ps.map (fun p => (Sum.inl p.1 : Key)) → DpAll K B (kvs.map (·.2)) (ps.map (·.2)) → (ps.map (·.1)).Nodup → (k, d) ∈ ps → ∃ w, valV kvs (Sum.inl k) = some w ∧ Dp K B w d
  | [], [], _, _, _, h => by cases h
  | [], _ :: _, e, _, _, _ => by cases e
  | _ :: _, [], e, _, _, _ => by cases e
  | (k0, w) :: kvs, (k1, d1) :: ps, e, hd, nd, h => by
    simp only [List.map_cons, List.cons.injEq] at e
    rw [List.map_cons, List.nodup_cons] at nd
    cases hd with
    | cons h1 h2 =>
      by_cases hk : k1 = k
      · subst hk
        have hd1 : d = d1 := by
          rcases List.mem_cons.mp h with z | z
          · exact (Prod.mk.inj z).2
          · exact absurd (List.mem_map.mpr ⟨_, z, rfl⟩) nd.1
        subst hd1
        exact ⟨w, by unfold valV; rw [List.find?_cons_of_pos (by simp [e.1])]; rfl, h1⟩
      · obtain ⟨w', q1, q2⟩ := valV_dp e.2 h2 nd.2 (by
          rcases List.mem_cons.mp h with z | z
          · exact absurd (Prod.mk.inj z).1.symm hk
          · exact z)
        refine ⟨w', ?_, q2⟩
        unfold valV at q1 ⊢
        rw [List.find?_cons_of_neg (by simp [e.1]; exact hk)]
        exact q1
theorem ed_dget (h : σ[i]? = some (some v)) (hd : DI K B v ps) (hk : ED K ty σ B (.int k)) (hm : (k, d) ∈ ps) : ED K (tDGet (tVar i) ty) σ B d := fun H1 a Q q => by
  obtain ⟨p, kvs, rfl, h2, h3, h4, h5, _⟩ := hd
  obtain ⟨w, q1, q2⟩ := valV_dp h3 h4 h5 hm
  refine ⟨_, h, hk H1 a _ fun y B2 H2 f hy => ⟨p, w, rfl, .inl ⟨kvs, .inl k, .inl (f.i _ _ (f.b _ _ h2)), hy.intI, q1.symm⟩, q w B2 H2 f (dp_ex d w f.b q2)⟩⟩
theorem find_nodup : ∀ (kvs : List (Key × V)), (kvs.map (·.1)).Nodup → ∀ {k : Key} {w : V}, (k, w) ∈ kvs → kvs.find? (fun kv => decide (kv.1 = k)) = some (k, w)
  | [], _, _, _, h => by cases h
  | (k0, w0) :: kvs, nd, k, w, h => by
    rw [List.map_cons, List.nodup_cons] at nd
    by_cases hk : k0 = k
    · subst hk
      rw [List.find?_cons_of_pos (by simp)]
      rcases List.mem_cons.mp h with z | z
      · rw [z]
      · exact absurd (List.mem_map.mpr ⟨_, z, rfl⟩) nd.1
    · rw [List.find?_cons_of_neg (by simp; exact hk)]
      exact find_nodup kvs nd.2 (by
        rcases List.mem_cons.mp h with z | z
        · exact absurd (Prod.mk.inj z).1.symm hk
        · exact z)
def rListDi : List V → Hp → VK → Prop := fun xs H Q => ∃ (a : Addr) (kvs : List (Key × V)), xs = [.ref a] ∧ Rd H a (.dK kvs) ∧ ∀ p, H p = none → Q (.ref p) (upd H p (.lst (kvs.map fun kv => kV kv.1)))
theorem dp_keys : ∀ {kvs : List (Key × V)} {ps : List (Int × PyData)}, kvs.map (·.1) = ps.map (fun p => (Sum.inl p.1 : Key)) → DpAll K B (kvs.map fun kv => kV kv.1) (ps.map fun p => .int p.1)
  | [], [], _ => .nil
  | [], _ :: _, e => by cases e
  | _ :: _, [], e => by cases e
  | (k0, w) :: kvs, (k1, d1) :: ps, e => by
    simp only [List.map_cons, List.cons.injEq] at e
    refine .cons ?_ (dp_keys e.2)
    show Dp K B (kV k0) (.int k1)
    rw [e.1]
    exact .int k1
theorem ed_keys (h : σ[i]? = some (some v)) (hd : DI K B v ps) : ED K (tCB rListDi (tCons (tVar i) tNil)) σ B (.list (ps.map fun p => .int p.1)) := fun H1 a Q q => by
  obtain ⟨p, kvs, rfl, h2, h3, h4, h5, _⟩ := hd
  refine ⟨_, h, p, kvs, rfl, .inl (a _ _ h2), fun l hl => ?_⟩
  have f := Fz.new (o := .lst (kvs.map fun kv => kV kv.1)) a hl
  exact q _ _ _ f (.lst (sq_of upd_same) (dp_keys h3))
def rDictDi : List V → Hp → VK → Prop := fun xs H Q => ∃ (a : Addr) (kvs : List (Key × V)), xs = [.ref a] ∧ Rd H a (.dK kvs) ∧ ∀ p, H p = none → Q (.ref p) (upd H p (.dK kvs))
/-- dict(d) -/
def EI (K : PySem.W.Frag) (te : TE) (σ : L2.St) (B : Hp) (ps : List (Int × PyData)) : Prop := ∀ H1, Ex B H1 → ∀ Q : VK, (∀ v B2 H2, Fz B H1 B2 H2 → DI K B2 v ps → Q v H2) → te σ H1 Q
theorem ei_var (h : σ[i]? = some (some v)) (hd : DI K B v ps) : EI K (tVar i) σ B ps := fun H1 a Q q => ⟨v, h, q v B H1 (.refl a) hd⟩
theorem ei_dict (h : σ[i]? = some (some v)) (hd : DI K B v ps) : EI K (tCB rDictDi (tCons (tVar i) tNil)) σ B ps := fun H1 a Q q => by
  obtain ⟨p, kvs, rfl, h2, h3, h4, h5⟩ := hd
  refine ⟨_, h, p, kvs, rfl, .inl (a _ _ h2), fun l hl => ?_⟩
  have f := Fz.new (o := .dK kvs) a hl
  exact q _ _ _ f ⟨l, kvs, rfl, upd_same, h3, dpAll_ex _ _ f.b h4, h5⟩
/-- [d[k] for k in d], under a lock -/
theorem ed_vals (h : σ[i]? = some (some v)) (hd : DI K B v ps) (hz : ps.length ≤ 40000) (hw : ∀ x, wipe ((wipe σ vs).set j (some x)) vs = wipe σ vs) (hi : ∀ x, ((wipe σ vs).set j (some x))[i]? = some (some v)) (hj : ∀ x, ((wipe σ vs).set j (some x))[j]? = some (some x)) :
    ED K (tLockE (tLc (iKeys (tVar i)) (gName j) tYes (tDGet (tVar i) (tVar j)) vs)) σ B (.list (ps.map (·.2))) := fun H1 a Q q => by
  obtain ⟨p, kvs, rfl, h2, h3, h4, h5, h6⟩ := hd
  have hp1 : H1 p = some (.dK kvs) := a _ _ h2
  refine ⟨p, .dK kvs, hp1, trivial, fun od => ⟨_, h, p, od, rfl, .inl ⟨kvs, upd_same, fun Dl hD => ?_⟩⟩⟩
  have hpD : p ≠ Dl := fun z => by subst z; rw [upd_same] at hD; cases hD
  have hD1 : H1 Dl = none := by rw [upd_ne hpD.symm] at hD; exact hD
  have lk : kvs.length = ps.length := by have := congrArg List.length h3; simpa using this
  refine ⟨fun m n H => n = kvs.length - m ∧ m ≤ kvs.length ∧ Ex (upd H1 p (.frz od (.dK kvs))) H ∧ H Dl = some (.lst ((kvs.take m).map (·.2))), ⟨kvs.length, by simp, Nat.zero_le _, Ex.new hD, upd_same⟩, ?_⟩
  rintro m n H ⟨rfl, hm, e, l⟩
  have hpH : H p = some (.frz od (.dK kvs)) := e _ _ upd_same
  by_cases hlt : m < kvs.length
  · refine .inr ⟨⟨hpH, hlt⟩, fun H' => m + 1 ≤ kvs.length ∧ Ex (upd H1 p (.frz od (.dK kvs))) H' ∧ H' Dl = some (.lst ((kvs.take (m + 1)).map (·.2))), fun H' p' => ⟨kvs.length - (m + 1), by omega, rfl, p'⟩, fun x H' y => ?_⟩
    obtain ⟨rfl, k, w, hk, rfl⟩ := y
    refine ⟨hw _, ?_⟩
    dsimp only [tYes]
    rw [if_pos rfl]
    have ev : valV kvs k = some w := by
      have nd : (kvs.map (·.1)).Nodup := by rw [h3]; exact (List.pairwise_map.mp h5 |> fun z => List.pairwise_map.mpr (z.imp fun hne e => hne (Sum.inl.inj e)))
      unfold valV
      have := List.mem_of_getElem? hk
      rw [find_nodup kvs nd this]
      rfl
    refine ⟨_, hi _, _, hj _, p, w, rfl, .inl ⟨kvs, k, .inr ⟨od, hpH⟩, rfl, ev.symm⟩, (kvs.take m).map (·.2), l, sz_lt (by rw [List.length_map, List.length_take]; omega), hlt, Ex.mut e (by rw [upd_ne hpD.symm]; exact hD1), ?_⟩
    rw [upd_same, take_nextP hk, List.map_append]
    rfl
  · have e' : m = kvs.length := by omega
    subst e'
    rw [List.take_length] at l
    refine .inl ⟨⟨hpH, Nat.le_refl _⟩, hpH, ?_⟩
    refine q (.ref Dl) (upd B Dl (.lst (kvs.map (·.2)))) (upd H p (.dK kvs)) ⟨Ex.new (fresh_back a hD1), fun b o hb => ?_, fun b o hb => ?_, fun l0 k1 k2 => ?_⟩ (.lst (sq_of upd_same) (dpAll_ex _ _ (Ex.new (fresh_back a hD1)) h4))
    · by_cases hbp : b = p
      · subst hbp; rw [upd_same, ← hb, hp1]
      · rw [upd_ne hbp]; exact e b o (by rw [upd_ne hbp]; exact hb)
    · by_cases hbD : b = Dl
      · subst hbD; rw [upd_same] at hb; rw [upd_ne hpD.symm, l, hb]
      · rw [upd_ne hbD] at hb
        have hb1 := a b o hb
        by_cases hbp : b = p
        · subst hbp; rw [upd_same, ← hb1, hp1]
        · rw [upd_ne hbp]; exact e b o (by rw [upd_ne hbp]; exact hb1)
    · rw [upd_ne (show l0 ≠ Dl from fun z => k1 (by rw [z]; exact hD1))]; exact k2
end
end DL
end

section
set_option Elab.async false
set_option linter.all false
set_option maxRecDepth 100000
set_option maxHeartbeats 2000000
/-! D5: a list that is appended to. -/
namespace DL
open PySem PySem.Spec PyProof.Rows L2 GenW Evl NS

/-- the list at l, not of the base, its items are -/
structure ML (K : PySem.W.Frag) (B H : Hp) (l : Addr) (ds : List PyData) : Prop where
  nb : B l = none
  ex : ∃ xs, H l = some (.lst xs) ∧ DpAll K B xs ds
section
variable {K : PySem.W.Frag} {σ : L2.St} {B0 H0 B H B1 H1 : Hp} {l : Addr} {ds : List PyData} {d : PyData} {i : Nat} {te : TE} {D : Ends} {tz : TS}
theorem ML.step (h : ML K B H l ds) (f : Fz B H B1 H1) : ML K B1 H1 l ds := by
  obtain ⟨nb, xs, h1, h2⟩ := h
  exact ⟨f.n l (some_ne h1) nb, xs, f.h _ _ h1, dpAll_ex _ _ f.b h2⟩
theorem ML.up (h : ML K B H l ds) (e : Ex H H1) : ML K B H1 l ds := by
  obtain ⟨nb, xs, h1, h2⟩ := h
  exact ⟨nb, xs, e _ _ h1, h2⟩
/-- the heap has grown, the base not -/
theorem Fz.up {H2 : Hp} (f : Fz B0 H0 B H) (e : Ex H H2) : Fz B0 H0 B H2 := ⟨f.b, f.h.trans e, f.i.trans e, f.n⟩
theorem ML.close (h : ML K B H l ds) (f : Fz B0 H0 B H) (h0 : H0 l = none) : ∃ B2, Fz B0 H0 B2 H ∧ Ex B B2 ∧ Dp K B2 (.ref l) (.list ds) := by
  obtain ⟨nb, xs, h1, h2⟩ := h
  refine ⟨upd B l (.lst xs), ⟨f.b.trans (Ex.new nb), f.h, fun b o hb => ?_, fun b k1 k2 => ?_⟩, Ex.new nb, .lst (sq_of upd_same) (dpAll_ex _ _ (Ex.new nb) h2)⟩
  · by_cases e : b = l
    · subst e; rw [upd_same] at hb; rw [h1, hb]
    · rw [upd_ne e] at hb; exact f.i b o hb
  · rw [upd_ne (show b ≠ l from fun z => k1 (by rw [z]; exact h0))]; exact f.n b k1 k2
/-- x = [] -/
theorem q_newD (f : Fz B0 H0 B H) (k : ∀ l H1, H0 l = none → H l = none → Fz B0 H0 B H1 → Ex H H1 → ML K B H1 l [] → tz D (σ.set i (some (.ref l))) H1) : tSeq (tAsg (tLst tNil) (gName i)) tz D σ H :=
  ⟨Nat.zero_le _, fun p hp => k p _ (fresh_back f.h hp) hp (f.up (Ex.new hp)) (Ex.new hp) ⟨fresh_back f.i hp, [], upd_same, .nil⟩⟩
theorem ml_app {xs : List V} {v : V} (f : Fz B0 H0 B H) (h0 : H0 l = none) (g : Fz B H B1 H1) (nb : B l = none) (h1 : H l = some (.lst xs)) (h2 : DpAll K B xs ds) (hv : Dp K B1 v d) :
    Fz B0 H0 B1 (upd H1 l (.lst (xs ++ [v]))) ∧ ML K B1 (upd H1 l (.lst (xs ++ [v]))) l (ds ++ [d]) := by
  have n1 := g.n l (some_ne h1) nb
  have t := f.trans g
  exact ⟨⟨t.b, Ex.mut t.h h0, Ex.mut t.i n1, t.n⟩, n1, _, upd_same, (dpAll_ex _ _ g.b h2).append (.one hv)⟩
/-- xs.append(e), xs a list of this call -/
theorem s_appD (f : Fz B0 H0 B H) (h0 : H0 l = none) (m : ML K B H l ds) (hσ : σ[i]? = some (some (.ref l))) (h : ED K te σ B d) (hz : ds.length < 90000) (k : ∀ B1 H1, Fz B0 H0 B1 H1 → Ex B B1 → ML K B1 H1 l (ds ++ [d]) → D.nx σ H1) :
    tDrop (tBM K "list" rAppend (tVar i) (tCons te tNil)) D σ H := by
  obtain ⟨nb, xs, h1, h2⟩ := m
  refine ⟨_, hσ, .inl ⟨rfl, xs, sq_of h1⟩, h H f.i _ fun v B1 H1 g hv => ⟨l, xs, v, rfl, rfl, g.h _ _ h1, sz_lt (by rw [h2.length]; omega), ?_⟩⟩
  have z := ml_app f h0 g nb h1 h2 hv
  exact k B1 _ z.1 g.b z.2
theorem q_appD (f : Fz B0 H0 B H) (h0 : H0 l = none) (m : ML K B H l ds) (hσ : σ[i]? = some (some (.ref l))) (h : ED K te σ B d) (hz : ds.length < 90000) (k : ∀ B1 H1, Fz B0 H0 B1 H1 → Ex B B1 → ML K B1 H1 l (ds ++ [d]) → tz D σ H1) :
    tSeq (tDrop (tBM K "list" rAppend (tVar i) (tCons te tNil))) tz D σ H := s_appD (D := { D with nx := tz D }) f h0 m hσ h hz k
/-- e in xs, xs such a list -/
theorem t_inML {neg : Bool} {Q : Bool → Hp → Prop} (e : Ex B H) (m : ML K B H l ds) (hσ : σ[i]? = some (some (.ref l))) (h : ED K te σ B d) (s1 : SeqAt.shaped d = true) (s2 : SeqAt.shaped (.list ds) = true)
    (q : ∀ B1 H1, Fz B H B1 H1 → ML K B1 H1 l ds → Q (if neg then !(ds.any fun z => PyData.eqv z d) else ds.any fun z => PyData.eqv z d) H1) : tTest (tOp (rInS K neg) te (tVar i)) σ H Q := by
  have m0 := m
  obtain ⟨nb, xs, h1, h2⟩ := m
  exact h H e _ fun x B1 H1 g hx => ⟨_, hσ, d, ds, dp_ex d x g.i hx, .inl (.lst (sq_of (g.h _ _ h1)) (dpAll_ex _ _ (g.b.trans g.i) h2)), s1, s2, _, rfl, q B1 H1 g (m0.step g)⟩
/-- a test of the base -/
theorem s_ifD {b : Bool} {tt : TT} {tu tw : TS} (e : Ex B H) (h : EvT tt σ B b) (h1 : b = true → ∀ H1, Ex H H1 → tu D σ H1) (h2 : b = false → ∀ H1, Ex H H1 → tw D σ H1) : tIfS tt tu tw D σ H := s_if (h.mono e) h1 h2
end
end DL
end

section
set_option Elab.async false
set_option linter.all false
set_option maxRecDepth 100000
set_option maxHeartbeats 2000000
/-! D6: a dict whose keys are nested tuples, its values ints: as a tracked thing, its rules. -/
namespace NS
open PySem PySem.Spec PyProof.Rows L2 GenW Evl

abbrev BL := List (Addr × PyData × Int)
def BD0 (P : Program) (w : World) (h : Heap) (a : Addr) (L : BL) : Prop := (a == sysModules) = false ∧ ∃ (o : Obj) (es : Array DictEntry) (ep : Nat) (xs : List (NestedKey × Addr × Value)),
  h.get? a = some o ∧ o.ExactDict ∧ o.data = .dict es ep ∧ es.toList = xs.map (entryOfKey (nestedKind P w)) ∧ (xs.map (·.1)).Nodup ∧ Paired (fun (l : Addr × PyData × Int) (x : NestedKey × Addr × Value) => x.1 = nk l.2.1 ∧ x.2.1 = l.1 ∧ ∃ t, x.2.2 = .int l.2.2 t) L xs
def BDO (P : Program) (w : World) (a : Addr) (L : BL) : HO := .ext fun h => BD0 P w h a L
theorem bdo_new {P : Program} {w : World} {H : Hp} {h : Heap} {a : Addr} {L : BL} (R : BD0 P w h a L) : ObjOk P w H h a (BDO P w a L) := by
  have ⟨q, o, es, ep, xs, ho, r⟩ := R
  refine ⟨R, ⟨o, ho⟩, fun h1 h2 p k => ?_⟩
  have ⟨q', o', es', ep', xs', ho', r'⟩ := p
  exact ⟨q', o', es', ep', xs', k o' ho', r'⟩
/-- the keys are tuples that stand -/
def KeysOk (K : PySem.W.Frag) (H : Hp) (L : BL) : Prop := ∀ l ∈ L, keyed l.2.1 = true ∧ Dp K H (.ref l.1) l.2.1
section
variable {X : Cx} {pins : List (Addr × Obj)} {σ : L2.St} {H : Hp} {s : Shared} {a : Addr} {L : BL}
theorem bd_rd (I : L2.Inv X pins σ H s) (h : Rd H a (BDO X.prog X.w a L)) : BD0 X.prog X.w s.heap a L := (h.ok I.hok).1
theorem paired_mem {α β : Type} {F : α → β → Prop} : ∀ {l : List α} {m : List β}, Paired F l m → ∀ y ∈ m, ∃ x ∈ l, F x y
  | _, _, .nil, _, h => by cases h
  | _, _, .cons r t, y, h => by
    rcases List.mem_cons.mp h with rfl | h
    · exact ⟨_, List.mem_cons_self, r⟩
    · obtain ⟨x, hx, q⟩ := paired_mem t y h
      exact ⟨x, List.mem_cons_of_mem _ hx, q⟩
theorem paired_app {α β : Type} {F : α → β → Prop} : ∀ {l l' : List α} {m m' : List β}, Paired F l m → Paired F l' m' → Paired F (l ++ l') (m ++ m')
  | _, _, _, _, .nil, h => h
  | _, _, _, _, .cons r t, h => .cons r (paired_app t h)
theorem isN_key (I : L2.Inv X pins σ H s) {b : Addr} {d : PyData} (k : keyed d = true) (h : Dp X.K H (.ref b) d) : (nestedKind X.prog X.w).is s.heap (nk d) b := by
  have := Dp.isN I k h
  exact ⟨this.1, by have := this.2; omega⟩
theorem BD0.full (I : L2.Inv X pins σ H s) (R : BD0 X.prog X.w s.heap a L) (ks : KeysOk X.K H L) : ∃ xs, s.heap.DictOfH (nestedKind X.prog X.w) a xs ∧ Paired (fun (l : Addr × PyData × Int) (x : NestedKey × Addr × Value) => x.1 = nk l.2.1 ∧ x.2.1 = l.1 ∧ ∃ t, x.2.2 = .int l.2.2 t) L xs := by
  obtain ⟨_, o, es, ep, xs, ho, hx, hd, he, nd, pr⟩ := R
  refine ⟨xs, ⟨o, es, ep, ho, hx, hd, he, fun x hm => ?_, nd⟩, pr⟩
  obtain ⟨l, hl, e1, e2, _⟩ := paired_mem pr x hm
  rw [e1, e2]
  exact isN_key I (ks l hl).1 (ks l hl).2
theorem at_of : ∀ {L : BL} {xs : List (NestedKey × Addr × Value)}, Paired (fun (l : Addr × PyData × Int) (x : NestedKey × Addr × Value) => x.1 = nk l.2.1 ∧ x.2.1 = l.1 ∧ ∃ t, x.2.2 = .int l.2.2 t) L xs → ∀ k : NestedKey,
    (∃ l t, L.find? (fun l => decide (nk l.2.1 = k)) = some l ∧ atKey xs k = some (l.1, .int l.2.2 t)) ∨ (L.find? (fun l => decide (nk l.2.1 = k)) = none ∧ atKey xs k = none)
  | _, _, .nil, k => .inr ⟨rfl, rfl⟩
  | _, _, .cons (a := l) (b := x) ⟨e1, e2, t, e3⟩ r, k => by
    by_cases h : nk l.2.1 = k
    · exact .inl ⟨l, t, by rw [List.find?_cons_of_pos (by simp [h])], by unfold atKey; rw [List.find?_cons_of_pos (by simp [e1, h])]; obtain ⟨x1, x2, x3⟩ := x; simp at e2 e3 ⊢; exact ⟨e2, e3⟩⟩
    · rcases at_of r k with ⟨l', t', q1, q2⟩ | ⟨q1, q2⟩
      · exact .inl ⟨l', t', by rw [List.find?_cons_of_neg (by simp [h])]; exact q1, by unfold atKey at q2 ⊢; rw [List.find?_cons_of_neg (by simp [e1, h])]; exact q2⟩
      · exact .inr ⟨by rw [List.find?_cons_of_neg (by simp [h])]; exact q1, by unfold atKey at q2 ⊢; rw [List.find?_cons_of_neg (by simp [e1, h])]; exact q2⟩
theorem nroom {A : Around} (hu : A.units + 64 < cLine) : (nestedKind X.prog X.w).room A.in1 := by
  show A.in1.units + 8 < cLine
  simp only [Around.in1_units]; omega

/-! ### {} -/
def tDNewB (P : Program) (w : World) : TE := fun _ H Q => ∀ p, H p = none → Q (.ref p) (upd H p (BDO P w p []))
theorem pe_dnewB {pos : Pos} : PE X (.Dict [] [] pos) (tDNewB X.prog X.w) := ⟨fun pins s σ H Q I h =>
  wpAny_Dict_empty ⟨.ref s.heap.objs.size, _, I.laid (a := s.heap.objs.size) (o := BDO X.prog X.w s.heap.objs.size []) (t' := s.toks) (fun _ _ q => Heap.get?_push_of_some _ q) (Nat.le_refl _)
    (bdo_new ⟨beq_eq_false_iff_ne.mpr (Nat.ne_of_gt I.big), _, #[], 0, [], Heap.get?_push_size _ rfl, ⟨rfl, rfl, rfl⟩, rfl, rfl, List.nodup_nil, .nil⟩), rfl, h _ (I.hok.fresh (Nat.le_refl _))⟩⟩
/-! ### d[k] = n, k new -/
def sDPutB (P : Program) (w : World) (K : PySem.W.Frag) (td ty tv : TE) : TS := fun D σ H => tv σ H fun v H1 => td σ H1 fun x H2 => ty σ H2 fun y H3 => ∃ (a b : Addr) (d : PyData) (n : Int) (L : BL), x = .ref a ∧ y = .ref b ∧ v = .int n ∧ H3 a = some (BDO P w a L) ∧ KeysOk K H3 L ∧
  keyed d = true ∧ Dp K H3 (.ref b) d ∧ (∀ l ∈ L, nk l.2.1 ≠ nk d) ∧ L.length ≤ 1000 ∧ D.nx σ (upd H3 a (BDO P w a (L ++ [(b, d, n)])))
theorem ps_dputB {o i value : Expr} {pos pos' : Pos} {td ty tv : TE} (hu : X.A.units + 64 < cLine) (ho : PE X o td) (hi : PE X i ty) (hv : PE X value tv) (hs : swapsWith value (some (.Subscript o i pos')) pos.line X.env = pure false) :
    PS X (.Assign [.Subscript o i pos'] value pos) (sDPutB X.prog X.w X.K td ty tv) := by
  refine ⟨fun pins s σ H D I h => ?_⟩
  refine wpAny_Assign_Subscript (thn (hv.run pins s σ H _ I h) fun r s1 ⟨v, H1, I1, rv, q1⟩ => thn (ho.run pins s1 σ H1 _ I1 q1) fun u s2 ⟨x, H2, I2, rx, q2⟩ => thn (hi.run pins s2 σ H2 _ I2 q2) fun iv s3 ⟨y, H3, I3, ry, a, b, d, n, L, ex, ey, ev, hd, hk, kd, dd, nn, hz, q3⟩ => ?_) hs
  subst ex ey ev
  obtain rfl : u = Value.ref a := rx
  obtain rfl : iv = Value.ref b := ry
  obtain ⟨t, rfl⟩ := rv
  have R0 := bd_rd I3 (.inl hd)
  obtain ⟨xs, dm, pr⟩ := R0.full I3 hk
  have hl := Paired.length pr
  have hn : atKey xs (nk d) = none := by
    rcases at_of pr (nk d) with ⟨l, _, q1, _⟩ | ⟨_, q2⟩
    · exact absurd (by simpa using List.find?_some q1) (nn l (List.mem_of_find?_eq_some q1))
    · exact q2
  refine wpAny_setItem_heap (hsz := by rw [← hl, sizeLine_eq]; omega) (nroom hu) (isN_key I3 kd dd) dm fun h' dm' hs => ?_
  rw [storedH_new hn] at dm'
  obtain ⟨oo, es, ep, ho', h2, h3, h4, _, h5⟩ := dm'
  refine ⟨σ, _, I3.write (e := a) (t' := s3.toks + (nestedKind X.prog X.w).draws (nk d)) (by rw [hd]; trivial) (.inl rfl) (fun b u hb hu => (hs.2 b hb).trans hu) ⟨oo, ho'⟩ (bdo_new ⟨R0.1, oo, es, ep, _, ho', h2, h3, h4, h5, ?_⟩), q3⟩
  exact paired_app pr (.cons ⟨rfl, rfl, t, rfl⟩ .nil)
/-! ### d[k] -/
def tDGetB (P : Program) (w : World) (K : PySem.W.Frag) (td ty : TE) : TE := fun σ H Q => td σ H fun x H1 => ty σ H1 fun y H2 => ∃ (a b : Addr) (d : PyData) (L : BL) (l : Addr × PyData × Int), x = .ref a ∧ y = .ref b ∧ Rd H2 a (BDO P w a L) ∧ KeysOk K H2 L ∧ keyed d = true ∧ Dp K H2 (.ref b) d ∧
  L.find? (fun l => decide (nk l.2.1 = nk d)) = some l ∧ Q (.int l.2.2) H2
theorem bd_type (R : BD0 X.prog X.w s.heap a L) : s.TypeIs (.ref a) "dict" := let ⟨_, o, _, _, _, ho, hx, _⟩ := R; ⟨o, ho, hx.1⟩
theorem pe_dgetB {o i : Expr} {pos : Pos} {td ty : TE} (hu : X.A.units + 64 < cLine) (ho : PE X o td) (hi : PE X i ty) (hs : NoSl i) : PE X (.Subscript o i pos) (tDGetB X.prog X.w X.K td ty) := by
  refine ⟨fun pins s σ H Q I h => ?_⟩
  refine subD_of PySem.F.slot_dict_getitem.lookup hs (thn (ho.run pins s σ H _ I h) fun u s1 ⟨x, H1, I1, rx, q1⟩ => thn (hi.run pins s1 σ H1 _ I1 q1) fun iv s2 ⟨y, H2, I2, ry, a, b, d, L, l, ex, ey, hd, hk, kd, dd, hf, q2⟩ => ?_)
  subst ex ey
  obtain rfl : u = Value.ref a := rx
  obtain rfl : iv = Value.ref b := ry
  have R0 := bd_rd I2 hd
  obtain ⟨xs, dm, pr⟩ := R0.full I2 hk
  refine ⟨bd_type R0, ?_⟩
  rcases at_of pr (nk d) with ⟨l', t, q1, q3⟩ | ⟨q1, _⟩
  · rw [hf] at q1; cases q1
    exact wpAny_getItem_heap (nroom hu) (isN_key I2 kd dd) dm q3 ⟨.int l.2.2, H2, I2.tok _, ⟨t, rfl⟩, q2⟩
  · rw [hf] at q1; cases q1
/-! ### d.get(k, x) -/
def tDGet2B (P : Program) (w : World) (K : PySem.W.Frag) (td ty tx : TE) : TE := fun σ H Q => td σ H fun x H1 => ∃ (a : Addr) (L : BL), x = .ref a ∧ Rd H1 a (BDO P w a L) ∧ ty σ H1 fun y H2 => tx σ H2 fun z H3 => ∃ (b : Addr) (d : PyData) (n : Int), y = .ref b ∧ z = .int n ∧ Rd H3 a (BDO P w a L) ∧ KeysOk K H3 L ∧ keyed d = true ∧ Dp K H3 (.ref b) d ∧
  Q (.int (((L.find? (fun l => decide (nk l.2.1 = nk d))).map (·.2.2)).getD n)) H3
theorem pe_dget2B {o e f : Expr} {apos cpos : Pos} {td ty tx : TE} (hu : X.A.units + 64 < cLine) (ho : PE X o td) (he : PE X e ty) (hf : PE X f tx) (m : M2 X o "get" apos e f cpos) : PE X (.Call (.Attribute o "get" apos) [e, f] [] cpos) (tDGet2B X.prog X.w X.K td ty tx) := by
  refine ⟨fun pins s σ H Q I h => ?_⟩
  refine wpAny_Call_method m.base m.few m.line PySem.F.plainAttrs_dict PySem.F.slot_dict_get PySem.F.type_dict_get (thn (ho.run pins s σ H _ I h) fun u s1 ⟨x, H1, I1, rx, a, L, ex, hd1, q1⟩ => ?_)
  subst ex
  obtain rfl : u = Value.ref a := rx
  have R1 := bd_rd I1 hd1
  refine ⟨bd_type R1, ?_, ?_⟩
  · obtain ⟨_, oo, _, _, _, ho', hx, _⟩ := R1
    intro a' e'
    cases e'
    exact ⟨oo, ho', hx.2.1⟩
  rw [m.trees]
  refine Calls.callWith_builtin rfl (Calls.evalArgs_plain (Calls.spliced_cons (thn (he.run pins s1 σ H1 _ I1 q1) fun iv s2 ⟨y, H2, I2, ry, q2⟩ =>
    Calls.spliced_cons (thn (hf.run pins s2 σ H2 _ I2 q2) fun fv s3 ⟨z, H3, I3, rz, b, d, n, ey, ez, hd, hk, kd, dd, q3⟩ => Calls.spliced_nil ?_))))
  subst ey ez
  obtain rfl : iv = Value.ref b := ry
  obtain ⟨t, rfl⟩ := rz
  have R0 := bd_rd I3 hd
  obtain ⟨xs, dm, pr⟩ := R0.full I3 hk
  refine call_meetsIn F.slot_dict_get dm.typeIs F.entry_dict_get (F.args_dict_get_3 _ _ _) (meetsH_dict_get_default (nestedKind X.prog X.w) a b R0.1 (.int n t)) ⟨nroom hu, nk d, xs, isN_key I3 kd dd, dm, ?_⟩
  rcases at_of pr (nk d) with ⟨l', t', e1, e3⟩ | ⟨e1, e3⟩
  · rw [e1] at q3
    rw [e3]
    exact ⟨.int l'.2.2, H3, I3.tok _, ⟨t', rfl⟩, q3⟩
  · rw [e1] at q3
    rw [e3]
    exact ⟨.int n, H3, I3.tok _, ⟨t, rfl⟩, q3⟩
end
end NS
end

section
set_option Elab.async false
set_option linter.all false
set_option maxRecDepth 100000
set_option maxHeartbeats 2000000
/-! D7: walking such a dict; its rules by data. -/
namespace NS
open PySem PySem.Spec PyProof.Rows L2 GenW Evl

def ItB (P : Program) (w : World) (d : Addr) (o : Obj) (L : BL) : It :=
  ⟨fun i H => H d = some (.frz o (BDO P w d L)) ∧ i < L.length, fun i H x H' => H' = H ∧ ∃ l, L[i]? = some l ∧ x = .ref l.1, fun i H => H d = some (.frz o (BDO P w d L)) ∧ L.length ≤ i⟩
theorem frzB {X : Cx} {pins : List (Addr × Obj)} {σ : L2.St} {H : Hp} {s : Shared} {d : Addr} {o : Obj} {L : BL} (I : L2.Inv X pins σ H s) (h : H d = some (.frz o (BDO X.prog X.w d L))) :
    (d == sysModules) = false ∧ s.heap.get? d = some o ∧ o.ExactDict ∧ ∃ (es : Array DictEntry) (ep : Nat), o.data = .dict es ep ∧ es.size = L.length ∧ ∀ (i : Nat) l, L[i]? = some l → ∃ en : DictEntry, es[i]? = some en ∧ en.key = .ref l.1 := by
  obtain ⟨hd, R, _⟩ := I.hok d _ h
  obtain ⟨hs, o', es, ep, xs, ho, hx, hdt, he, _, pr⟩ := R
  rw [hd] at ho
  cases ho
  refine ⟨hs, hd, hx, es, ep, hdt, ?_, fun i l e => ?_⟩
  · have l1 : es.size = xs.length := size_of_entries he
    have l2 := Paired.length pr
    omega
  · obtain ⟨x, hx, e1, e2, _⟩ := paired_get pr e
    have q := entry_at he i
    rw [hx] at q
    exact ⟨_, q, by show Value.ref x.2.1 = _; rw [e2]⟩
section
variable {P : Program} {w : World} {K : PySem.W.Frag} {tg : Expr} {d : Addr} {o : Obj} {es : Array DictEntry} {ep : Nat}
theorem turn_keysB {L : BL} (it : Addr) (hod : o.data = .dict es ep) : Turn P w K tg (ItB P w d o L) [it] it (fun i h => h.IsKeyIter it d i L.length ep) where
  mem := List.mem_singleton.mpr rfl
  obj := fun i h ⟨oi, e, _, dd⟩ b hb => by
    rw [List.mem_singleton.mp hb]
    exact ⟨oi, e, fun v z => nomatch dd.symm.trans z⟩
  keep := fun i h h' st k => st.at (k it (List.mem_singleton.mpr rfl))
  item := fun X hP hw hK _ i pins s σ H E I hf st hg => by
    subst hP hw hK
    obtain ⟨hd, hi⟩ := hg
    obtain ⟨f0, f1, _, f3, f4, f5⟩ := hf it (List.mem_singleton.mpr rfl)
    obtain ⟨_, hgd, _, es', ep', hdt, hsz, ent⟩ := frzB I hd
    obtain ⟨rfl, rfl⟩ := dict_ep hod hdt
    have hl := List.getElem?_eq_getElem hi
    obtain ⟨en, hen, hkey⟩ := ent i _ hl
    refine next_key_item st hgd hdt hsz hen fun h' st' sb => ⟨en.key, rfl, ?_⟩
    have ⟨oi, e, c, dd⟩ := st'
    exact go_of (s := { s with heap := h' }) e c dd (by decide) ⟨.ref (L[i]).1, H, I.turned (t' := s.toks) (fun b ob hb e => (sb.2 b hb).trans e) f0 f1 f3 f4 f5, hkey, ⟨rfl, _, hl, rfl⟩, st', fun b hb => (hf b hb).1⟩
  done := fun X hP hw hK hc i pins s σ H E I hf st hg => by
    subst hP hw hK
    obtain ⟨f0, f1, _, f3, f4, f5⟩ := hf it (List.mem_singleton.mpr rfl)
    obtain ⟨_, hgd, _, es', ep', hdt, hsz, _⟩ := frzB I hg.1
    obtain ⟨rfl, rfl⟩ := dict_ep hod hdt
    exact next_key_end (I.ok.hd hc) st hgd hdt hsz hg.2 fun h' eb => ⟨rfl, I.turned (t' := s.toks) (fun b ob hb e => eb b ob hb e) f0 f1 f3 f4 f5⟩
  self := fun A i s Q E st h => wpAny_pyIter_slot st.typeIs F.slot_dict_keyiterator_iter (wpAny_call_entry F.slot_dict_keyiterator_iter st.typeIs F.entry_dict_keyiterator_iter
    (show wpAny _ _ (ret (.ref it)) _ _ s from wpAny_pure ⟨_, rfl, "dict_keyiterator", _, st.typeIs, F.slot_dict_keyiterator_next.lookup, h⟩) (F.args_dict_keyiterator_iter_1 _))
end
def iKeysB (P : Program) (w : World) (td : TE) : TI := fun σ H R => td σ H fun x H1 => ∃ d o L, x = .ref d ∧ H1 d = some (.frz o (BDO P w d L)) ∧ R (ItB P w d o L) H1
theorem pi_keysB {X : Cx} {tg e : Expr} {td : TE} (he : PE X e td) : PI X tg e (iKeysB X.prog X.w td) := by
  refine ⟨fun pins s σ H R I h => ?_⟩
  refine thn (he.run pins s σ H _ I h) fun u s1 ⟨x, H1, I1, rx, d, o, L, ex, hd, q⟩ => ?_
  subst ex
  obtain rfl : u = Value.ref d := rx
  obtain ⟨hs, hgd, hx, es, ep, hdt, hsz, ent⟩ := frzB I1 hd
  refine iter_keys hs hgd hx hdt (pi_one (tk := s1.toks) I1 _ (turn_keysB _ hdt) ⟨_, Heap.get?_push_size _ rfl, rfl, ?_⟩ q)
  rw [hsz] <;> rfl
end NS
namespace DL
open PySem PySem.Spec PyProof.Rows L2 GenW Evl NS
/-- the dict v has the keys and numbers L -/
def BD (P : Program) (w : World) (K : PySem.W.Frag) (B : Hp) (v : V) (L : BL) : Prop := ∃ a, v = .ref a ∧ B a = some (BDO P w a L) ∧ KeysOk K B L ∧ L.Pairwise (fun l m => nk l.2.1 ≠ nk m.2.1)
section
variable {P : Program} {w : World} {K : PySem.W.Frag} {σ : L2.St} {B B' H : Hp} {v : V} {L : BL} {ty tx : TE} {d : PyData} {n : Int} {i j : Nat} {vs : List Nat} {tt : TT}
theorem keysOk_ex (e : Ex B B') (h : KeysOk K B L) : KeysOk K B' L := fun l hl => ⟨(h l hl).1, dp_ex _ _ e (h l hl).2⟩
theorem BD.ex (e : Ex B B') (h : BD P w K B v L) : BD P w K B' v L := let ⟨a, h1, h2, h3, h4⟩ := h; ⟨a, h1, e _ _ h2, keysOk_ex e h3, h4⟩
theorem find_key {l : Addr × PyData × Int} (hp : L.Pairwise (fun l m => nk l.2.1 ≠ nk m.2.1)) (hm : l ∈ L) (e : nk l.2.1 = nk d) : L.find? (fun l => decide (nk l.2.1 = nk d)) = some l := by
  induction L with
  | nil => cases hm
  | cons m L ih =>
    rw [List.pairwise_cons] at hp
    rcases List.mem_cons.mp hm with rfl | hm
    · rw [List.find?_cons_of_pos (by simp [e])]
    · rw [List.find?_cons_of_neg (by simp; rw [← e]; exact hp.1 l hm)]
      exact ih hp.2 hm
theorem ed_dgetB {l : Addr × PyData × Int} (h : σ[i]? = some (some v)) (hd : BD P w K B v L) (hk : ED K ty σ B d) (kd : keyed d = true) (ht : isTup d = true) (hm : l ∈ L) (e : nk l.2.1 = nk d) : ED K (tDGetB P w K (tVar i) ty) σ B (.int l.2.2) := fun H1 a Q q => by
  obtain ⟨p, rfl, h2, h3, h4⟩ := hd
  refine ⟨_, h, hk H1 a _ fun y B2 H2 f hy => ?_⟩
  cases d with
  | tuple es =>
    obtain ⟨b, xs, rfl, _⟩ := id hy.tupI
    exact ⟨p, b, .tuple es, L, l, rfl, rfl, .inl (f.i _ _ (f.b _ _ h2)), keysOk_ex (f.b.trans f.i) h3, kd, dp_ex _ _ f.i hy, find_key h4 hm e, q _ B2 H2 f (.int _)⟩
  | _ => exact absurd ht (by simp [isTup])
theorem ed_dget2B (h : σ[i]? = some (some v)) (hd : BD P w K B v L) (hk : ED K ty σ B d) (kd : keyed d = true) (ht : isTup d = true) (hx : ED K tx σ B (.int n)) : ED K (tDGet2B P w K (tVar i) ty tx) σ B (.int (((L.find? (fun l => decide (nk l.2.1 = nk d))).map (·.2.2)).getD n)) := fun H1 a Q q => by
  obtain ⟨p, rfl, h2, h3, h4⟩ := hd
  refine ⟨_, h, p, L, rfl, .inl (a _ _ h2), hk H1 a _ fun y B2 H2 f hy => hx.mono f.b H2 f.i _ fun z B3 H3 g hz => ?_⟩
  cases d with
  | tuple es =>
    obtain ⟨b, xs, rfl, _⟩ := id hy.tupI
    exact ⟨b, .tuple es, n, rfl, hz.intI, .inl (g.i _ _ (g.b _ _ (f.b _ _ h2))), keysOk_ex ((f.b.trans g.b).trans g.i) h3, kd, dp_ex _ _ (g.b.trans g.i) hy, q _ B3 H3 (f.trans g) (.int _)⟩
  | _ => exact absurd ht (by simp [isTup])
/-- [k for k in d if tt], under a lock -/
theorem ed_lcB (h : σ[i]? = some (some v)) (hd : BD P w K B v L) (hz : L.length ≤ 1000) (hw : ∀ x, wipe ((wipe σ vs).set j (some x)) vs = wipe σ vs) (hj : ∀ x, ((wipe σ vs).set j (some x))[j]? = some (some x)) (f : Addr × PyData × Int → Bool)
    (ht : ∀ (p : Addr) (od : Obj) l H2, v = .ref p → l ∈ L → H2 p = some (.frz od (BDO P w p L)) → KeysOk K H2 L → (∀ b o, b ≠ p → B b = some o → H2 b = some o) → ∀ Q : Bool → Hp → Prop, Q (f l) H2 → tt ((wipe σ vs).set j (some (.ref l.1))) H2 Q) :
    ED K (tLockE (tLc (iKeysB P w (tVar i)) (gName j) tt (tVar j) vs)) σ B (.list ((L.filter f).map (·.2.1))) := fun H1 a Q q => by
  obtain ⟨p, rfl, h2, h3, h4⟩ := hd
  have hp1 : H1 p = some (BDO P w p L) := a _ _ h2
  refine ⟨p, BDO P w p L, hp1, trivial, fun od => ⟨_, h, p, od, L, rfl, upd_same, fun Dl hD => ?_⟩⟩
  have hpD : p ≠ Dl := fun z => by subst z; rw [upd_same] at hD; cases hD
  have hD1 : H1 Dl = none := by rw [upd_ne hpD.symm] at hD; exact hD
  have tk : TKp K B (upd H1 p (.frz od (BDO P w p L))) := (TKp.of a).trans (TKp.ext hp1)
  have ks : ∀ {H2 : Hp}, Ex (upd H1 p (.frz od (BDO P w p L))) H2 → KeysOk K H2 L := fun {H2} e l hl => ⟨(h3 l hl).1, dp_ex _ _ e (dp_tk _ _ (keyed_kb (h3 l hl).1) tk (h3 l hl).2)⟩
  refine ⟨fun m n H => n = L.length - m ∧ m ≤ L.length ∧ Ex (upd H1 p (.frz od (BDO P w p L))) H ∧ H Dl = some (.lst (((L.take m).filter f).map fun l => V.ref l.1)), ⟨L.length, by simp, Nat.zero_le _, Ex.new hD, upd_same⟩, ?_⟩
  rintro m n H ⟨rfl, hm, e, l0⟩
  have hpH : H p = some (.frz od (BDO P w p L)) := e _ _ upd_same
  by_cases hlt : m < L.length
  · refine .inr ⟨⟨hpH, hlt⟩, fun H' => m + 1 ≤ L.length ∧ Ex (upd H1 p (.frz od (BDO P w p L))) H' ∧ H' Dl = some (.lst (((L.take (m + 1)).filter f).map fun l => V.ref l.1)), fun H' p' => ⟨L.length - (m + 1), by omega, rfl, p'⟩, fun x H' y => ?_⟩
    obtain ⟨rfl, l, hl, rfl⟩ := y
    refine ⟨hw _, ht p od l _ rfl (List.mem_of_getElem? hl) hpH (ks e) (fun b o hb hB => e b o (by rw [upd_ne hb]; exact a b o hB)) _ ?_⟩
    cases hf : f l with
    | true =>
      rw [if_pos rfl]
      refine ⟨_, hj _, ((L.take m).filter f).map fun l => V.ref l.1, l0, sz_lt (by rw [List.length_map]; exact Nat.lt_of_le_of_lt (List.length_filter_le _ _) (by rw [List.length_take]; omega)), hlt, Ex.mut e (by rw [upd_ne hpD.symm]; exact hD1), ?_⟩
      rw [upd_same, take_nextP hl, List.filter_append, List.filter_cons, if_pos hf, List.filter_nil, List.map_append]; rfl
    | false =>
      rw [if_neg Bool.false_ne_true]
      refine ⟨hlt, e, ?_⟩
      rw [l0, take_nextP hl, List.filter_append, List.filter_cons, if_neg (by rw [hf]; decide), List.filter_nil, List.append_nil]
  · have e' : m = L.length := by omega
    subst e'
    rw [List.take_length] at l0
    have dps : ∀ M : BL, (∀ l ∈ M, l ∈ L) → DpAll K B (M.map fun l => V.ref l.1) (M.map (·.2.1)) := by
      intro M
      induction M with
      | nil => intro _; exact .nil
      | cons l M ih => intro hM; exact .cons (h3 l (hM l List.mem_cons_self)).2 (ih fun m hm => hM m (List.mem_cons_of_mem _ hm))
    refine .inl ⟨⟨hpH, Nat.le_refl _⟩, hpH, ?_⟩
    refine q (.ref Dl) (upd B Dl (.lst ((L.filter f).map fun l => V.ref l.1))) (upd H p (BDO P w p L)) ⟨Ex.new (fresh_back a hD1), fun b o hb => ?_, fun b o hb => ?_, fun l1 k1 k2 => ?_⟩ (.lst (sq_of upd_same) (dpAll_ex _ _ (Ex.new (fresh_back a hD1)) (dps _ fun l hl => (List.mem_filter.mp hl).1)))
    · by_cases hbp : b = p
      · subst hbp; rw [upd_same, ← hb, hp1]
      · rw [upd_ne hbp]; exact e b o (by rw [upd_ne hbp]; exact hb)
    · by_cases hbD : b = Dl
      · subst hbD; rw [upd_same] at hb; rw [upd_ne hpD.symm, l0, hb]
      · rw [upd_ne hbD] at hb
        have hb1 := a b o hb
        by_cases hbp : b = p
        · subst hbp; rw [upd_same, ← hb1, hp1]
        · rw [upd_ne hbp]; exact e b o (by rw [upd_ne hbp]; exact hb1)
    · rw [upd_ne (show l1 ≠ Dl from fun z => k1 (by rw [z]; exact hD1))]; exact k2
end
end DL
end

section
set_option Elab.async false
set_option linter.all false
set_option maxRecDepth 100000
set_option maxHeartbeats 2000000
/-! D8: a list of the caller's that is appended to; lists that are extended. -/
namespace DL
open PySem PySem.Spec PyProof.Rows L2 GenW Evl NS
/-- from (B, H) to (B2, H2), the list at l changed -/
structure Fl (l : Addr) (B H B2 H2 : Hp) : Prop where
  b : Ex B B2
  h : ∀ a o, a ≠ l → H a = some o → H2 a = some o
  i : Ex B2 H2
  n : ∀ a, H a ≠ none → B a = none → B2 a = none
  s : H l ≠ none → H2 l ≠ none
section
variable {K : PySem.W.Frag} {σ : L2.St} {l : Addr} {B0 H0 B B2 H H1 H2 B1 : Hp} {te : TE} {wi : TI} {tt : TT} {d : PyData} {ds : List PyData} {D : Ends} {i : Nat} {tz : TS}
theorem Fl.of (f : Fz B H B2 H2) : Fl l B H B2 H2 := ⟨f.b, fun a o _ q => f.h a o q, f.i, f.n, fun q => by
  cases e : H l with
  | none => exact absurd e q
  | some o => exact some_ne (f.h _ _ e)⟩
theorem Fl.refl (e : Ex B H) : Fl l B H B H := .of (.refl e)
theorem Fl.trans (a : Fl l B0 H0 B1 H1) (b : Fl l B1 H1 B2 H2) : Fl l B0 H0 B2 H2 := ⟨a.b.trans b.b, fun x o hx q => b.h x o hx (a.h x o hx q), b.i, fun x h1 h2 => by
  refine b.n x ?_ (a.n x h1 h2)
  by_cases e : x = l
  · subst e; exact a.s h1
  · cases q : H0 x with
    | none => exact absurd q h1
    | some o => exact some_ne (a.h x o e q), fun q => b.s (a.s q)⟩
theorem Fl.up (a : Fl l B0 H0 B H) (e : Ex H H2) : Fl l B0 H0 B H2 := a.trans (.of ⟨Ex.refl _, e, a.i.trans e, fun _ _ h => h⟩)
/-- a reading at this heap -/
def EH (K : PySem.W.Frag) (te : TE) (σ : L2.St) (B H : Hp) (d : PyData) : Prop := ∀ Q : VK, (∀ v B1 H1, Fz B H B1 H1 → Dp K B1 v d → Q v H1) → te σ H Q
theorem ED.eh (h : ED K te σ B d) (e : Ex B H) : EH K te σ B H d := fun Q q => h H e Q q
/-- xs.append(e), xs the caller's -/
theorem s_appF (f : Fl l B0 H0 B H) (m : ML K B H l ds) (hσ : σ[i]? = some (some (.ref l))) (h : EH K te σ B H d) (hz : ds.length < 90000) (k : ∀ B1 H1, Fl l B0 H0 B1 H1 → Ex B B1 → ML K B1 H1 l (ds ++ [d]) → D.nx σ H1) :
    tDrop (tBM K "list" rAppend (tVar i) (tCons te tNil)) D σ H := by
  obtain ⟨nb, xs, h1, h2⟩ := m
  refine ⟨_, hσ, .inl ⟨rfl, xs, sq_of h1⟩, h _ fun v B1 H1 g hv => ⟨l, xs, v, rfl, rfl, g.h _ _ h1, sz_lt (by rw [h2.length]; omega), ?_⟩⟩
  have n1 := g.n l (some_ne h1) nb
  have t := f.trans (.of g)
  exact k B1 _ ⟨t.b, fun a o ha q => by rw [upd_ne ha]; exact t.h a o ha q, Ex.mut t.i n1, t.n, fun _ => by rw [upd_same]; simp⟩ g.b ⟨n1, _, upd_same, (dpAll_ex _ _ g.b h2).append (.one hv)⟩
theorem q_appF (f : Fl l B0 H0 B H) (m : ML K B H l ds) (hσ : σ[i]? = some (some (.ref l))) (h : EH K te σ B H d) (hz : ds.length < 90000) (k : ∀ B1 H1, Fl l B0 H0 B1 H1 → Ex B B1 → ML K B1 H1 l (ds ++ [d]) → tz D σ H1) :
    tSeq (tDrop (tBM K "list" rAppend (tVar i) (tCons te tNil))) tz D σ H := s_appF (D := { D with nx := tz D }) f m hσ h hz k
/-- len(xs), xs such a list -/
theorem ed_lenM (m : ML K B H l ds) (e : Ex B H) (hσ : σ[i]? = some (some (.ref l))) {Q : VK} (q : Q (.int (ds.length : Int)) H) : tCB (rLenS K) (tCons (tVar i) tNil) σ H Q := by
  obtain ⟨nb, xs, h1, h2⟩ := m
  exact ⟨_, hσ, l, xs, rfl, .inl (sq_of h1), by rw [h2.length]; exact q⟩
/-- [te for j in wi if tt], the new list not taken into the base -/
theorem ml_lc {H1 : Hp} {Q : VK} {α : Type} {j : Nat} {vs : List Nat} (enc : α → PyData) (ds : List α) (f : α → Bool) (g : α → PyData) (hs : ID K wi σ B (ds.map enc)) (hz : ds.length ≤ 40000) (hw : ∀ x, wipe ((wipe σ vs).set j (some x)) vs = wipe σ vs)
    (ht : ∀ (i : Nat) d x B1, Ex B B1 → ds[i]? = some d → Dp K B1 x (enc d) → EvT tt ((wipe σ vs).set j (some x)) B1 (f d)) (he : ∀ (i : Nat) d x B1, Ex B B1 → ds[i]? = some d → Dp K B1 x (enc d) → f d = true → ED K te ((wipe σ vs).set j (some x)) B1 (g d))
    (a : Ex B H1) (q : ∀ l B2 H2, H1 l = none → Fz B H1 B2 H2 → ML K B2 H2 l ((ds.filter f).map g) → Q (.ref l) H2) : tLc wi (gName j) tt te vs σ H1 Q := hs H1 a _ fun J xs B2 H2 fz jv hd Dl hD => by
  have hl := hd.length
  rw [List.length_map] at hl
  refine ⟨fun i m H => m = ds.length - i ∧ i ≤ ds.length ∧ ∃ B3 acc, Fz B H1 B3 H ∧ Ex B2 B3 ∧ B3 Dl = none ∧ H Dl = some (.lst acc) ∧ DpAll K B3 acc (((ds.take i).filter f).map g), ⟨ds.length, by simp, Nat.zero_le _, B2, [], ?_, Ex.refl _, fresh_back fz.i hD, upd_same, .nil⟩, ?_⟩
  · exact fz.trans (Fz.aside fz.i hD)
  rintro i m H ⟨rfl, hi, B3, acc, f3, e3, n3, l3, d3⟩
  have hD1 : H1 Dl = none := fresh_back fz.h hD
  by_cases hlt : i < ds.length
  · refine .inr ⟨jv.go i H (e3.trans f3.i) (by omega), fun H' => i + 1 ≤ ds.length ∧ ∃ B3 acc, Fz B H1 B3 H' ∧ Ex B2 B3 ∧ B3 Dl = none ∧ H' Dl = some (.lst acc) ∧ DpAll K B3 acc (((ds.take (i + 1)).filter f).map g), fun H' p' => ⟨ds.length - (i + 1), by omega, rfl, p'⟩, fun x H' y => ?_⟩
    obtain ⟨rfl, hx⟩ := jv.yld i H x H' (e3.trans f3.i) (by omega) y
    obtain ⟨d0, hd0, hxd⟩ := hd.getV hx
    obtain ⟨d, hdi, rfl⟩ := map_get hd0
    have hxd3 := dp_ex _ x e3 hxd
    have hal : acc.length ≤ 40000 := by
      rw [d3.length, List.length_map]
      exact Nat.le_trans (List.length_filter_le _ _) (Nat.le_trans (by rw [List.length_take]; omega) hz)
    refine ⟨hw x, ht i d x B3 f3.b hdi hxd3 H' f3.i _ fun H4 e4 => ?_⟩
    cases hf : f d with
    | false =>
      rw [if_neg Bool.false_ne_true]
      refine ⟨hlt, B3, acc, ⟨f3.b, f3.h.trans e4, f3.i.trans e4, f3.n⟩, e3, n3, e4 _ _ l3, ?_⟩
      rw [take_nextP hdi, List.filter_append, List.filter_cons, if_neg (by rw [hf]; decide), List.filter_nil, List.append_nil]
      exact d3
    | true =>
      rw [if_pos rfl]
      refine he i d x B3 f3.b hdi hxd3 hf H4 (f3.i.trans e4) _ fun y B5 H5 f5 hy => ?_
      have l5 : H5 Dl = some (.lst acc) := f5.h _ _ (e4 _ _ l3)
      have n5 : B5 Dl = none := f5.n Dl (some_ne (e4 _ _ l3)) n3
      refine ⟨acc, l5, sz_lt (by omega), hlt, B5, acc ++ [y], ⟨f3.b.trans f5.b, Ex.mut ((f3.h.trans e4).trans f5.h) hD1, Ex.mut f5.i n5, fun l k1 k2 => f5.n l ?_ (f3.n l k1 k2)⟩, e3.trans f5.b, n5, upd_same, ?_⟩
      · cases hq : H1 l with
        | none => exact absurd hq k1
        | some o => exact some_ne (e4 _ _ (f3.h _ _ hq))
      · rw [take_nextP hdi, List.filter_append, List.filter_cons, if_pos hf, List.filter_nil, List.map_append]
        exact (dpAll_ex _ _ f5.b d3).append (.one hy)
  · have e : i = ds.length := by omega
    subst e
    refine .inl ⟨by rw [← hl]; exact jv.stop H (e3.trans f3.i), ?_⟩
    rw [List.take_length] at d3
    exact q Dl B3 H hD1 f3 ⟨n3, acc, l3, d3⟩
end
end DL
end

section
set_option Elab.async false
set_option linter.all false
set_option maxRecDepth 100000
set_option maxHeartbeats 2000000
/-! W0: the text's defs by place; atoms, literals, clauses as data. -/
namespace K5
open PySem PySem.Spec PyProof.Rows L2 GenW Evl NS DL

def top (i : Nat) : Stmt := PySem.Challenge.pw_onelooker_k55_whole_units_of_units.main.body.getD i (.Pass ⟨0, 0, 0, 0⟩)
abbrev FnP (K : PySem.W.Frag) (x : Str) (i : Nat) (f : Addr) (fd : FuncData) : Prop := FunD K x x (defArgs (top i)) (defBody (top i)) (defScope (top i)) [] [] f fd

/-- the built-in names that the text does not bind -/
structure Bn (mg : Str → Option Value) : Prop where
  tuple : mg "tuple" = none
  sorted : mg "sorted" = none
  set : mg "set" = none
  sum : mg "sum" = none
  list : mg "list" = none
  len : mg "len" = none
  int : mg "int" = none
  str : mg "str" = none
  bool : mg "bool" = none
  isinstance : mg "isinstance" = none
  range : mg "range" = none
  dict : mg "dict" = none
  min : mg "min" = none
  any : mg "any" = none
  super : mg "super" = none
theorem dpAll_2 {K : PySem.W.Frag} {H : Hp} {vs : List V} {d e : PyData} (h : DpAll K H vs [d, e]) : ∃ v w, vs = [v, w] ∧ Dp K H v d ∧ Dp K H w e := by
  cases h with
  | cons h t => obtain ⟨w, rfl, h2⟩ := dpAll_1 t; exact ⟨_, _, rfl, h, h2⟩
theorem dpAll_3 {K : PySem.W.Frag} {H : Hp} {vs : List V} {d e z : PyData} (h : DpAll K H vs [d, e, z]) : ∃ v w x, vs = [v, w, x] ∧ Dp K H v d ∧ Dp K H w e ∧ Dp K H x z := by
  cases h with
  | cons h t => obtain ⟨w, x, rfl, h2, h3⟩ := dpAll_2 t; exact ⟨_, _, _, rfl, h, h2, h3⟩

/-! ### atoms, literals, clauses -/
abbrev At := Fin 5
abbrev Lit := At × Bool
abbrev Cl := List Lit
structure AtOk (E : At → PyData) : Prop where
  eqv : ∀ a b, PyData.eqv (E a) (E b) = decide (a = b)
  inj : ∀ a b, nk (E a) = nk (E b) → a = b
  alike : ∀ a b, PySem.W.alike (E a) (E b) = true
  tup : ∀ a, ∃ x r, E a = .tuple (x :: r)
  kb : ∀ a, NS.kb (E a) = true
  nkd : ∀ a, (nk (E a)).depth ≤ 4
  lay : ∀ a, (E a).canLay0 = true
  dep : ∀ a, (E a).depth ≤ 4
def litD (E : At → PyData) (l : Lit) : PyData := .tuple [E l.1, .bool l.2]
def clD (E : At → PyData) (c : Cl) : PyData := .tuple (c.map (litD E))
def clsD (E : At → PyData) (cs : List Cl) : List PyData := cs.map (clD E)
section
variable {E : At → PyData} (O : AtOk E)
include O
theorem AtOk.enc : EncOk E := ⟨O.inj, O.alike, fun a => by unfold keyed; rw [O.kb a, Bool.true_and]; exact decide_eq_true (by have := O.nkd a; omega), O.tup, fun a => by have := O.dep a; omega⟩
theorem kb_lit (l : Lit) : NS.kb (litD E l) = true := by simp [litD, NS.kb, NS.kbs, O.kb]
theorem lay_lit (l : Lit) : (litD E l).canLay0 = true := by simp [litD, PyData.canLay0, PyData.canLayAll0, O.lay]
theorem dep_lit (l : Lit) : (litD E l).depth ≤ 5 := by
  have := O.dep l.1
  simp only [litD, PyData.depth, PyData.depthAll]; omega
theorem eqv_lit (l m : Lit) : PyData.eqv (litD E l) (litD E m) = decide (l = m) := by
  obtain ⟨a, b⟩ := l; obtain ⟨c, d⟩ := m
  simp only [litD, PyData.eqv, PyData.eqvAll, O.eqv, Bool.and_true, Prod.mk.injEq, Bool.decide_and]
  congr 1
theorem enc_lit : EncOk (litD E) := ⟨fun a b h => by
    obtain ⟨a1, a2⟩ := a; obtain ⟨b1, b2⟩ := b
    simp only [litD, nk, nks, NestedKey.tup.injEq, List.cons.injEq, NestedKey.num.injEq, and_true] at h
    have e1 := O.inj _ _ h.1
    have e2 : a2 = b2 := by cases a2 <;> cases b2 <;> simp_all
    rw [e1, e2],
  fun a b => by simp [litD, PySem.W.alike, PySem.W.alikeAll, O.alike],
  fun a => by
    unfold keyed
    rw [kb_lit O, Bool.true_and]
    refine decide_eq_true ?_
    have := O.nkd a.1
    simp only [litD, nk, nks, NestedKey.depth, NestedKey.depthAll]; omega,
  fun a => ⟨_, _, rfl⟩, fun a => by have := dep_lit O a; omega⟩
theorem shaped_lit (l : Lit) : SeqAt.shaped (litD E l) = true := by
  have := dep_lit O l
  unfold SeqAt.shaped
  rw [lay_lit O, Bool.true_and]; exact decide_eq_true (by omega)
theorem shaped_at (a : At) : SeqAt.shaped (E a) = true := by
  have := O.dep a
  unfold SeqAt.shaped
  rw [O.lay, Bool.true_and]; exact decide_eq_true (by omega)
omit O in
theorem lay_all {α : Type} {f : α → PyData} (h : ∀ a, (f a).canLay0 = true) : ∀ l : List α, PyData.canLayAll0 (l.map f) = true
  | [] => rfl
  | a :: l => by
    show PyData.canLayAll0 (f a :: l.map f) = true
    rw [PyData.canLayAll0, h a, lay_all h l]; rfl
omit O in
theorem dep_all {α : Type} {f : α → PyData} {n : Nat} (h : ∀ a, (f a).depth ≤ n) : ∀ l : List α, PyData.depthAll (l.map f) ≤ n
  | [] => by simp [PyData.depthAll]
  | a :: l => by
    show PyData.depthAll (f a :: l.map f) ≤ n
    have h1 := h a; have h2 := dep_all h l
    rw [PyData.depthAll]; omega
omit O in
theorem kb_all {α : Type} {f : α → PyData} (h : ∀ a, NS.kb (f a) = true) : ∀ l : List α, NS.kbs (l.map f) = true
  | [] => rfl
  | a :: l => by
    show NS.kbs (f a :: l.map f) = true
    rw [NS.kbs, h a, kb_all h l]; rfl
omit O in
theorem shaped_list {α : Type} {f : α → PyData} {n : Nat} (h1 : ∀ a, (f a).canLay0 = true) (h2 : ∀ a, (f a).depth ≤ n) (hn : n ≤ 60) (l : List α) : SeqAt.shaped (.list (l.map f)) = true := by
  have := dep_all h2 l
  unfold SeqAt.shaped
  rw [PyData.canLay0, lay_all h1, Bool.true_and]; exact decide_eq_true (by rw [PyData.depth]; omega)
omit O in
theorem shaped_tuple {α : Type} {f : α → PyData} {n : Nat} (h1 : ∀ a, (f a).canLay0 = true) (h2 : ∀ a, (f a).depth ≤ n) (hn : n ≤ 60) (l : List α) : SeqAt.shaped (.tuple (l.map f)) = true := by
  have := dep_all h2 l
  unfold SeqAt.shaped
  rw [PyData.canLay0, lay_all h1, Bool.true_and]; exact decide_eq_true (by rw [PyData.depth]; omega)
theorem shaped_lits (c : Cl) : SeqAt.shaped (.list (c.map (litD E))) = true := shaped_list (lay_lit O) (dep_lit O) (by omega) c
theorem shaped_cl (c : Cl) : SeqAt.shaped (clD E c) = true := shaped_tuple (lay_lit O) (dep_lit O) (by omega) c
theorem kb_cl (c : Cl) : NS.kb (clD E c) = true := by rw [clD, NS.kb]; exact kb_all (kb_lit O) c
theorem lay_cl (c : Cl) : (clD E c).canLay0 = true := by rw [clD, PyData.canLay0]; exact lay_all (lay_lit O) c
theorem dep_cl (c : Cl) : (clD E c).depth ≤ 6 := by rw [clD, PyData.depth]; have := dep_all (dep_lit O) c; omega
/-- l in c -/
theorem any_lit (l : Lit) (c : Cl) : ((c.map (litD E)).any fun z => PyData.eqv z (litD E l)) = decide (l ∈ c) := by
  rw [List.any_map]
  induction c with
  | nil => simp
  | cons m c ih =>
    rw [List.any_cons, ih]
    show (PyData.eqv (litD E m) (litD E l) || _) = _
    rw [eqv_lit O]
    simp [eq_comm]
theorem any_at (a : At) (c : List At) : ((c.map E).any fun z => PyData.eqv z (E a)) = decide (a ∈ c) := by
  rw [List.any_map]
  induction c with
  | nil => simp
  | cons m c ih =>
    rw [List.any_cons, ih]
    show (PyData.eqv (E m) (E a) || _) = _
    rw [O.eqv]
    simp [eq_comm]
end
theorem u65 {k : Nat} {A : Around} (r : Room k A) : A.units + 65 < cLine := by have := r.un; omega
theorem nd_le : ∀ (n : Nat) (l : List Nat), l.Nodup → (∀ x ∈ l, x < n) → l.length ≤ n
  | 0, l, _, h => by
    cases l with
    | nil => simp
    | cons a l => exact absurd (h a List.mem_cons_self) (Nat.not_lt_zero _)
  | n + 1, l, nd, h => by
    have ih := nd_le n (l.erase n) (nd.erase n) fun x hx => by
      have h1 := h x (List.mem_of_mem_erase hx)
      have h2 : x ≠ n := fun e => by subst e; exact (List.Nodup.not_mem_erase nd) hx
      omega
    by_cases hm : n ∈ l
    · have := List.length_erase_of_mem hm
      omega
    · rw [List.erase_of_not_mem hm] at ih; omega
theorem nodup_len {l : List At} (h : l.Nodup) : l.length ≤ 5 := by
  have := nd_le 5 (l.map Fin.val) (List.pairwise_map.mpr (h.imp fun hne e => hne (Fin.ext e))) (fun x hx => by obtain ⟨a, _, rfl⟩ := List.mem_map.mp hx; exact a.isLt)
  simpa using this
theorem at_few (l : List At) (h : l.Nodup) : l.length ≤ 60 := Nat.le_trans (nodup_len h) (by omega)
theorem lit_len {l : List Lit} (h : l.Nodup) : l.length ≤ 10 := by
  have := nd_le 10 (l.map fun x : Lit => x.1.val * 2 + (if x.2 = true then 1 else 0)) (List.pairwise_map.mpr (h.imp fun {a b} hne e => hne (by
    obtain ⟨a1, a2⟩ := a; obtain ⟨b1, b2⟩ := b
    cases a2 <;> cases b2 <;> simp at e ⊢ <;> first | omega | (exact Fin.ext (by omega))))) (fun x hx => by
      obtain ⟨a, _, rfl⟩ := List.mem_map.mp hx
      have := a.1.isLt
      cases a.2 <;> simp <;> omega)
  simpa using this
theorem lit_few (l : List Lit) (h : l.Nodup) : l.length ≤ 60 := Nat.le_trans (lit_len h) (by omega)
/-- a datum's not -/
theorem ed_notV {K : PySem.W.Frag} {te : TE} {σ : L2.St} {B : Hp} {b : Bool} (h : ED K te σ B (.bool b)) : ED K (tNotV te) σ B (.bool (!b)) := ed_b (ev_notV (ev_bl h))
theorem atI_0 {α : Type} {x : α} {r : List α} : atI (x :: r) (0 : Int) = some x := atI_nat (j := 0) rfl
theorem atI_1 {α : Type} {x y : α} {r : List α} : atI (x :: y :: r) (1 : Int) = some y := atI_nat (j := 1) rfl
end K5
end

section
set_option Elab.async false
set_option linter.all false
set_option maxRecDepth 100000
set_option maxHeartbeats 2000000
/-! W1: negated, clause_of, negations, is_less, left_over. -/
namespace K5
open PySem PySem.Spec PyProof.Rows L2 GenW Evl NS DL

def neg (l : Lit) : Lit := (l.1, !l.2)
def rNegated (ds : List PyData) (d : PyData) : Prop := ∃ (E : At → PyData) (l : Lit), AtOk E ∧ ds = [litD E l] ∧ d = litD E (neg l)
def rClauseOf (ds : List PyData) (d : PyData) : Prop := ∃ (E : At → PyData) (c : Cl), AtOk E ∧ c.length < 64 ∧ ds = [.list (c.map (litD E))] ∧ d = clD E (sortU (litD E) c)
def rNegations (ds : List PyData) (d : PyData) : Prop := ∃ (E : At → PyData) (c : Cl) (x : PyData), AtOk E ∧ c.length < 64 ∧ ds = [x] ∧ IsSeq x (c.map (litD E)) ∧ d = clD E (sortU (litD E) (c.map neg))
section
variable {P : Program} {w : World} {K : PySem.W.Frag} {mg : Str → Option Value} {base : Heap} {f fN : Addr} {fd fdN : FuncData}
theorem scNegated : FnScope ["literal"] ["literal"] (defScope (top 4)) := ⟨rfl, rfl, rfl, by decide +kernel, rfl, by decide +kernel, by decide +kernel⟩
theorem ok_negated (F : FnP K "negated" 4 f fd) : FnOk P w K mg base CX0 1 f fd ["literal"] (spD K rNegated) := by
  refine F.ok scNegated (fun vs H Q E h => ?_) (fun cdv A outer s H vs Q E hr h => ?_)
  · obtain ⟨B, ds, d, _, hv, ⟨_, _, _, rfl, _⟩, _⟩ := h
    exact hv.length
  · refine ⟨_, PSs.nox (pss_one (ps_ret (pe_tup (pa_cons (pe_ix ix_seq (pv 0) pe_int (fun _ _ => rfl)) (pa_cons (pe_not (pe_ix ix_seq (pv 0) pe_int (fun _ _ => rfl))) pa_nil))))), ?_⟩
    obtain ⟨B, ds, d, e, hv, ⟨E, l, O, rfl, rfl⟩, q⟩ := h
    obtain ⟨v, rfl, hl⟩ := dpAll_1 hv
    have v0 : ED K (tVar 0) (start ["literal"] [v]) B (litD E l) := ed_var rfl hl
    exact s_retD (ed_tup (eda_2 (ed_op v0 ed_int (rd_ixT atI_0)) (ed_notV (ed_op v0 ed_int (rd_ixT atI_1)))) (by show 2 ≤ _; omega)) e fun v B1 H1 f hd => q v B1 H1 f hd
theorem scClauseOf : FnScope ["literals"] ["literals"] (defScope (top 5)) := ⟨rfl, rfl, rfl, by decide +kernel, rfl, by decide +kernel, by decide +kernel⟩
theorem ok_clauseOf (M : Bn mg) (F : FnP K "clause_of" 5 f fd) : FnOk P w K mg base CX0 1 f fd ["literals"] (spD K rClauseOf) := by
  refine F.ok scClauseOf (fun vs H Q E h => ?_) (fun cdv A outer s H vs Q E hr h => ?_)
  · obtain ⟨B, ds, d, _, hv, ⟨_, _, _, _, rfl, _⟩, _⟩ := h
    exact hv.length
  · refine ⟨_, PSs.nox (pss_one (ps_ret (pe_callTy call_tuple_of rfl M.tuple (by decide +kernel) (pa_cons (pe_callB (cr_sortedSet rfl hr.units) rfl M.sorted (by decide +kernel) (pa_cons (pe_callTy (cr_setD rfl hr.units) rfl M.set (by decide +kernel) (pa_cons (pv 0) pa_nil)) pa_nil)) pa_nil)))), ?_⟩
    obtain ⟨B, ds, d, e, hv, ⟨E, c, O, hc, rfl, rfl⟩, q⟩ := h
    obtain ⟨v, rfl, hl⟩ := dpAll_1 hv
    have v0 : ED K (tVar 0) (start ["literals"] [v]) B (.list (c.map (litD E))) := ed_var rfl hl
    refine s_retD (ed_cb (eda_1 (ed_sortU (enc_lit O) c (es_set v0 (fun d hd => ?_) (by rw [List.length_map]; exact hc)))) rc_tuple) e fun v B1 H1 f hd => q v B1 H1 f hd
    obtain ⟨l, _, rfl⟩ := List.mem_map.mp hd
    exact ⟨(enc_lit O).keyed l, rfl⟩
theorem scNegations : FnScope ["literals", "literal"] ["literals"] (defScope (top 6)) := ⟨rfl, rfl, rfl, by decide +kernel, rfl, by decide +kernel, by decide +kernel⟩
theorem ok_negations (M : Bn mg) (F : FnP K "negations" 6 f fd) (FN : FnP K "negated" 4 fN fdN) (gN : mg "negated" = some (.ref fN)) : FnOk P w K mg base CX0 2 f fd ["literals"] (spD K rNegations) := by
  have GN : FnOk P w K mg base CX0 1 fN fdN ["literal"] (spD K rNegated) := ok_negated FN
  have bN : Binds K fdN ["literal"] [] := FN.bindsN fun _ _ _ _ _ _ us hl => match us, hl with | [_], _ => rfl
  refine F.ok scNegations (fun vs H Q E h => ?_) (fun cdv A outer s H vs Q E hr h => ?_)
  · obtain ⟨B, ds, d, _, hv, ⟨_, _, _, _, _, rfl, _⟩, _⟩ := h
    exact hv.length
  · refine ⟨_, PSs.nox (pss_one (ps_ret (pe_callTy call_tuple_of rfl M.tuple (by decide +kernel) (pa_cons (pe_callB (cr_sortedSet rfl hr.units) rfl M.sorted (by decide +kernel)
      (pa_cons (pe_scD hr.units (own := [("literal", 1)]) rfl scNegations.nd (pi_seq (pv 0)) (blkOk_by (own := [("literal", 1)]) (N := ["literals", "literal"]) (sc := defScope (top 6)) (by decide +kernel)) (fun _ _ _ _ _ => pg_name (i := 1) scNegations.nd rfl (Or.inl rfl)) (fun _ _ _ _ _ => pts_nil)
        (fun _ _ _ _ _ => pe_call GN hr rfl gN FN.kp bN .nil pass0 (pa_cons (pv 1) pa_nil))) pa_nil)) pa_nil)))), ?_⟩
    obtain ⟨B, ds, d, e, hv, ⟨E, c, x, O, hc, rfl, hx, rfl⟩, q⟩ := h
    obtain ⟨v, rfl, hl⟩ := dpAll_1 hv
    have v0 : ED K (tVar 0) (start ["literals", "literal"] [v]) B x := ed_var rfl hl
    refine s_retD (ed_cb (eda_1 (ed_sortU (enc_lit O) (c.map neg) (by
      rw [List.map_map]
      refine es_sc (litD E) c _ (id_seq hx v0) (by rw [← List.map_map]; exact cap_enc lit_few) (fun x => rfl) (fun i l x B1 e1 hd hx => ed_call0 (eda_1 (ed_var rfl hx)) ⟨E, l, O, rfl, rfl⟩) fun l _ => ⟨(enc_lit O).keyed (neg l), rfl⟩))) rc_tuple) e fun v B1 H1 f hd => q v B1 H1 f hd
end
end K5
end

section
set_option Elab.async false
set_option linter.all false
set_option maxRecDepth 100000
set_option maxHeartbeats 2000000
/-! W2: is_less, left_over. -/
namespace K5
open PySem PySem.Spec PyProof.Rows L2 GenW Evl NS DL

def rIsLess (ds : List PyData) (d : PyData) : Prop := ∃ i j : Int, ds = [.int i, .int j] ∧ d = .bool (!(i == j) && (Builtin.bitAnd i j == i))
def leftOver (c h : Cl) : Cl := c.filter fun l => !decide (neg l ∈ h)
def rLeftOver (ds : List PyData) (d : PyData) : Prop := ∃ (E : At → PyData) (c h : Cl), AtOk E ∧ c.length ≤ 1000 ∧ ds = [clD E c, clD E h] ∧ d = .list ((leftOver c h).map (litD E))
section
variable {P : Program} {w : World} {K : PySem.W.Frag} {mg : Str → Option Value} {base : Heap} {f fN : Addr} {fd fdN : FuncData}
theorem scIsLess : FnScope ["first", "second"] ["first", "second"] (defScope (top 10)) := ⟨rfl, rfl, rfl, by decide +kernel, rfl, by decide +kernel, by decide +kernel⟩
theorem ok_isLess (F : FnP K "is_less" 10 f fd) : FnOk P w K mg base CX0 1 f fd ["first", "second"] (spD K rIsLess) := by
  refine F.ok scIsLess (fun vs H Q E h => ?_) (fun cdv A outer s H vs Q E hr h => ?_)
  · obtain ⟨B, ds, d, _, hv, ⟨_, _, rfl, _⟩, _⟩ := h
    exact hv.length
  · refine ⟨_, PSs.nox (pss_one (ps_ret (pe_and (pe_cmpR (op_neD hr.units) (pv 0) (pv 1) (nomark _)) (pe_one (pe_cmpR (op_eqD hr.units) (pe_op op_and (pv 0) (pv 1)) (pv 0) (nomark _)))))), ?_⟩
    obtain ⟨B, ds, d, e, hv, ⟨i, j, rfl, rfl⟩, q⟩ := h
    obtain ⟨v, u, rfl, hl, hu⟩ := dpAll_2 hv
    have v0 : ED K (tVar 0) (start ["first", "second"] [v, u]) B (.int i) := ed_var rfl hl
    have v1 : ED K (tVar 1) (start ["first", "second"] [v, u]) B (.int j) := ed_var rfl hu
    exact s_retD (ed_b (ev_andV (ev_bl (ed_op v0 v1 (rd_ne rfl rfl))) fun _ => ev_bl (ed_op (ed_op v0 v1 (rd_I0 (g := Builtin.bitAnd))) v0 (rd_eq rfl rfl)))) e fun v B1 H1 f hd => q v B1 H1 f (by simpa [PyData.eqv] using hd)
theorem scLeftOver : FnScope ["clause", "held", "literal"] ["clause", "held"] (defScope (top 13)) := ⟨rfl, rfl, rfl, by decide +kernel, rfl, by decide +kernel, by decide +kernel⟩
theorem ok_leftOver (F : FnP K "left_over" 13 f fd) (FN : FnP K "negated" 4 fN fdN) (gN : mg "negated" = some (.ref fN)) : FnOk P w K mg base CX0 2 f fd ["clause", "held"] (spD K rLeftOver) := by
  have GN : FnOk P w K mg base CX0 1 fN fdN ["literal"] (spD K rNegated) := ok_negated FN
  have bN : Binds K fdN ["literal"] [] := FN.bindsN fun _ _ _ _ _ _ us hl => match us, hl with | [_], _ => rfl
  refine F.ok scLeftOver (fun vs H Q E h => ?_) (fun cdv A outer s H vs Q E hr h => ?_)
  · obtain ⟨B, ds, d, _, hv, ⟨_, _, _, _, _, rfl, _⟩, _⟩ := h
    exact hv.length
  · refine ⟨_, PSs.nox (pss_one (ps_ret (pe_lc (own := [("literal", 2)]) rfl scLeftOver.nd (pi_tup (pv 0)) (blkOk_by (own := [("literal", 2)]) (N := ["clause", "held", "literal"]) (sc := defScope (top 13)) (by decide +kernel)) (fun _ _ _ _ _ => pg_name (i := 2) scLeftOver.nd rfl (Or.inl rfl))
      (fun _ _ _ _ _ => pts_one (pt_cmpR (r := rInS K true) (op_notInS (u65 hr)) (pe_call GN hr rfl gN FN.kp bN .nil pass0 (pa_cons (pv 2) pa_nil)) (pv 1) (by with_unfolding_all rfl))) (fun _ _ _ _ _ => pv 2)))), ?_⟩
    obtain ⟨B, ds, d, e, hv, ⟨E, c, h, O, hc, rfl, rfl⟩, q⟩ := h
    obtain ⟨v, u, rfl, hl, hu⟩ := dpAll_2 hv
    have v0 : ED K (tVar 0) (start ["clause", "held", "literal"] [v, u]) B (clD E c) := ed_var rfl hl
    refine s_retD (ed_lc (litD E) c (fun l => !decide (neg l ∈ h)) (litD E) (id_tup v0) (by omega) (fun x => rfl) (fun i l x B1 e1 hd hx => et_d (K := K) (ED.is (ed_op (ed_call0 (eda_1 (ed_var rfl hx)) ⟨E, l, O, rfl, rfl⟩) (ed_var rfl (dp_ex _ u e1 hu)) (rd_in (shaped_lit O (neg l)) (shaped_lits O h) (.inr rfl))) (by rw [any_lit O]; rfl)))
      (fun i l x B1 e1 hd hx _ => ed_var rfl hx)) e fun v B1 H1 f hd => q v B1 H1 f hd
end
end K5
end

section
set_option Elab.async false
set_option linter.all false
set_option maxRecDepth 100000
set_option maxHeartbeats 2000000
/-! W3: denied_label, clause_atoms, all_atoms. -/
namespace K5
open PySem PySem.Spec PyProof.Rows L2 GenW Evl NS DL

/-- a table of clauses -/
abbrev Tb := List (Int × Cl)
def tbD (E : At → PyData) (tb : Tb) : List (Int × PyData) := tb.map fun p => (p.1, clD E p.2)
def isDenied (tb : Tb) (h : Cl) (k : Int) : Bool := (tb.lookup k).any fun c => (leftOver c h).length == 0
def denied (tb : Tb) (h : Cl) : Int := (((tb.map (·.1)).mergeSort (leOf PyData.int)).find? (isDenied tb h)).getD 0
def spDenied (K : PySem.W.Frag) : Sp := fun vs H Q _ => ∃ (B : Hp) (E : At → PyData) (tb : Tb) (h : Cl) (v u : V), Ex B H ∧ AtOk E ∧ vs = [v, u] ∧ DI K B v (tbD E tb) ∧ Dp K B u (clD E h) ∧ tb.length ≤ 1000 ∧ (∀ p ∈ tb, p.2.length ≤ 1000) ∧ ∀ H', Ex H H' → Q (.int (denied tb h)) H'
theorem nat_eq0 (n : Nat) : ((n : Int) == 0) = (n == 0) := by cases n <;> rfl
theorem srt_ints (ks : List Int) : Srt (ks.map PyData.int) := ⟨PySem.W.AllAlike.of fun a b => by simp [PySem.W.alike], .inl (PySem.W.Sortable.others fun a => ⟨by simp, by simp⟩), fun d hd => by obtain ⟨a, _, rfl⟩ := List.mem_map.mp hd; simp [PyData.depth]⟩
theorem lookup_mem {tb : Tb} {k : Int} : k ∈ tb.map (·.1) → ∃ c, tb.lookup k = some c ∧ (k, c) ∈ tb := by
  induction tb with
  | nil => intro h; cases h
  | cons p tb ih =>
    obtain ⟨k0, c0⟩ := p
    intro h
    by_cases e : k = k0
    · subst e; exact ⟨c0, by simp [List.lookup], List.mem_cons_self⟩
    · rcases List.mem_cons.mp h with z | z
      · exact absurd z e
      · obtain ⟨c, h1, h2⟩ := ih z
        refine ⟨c, ?_, List.mem_cons_of_mem _ h2⟩
        rw [List.lookup_cons, beq_false_of_ne e]
        exact h1
section
variable {P : Program} {w : World} {K : PySem.W.Frag} {mg : Str → Option Value} {base : Heap} {f fN fL : Addr} {fd fdN fdL : FuncData}
theorem scDenied : FnScope ["clauses", "held", "label"] ["clauses", "held"] (defScope (top 14)) := ⟨rfl, rfl, rfl, by decide +kernel, rfl, by decide +kernel, by decide +kernel⟩
theorem ok_denied (M : Bn mg) (F : FnP K "denied_label" 14 f fd) (FL : FnP K "left_over" 13 fL fdL) (gL : mg "left_over" = some (.ref fL)) (FN : FnP K "negated" 4 fN fdN) (gN : mg "negated" = some (.ref fN)) : FnOk P w K mg base CX0 3 f fd ["clauses", "held"] (spDenied K) := by
  have GL : FnOk P w K mg base CX0 2 fL fdL ["clause", "held"] (spD K rLeftOver) := ok_leftOver FL FN gN
  have bL : Binds K fdL ["clause", "held"] [] := FL.bindsN fun _ _ _ _ _ _ us hl => match us, hl with | [_, _], _ => rfl
  refine F.ok scDenied (fun vs H Q E h => ?_) (fun cdv A outer s H vs Q E hr h => ?_)
  · obtain ⟨_, _, _, _, _, _, _, _, rfl, _⟩ := h
    rfl
  · refine ⟨_, PSs.nox (pss_cons (ps_for PassesOwn.never rfl (pi_list (pe_callB (cr_sortedD hr.units) rfl M.sorted (by decide +kernel) (pa_cons (pe_callTy (call_listD rfl) rfl M.list (by decide +kernel) (pa_cons (pv 0) pa_nil)) pa_nil))) (pg_name (i := 2) scDenied.nd rfl (Or.inl rfl))
      (pss_one (ps_if (pt_cmpR (op_eqD hr.units) (pe_callB call_len_seq rfl M.len boot_len (pa_cons (pe_call GL hr rfl gL FL.kp bL .nil pass0 (pa_cons (pe_dget (hu_of hr) (pv 0) (pv 2) (fun _ _ => rfl)) (pa_cons (pv 1) pa_nil))) pa_nil)) pe_int (nomark _)) (pss_one (ps_ret (pv 2))) pss_nil)))
      (pss_one (ps_ret pe_int))), ?_⟩
    obtain ⟨B, E, tb, h, v, u, e, O, rfl, hv, hu, hz, hcl, q⟩ := h
    have v0 : (start ["clauses", "held", "label"] [v, u])[0]? = some (some v) := rfl
    have ks := ed_cb (K := K) (eda_1 (ed_keys v0 hv)) (rc_sorted (ds := (tbD E tb).map fun p => .int p.1) (by rw [show ((tbD E tb).map fun p => PyData.int p.1) = (tb.map (·.1)).map PyData.int by simp [tbD]]; exact srt_ints _))
    rw [show ((tbD E tb).map fun p => PyData.int p.1) = (tb.map (·.1)).map PyData.int by simp [tbD], sort_enc] at ks
    refine s_forD (id_list ks) e fun xs B1 H1 f1 hd => ?_
    generalize hks : (tb.map (·.1)).mergeSort (leOf PyData.int) = sk at hd
    refine ⟨fun i σ' H' => Ex B1 H' ∧ Ex H1 H' ∧ (∃ lab, σ' = [some v, some u, lab]) ∧ ∀ k ∈ sk.take i, isDenied tb h k = false, ⟨f1.i, Ex.refl _, ⟨none, rfl⟩, by simp⟩, fun i σ' H' p => p.1, ?_, ?_⟩
    · rintro i x d σ' H' hdi hx ⟨p1, p2, ⟨lab, rfl⟩, p4⟩
      obtain ⟨k, hki, rfl⟩ := map_get hdi
      have hkm : k ∈ tb.map (·.1) := by
        have := List.mem_of_getElem? hki
        rw [← hks] at this
        exact (List.mem_mergeSort).mp this
      obtain ⟨c, hc1, hc2⟩ := lookup_mem hkm
      have hmem : (k, clD E c) ∈ tbD E tb := List.mem_map.mpr ⟨_, hc2, rfl⟩
      have w0 : ([some v, some u, some x] : L2.St)[0]? = some (some v) := rfl
      have w2 : ED K (tVar 2) [some v, some u, some x] B1 (.int k) := ed_var rfl hx
      refine s_when (EvT.mono p1 (et_d (K := K) (ED.is (ed_op (ed_cb (eda_1 (ed_call0 (eda_2 (ed_dget w0 (hv.ex f1.b) w2 hmem) (ed_var (i := 1) rfl (dp_ex _ u f1.b hu))) ⟨E, c, h, O, hcl _ hc2, rfl, rfl⟩)) rc_len) ed_int (rd_eq rfl rfl))
        (show PyData.bool (PyData.eqv (.int (((leftOver c h).map (litD E)).length : Nat)) (.int 0)) = .bool (isDenied tb h k) by simp [PyData.eqv, isDenied, hc1, nat_eq0])))) (fun ht H2 e2 => ?_) fun hf H2 e2 => ?_
      · refine s_retD w2 (p1.trans e2) fun y B3 H3 f3 hy => ?_
        rw [hy.intI]
        have ed : denied tb h = k := by
          unfold denied
          rw [hks]
          have : sk.find? (isDenied tb h) = some k := by
            rw [List.find?_eq_some_iff_append]
            refine ⟨ht, sk.take i, sk.drop (i + 1), ?_, fun a ha => by rw [p4 a ha]; rfl⟩
            have hlt : i < sk.length := (List.getElem?_eq_some_iff.mp hki).1
            rw [← (List.getElem?_eq_some_iff.mp hki).2, List.getElem_cons_drop, List.take_append_drop]
          rw [this]; rfl
        rw [← ed]
        exact q _ (f1.h.trans (p2.trans (e2.trans f3.h)))
      · refine ⟨p1.trans e2, p2.trans e2, ⟨some x, rfl⟩, fun k' hk' => ?_⟩
        rw [take_nextP hki] at hk'
        rcases List.mem_append.mp hk' with z | z
        · exact p4 k' z
        · rw [List.mem_singleton.mp z]; exact hf
    · rintro σ' H' ⟨p1, p2, ⟨lab, rfl⟩, p4⟩
      have hl := hd.length
      rw [List.length_map] at p4
      rw [List.take_length] at p4
      dsimp only
      refine s_retD (K := K) ed_int p1 fun y B3 H3 f3 hy => ?_
      rw [hy.intI]
      have ed : denied tb h = 0 := by
        unfold denied
        rw [hks, List.find?_eq_none.mpr fun a ha => by rw [p4 a ha]; decide]
        rfl
      rw [← ed]
      exact q _ (f1.h.trans (p2.trans f3.h))
end
end K5
end

section
set_option Elab.async false
set_option linter.all false
set_option maxRecDepth 100000
set_option maxHeartbeats 2000000
/-! W4: clause_atoms, all_atoms. -/
namespace K5
open PySem PySem.Spec PyProof.Rows L2 GenW Evl NS DL

def atomsU (E : At → PyData) (cs : List Cl) : List At := sortU E ((cs.flatMap fun c => c).map (·.1))
def rClauseAtoms (ds : List PyData) (d : PyData) : Prop := ∃ (E : At → PyData) (cs : List Cl), AtOk E ∧ (cs.flatMap fun c => c).length < 64 ∧ ds = [.list (cs.map (clD E))] ∧ d = .list ((atomsU E cs).map E)
def spAllAtoms (K : PySem.W.Frag) : Sp := fun vs H Q _ => ∃ (B : Hp) (E : At → PyData) (tb : Tb) (v : V), Ex B H ∧ AtOk E ∧ vs = [v] ∧ DI K B v (tbD E tb) ∧ ((tb.map (·.2)).flatMap fun c => c).length < 64 ∧ tb.length ≤ 1000 ∧ ∀ v B2 H2, Fz B H B2 H2 → Dp K B2 v (.list ((atomsU E (tb.map (·.2))).map E)) → Q v H2
section
variable {P : Program} {w : World} {K : PySem.W.Frag} {mg : Str → Option Value} {base : Heap} {f fC : Addr} {fd fdC : FuncData}
theorem scClauseAtoms : FnScope ["clauses", "clause", "literal"] ["clauses"] (defScope (top 16)) := ⟨rfl, rfl, rfl, by decide +kernel, rfl, by decide +kernel, by decide +kernel⟩
theorem ok_clauseAtoms (M : Bn mg) (F : FnP K "clause_atoms" 16 f fd) : FnOk P w K mg base CX0 1 f fd ["clauses"] (spD K rClauseAtoms) := by
  refine F.ok scClauseAtoms (fun vs H Q E h => ?_) (fun cdv A outer s H vs Q E hr h => ?_)
  · obtain ⟨B, ds, d, _, hv, ⟨_, _, _, _, rfl, _⟩, _⟩ := h
    exact hv.length
  · refine ⟨_, PSs.nox (pss_one (ps_ret (pe_callB (cr_sortedSet rfl hr.units) rfl M.sorted (by decide +kernel)
      (pa_cons (pe_scD2 hr.units (own := [("clause", 1), ("literal", 2)]) (vs1 := [2]) (wi1 := iTup K (tVar 1)) (te := tOp (rIx K) (tVar 2) (tC (.int 0))) rfl scClauseAtoms.nd (pi_list (pv 0)) (blkOk_by (own := [("clause", 1), ("literal", 2)]) (N := ["clauses", "clause", "literal"]) (sc := defScope (top 16)) (by decide +kernel)) (by simp)
        (fun _ _ _ _ _ => pg_name (i := 1) scClauseAtoms.nd rfl (Or.inl rfl)) (fun _ _ _ _ _ => pts_nil) (fun _ _ _ _ _ => pi_tup (pv 1)) (fun _ _ _ _ _ => pg_name (i := 2) scClauseAtoms.nd rfl (Or.inl rfl)) (fun _ _ _ _ _ => pts_nil)
        (fun _ _ _ _ _ => pe_ix ix_seq (pv 2) pe_int (fun _ _ => rfl))) pa_nil)))), ?_⟩
    obtain ⟨B, ds, d, e, hv, ⟨E, cs, O, hc, rfl, rfl⟩, q⟩ := h
    obtain ⟨v, rfl, hl⟩ := dpAll_1 hv
    have v0 : ED K (tVar 0) (start ["clauses", "clause", "literal"] [v]) B (.list (cs.map (clD E))) := ed_var rfl hl
    refine s_retD (ed_sortU O.enc _ (by
      rw [List.map_map]
      refine es_sc2 (clD E) (litD E) cs (fun c => c) (fun l => E l.1) (id_list v0) (by show ∀ M : List PyData, (∀ d ∈ M, d ∈ ((cs.flatMap fun c => c).map (E ∘ Prod.fst))) → _; rw [← List.map_map]; exact cap_enc at_few) (fun x => rfl) (fun x y => rfl) (fun i c x B1 e1 hd hx => id_tup (ed_var rfl hx)) (fun i c x B1 e1 hd hx k l y B2 e2 hk hy => ed_op (ed_var rfl hy) ed_int (rd_ixT atI_0)) fun c _ l _ => ⟨O.enc.keyed l.1, O.enc.isTup l.1⟩)) e fun v B1 H1 f hd => q v B1 H1 f hd
theorem scAllAtoms : FnScope ["clauses", "label"] ["clauses"] (defScope (top 18)) := ⟨rfl, rfl, rfl, by decide +kernel, rfl, by decide +kernel, by decide +kernel⟩
theorem ok_allAtoms (M : Bn mg) (F : FnP K "all_atoms" 18 f fd) (FC : FnP K "clause_atoms" 16 fC fdC) (gC : mg "clause_atoms" = some (.ref fC)) : FnOk P w K mg base CX0 2 f fd ["clauses"] (spAllAtoms K) := by
  have GC : FnOk P w K mg base CX0 1 fC fdC ["clauses"] (spD K rClauseAtoms) := ok_clauseAtoms M FC
  have bC : Binds K fdC ["clauses"] [] := FC.bindsN fun _ _ _ _ _ _ us hl => match us, hl with | [_], _ => rfl
  refine F.ok scAllAtoms (fun vs H Q E h => ?_) (fun cdv A outer s H vs Q E hr h => ?_)
  · obtain ⟨_, _, _, _, _, _, rfl, _⟩ := h
    rfl
  · refine ⟨_, PSs.nox (pss_one (ps_ret (pe_call GC hr rfl gC FC.kp bC .nil pass0 (pa_cons
      (pe_lock (pe_lc (own := [("label", 1)]) rfl scAllAtoms.nd (pi_keys (pv 0)) (blkOk_by (own := [("label", 1)]) (N := ["clauses", "label"]) (sc := defScope (top 18)) (by decide +kernel)) (fun _ _ _ _ _ => pg_name (i := 1) scAllAtoms.nd rfl (Or.inl rfl)) (fun _ _ _ _ _ => pts_nil)
        (fun _ _ _ _ _ => pe_dget (hu_of hr) (pv 0) (pv 1) (fun _ _ => rfl)))) pa_nil)))), ?_⟩
    obtain ⟨B, E, tb, v, e, O, rfl, hv, hc, hz, q⟩ := h
    have v0 : (start ["clauses", "label"] [v])[0]? = some (some v) := rfl
    refine s_retD (ed_call0 (R := rClauseAtoms) (eda_1 (ed_vals v0 hv (by simp [tbD]; omega) (fun x => rfl) (fun x => rfl) (fun x => rfl))) ⟨E, tb.map (·.2), O, hc, by simp [tbD], rfl⟩) e fun v B1 H1 f hd => q v B1 H1 f hd
end
end K5
end

section
set_option Elab.async false
set_option linter.all false
set_option maxRecDepth 100000
set_option maxHeartbeats 2000000
/-! W5: _law_meets, _law_meets_all, _law_atoms_of. -/
namespace K5
open PySem PySem.Spec PyProof.Rows L2 GenW Evl NS DL

def meets (c h : Cl) : Bool := c.any fun l => decide (l ∈ h)
def meetsAll (cs : List Cl) (h : Cl) : Bool := cs.all fun c => meets c h
def rMeets (ds : List PyData) (d : PyData) : Prop := ∃ (E : At → PyData) (c h : Cl) (x : PyData), AtOk E ∧ ds = [clD E c, x] ∧ IsSeq x (h.map (litD E)) ∧ d = .bool (meets c h)
def rMeetsAll (ds : List PyData) (d : PyData) : Prop := ∃ (E : At → PyData) (cs : List Cl) (h : Cl) (x : PyData), AtOk E ∧ ds = [.list (cs.map (clD E)), x] ∧ IsSeq x (h.map (litD E)) ∧ d = .bool (meetsAll cs h)
def rAtomsOf (ds : List PyData) (d : PyData) : Prop := ∃ (E : At → PyData) (cs : List Cl), AtOk E ∧ (cs.flatMap fun c => c).length ≤ 1000 ∧ ds = [.list (cs.map (clD E))] ∧ d = .list ((atomsU E cs).map E)
/-- each at its first place -/
def ins (fs : List At) (a : At) : List At := if a ∈ fs then fs else fs ++ [a]
theorem ins_nd {fs : List At} (h : fs.Nodup) (a : At) : (ins fs a).Nodup := by
  unfold ins
  split
  · exact h
  · rename_i hn
    exact List.nodup_append.mpr ⟨h, by simp, fun x hx y hy e => hn (by rw [List.mem_singleton.mp hy] at e; rw [← e]; exact hx)⟩
theorem ins_mem {fs : List At} {a x : At} : x ∈ ins fs a ↔ x ∈ fs ∨ x = a := by
  unfold ins
  split
  · rename_i h
    exact ⟨.inl, fun z => z.elim id fun e => e ▸ h⟩
  · simp
theorem foldl_ins (as : List At) : ∀ fs : List At, fs.Nodup → (as.foldl ins fs).Nodup ∧ ∀ x, x ∈ as.foldl ins fs ↔ x ∈ fs ∨ x ∈ as := by
  induction as with
  | nil => intro fs h; exact ⟨h, fun x => by simp⟩
  | cons a as ih =>
    intro fs h
    obtain ⟨h1, h2⟩ := ih (ins fs a) (ins_nd h a)
    refine ⟨h1, fun x => ?_⟩
    rw [List.foldl_cons, h2, ins_mem, List.mem_cons, or_assoc]
theorem found_sorted {E : At → PyData} (O : AtOk E) (as : List At) : (as.foldl ins []).mergeSort (leOf E) = sortU E as := by
  obtain ⟨h1, h2⟩ := foldl_ins as [] List.nodup_nil
  refine perm_sort O.enc ((List.perm_ext_iff_of_nodup h1 (nodup_eraseDups as)).mpr fun x => ?_)
  rw [h2, List.mem_eraseDups]; simp
section
variable {P : Program} {w : World} {K : PySem.W.Frag} {mg : Str → Option Value} {base : Heap} {f fC : Addr} {fd fdC : FuncData}
theorem scMeets : FnScope ["_law_clause", "_law_literals", "_law_literal"] ["_law_clause", "_law_literals"] (defScope (top 31)) := ⟨rfl, rfl, rfl, by decide +kernel, rfl, by decide +kernel, by decide +kernel⟩
theorem ok_meets (F : FnP K "_law_meets" 31 f fd) : FnOk P w K mg base CX0 1 f fd ["_law_clause", "_law_literals"] (spD K rMeets) := by
  refine F.ok scMeets (fun vs H Q E h => ?_) (fun cdv A outer s H vs Q E hr h => ?_)
  · obtain ⟨B, ds, d, _, hv, ⟨_, _, _, _, _, rfl, _⟩, _⟩ := h
    exact hv.length
  · refine ⟨_, PSs.nox (pss_cons (ps_for PassesOwn.never rfl (pi_tup (pv 0)) (pg_name (i := 2) scMeets.nd rfl (Or.inl rfl)) (pss_one (ps_if (pt_cmpR (r := rInS K false) (op_inS (u65 hr)) (pv 2) (pv 1) (by with_unfolding_all rfl)) (pss_one (ps_ret pe_bl)) pss_nil)))
      (pss_one (ps_ret pe_bl))), ?_⟩
    obtain ⟨B, ds, d, e, hv, ⟨E, c, h, x, O, rfl, hx, rfl⟩, q⟩ := h
    obtain ⟨v, u, rfl, hl, hu⟩ := dpAll_2 hv
    have v0 : ED K (tVar 0) (start ["_law_clause", "_law_literals", "_law_literal"] [v, u]) B (clD E c) := ed_var rfl hl
    refine s_forD (id_tup v0) e fun xs B1 H1 f1 hd => ?_
    refine ⟨fun i σ' H' => Ex B1 H' ∧ Ex H1 H' ∧ (∃ y, σ' = [some v, some u, y]) ∧ ∀ l ∈ c.take i, l ∉ h, ⟨f1.i, Ex.refl _, ⟨none, rfl⟩, by simp⟩, fun i σ' H' p => p.1, ?_, ?_⟩
    · rintro i y d σ' H' hdi hy ⟨p1, p2, ⟨z, rfl⟩, p4⟩
      obtain ⟨l, hli, rfl⟩ := map_get hdi
      refine s_ifD p1 (et_d (K := K) (ED.is (ed_op (ed_var (i := 2) (v := y) rfl hy) (ed_var (i := 1) rfl (dp_ex _ u f1.b hu)) (rd_in (shaped_lit O l) (shaped_lits O h) hx)) (by rw [any_lit O]))) (fun ht H2 e2 => ?_) fun hf H2 e2 => ?_
      · refine s_retD (K := K) ed_bl (p1.trans e2) fun r B3 H3 f3 hr' => ?_
        have em : meets c h = true := by unfold meets; rw [List.any_eq_true]; exact ⟨l, List.mem_of_getElem? hli, by simpa using ht⟩
        rw [hr'.blI]
        have g : Fz B H B1 H3 := ⟨f1.b, f1.h.trans (p2.trans (e2.trans f3.h)), p1.trans (e2.trans f3.h), f1.n⟩
        exact q _ B1 H3 g (by rw [em]; exact .bl true)
      · refine ⟨p1.trans e2, p2.trans e2, ⟨some y, rfl⟩, fun l' hl' => ?_⟩
        rw [take_nextP hli] at hl'
        rcases List.mem_append.mp hl' with z | z
        · exact p4 l' z
        · rw [List.mem_singleton.mp z]; simpa using hf
    · rintro σ' H' ⟨p1, p2, ⟨lab, rfl⟩, p4⟩
      rw [List.length_map, List.take_length] at p4
      dsimp only
      refine s_retD (K := K) ed_bl p1 fun y B3 H3 f3 hy => ?_
      have em : meets c h = false := by unfold meets; rw [List.any_eq_false]; intro l hl; simpa using p4 l hl
      rw [hy.blI]
      have g : Fz B H B1 H3 := ⟨f1.b, f1.h.trans (p2.trans f3.h), p1.trans f3.h, f1.n⟩
      exact q _ B1 H3 g (by rw [em]; exact .bl false)
theorem scMeetsAll : FnScope ["_law_clauses", "_law_literals", "_law_clause"] ["_law_clauses", "_law_literals"] (defScope (top 32)) := ⟨rfl, rfl, rfl, by decide +kernel, rfl, by decide +kernel, by decide +kernel⟩
theorem ok_meetsAll (F : FnP K "_law_meets_all" 32 f fd) (FC : FnP K "_law_meets" 31 fC fdC) (gC : mg "_law_meets" = some (.ref fC)) : FnOk P w K mg base CX0 2 f fd ["_law_clauses", "_law_literals"] (spD K rMeetsAll) := by
  have GC : FnOk P w K mg base CX0 1 fC fdC ["_law_clause", "_law_literals"] (spD K rMeets) := ok_meets FC
  have bC : Binds K fdC ["_law_clause", "_law_literals"] [] := FC.bindsN fun _ _ _ _ _ _ us hl => match us, hl with | [_, _], _ => rfl
  refine F.ok scMeetsAll (fun vs H Q E h => ?_) (fun cdv A outer s H vs Q E hr h => ?_)
  · obtain ⟨B, ds, d, _, hv, ⟨_, _, _, _, _, rfl, _⟩, _⟩ := h
    exact hv.length
  · refine ⟨_, PSs.nox (pss_cons (ps_for PassesOwn.never rfl (pi_list (pv 0)) (pg_name (i := 2) scMeetsAll.nd rfl (Or.inl rfl)) (pss_one (ps_if (pt_not (pt_val (pe_call GC hr rfl gC FC.kp bC .nil pass0 (pa_cons (pv 2) (pa_cons (pv 1) pa_nil))))) (pss_one (ps_ret pe_bl)) pss_nil)))
      (pss_one (ps_ret pe_bl))), ?_⟩
    obtain ⟨B, ds, d, e, hv, ⟨E, cs, h, x, O, rfl, hx, rfl⟩, q⟩ := h
    obtain ⟨v, u, rfl, hl, hu⟩ := dpAll_2 hv
    have v0 : ED K (tVar 0) (start ["_law_clauses", "_law_literals", "_law_clause"] [v, u]) B (.list (cs.map (clD E))) := ed_var rfl hl
    refine s_forD (id_list v0) e fun xs B1 H1 f1 hd => ?_
    refine ⟨fun i σ' H' => Ex B1 H' ∧ Ex H1 H' ∧ (∃ y, σ' = [some v, some u, y]) ∧ ∀ c ∈ cs.take i, meets c h = true, ⟨f1.i, Ex.refl _, ⟨none, rfl⟩, by simp⟩, fun i σ' H' p => p.1, ?_, ?_⟩
    · rintro i y d σ' H' hdi hy ⟨p1, p2, ⟨z, rfl⟩, p4⟩
      obtain ⟨c, hci, rfl⟩ := map_get hdi
      refine s_ifD p1 (et_not (et_dB (K := K) (ed_call0 (R := rMeets) (eda_2 (ed_var (i := 2) (v := y) rfl hy) (ed_var (i := 1) rfl (dp_ex _ u f1.b hu))) ⟨E, c, h, x, O, rfl, hx, rfl⟩))) (fun ht H2 e2 => ?_) fun hf H2 e2 => ?_
      · refine s_retD (K := K) ed_bl (p1.trans e2) fun r B3 H3 f3 hr' => ?_
        have em : meetsAll cs h = false := by unfold meetsAll; rw [List.all_eq_false]; exact ⟨c, List.mem_of_getElem? hci, by simpa using ht⟩
        rw [hr'.blI]
        have g : Fz B H B1 H3 := ⟨f1.b, f1.h.trans (p2.trans (e2.trans f3.h)), p1.trans (e2.trans f3.h), f1.n⟩
        exact q _ B1 H3 g (by rw [em]; exact .bl false)
      · refine ⟨p1.trans e2, p2.trans e2, ⟨some y, rfl⟩, fun c' hc' => ?_⟩
        rw [take_nextP hci] at hc'
        rcases List.mem_append.mp hc' with z | z
        · exact p4 c' z
        · rw [List.mem_singleton.mp z]; simpa using hf
    · rintro σ' H' ⟨p1, p2, ⟨lab, rfl⟩, p4⟩
      rw [List.length_map, List.take_length] at p4
      dsimp only
      refine s_retD (K := K) ed_bl p1 fun y B3 H3 f3 hy => ?_
      have em : meetsAll cs h = true := by unfold meetsAll; rw [List.all_eq_true]; exact p4
      rw [hy.blI]
      have g : Fz B H B1 H3 := ⟨f1.b, f1.h.trans (p2.trans f3.h), p1.trans f3.h, f1.n⟩
      exact q _ B1 H3 g (by rw [em]; exact .bl true)
end
end K5
end

section
set_option Elab.async false
set_option linter.all false
set_option maxRecDepth 100000
set_option maxHeartbeats 2000000
/-! W6: _law_atoms_of. -/
namespace K5
open PySem PySem.Spec PyProof.Rows L2 GenW Evl NS DL

section
variable {P : Program} {w : World} {K : PySem.W.Frag} {mg : Str → Option Value} {base : Heap} {f fC : Addr} {fd fdC : FuncData}
theorem scAtomsOf : FnScope ["_law_clauses", "_law_found", "_law_clause", "_law_literal"] ["_law_clauses"] (defScope (top 29)) := ⟨rfl, rfl, rfl, by decide +kernel, rfl, by decide +kernel, by decide +kernel⟩
theorem ok_atomsOf (M : Bn mg) (F : FnP K "_law_atoms_of" 29 f fd) : FnOk P w K mg base CX0 1 f fd ["_law_clauses"] (spD K rAtomsOf) := by
  refine F.ok scAtomsOf (fun vs H Q E h => ?_) (fun cdv A outer s H vs Q E hr h => ?_)
  · obtain ⟨B, ds, d, _, hv, ⟨_, _, _, _, rfl, _⟩, _⟩ := h
    exact hv.length
  · refine ⟨_, PSs.nox (pss_cons (ps_set (i := 1) scAtomsOf.nd rfl (Or.inl rfl) (pe_lst pa_nil)) (pss_cons (ps_for PassesOwn.never rfl (pi_list (pv 0)) (pg_name (i := 2) scAtomsOf.nd rfl (Or.inl rfl))
        (pss_one (ps_for PassesOwn.never rfl (pi_tup (pv 2)) (pg_name (i := 3) scAtomsOf.nd rfl (Or.inl rfl))
          (pss_one (ps_if (pt_cmpR (r := rInS K true) (op_notInS (u65 hr)) (pe_ix ix_seq (pv 3) pe_int (fun _ _ => rfl)) (pv 1) (by with_unfolding_all rfl))
            (pss_one (ps_expr (pe_bm PySem.F.plainAttrs_list PySem.F.slot_list_append PySem.F.type_list_append mt_append (pv 1) (pa_cons (pe_ix ix_seq (pv 3) pe_int (fun _ _ => rfl)) pa_nil)))) pss_nil)))))
      (pss_one (ps_ret (pe_callB (cr_sortedD hr.units) rfl M.sorted (by decide +kernel) (pa_cons (pv 1) pa_nil)))))), ?_⟩
    obtain ⟨B, ds, d, e, hv, ⟨E, cs, O, hz, rfl, rfl⟩, q⟩ := h
    obtain ⟨v, rfl, hl⟩ := dpAll_1 hv
    refine q_newD (K := K) (Fz.refl e) fun l H1 h0 _ f1 _ m1 => ?_
    refine s_forD (id_list (ed_var (v := v) rfl hl)) f1.i fun xs B1 H2 f2 hd => ?_
    refine ⟨fun i σ' H' => ∃ B', Fz B H B' H' ∧ Ex B1 B' ∧ ML K B' H' l (((((cs.take i).flatMap fun c => c).map (·.1)).foldl ins []).map E) ∧ ∃ a b, σ' = [some v, some (.ref l), a, b],
      ⟨B1, f1.trans f2, Ex.refl _, m1.step f2, none, none, rfl⟩, fun i σ' H' ⟨B', g, x, _⟩ => x.trans g.i, ?_, ?_⟩
    · rintro i x d σ' H' hdi hx ⟨B', g, eB, m, a, b, rfl⟩
      obtain ⟨c, hci, rfl⟩ := map_get hdi
      refine s_forD (K := K) (ds := c.map (litD E)) (id_tup (ed_var (v := x) rfl (dp_ex _ x eB hx))) g.i fun ys B2 H3 f3 hd2 => ?_
      have eT : (cs.take (i + 1)).flatMap (fun c => c) = (cs.take i).flatMap (fun c => c) ++ c := by rw [take_nextP hci, List.flatMap_append]; simp
      refine ⟨fun k σ' H' => ∃ B', Fz B H B' H' ∧ Ex B2 B' ∧ ML K B' H' l (((((cs.take i).flatMap fun c => c) ++ c.take k).map (·.1) |>.foldl ins []).map E) ∧ ∃ b, σ' = [some v, some (.ref l), some x, b],
        ⟨B2, g.trans f3, Ex.refl _, by simpa using m.step f3, b, rfl⟩, fun i σ' H' ⟨B', g, x, _⟩ => x.trans g.i, ?_, ?_⟩
      · rintro k y d σ' H' hdk hy ⟨B3, g3, e3, m3, b3, rfl⟩
        obtain ⟨t, htk, rfl⟩ := map_get hdk
        have v3 : ED K (tOp (rIx K) (tVar 3) (tC (.int 0))) ([some v, some (.ref l), some x, some y] : L2.St) B3 (E t.1) := ed_op (ed_var rfl (dp_ex _ y e3 hy)) ed_int (rd_ixT atI_0)
        have shp := shaped_list (f := E) O.lay O.dep (by omega : 4 ≤ 60)
        show tTest (tOp (rInS K true) _ (tVar 1)) _ _ _
        refine t_inML g3.i m3 rfl v3 (shaped_at O t.1) (shp _) fun B4 H4 g4 m4 => ?_
        have eN : ((((cs.take i).flatMap fun c => c) ++ c.take (k + 1)).map (·.1)).foldl ins [] = ins ((((cs.take i).flatMap fun c => c) ++ c.take k).map (·.1) |>.foldl ins []) t.1 := by
          rw [take_nextP htk, ← List.append_assoc, List.map_append, List.foldl_append]; rfl
        have hlen : ((((cs.take i).flatMap fun c => c) ++ c.take k).map (·.1) |>.foldl ins []).length ≤ 5 := by
          have nd := (foldl_ins ((((cs.take i).flatMap fun c => c) ++ c.take k).map (·.1)) [] List.nodup_nil).1
          exact nodup_len nd
        rw [any_at O, if_pos rfl]
        by_cases hm : t.1 ∈ ((((cs.take i).flatMap fun c => c) ++ c.take k).map (·.1) |>.foldl ins [])
        · rw [decide_eq_true hm, if_neg (by decide)]
          refine ⟨B4, g3.trans g4, e3.trans g4.b, ?_, some y, rfl⟩
          rw [eN, ins, if_pos hm]; exact m4
        · rw [decide_eq_false hm, if_pos (by decide)]
          refine s_appD (g3.trans g4) h0 m4 rfl (v3.mono g4.b) (by rw [List.length_map]; omega) fun B5 H5 g5 e5 m5 => ⟨B5, g5, (e3.trans g4.b).trans e5, ?_, some y, rfl⟩
          rw [eN, ins, if_neg hm, List.map_append]; exact m5
      · rintro σ' H' ⟨B3, g3, e3, m3, b3, rfl⟩
        rw [List.length_map, List.take_length, ← eT] at m3
        exact ⟨B3, g3, (eB.trans f3.b).trans e3, m3, some x, b3, rfl⟩
    · rintro σ' H' ⟨B', g, eB, m, a, b, rfl⟩
      rw [List.length_map, List.take_length] at m
      obtain ⟨B2, g2, e2, hD⟩ := m.close g h0
      dsimp only
      refine s_retD (K := K) (B := B2) (ED.is (ed_cb (eda_1 (ed_var (v := .ref l) rfl hD)) (rc_sorted (O.enc.srt _))) (by rw [sort_enc, found_sorted O]; rfl)) g2.i fun y B3 H3 f3 hy => q _ _ _ (g2.trans f3) hy
end
end K5
end

section
set_option Elab.async false
set_option linter.all false
set_option maxRecDepth 100000
set_option maxHeartbeats 2000000
/-! W7: _law_vectors, _law_sets, _law_valuations. -/
namespace K5
open PySem PySem.Spec PyProof.Rows L2 GenW Evl NS DL

def two (a : At) (r : Cl) : List Cl := [r ++ [(a, false)], r ++ [(a, true)]]
def three (a : At) (r : Cl) : List Cl := [r, r ++ [(a, false)], r ++ [(a, true)]]
def growAll (st : At → Cl → List Cl) (as : List At) : List Cl := as.foldl (fun rows a => rows.flatMap (st a)) [[]]
def vectors (as : List At) : List Cl := growAll two as
def sets (as : List At) : List Cl := growAll three as
def rVectors (ds : List PyData) (d : PyData) : Prop := ∃ (E : At → PyData) (as : List At), AtOk E ∧ as.length ≤ 5 ∧ ds = [.list (as.map E)] ∧ d = .list ((vectors as).map (clD E))
def rSets (ds : List PyData) (d : PyData) : Prop := ∃ (E : At → PyData) (as : List At), AtOk E ∧ as.length ≤ 5 ∧ ds = [.list (as.map E)] ∧ d = .list ((sets as).map (clD E))
theorem len_flat {α β : Type} {f : α → List β} {n : Nat} (h : ∀ a, (f a).length ≤ n) : ∀ l : List α, (l.flatMap f).length ≤ n * l.length
  | [] => by simp
  | a :: l => by
    have h1 := h a; have h2 := len_flat h l
    rw [List.flatMap_cons, List.length_append, List.length_cons, Nat.mul_add]; omega
theorem grow_ok {st : At → Cl → List Cl} (h1 : ∀ a r, (st a r).length ≤ 3) (h2 : ∀ a r, ∀ r' ∈ st a r, r'.length ≤ r.length + 1) (as : List At) : ∀ rows : List Cl, ∀ n, (∀ r ∈ rows, r.length ≤ n) →
    (as.foldl (fun rows a => rows.flatMap (st a)) rows).length ≤ 3 ^ as.length * rows.length ∧ ∀ r ∈ as.foldl (fun rows a => rows.flatMap (st a)) rows, r.length ≤ n + as.length := by
  induction as with
  | nil => intro rows n h; exact ⟨by simp, h⟩
  | cons a as ih =>
    intro rows n h
    obtain ⟨q1, q2⟩ := ih (rows.flatMap (st a)) (n + 1) fun r hr => by
      obtain ⟨r0, hr0, hr1⟩ := List.mem_flatMap.mp hr
      have := h2 a r0 r hr1; have := h r0 hr0; omega
    refine ⟨Nat.le_trans q1 ?_, fun r hr => by have := q2 r hr; rw [List.length_cons]; omega⟩
    have := len_flat (h1 a) rows
    rw [List.length_cons, Nat.pow_succ, Nat.mul_assoc]
    exact Nat.mul_le_mul_left _ this
theorem growAll_len {st : At → Cl → List Cl} (h1 : ∀ a r, (st a r).length ≤ 3) (h2 : ∀ a r, ∀ r' ∈ st a r, r'.length ≤ r.length + 1) {as : List At} (h : as.length ≤ 5) : (growAll st as).length ≤ 243 ∧ ∀ r ∈ growAll st as, r.length ≤ 5 := by
  obtain ⟨q1, q2⟩ := grow_ok h1 h2 as [[]] 0 (by simp)
  refine ⟨Nat.le_trans q1 ?_, fun r hr => by have := q2 r hr; omega⟩
  have : (3 : Nat) ^ as.length ≤ 3 ^ 5 := Nat.pow_le_pow_right (by decide) h
  simp; omega
theorem two_ok : (∀ a r, (two a r).length ≤ 3) ∧ ∀ a r, ∀ r' ∈ two a r, r'.length ≤ r.length + 1 := ⟨fun a r => by simp [two], fun a r r' h => by
  simp only [two, List.mem_cons, List.not_mem_nil, or_false] at h
  rcases h with rfl | rfl <;> simp⟩
theorem three_ok : (∀ a r, (three a r).length ≤ 3) ∧ ∀ a r, ∀ r' ∈ three a r, r'.length ≤ r.length + 1 := ⟨fun a r => by simp [three], fun a r r' h => by
  simp only [three, List.mem_cons, List.not_mem_nil, or_false] at h
  rcases h with rfl | rfl | rfl <;> simp⟩
theorem grow_take {st : At → Cl → List Cl} {as : List At} {i : Nat} {a : At} (h : as[i]? = some a) : growAll st (as.take (i + 1)) = (growAll st (as.take i)).flatMap (st a) := by
  unfold growAll; rw [take_nextP h, List.foldl_append]; rfl
section
variable {P : Program} {w : World} {K : PySem.W.Frag} {mg : Str → Option Value} {base : Heap} {f : Addr} {fd : FuncData}
/-- row + ((atom, b),) -/
theorem ed_more {E : At → PyData} {σ : L2.St} {B : Hp} {i j : Nat} {vr va : V} {r : Cl} {a : At} {b : Bool} (hr : σ[i]? = some (some vr)) (ha : σ[j]? = some (some va)) (dr : Dp K B vr (clD E r)) (da : Dp K B va (E a)) (hl : r.length ≤ 5) :
    ED K (tOp (rCatD K) (tVar i) (tTup (tCons (tTup (tCons (tVar j) (tCons (tC (.bl b)) tNil))) tNil))) σ B (clD E (r ++ [(a, b)])) :=
  ED.is (ed_op (ed_var hr dr) (ed_tup (eda_1 (ed_tup (eda_2 (ed_var ha da) ed_bl) (by show 2 ≤ _; omega))) (by show 1 ≤ _; omega)) (rd_cat (by rw [List.length_map]; show r.length + 1 ≤ _; omega))) (by rw [clD, List.map_append]; rfl)
theorem scVectors : FnScope ["_law_atoms", "_law_rows", "_law_atom", "_law_wider", "_law_row"] ["_law_atoms"] (defScope (top 30)) := ⟨rfl, rfl, rfl, by decide +kernel, rfl, by decide +kernel, by decide +kernel⟩
theorem ok_vectors (M : Bn mg) (F : FnP K "_law_vectors" 30 f fd) : FnOk P w K mg base CX0 1 f fd ["_law_atoms"] (spD K rVectors) := by
  refine F.ok scVectors (fun vs H Q E h => ?_) (fun cdv A outer s H vs Q E hr h => ?_)
  · obtain ⟨B, ds, d, _, hv, ⟨_, _, _, _, rfl, _⟩, _⟩ := h
    exact hv.length
  · refine ⟨_, PSs.nox (pss_cons (ps_set (i := 1) scVectors.nd rfl (Or.inl rfl) (pe_lst (pa_cons (pe_tup pa_nil) pa_nil)))
      (pss_cons (ps_for PassesOwn.never rfl (pi_list (pv 0)) (pg_name (i := 2) scVectors.nd rfl (Or.inl rfl))
        (pss_cons (ps_set (i := 3) scVectors.nd rfl (Or.inl rfl) (pe_lst pa_nil))
          (pss_cons (ps_for PassesOwn.never rfl (pi_list (pe_callTy call_list_of rfl M.list (by decide +kernel) (pa_cons (pv 1) pa_nil))) (pg_name (i := 4) scVectors.nd rfl (Or.inl rfl))
            (pss_cons (ps_expr (pe_bm PySem.F.plainAttrs_list PySem.F.slot_list_append PySem.F.type_list_append mt_append (pv 3) (pa_cons (pe_op op_catD (pv 4) (pe_tup (pa_cons (pe_tup (pa_cons (pv 2) (pa_cons pe_bl pa_nil))) pa_nil))) pa_nil)))
            (pss_one (ps_expr (pe_bm PySem.F.plainAttrs_list PySem.F.slot_list_append PySem.F.type_list_append mt_append (pv 3) (pa_cons (pe_op op_catD (pv 4) (pe_tup (pa_cons (pe_tup (pa_cons (pv 2) (pa_cons pe_bl pa_nil))) pa_nil))) pa_nil))))))
          (pss_one (ps_set (i := 1) scVectors.nd rfl (Or.inl rfl) (pv 3))))))
      (pss_one (ps_ret (pv 1))))), ?_⟩
    obtain ⟨B, ds, d, e, hv, ⟨E, as, O, hz, rfl, rfl⟩, q⟩ := h
    obtain ⟨v, rfl, hl⟩ := dpAll_1 hv
    refine q_asgD (K := K) (d := .list ([[]].map (clD E))) (ed_lst (eda_1 (ed_tup eda_nil (by simp))) (by simp)) e fun vr B0 H0 f0 hr0 => ?_
    refine s_forD (K := K) (id_list (ed_var (v := v) rfl (dp_ex _ v f0.b hl))) f0.i fun xs B1 H2 f2 hd => ?_
    refine ⟨fun i σ' H' => i ≤ as.length ∧ ∃ B' vr, Fz B H B' H' ∧ Ex B1 B' ∧ Dp K B' vr (.list ((growAll two (as.take i)).map (clD E))) ∧ ∃ a b c, σ' = [some v, some vr, a, b, c],
      ⟨Nat.zero_le _, B1, vr, f0.trans f2, Ex.refl _, dp_ex _ _ f2.b hr0, none, none, none, rfl⟩, fun i σ' H' ⟨_, B', vr, g, x, _⟩ => x.trans g.i, ?_, ?_⟩
    · rintro i x d σ' H' hdi hx ⟨hi, B', vr, g, eB, hvr, a, b, c, rfl⟩
      obtain ⟨t, hti, rfl⟩ := map_get hdi
      obtain ⟨len1, len2⟩ := growAll_len two_ok.1 two_ok.2 (as := as.take i) (by rw [List.length_take]; omega)
      have hlt : i < as.length := (List.getElem?_eq_some_iff.mp hti).1
      refine q_newD (K := K) g fun l H1 h0 _ f1 _ m1 => ?_
      refine s_forD (K := K) (ds := (growAll two (as.take i)).map (clD E)) (id_list (ed_cb (eda_1 (ed_var (v := vr) rfl hvr)) rc_list)) f1.i fun ys B2 H3 f3 hd2 => ?_
      refine ⟨fun k σ' H' => ∃ B', Fz B H B' H' ∧ Ex B2 B' ∧ ML K B' H' l ((((growAll two (as.take i)).take k).flatMap (two t)).map (clD E)) ∧ ∃ c, σ' = [some v, some vr, some x, some (.ref l), c],
        ⟨B2, f1.trans f3, Ex.refl _, m1.step f3, c, rfl⟩, fun i σ' H' ⟨B', g, x, _⟩ => x.trans g.i, ?_, ?_⟩
      · rintro k y d σ' H' hdk hy ⟨B3, g3, e3, m3, c3, rfl⟩
        obtain ⟨r, hrk, rfl⟩ := map_get hdk
        have hrl := len2 r (List.mem_of_getElem? hrk)
        have hb : ((((growAll two (as.take i)).take k).flatMap (two t)).map (clD E)).length ≤ 1000 := by
          rw [List.length_map]
          have := len_flat (two_ok.1 t) ((growAll two (as.take i)).take k)
          have : ((growAll two (as.take i)).take k).length ≤ 243 := by rw [List.length_take]; omega
          omega
        refine q_appD g3 h0 m3 rfl (ed_more (i := 4) (j := 2) (vr := y) (va := x) rfl rfl (dp_ex _ y e3 hy) (dp_ex _ x (eB.trans ((f3.b).trans e3)) hx) hrl) (by omega) fun B4 H4 g4 e4 m4 => ?_
        refine s_appD g4 h0 m4 rfl (ed_more (i := 4) (j := 2) (vr := y) (va := x) rfl rfl (dp_ex _ y (e3.trans e4) hy) (dp_ex _ x ((eB.trans ((f3.b).trans e3)).trans e4) hx) hrl) (by rw [List.length_append]; simp only [List.length_cons, List.length_nil]; omega) fun B5 H5 g5 e5 m5 => ?_
        refine ⟨B5, g5, (e3.trans e4).trans e5, ?_, some y, rfl⟩
        rw [take_nextP hrk, List.flatMap_append, List.map_append]
        have m6 := (show ML K B5 H5 l _ from m5)
        simpa [two] using m6
      · rintro σ' H' ⟨B3, g3, e3, m3, c3, rfl⟩
        rw [List.length_map, List.take_length] at m3
        obtain ⟨B4, g4, e4, hD⟩ := m3.close g3 h0
        dsimp only
        refine ⟨_, rfl, hlt, B4, .ref l, g4, (eB.trans f3.b).trans (e3.trans e4), ?_, some x, some (.ref l), c3, rfl⟩
        rw [grow_take hti]; exact hD
    · rintro σ' H' ⟨hi, B', vr, g, eB, hvr, a, b, c, rfl⟩
      rw [List.length_map, List.take_length] at hvr
      dsimp only
      exact s_retD (K := K) (ed_var (v := vr) rfl hvr) g.i fun y B3 H3 f3 hy => q _ _ _ (g.trans f3) hy
theorem scSets : FnScope ["_law_atoms", "_law_rows", "_law_atom", "_law_wider", "_law_row"] ["_law_atoms"] (defScope (top 37)) := ⟨rfl, rfl, rfl, by decide +kernel, rfl, by decide +kernel, by decide +kernel⟩
theorem ok_sets (M : Bn mg) (F : FnP K "_law_sets" 37 f fd) : FnOk P w K mg base CX0 1 f fd ["_law_atoms"] (spD K rSets) := by
  refine F.ok scSets (fun vs H Q E h => ?_) (fun cdv A outer s H vs Q E hr h => ?_)
  · obtain ⟨B, ds, d, _, hv, ⟨_, _, _, _, rfl, _⟩, _⟩ := h
    exact hv.length
  · refine ⟨_, PSs.nox (pss_cons (ps_set (i := 1) scSets.nd rfl (Or.inl rfl) (pe_lst (pa_cons (pe_tup pa_nil) pa_nil)))
      (pss_cons (ps_for PassesOwn.never rfl (pi_list (pv 0)) (pg_name (i := 2) scSets.nd rfl (Or.inl rfl))
        (pss_cons (ps_set (i := 3) scSets.nd rfl (Or.inl rfl) (pe_lst pa_nil))
          (pss_cons (ps_for PassesOwn.never rfl (pi_list (pe_callTy call_list_of rfl M.list (by decide +kernel) (pa_cons (pv 1) pa_nil))) (pg_name (i := 4) scSets.nd rfl (Or.inl rfl))
            (pss_cons (ps_expr (pe_bm PySem.F.plainAttrs_list PySem.F.slot_list_append PySem.F.type_list_append mt_append (pv 3) (pa_cons (pv 4) pa_nil)))
            (pss_cons (ps_expr (pe_bm PySem.F.plainAttrs_list PySem.F.slot_list_append PySem.F.type_list_append mt_append (pv 3) (pa_cons (pe_op op_catD (pv 4) (pe_tup (pa_cons (pe_tup (pa_cons (pv 2) (pa_cons pe_bl pa_nil))) pa_nil))) pa_nil)))
            (pss_one (ps_expr (pe_bm PySem.F.plainAttrs_list PySem.F.slot_list_append PySem.F.type_list_append mt_append (pv 3) (pa_cons (pe_op op_catD (pv 4) (pe_tup (pa_cons (pe_tup (pa_cons (pv 2) (pa_cons pe_bl pa_nil))) pa_nil))) pa_nil)))))))
          (pss_one (ps_set (i := 1) scSets.nd rfl (Or.inl rfl) (pv 3))))))
      (pss_one (ps_ret (pv 1))))), ?_⟩
    obtain ⟨B, ds, d, e, hv, ⟨E, as, O, hz, rfl, rfl⟩, q⟩ := h
    obtain ⟨v, rfl, hl⟩ := dpAll_1 hv
    refine q_asgD (K := K) (d := .list ([[]].map (clD E))) (ed_lst (eda_1 (ed_tup eda_nil (by simp))) (by simp)) e fun vr B0 H0 f0 hr0 => ?_
    refine s_forD (K := K) (id_list (ed_var (v := v) rfl (dp_ex _ v f0.b hl))) f0.i fun xs B1 H2 f2 hd => ?_
    refine ⟨fun i σ' H' => i ≤ as.length ∧ ∃ B' vr, Fz B H B' H' ∧ Ex B1 B' ∧ Dp K B' vr (.list ((growAll three (as.take i)).map (clD E))) ∧ ∃ a b c, σ' = [some v, some vr, a, b, c],
      ⟨Nat.zero_le _, B1, vr, f0.trans f2, Ex.refl _, dp_ex _ _ f2.b hr0, none, none, none, rfl⟩, fun i σ' H' ⟨_, B', vr, g, x, _⟩ => x.trans g.i, ?_, ?_⟩
    · rintro i x d σ' H' hdi hx ⟨hi, B', vr, g, eB, hvr, a, b, c, rfl⟩
      obtain ⟨t, hti, rfl⟩ := map_get hdi
      obtain ⟨len1, len2⟩ := growAll_len three_ok.1 three_ok.2 (as := as.take i) (by rw [List.length_take]; omega)
      have hlt : i < as.length := (List.getElem?_eq_some_iff.mp hti).1
      refine q_newD (K := K) g fun l H1 h0 _ f1 _ m1 => ?_
      refine s_forD (K := K) (ds := (growAll three (as.take i)).map (clD E)) (id_list (ed_cb (eda_1 (ed_var (v := vr) rfl hvr)) rc_list)) f1.i fun ys B2 H3 f3 hd2 => ?_
      refine ⟨fun k σ' H' => ∃ B', Fz B H B' H' ∧ Ex B2 B' ∧ ML K B' H' l ((((growAll three (as.take i)).take k).flatMap (three t)).map (clD E)) ∧ ∃ c, σ' = [some v, some vr, some x, some (.ref l), c],
        ⟨B2, f1.trans f3, Ex.refl _, m1.step f3, c, rfl⟩, fun i σ' H' ⟨B', g, x, _⟩ => x.trans g.i, ?_, ?_⟩
      · rintro k y d σ' H' hdk hy ⟨B3, g3, e3, m3, c3, rfl⟩
        obtain ⟨r, hrk, rfl⟩ := map_get hdk
        have hrl := len2 r (List.mem_of_getElem? hrk)
        have hb : ((((growAll three (as.take i)).take k).flatMap (three t)).map (clD E)).length ≤ 1000 := by
          rw [List.length_map]
          have := len_flat (three_ok.1 t) ((growAll three (as.take i)).take k)
          have : ((growAll three (as.take i)).take k).length ≤ 243 := by rw [List.length_take]; omega
          omega
        refine q_appD g3 h0 m3 rfl (ed_var (v := y) rfl (dp_ex _ y e3 hy)) (by omega) fun B9 H9 g9 e9 m9 => ?_
        refine q_appD g9 h0 m9 rfl (ed_more (i := 4) (j := 2) (vr := y) (va := x) rfl rfl (dp_ex _ y (e3.trans e9) hy) (dp_ex _ x ((eB.trans ((f3.b).trans e3)).trans e9) hx) hrl) (by rw [List.length_append]; simp only [List.length_cons, List.length_nil]; omega) fun B4 H4 g4 e49 m4 => ?_
        have e4 := e9.trans e49
        refine s_appD g4 h0 m4 rfl (ed_more (i := 4) (j := 2) (vr := y) (va := x) rfl rfl (dp_ex _ y (e3.trans e4) hy) (dp_ex _ x ((eB.trans ((f3.b).trans e3)).trans e4) hx) hrl) (by rw [List.length_append, List.length_append]; simp only [List.length_cons, List.length_nil]; omega) fun B5 H5 g5 e5 m5 => ?_
        refine ⟨B5, g5, (e3.trans e4).trans e5, ?_, some y, rfl⟩
        rw [take_nextP hrk, List.flatMap_append, List.map_append]
        have m6 := (show ML K B5 H5 l _ from m5)
        simpa [three] using m6
      · rintro σ' H' ⟨B3, g3, e3, m3, c3, rfl⟩
        rw [List.length_map, List.take_length] at m3
        obtain ⟨B4, g4, e4, hD⟩ := m3.close g3 h0
        dsimp only
        refine ⟨_, rfl, hlt, B4, .ref l, g4, (eB.trans f3.b).trans (e3.trans e4), ?_, some x, some (.ref l), c3, rfl⟩
        rw [grow_take hti]; exact hD
    · rintro σ' H' ⟨hi, B', vr, g, eB, hvr, a, b, c, rfl⟩
      rw [List.length_map, List.take_length] at hvr
      dsimp only
      exact s_retD (K := K) (ed_var (v := vr) rfl hvr) g.i fun y B3 H3 f3 hy => q _ _ _ (g.trans f3) hy
end
end K5
end

section
set_option Elab.async false
set_option linter.all false
set_option maxRecDepth 100000
set_option maxHeartbeats 2000000
/-! W8: _law_valuations, _law_least. -/
namespace K5
open PySem PySem.Spec PyProof.Rows L2 GenW Evl NS DL

def worlds (E : At → PyData) (cs : List Cl) : List Cl := (vectors (atomsU E cs)).filter (meetsAll cs)
def rValuations (ds : List PyData) (d : PyData) : Prop := ∃ (E : At → PyData) (cs : List Cl), AtOk E ∧ (cs.flatMap fun c => c).length ≤ 1000 ∧ ds = [.list (cs.map (clD E))] ∧ d = .list ((worlds E cs).map (clD E))
def without (r : Cl) (l : Lit) : Cl := r.filter fun m => !decide (m = l)
def isLeast (others : List Cl) (r : Cl) : Bool := meetsAll others r && !(r.any fun l => meetsAll others (without r l))
def lawLeast (E : At → PyData) (ss others : List Cl) : List Cl := (ss.filter (isLeast others)).mergeSort (leOf (clD E))
def rLeast (ds : List PyData) (d : PyData) : Prop := ∃ (E : At → PyData) (ss others : List Cl), AtOk E ∧ ss.length ≤ 1000 ∧ (∀ r ∈ ss, r.length ≤ 1000) ∧ (ss.filter List.isEmpty).length ≤ 1 ∧ ds = [.list (ss.map (clD E)), .list (others.map (clD E))] ∧ d = .list ((lawLeast E ss others).map (clD E))
theorem atomsU_nd (E : At → PyData) (cs : List Cl) : (atomsU E cs).Nodup := ((List.mergeSort_perm _ _).nodup_iff).mpr (nodup_eraseDups _)
theorem atomsU_len (E : At → PyData) (cs : List Cl) : (atomsU E cs).length ≤ 5 := nodup_len (atomsU_nd E cs)
theorem isLeast_nil {others : List Cl} (h : isLeast others [] = true) : others = [] := by
  cases others with
  | nil => rfl
  | cons c cs => simp [isLeast, meetsAll, meets] at h
theorem few_least {ss others : List Cl} (h : (ss.filter List.isEmpty).length ≤ 1) : (∀ r ∈ ss.filter (isLeast others), r ≠ []) ∨ (ss.filter (isLeast others)).length ≤ 1 := by
  by_cases hm : [] ∈ ss.filter (isLeast others)
  · right
    have h0 := isLeast_nil (List.mem_filter.mp hm).2
    subst h0
    have e : ss.filter (isLeast []) = ss.filter List.isEmpty := by
      refine List.filter_congr fun r _ => ?_
      cases r with
      | nil => simp [isLeast, meetsAll]
      | cons l r => simp [isLeast, meetsAll]
    rw [e]; exact h
  · left
    intro r hr e
    exact hm (e ▸ hr)
theorem alike_lits {E : At → PyData} (O : AtOk E) : ∀ c d : Cl, PySem.W.alikeAll (c.map (litD E)) (d.map (litD E)) = true
  | [], _ => by simp [PySem.W.alikeAll]
  | _ :: _, [] => by simp [PySem.W.alikeAll]
  | l :: c, m :: d => by
    show PySem.W.alikeAll (litD E l :: c.map (litD E)) (litD E m :: d.map (litD E)) = true
    rw [PySem.W.alikeAll, (enc_lit O).alike, alike_lits O c d]; rfl
theorem srt_cls {E : At → PyData} (O : AtOk E) {cs : List Cl} (h : (∀ r ∈ cs, r ≠ []) ∨ cs.length ≤ 1) : Srt (cs.map (clD E)) := by
  refine ⟨PySem.W.AllAlike.of fun a b => by rw [clD, clD, PySem.W.alike]; exact alike_lits O a b, ?_, fun d hd => by obtain ⟨a, _, rfl⟩ := List.mem_map.mp hd; have := dep_cl O a; omega⟩
  rcases h with h | h
  · refine .inl (.inl fun d hd => ?_)
    obtain ⟨r, hr, rfl⟩ := List.mem_map.mp hd
    cases r with
    | nil => exact absurd rfl (h _ hr)
    | cons l r => exact ⟨_, _, rfl⟩
  · refine .inr ⟨by rw [List.length_map]; exact h, fun d hd => ?_⟩
    obtain ⟨r, hr, rfl⟩ := List.mem_map.mp hd
    simp [clD]
section
variable {P : Program} {w : World} {K : PySem.W.Frag} {mg : Str → Option Value} {base : Heap} {f fA fV fM fm : Addr} {fd fdA fdV fdM fdm : FuncData}
theorem scValuations : FnScope ["_law_clauses", "_law_row"] ["_law_clauses"] (defScope (top 33)) := ⟨rfl, rfl, rfl, by decide +kernel, rfl, by decide +kernel, by decide +kernel⟩
theorem ok_valuations (M : Bn mg) (F : FnP K "_law_valuations" 33 f fd) (FA : FnP K "_law_atoms_of" 29 fA fdA) (gA : mg "_law_atoms_of" = some (.ref fA)) (FV : FnP K "_law_vectors" 30 fV fdV) (gV : mg "_law_vectors" = some (.ref fV))
    (FM : FnP K "_law_meets_all" 32 fM fdM) (gM : mg "_law_meets_all" = some (.ref fM)) (Fm : FnP K "_law_meets" 31 fm fdm) (gm : mg "_law_meets" = some (.ref fm)) : FnOk P w K mg base CX0 3 f fd ["_law_clauses"] (spD K rValuations) := by
  have GA : FnOk P w K mg base CX0 1 fA fdA ["_law_clauses"] (spD K rAtomsOf) := ok_atomsOf M FA
  have bA : Binds K fdA ["_law_clauses"] [] := FA.bindsN fun _ _ _ _ _ _ us hl => match us, hl with | [_], _ => rfl
  have GV : FnOk P w K mg base CX0 1 fV fdV ["_law_atoms"] (spD K rVectors) := ok_vectors M FV
  have bV : Binds K fdV ["_law_atoms"] [] := FV.bindsN fun _ _ _ _ _ _ us hl => match us, hl with | [_], _ => rfl
  have GM : FnOk P w K mg base CX0 2 fM fdM ["_law_clauses", "_law_literals"] (spD K rMeetsAll) := ok_meetsAll FM Fm gm
  have bM : Binds K fdM ["_law_clauses", "_law_literals"] [] := FM.bindsN fun _ _ _ _ _ _ us hl => match us, hl with | [_, _], _ => rfl
  refine F.ok scValuations (fun vs H Q E h => ?_) (fun cdv A outer s H vs Q E hr h => ?_)
  · obtain ⟨B, ds, d, _, hv, ⟨_, _, _, _, rfl, _⟩, _⟩ := h
    exact hv.length
  · refine ⟨_, PSs.nox (pss_one (ps_ret (pe_lc (own := [("_law_row", 1)]) rfl scValuations.nd (pi_list (pe_call GV (hr.mono (by decide)) rfl gV FV.kp bV .nil pass0 (pa_cons (pe_call GA (hr.mono (by decide)) rfl gA FA.kp bA .nil pass0 (pa_cons (pv 0) pa_nil)) pa_nil)))
      (blkOk_by (own := [("_law_row", 1)]) (N := ["_law_clauses", "_law_row"]) (sc := defScope (top 33)) (by decide +kernel)) (fun _ _ _ _ _ => pg_name (i := 1) scValuations.nd rfl (Or.inl rfl))
      (fun _ _ _ _ _ => pts_one (pt_val (pe_call GM hr rfl gM FM.kp bM .nil pass0 (pa_cons (pv 0) (pa_cons (pv 1) pa_nil))))) (fun _ _ _ _ _ => pv 1)))), ?_⟩
    obtain ⟨B, ds, d, e, hv, ⟨E, cs, O, hz, rfl, rfl⟩, q⟩ := h
    obtain ⟨v, rfl, hl⟩ := dpAll_1 hv
    have vl := growAll_len two_ok.1 two_ok.2 (atomsU_len E cs)
    refine s_retD (ed_lc (clD E) (vectors (atomsU E cs)) (meetsAll cs) (clD E) (id_list (ed_call0 (R := rVectors) (eda_1 (ed_call0 (R := rAtomsOf) (eda_1 (ed_var (v := v) rfl hl)) ⟨E, cs, O, hz, rfl, rfl⟩)) ⟨E, _, O, atomsU_len E cs, rfl, rfl⟩)) (Nat.le_trans vl.1 (by omega)) (fun x => rfl)
      (fun i r x B1 e1 hd hx => et_dB (K := K) (ed_call0 (R := rMeetsAll) (eda_2 (ed_var (v := v) rfl (dp_ex _ v e1 hl)) (ed_var (v := x) rfl hx)) ⟨E, cs, r, _, O, rfl, .inr rfl, rfl⟩)) (fun i r x B1 e1 hd hx _ => ed_var rfl hx)) e fun v B1 H1 f hd => q v B1 H1 f hd
theorem scLeast : FnScope ["_law_sets_here", "_law_others", "_law_found", "_law_row", "_law_good", "_law_literal", "_law_one"] ["_law_sets_here", "_law_others"] (defScope (top 38)) := ⟨rfl, rfl, rfl, by decide +kernel, rfl, by decide +kernel, by decide +kernel⟩
theorem ok_least (M : Bn mg) (F : FnP K "_law_least" 38 f fd) (FM : FnP K "_law_meets_all" 32 fM fdM) (gM : mg "_law_meets_all" = some (.ref fM)) (Fm : FnP K "_law_meets" 31 fm fdm) (gm : mg "_law_meets" = some (.ref fm)) : FnOk P w K mg base CX0 3 f fd ["_law_sets_here", "_law_others"] (spD K rLeast) := by
  have GM : FnOk P w K mg base CX0 2 fM fdM ["_law_clauses", "_law_literals"] (spD K rMeetsAll) := ok_meetsAll FM Fm gm
  have bM : Binds K fdM ["_law_clauses", "_law_literals"] [] := FM.bindsN fun _ _ _ _ _ _ us hl => match us, hl with | [_, _], _ => rfl
  refine F.ok scLeast (fun vs H Q E h => ?_) (fun cdv A outer s H vs Q E hr h => ?_)
  · obtain ⟨B, ds, d, _, hv, ⟨_, _, _, _, _, _, _, rfl, _⟩, _⟩ := h
    exact hv.length
  · refine ⟨_, PSs.nox (pss_cons (ps_set (i := 2) scLeast.nd rfl (Or.inl rfl) (pe_lst pa_nil))
      (pss_cons (ps_for PassesOwn.never rfl (pi_list (pv 0)) (pg_name (i := 3) scLeast.nd rfl (Or.inl rfl))
        (pss_cons (ps_set (i := 4) scLeast.nd rfl (Or.inl rfl) (pe_call GM hr rfl gM FM.kp bM .nil pass0 (pa_cons (pv 1) (pa_cons (pv 3) pa_nil))))
          (pss_cons (ps_for PassesOwn.never rfl (pi_tup (pv 3)) (pg_name (i := 5) scLeast.nd rfl (Or.inr rfl))
            (pss_one (ps_if (PW.pt (pw_and (pt_val (pv 4)) (pw_and1 (pt_val (pe_call GM hr rfl gM FM.kp bM .nil pass0 (pa_cons (pv 1) (pa_cons
                (pe_lc (own := [("_law_one", 6)]) rfl scLeast.nd (pi_tup (pv 3)) (blkOk_by (own := [("_law_one", 6)]) (N := ["_law_sets_here", "_law_others", "_law_found", "_law_row", "_law_good", "_law_literal", "_law_one"]) (sc := defScope (top 38)) (by decide +kernel)) (fun _ _ _ _ _ => pg_name (i := 6) scLeast.nd rfl (Or.inl rfl))
                  (fun _ _ _ _ _ => pts_one (pt_cmpR (r := rNeD K) (op_neD hr.units) (pv 6) (pv 5) (nomark _))) (fun _ _ _ _ _ => pv 6)) pa_nil))))))) (pss_one (ps_set (i := 4) scLeast.nd rfl (Or.inl rfl) pe_bl)) pss_nil)))
          (pss_one (ps_if (pt_val (pv 4)) (pss_one (ps_expr (pe_bm PySem.F.plainAttrs_list PySem.F.slot_list_append PySem.F.type_list_append mt_append (pv 2) (pa_cons (pv 3) pa_nil)))) pss_nil)))))
      (pss_one (ps_ret (pe_callB (cr_sortedD hr.units) rfl M.sorted (by decide +kernel) (pa_cons (pv 2) pa_nil)))))), ?_⟩
    obtain ⟨B, ds, d, e, hv, ⟨E, ss, others, O, hz, hrow, hfew, rfl, rfl⟩, q⟩ := h
    obtain ⟨v, u, rfl, hl, hu⟩ := dpAll_2 hv
    refine q_newD (K := K) (Fz.refl e) fun l H1 h0 _ f1 _ m1 => ?_
    refine s_forD (K := K) (id_list (ed_var (v := v) rfl hl)) f1.i fun xs B1 H2 f2 hd => ?_
    refine ⟨fun i σ' H' => i ≤ ss.length ∧ ∃ B', Fz B H B' H' ∧ Ex B1 B' ∧ ML K B' H' l (((ss.take i).filter (isLeast others)).map (clD E)) ∧ ∃ a b c d, σ' = [some v, some u, some (.ref l), a, b, c, d],
      ⟨Nat.zero_le _, B1, f1.trans f2, Ex.refl _, m1.step f2, none, none, none, none, rfl⟩, fun i σ' H' ⟨_, B', g, x, _⟩ => x.trans g.i, ?_, ?_⟩
    · rintro i x d σ' H' hdi hx ⟨hi, B', g, eB, m, a, b, c, dd, rfl⟩
      obtain ⟨r, hri, rfl⟩ := map_get hdi
      have hlt : i < ss.length := (List.getElem?_eq_some_iff.mp hri).1
      have hrl := hrow r (List.mem_of_getElem? hri)
      have hu1 : Dp K B1 u (.list (others.map (clD E))) := dp_ex _ u (f1.b.trans f2.b) hu
      refine q_asgD (K := K) (ed_call0 (R := rMeetsAll) (eda_2 (ed_var (i := 1) (v := u) rfl (dp_ex _ u eB hu1)) (ed_var (i := 3) (v := x) rfl (dp_ex _ x eB hx))) ⟨E, others, r, _, O, rfl, .inr rfl, rfl⟩) g.i fun y B2 H3 f3 hy => ?_
      obtain rfl := hy.blI
      have e2 := eB.trans f3.b
      refine s_forD (K := K) (ds := r.map (litD E)) (id_tup (ed_var (i := 3) (v := x) rfl (dp_ex _ x e2 hx))) f3.i fun ys B3 H4 f4 hd2 => ?_
      have e3 := e2.trans f4.b
      refine ⟨fun k σ' H' => ∃ B', Fz B H B' H' ∧ Ex B3 B' ∧ ML K B' H' l (((ss.take i).filter (isLeast others)).map (clD E)) ∧ ∃ c d, σ' = [some v, some u, some (.ref l), some x, some (.bl (meetsAll others r && !((r.take k).any fun m => meetsAll others (without r m)))), c, d],
        ⟨B3, (g.trans f3).trans f4, Ex.refl _, (m.step f3).step f4, c, dd, by simp⟩, fun i σ' H' ⟨B', g, x, _⟩ => x.trans g.i, ?_, ?_⟩
      · rintro k z d σ' H' hdk hzz ⟨B4, g4, e4, m4, c4, d4, rfl⟩
        obtain ⟨t, htk, rfl⟩ := map_get hdk
        have tst : EvT (tAnd (tB (tVar 4)) (tB (tCall (spD K rMeetsAll) [] E0 (tCons (tVar 1) (tCons (tLc (iTup K (tVar 3)) (gName 6) (tTest (tOp (rNeD K) (tVar 6) (tVar 5))) (tVar 6) [6]) tNil))))) [some v, some u, some (.ref l), some x, some (.bl (meetsAll others r && !((r.take k).any fun m => meetsAll others (without r m)))), some z, d4] B4
            ((meetsAll others r && !((r.take k).any fun m => meetsAll others (without r m))) && meetsAll others (without r t)) := by
          refine et_and (et_dB (K := K) (ed_var (i := 4) rfl (.bl _))) fun _ => et_dB (K := K) (ed_call0 (R := rMeetsAll) (eda_2 (ed_var (i := 1) (v := u) rfl (dp_ex _ u (e3.trans e4) hu1)) (d := .list (others.map (clD E))) (e := .list ((without r t).map (litD E))) ?_) ⟨E, others, without r t, _, O, rfl, .inl rfl, rfl⟩)
          refine ed_lc (litD E) r (fun m => !decide (m = t)) (litD E) (id_tup (ed_var (i := 3) (v := x) rfl (dp_ex _ x (e3.trans e4) hx))) (by omega) (fun y => rfl) (fun j m y B5 e5 hj hy => et_d (K := K) (ED.is (ed_op (ed_var (i := 6) (v := y) rfl hy) (ed_var (i := 5) (v := z) rfl (dp_ex _ z (e4.trans e5) hzz)) (rd_ne (shaped_lit O m) (shaped_lit O t))) (by rw [eqv_lit O]))) (fun j m y B5 e5 hj hy _ => ed_var rfl hy)
        have eN : ((r.take (k + 1)).any fun m => meetsAll others (without r m)) = (((r.take k).any fun m => meetsAll others (without r m)) || meetsAll others (without r t)) := by rw [take_nextP htk, List.any_append]; simp
        refine s_ifD g4.i tst (fun ht H5 e5 => ?_) fun hf H5 e5 => ?_
        · refine ⟨B4, g4.up e5, e4, m4.up e5, some z, d4, ?_⟩
          rw [eN]
          simp only [Bool.and_eq_true] at ht
          rw [ht.2, Bool.or_true, Bool.not_true, Bool.and_false]
          rfl
        · refine ⟨B4, g4.up e5, e4, m4.up e5, some z, d4, ?_⟩
          rw [eN]
          have : (meetsAll others r && !(((r.take k).any fun m => meetsAll others (without r m)) || meetsAll others (without r t))) = (meetsAll others r && !((r.take k).any fun m => meetsAll others (without r m))) := by
            revert hf
            cases meetsAll others r <;> cases ((r.take k).any fun m => meetsAll others (without r m)) <;> cases meetsAll others (without r t) <;> simp
          rw [this]; rfl
      · rintro σ' H' ⟨B4, g4, e4, m4, c4, d4, rfl⟩
        rw [List.length_map, List.take_length]
        have eG : (meetsAll others r && !(r.any fun m => meetsAll others (without r m))) = isLeast others r := rfl
        rw [eG]
        dsimp only
        refine s_ifD g4.i (et_dB (K := K) (ed_var (i := 4) rfl (.bl _))) (fun ht H5 e5 => ?_) fun hf H5 e5 => ?_
        · refine s_appD (g4.up e5) h0 (m4.up e5) rfl (ed_var (i := 3) (v := x) rfl (dp_ex _ x (e3.trans e4) hx)) (by rw [List.length_map]; exact Nat.lt_of_le_of_lt (List.length_filter_le _ _) (by rw [List.length_take]; omega)) fun B6 H6 g6 e6 m6 => ⟨hlt, B6, g6, (e3.trans e4).trans e6, ?_, some x, _, c4, d4, rfl⟩
          rw [take_nextP hri, List.filter_append, List.filter_cons, if_pos ht, List.filter_nil, List.map_append]; exact m6
        · refine ⟨hlt, B4, g4.up e5, e3.trans e4, ?_, some x, _, c4, d4, rfl⟩
          rw [take_nextP hri, List.filter_append, List.filter_cons, if_neg (by rw [hf]; decide), List.filter_nil, List.append_nil]; exact m4.up e5
    · rintro σ' H' ⟨hi, B', g, eB, m, a, b, c, dd, rfl⟩
      rw [List.length_map, List.take_length] at m
      obtain ⟨B2, g2, e2, hD⟩ := m.close g h0
      dsimp only
      refine s_retD (K := K) (B := B2) (ED.is (ed_cb (eda_1 (ed_var (v := .ref l) rfl hD)) (rc_sorted (srt_cls O (few_least hfew)))) (by rw [sort_enc]; rfl)) g2.i fun y B3 H3 f3 hy => q _ _ _ (g2.trans f3) hy
end
end K5
end

section
set_option Elab.async false
set_option linter.all false
set_option maxRecDepth 100000
set_option maxHeartbeats 2000000
/-! W9: literal_bits. -/
namespace K5
open PySem PySem.Spec PyProof.Rows L2 GenW Evl NS DL

def litsU (E : At → PyData) (cs : List Cl) : List Lit := sortU (litD E) (cs.flatMap fun c => c)
def bitL (E : At → PyData) (ls : List Lit) : List (PyData × Int) := ls.zipIdx.map fun p => (litD E p.1, (2 : Int) ^ p.2)
def BitsD (P : Program) (w : World) (K : PySem.W.Frag) (B : Hp) (v : V) (E : At → PyData) (ls : List Lit) : Prop := ∃ L : BL, BD P w K B v L ∧ L.map (·.2) = bitL E ls
def spBits (P : Program) (w : World) (K : PySem.W.Frag) : Sp := fun vs H Q _ => ∃ (B : Hp) (E : At → PyData) (cs : List Cl) (v : V) (x : PyData), Ex B H ∧ AtOk E ∧ vs = [v] ∧ Dp K B v x ∧ IsSeq x (cs.map (clD E)) ∧
  ∀ r B2 H2, Fz B H B2 H2 → BitsD P w K B2 r E (litsU E cs) → Q r H2
theorem bitL_take {E : At → PyData} {ls : List Lit} {i : Nat} {l : Lit} (h : ls[i]? = some l) : bitL E (ls.take (i + 1)) = bitL E (ls.take i) ++ [(litD E l, (2 : Int) ^ i)] := by
  have hi : i < ls.length := (List.getElem?_eq_some_iff.mp h).1
  unfold bitL
  rw [take_nextP h, List.zipIdx_append, List.map_append, List.length_take, Nat.min_eq_left (Nat.le_of_lt hi), Nat.zero_add]
  rfl
theorem bitL_mem {E : At → PyData} {ls : List Lit} {p : PyData × Int} (h : p ∈ bitL E ls) : ∃ l ∈ ls, p.1 = litD E l := by
  obtain ⟨q, hq, rfl⟩ := List.mem_map.mp h
  exact ⟨q.1, (List.mem_zipIdx hq).2.2 ▸ List.getElem_mem _, rfl⟩
theorem bitL_keys (E : At → PyData) (ls : List Lit) : (bitL E ls).map (·.1) = ls.map (litD E) := by
  unfold bitL
  rw [List.map_map]
  show ls.zipIdx.map (fun p => litD E p.1) = _
  have e : (ls.zipIdx.map Prod.fst).map (litD E) = ls.zipIdx.map fun p => litD E p.1 := by rw [List.map_map]; rfl
  rw [← e, List.zipIdx_map_fst]
theorem sortU_nd {α : Type} [DecidableEq α] (enc : α → PyData) (as : List α) : (sortU enc as).Nodup := ((List.mergeSort_perm _ _).nodup_iff).mpr (nodup_eraseDups _)
theorem sortU_len {α : Type} [DecidableEq α] (enc : α → PyData) (as : List α) : (sortU enc as).length ≤ as.length := by
  unfold sortU
  rw [List.length_mergeSort]
  induction h : as.length using Nat.strongRecOn generalizing as with
  | ind n ih =>
    cases as with
    | nil => simp
    | cons a as =>
      rw [List.eraseDups_cons, List.length_cons]
      subst h
      have := ih _ (Nat.lt_succ_of_le (List.length_filter_le (fun b => !b == a) as)) _ rfl
      have h2 := List.length_filter_le (fun b => !b == a) as
      rw [List.length_cons]; omega
section
variable {P : Program} {w : World} {K : PySem.W.Frag} {mg : Str → Option Value} {base : Heap} {f : Addr} {fd : FuncData}
theorem scBits : FnScope ["clauses", "bits", "power", "literal", "clause", "found"] ["clauses"] (defScope (top 8)) := ⟨rfl, rfl, rfl, by decide +kernel, rfl, by decide +kernel, by decide +kernel⟩
theorem ok_bits (M : Bn mg) (F : FnP K "literal_bits" 8 f fd) : FnOk P w K mg base CX0 1 f fd ["clauses"] (spBits P w K) := by
  refine F.ok scBits (fun vs H Q E h => ?_) (fun cdv A outer s H vs Q E hr h => ?_)
  · obtain ⟨_, _, _, _, _, _, _, rfl, _⟩ := h
    rfl
  · refine ⟨_, PSs.nox (pss_cons (ps_set (i := 1) scBits.nd rfl (Or.inl rfl) pe_dnewB) (pss_cons (ps_set (i := 2) scBits.nd rfl (Or.inl rfl) pe_int)
      (pss_cons (ps_for PassesOwn.never rfl (pi_list (pe_callB (cr_sortedSet rfl hr.units) rfl M.sorted (by decide +kernel)
        (pa_cons (pe_scD2 hr.units (own := [("clause", 4), ("found", 5)]) (vs1 := [5]) (wi1 := iTup K (tVar 4)) (te := tVar 5) rfl scBits.nd (pi_seq (pv 0)) (blkOk_by (own := [("clause", 4), ("found", 5)]) (N := ["clauses", "bits", "power", "literal", "clause", "found"]) (sc := defScope (top 8)) (by decide +kernel)) (by simp)
          (fun _ _ _ _ _ => pg_name (i := 4) scBits.nd rfl (Or.inl rfl)) (fun _ _ _ _ _ => pts_nil) (fun _ _ _ _ _ => pi_tup (pv 4)) (fun _ _ _ _ _ => pg_name (i := 5) scBits.nd rfl (Or.inl rfl)) (fun _ _ _ _ _ => pts_nil) (fun _ _ _ _ _ => pv 5)) pa_nil)))
          (pg_name (i := 3) scBits.nd rfl (Or.inl rfl))
          (pss_cons (ps_dputB hr.units (pv 1) (pv 3) (pv 2) rfl) (pss_one (ps_set (i := 2) scBits.nd rfl (Or.inl rfl) (pe_op op_mul pe_int (pv 2))))))
      (pss_one (ps_ret (pv 1)))))), ?_⟩
    obtain ⟨B, E, cs, v, x, e, O, rfl, hv, hx, q⟩ := h
    intro a ha
    have hb0 : B a = none := fresh_back e ha
    have f0 : Fz B H B (upd H a (BDO P w a [])) := Fz.aside e ha
    refine q_asgD (K := K) (B := B) ed_int f0.i fun y B0 H0 g0 hy => ?_
    obtain rfl := hy.intI
    have g1 := f0.trans g0
    have hl0 : H0 a = some (BDO P w a []) := g0.h _ _ upd_same
    have hn0 : B0 a = none := g0.n a (some_ne upd_same) hb0
    have src : ES K w (tScD2 w K (iSeq K (tVar 0)) (gName 4) tYes (iTup K (tVar 4)) (gName 5) tYes (tVar 5) [4, 5] [5]) [some v, some (.ref a), some (.int 1), none, none, none] B0 ((cs.flatMap fun c => c).map (litD E)) :=
      es_sc2 (clD E) (litD E) cs (fun c => c) (litD E) (id_seq hx (ed_var (v := v) rfl (dp_ex _ v g0.b hv))) (cap_enc lit_few) (fun x => rfl) (fun x y => rfl) (fun i c x B1 e1 hd hx => id_tup (ed_var rfl hx)) (fun i c x B1 e1 hd hx k l y B2 e2 hk hy => ed_var rfl hy) fun c _ l _ => ⟨(enc_lit O).keyed l, rfl⟩
    refine s_forD (K := K) (ds := (litsU E cs).map (litD E)) (id_list (ed_sortU (enc_lit O) _ src)) g1.i fun xs B1 H2 f2 hd => ?_
    generalize hls : litsU E cs = ls at hd
    have nd : ls.Nodup := by rw [← hls]; exact sortU_nd _ _
    have len : ls.length ≤ 10 := lit_len nd
    refine ⟨fun i σ' H' => i ≤ ls.length ∧ ∃ (B' : Hp) (L : BL), Fz B H B' H' ∧ Ex B1 B' ∧ B' a = none ∧ H' a = some (BDO P w a L) ∧ KeysOk K B' L ∧ L.map (·.2) = bitL E (ls.take i) ∧ ∃ y, σ' = [some v, some (.ref a), some (.int (2 ^ i)), y, none, none],
      ⟨Nat.zero_le _, B1, [], g1.trans f2, Ex.refl _, f2.n a (some_ne hl0) hn0, f2.h _ _ hl0, fun l hl => (by cases hl), rfl, none, rfl⟩, fun i σ' H' ⟨_, B', L, g, x, _⟩ => x.trans g.i, ?_, ?_⟩
    · rintro i x d σ' H' hdi hx ⟨hi, B', L, g, eB, nB, lH, ks, hL, y, rfl⟩
      obtain ⟨t, hti, rfl⟩ := map_get hdi
      have hlt : i < ls.length := (List.getElem?_eq_some_iff.mp hti).1
      have hxt := dp_ex _ x eB hx
      obtain ⟨b, xs', rfl, _⟩ := id hxt.tupI
      have hLl : L.length = i := by
        have := congrArg List.length hL
        simp [bitL] at this; omega
      refine ⟨_, rfl, _, rfl, _, rfl, a, b, litD E t, 2 ^ i, L, rfl, rfl, rfl, lH, keysOk_ex g.i ks, (enc_lit O).keyed t, dp_ex _ _ g.i hxt, fun l hl en => ?_, by omega, ?_⟩
      · have hm : l.2 ∈ bitL E (ls.take i) := by rw [← hL]; exact List.mem_map.mpr ⟨l, hl, rfl⟩
        obtain ⟨m, hm1, hm2⟩ := bitL_mem hm
        rw [hm2] at en
        have e2 := (enc_lit O).inj _ _ en
        subst e2
        obtain ⟨k, hk, hk2⟩ := List.getElem_of_mem hm1
        rw [List.length_take] at hk
        rw [List.getElem_take] at hk2
        have : k = i := (List.getElem_inj (h₀ := by omega) (h₁ := hlt) nd).mp (by rw [hk2, (List.getElem?_eq_some_iff.mp hti).2])
        omega
      · have ha1 : H a = none := ha
        have upd' : Fz B H B' (upd H' a (BDO P w a (L ++ [(b, litD E t, 2 ^ i)]))) := ⟨g.b, Ex.mut g.h ha1, Ex.mut g.i nB, g.n⟩
        refine s_asgD (K := K) (B := B') (d := .int (2 * 2 ^ i)) (ed_op ed_int (ed_var rfl (.int _)) (rd_I (g := fun i j => i * j) (.inl ⟨by decide, by decide⟩))) upd'.i fun z B6 H6 f6 hz6 => ?_
        rw [hz6.intI]
        refine ⟨hlt, B6, L ++ [(b, litD E t, 2 ^ i)], upd'.trans f6, eB.trans f6.b, f6.n a (some_ne upd_same) nB, f6.h _ _ upd_same, fun l hl => ?_, ?_, some (.ref b), by rw [show (2 : Int) * 2 ^ i = 2 ^ (i + 1) by rw [Int.pow_succ, Int.mul_comm]]; rfl⟩
        · rcases List.mem_append.mp hl with hl | hl
          · exact ⟨(ks l hl).1, dp_ex _ _ f6.b (ks l hl).2⟩
          · rw [List.mem_singleton.mp hl]; exact ⟨(enc_lit O).keyed t, dp_ex _ _ f6.b hxt⟩
        · rw [bitL_take hti, List.map_append, hL]; rfl
    · rintro σ' H' ⟨hi, B', L, g, eB, nB, lH, ks, hL, y, rfl⟩
      rw [List.length_map, List.take_length] at hL
      dsimp only
      refine ⟨_, rfl, q (.ref a) (upd B' a (BDO P w a L)) H' ⟨g.b.trans (Ex.new nB), g.h, fun b o hb => ?_, fun b k1 k2 => ?_⟩ ⟨L, ⟨a, rfl, upd_same, keysOk_ex (Ex.new nB) ks, ?_⟩, by rw [hls]; exact hL⟩⟩
      · by_cases hba : b = a
        · subst hba; rw [upd_same] at hb; rw [lH, hb]
        · rw [upd_ne hba] at hb; exact g.i b o hb
      · rw [upd_ne (show b ≠ a from fun z => k1 (by rw [z]; exact ha))]; exact g.n b k1 k2
      · have hk : L.map (fun l => l.2.1) = ls.map (litD E) := by
          rw [← bitL_keys, ← hL, List.map_map]; rfl
        have : (L.map fun l => l.2.1).Pairwise (fun a b => nk a ≠ nk b) := by
          rw [hk]
          exact List.pairwise_map.mpr (nd.imp fun hne en => hne ((enc_lit O).inj _ _ en))
        exact (List.pairwise_map (f := fun l : Addr × PyData × Int => l.2.1) (R := fun a b => nk a ≠ nk b)).mp this
end
end K5
end

section
set_option Elab.async false
set_option linter.all false
set_option maxRecDepth 100000
set_option maxHeartbeats 2000000
/-! W10: grown_sets. -/
namespace K5
open PySem PySem.Spec PyProof.Rows L2 GenW Evl NS DL

def bitN (ls : List Lit) (l : Lit) : Nat := if l ∈ ls then 2 ^ ls.idxOf l else 0
def putN (g : List Nat) (k : Nat) : List Nat := if k ∈ g then g else g ++ [k]
def growLit (ls : List Lit) (u : Nat) (g : List Nat) (l : Lit) : List Nat := if u &&& bitN ls (neg l) = 0 then putN g (u ||| bitN ls l) else g
def growOne (ls : List Lit) (c : Cl) (g : List Nat) (u : Nat) : List Nat := if 0 < u &&& (c.map (bitN ls)).sum then putN g u else c.foldl (growLit ls u) g
def grownN (ls : List Lit) (us : List Nat) (c : Cl) : List Nat := us.foldl (growOne ls c) []
def intsD (us : List Nat) : List PyData := us.map fun u : Nat => PyData.int (u : Int)
def spGrown (P : Program) (w : World) (K : PySem.W.Frag) : Sp := fun vs H Q _ => ∃ (B : Hp) (E : At → PyData) (ls : List Lit) (us : List Nat) (c : Cl) (v u b : V), Ex B H ∧ AtOk E ∧ vs = [v, u, b] ∧ Dp K B v (.list (intsD us)) ∧ Dp K B u (clD E c) ∧ BitsD P w K B b E ls ∧
  ls.length ≤ 10 ∧ (∀ x ∈ us, x < 2 ^ ls.length) ∧ (∀ l ∈ c, l ∈ ls) ∧ us.length ≤ 2000 ∧ c.length ≤ 1000 ∧ ∀ r B2 H2, Fz B H B2 H2 → Dp K B2 r (.list (intsD (grownN ls us c))) → Q r H2
theorem bits_in {E : At → PyData} {L : BL} {ls : List Lit} {m : Lit} (hb : L.map (·.2) = bitL E ls) (hm : m ∈ ls) : ∃ l ∈ L, l.2.1 = litD E m ∧ l.2.2 = (bitN ls m : Int) := by
  have hi := List.idxOf_lt_length_of_mem hm
  have h1 : (m, ls.idxOf m) ∈ ls.zipIdx := by
    rw [List.mem_zipIdx_iff_getElem?]
    rw [List.getElem?_eq_getElem hi, List.getElem_idxOf hi]
  have h2 : (litD E m, (2 : Int) ^ ls.idxOf m) ∈ bitL E ls := List.mem_map.mpr ⟨_, h1, rfl⟩
  rw [← hb] at h2
  obtain ⟨l, hl, e⟩ := List.mem_map.mp h2
  refine ⟨l, hl, by rw [e], ?_⟩
  rw [e, bitN, if_pos hm]
  simp
theorem bits_find {E : At → PyData} (O : AtOk E) {L : BL} {ls : List Lit} {m : Lit} (hb : L.map (·.2) = bitL E ls) (hp : L.Pairwise (fun l m => nk l.2.1 ≠ nk m.2.1)) : ((L.find? (fun l => decide (nk l.2.1 = nk (litD E m)))).map (·.2.2)).getD 0 = (bitN ls m : Int) := by
  by_cases hm : m ∈ ls
  · obtain ⟨l, hl, e1, e2⟩ := bits_in hb hm
    rw [find_key (d := litD E m) hp hl (by rw [e1])]
    exact e2
  · rw [List.find?_eq_none.mpr fun l hl => ?_, bitN, if_neg hm]; rfl
    intro h
    have h' : nk l.2.1 = nk (litD E m) := by simpa using h
    obtain ⟨m', hm', e⟩ := bitL_mem (E := E) (ls := ls) (p := l.2) (by rw [← hb]; exact List.mem_map.mpr ⟨l, hl, rfl⟩)
    rw [e] at h'
    exact hm ((enc_lit O).inj _ _ h' ▸ hm')
theorem bitN_lt (ls : List Lit) (l : Lit) : bitN ls l < 2 ^ ls.length := by
  unfold bitN
  split
  · rename_i h
    exact Nat.pow_lt_pow_right (by decide) (List.idxOf_lt_length_of_mem h)
  · exact Nat.two_pow_pos _
/-- all below, each once -/
def Gd (N : Nat) (g : List Nat) : Prop := g.Nodup ∧ ∀ x ∈ g, x < 2 ^ N
theorem Gd.put {N : Nat} {g : List Nat} {k : Nat} (h : Gd N g) (hk : k < 2 ^ N) : Gd N (putN g k) := by
  unfold putN
  split
  · exact h
  · rename_i hn
    exact ⟨List.nodup_append.mpr ⟨h.1, by simp, fun x hx y hy e => hn (by rw [List.mem_singleton.mp hy] at e; rw [← e]; exact hx)⟩, fun x hx => by
      rcases List.mem_append.mp hx with z | z
      · exact h.2 x z
      · rw [List.mem_singleton.mp z]; exact hk⟩
theorem Gd.lit {ls : List Lit} {u : Nat} {g : List Nat} (h : Gd ls.length g) (hu : u < 2 ^ ls.length) (l : Lit) : Gd ls.length (growLit ls u g l) := by
  unfold growLit
  split
  · exact h.put (Nat.or_lt_two_pow hu (bitN_lt ls l))
  · exact h
theorem Gd.lits {ls : List Lit} {u : Nat} (hu : u < 2 ^ ls.length) : ∀ (c : Cl) {g : List Nat}, Gd ls.length g → Gd ls.length (c.foldl (growLit ls u) g)
  | [], _, h => h
  | l :: c, _, h => Gd.lits hu c (h.lit hu l)
theorem Gd.one {ls : List Lit} {u : Nat} {g : List Nat} {c : Cl} (h : Gd ls.length g) (hu : u < 2 ^ ls.length) : Gd ls.length (growOne ls c g u) := by
  unfold growOne
  split
  · exact h.put hu
  · exact .lits hu c h
theorem Gd.alls {ls : List Lit} {c : Cl} : ∀ (us : List Nat), (∀ x ∈ us, x < 2 ^ ls.length) → ∀ {g : List Nat}, Gd ls.length g → Gd ls.length (us.foldl (growOne ls c) g)
  | [], _, _, h => h
  | u :: us, hu, _, h => Gd.alls us (fun x hx => hu x (List.mem_cons_of_mem _ hx)) (h.one (hu u List.mem_cons_self))
theorem Gd.len {N : Nat} {g : List Nat} (h : Gd N g) (hN : N ≤ 10) : g.length ≤ 1024 := by
  have := nd_le (2 ^ N) g h.1 h.2
  have : (2 : Nat) ^ N ≤ 2 ^ 10 := Nat.pow_le_pow_right (by decide) hN
  omega
/-- the dict of the grown -/
abbrev gk (g : List Nat) : List (Key × V) := g.map fun k : Nat => (Sum.inl (k : Int), V.bl true)
theorem putK_gk (g : List Nat) (k : Nat) : putK (gk g) (Sum.inl (k : Int)) (V.bl true) = gk (putN g k) := by
  have e : ((gk g).any fun kv => decide (kv.1 = (Sum.inl (k : Int) : Key))) = decide (k ∈ g) := by
    induction g with
    | nil => simp
    | cons a g ih =>
      show (decide ((Sum.inl (a : Int) : Key) = Sum.inl (k : Int)) || _) = _
      rw [ih, Bool.eq_iff_iff]
      simp only [Bool.or_eq_true, decide_eq_true_eq, List.mem_cons, Sum.inl.injEq]
      exact ⟨fun h => h.elim (fun e => .inl (by omega)) .inr, fun h => h.elim (fun e => .inl (by omega)) .inr⟩
  unfold putK putN
  rw [e]
  by_cases h : k ∈ g
  · rw [if_pos (decide_eq_true h), if_pos h]
    unfold gk
    rw [List.map_map]
    refine List.map_congr_left fun a _ => ?_
    show (if (Sum.inl (a : Int) : Key) = Sum.inl (k : Int) then (Sum.inl (a : Int), V.bl true) else (Sum.inl (a : Int), V.bl true)) = _
    split <;> rfl
  · rw [if_neg (by simpa using h), if_neg h]
    unfold gk; rw [List.map_append]; rfl
theorem and_int (a b : Nat) : Builtin.bitAnd (a : Int) (b : Int) = ((a &&& b : Nat) : Int) := by
  rw [bitAnd_pp (by omega) (by omega)]; simp
theorem or_int (a b : Nat) : Builtin.bitOr (a : Int) (b : Int) = ((a ||| b : Nat) : Int) := by
  rw [Bits.bitOr_pp (by omega) (by omega)]; simp
theorem sum_cast (ns : List Nat) : (ns.map fun n : Nat => (n : Int)).sum = ((ns.sum : Nat) : Int) := by
  induction ns with
  | nil => rfl
  | cons n ns ih => rw [List.map_cons, List.sum_cons, List.sum_cons, ih]; omega
theorem rc_sumN {K : PySem.W.Frag} {ns : List Nat} : RDC K (rSum K) [.list (intsD ns)] (.int (ns.sum : Nat)) := by
  have h := rc_sum (K := K) (ns := ns.map fun n : Nat => (n : Int))
  rw [sum_cast, List.map_map] at h
  exact h
section
variable {P : Program} {w : World} {K : PySem.W.Frag} {mg : Str → Option Value} {base : Heap} {f fN : Addr} {fd fdN : FuncData}
theorem s_grow {σ : L2.St} {B0 H0 B H : Hp} {l : Addr} {g : List Nat} {k i : Nat} {ty : TE} {D : Ends} (f : Fz B0 H0 B H) (h0 : H0 l = none) (nb : B l = none) (hH : H l = some (.dK (gk g))) (hσ : σ[i]? = some (some (.ref l))) (h : ED K ty σ B (.int (k : Int))) (hz : g.length ≤ 2000)
    (q : ∀ B1 H1, Fz B0 H0 B1 H1 → Ex B B1 → B1 l = none → H1 l = some (.dK (gk (putN g k))) → D.nx σ H1) : sDPut (tVar i) ty (tC (.bl true)) D σ H := by
  refine ⟨_, hσ, h H f.i _ fun y B1 H1 f1 hy => ⟨l, upd H1 l (.dK (gk (putN g k))), rfl, .inl ⟨gk g, Sum.inl (k : Int), f1.h _ _ hH, hy.intI, by rw [List.length_map, sizeLine_eq]; omega, by rw [putK_gk]⟩, ?_⟩⟩
  have n1 := f1.n l (some_ne hH) nb
  have t := f.trans f1
  exact q B1 _ ⟨t.b, Ex.mut t.h h0, Ex.mut t.i n1, t.n⟩ f1.b n1 upd_same
theorem scGrown : FnScope ["sets", "clause", "bits", "grown", "literal", "whole", "unit"] ["sets", "clause", "bits"] (defScope (top 9)) := ⟨rfl, rfl, rfl, by decide +kernel, rfl, by decide +kernel, by decide +kernel⟩
theorem ok_grown (M : Bn mg) (F : FnP K "grown_sets" 9 f fd) (FN : FnP K "negated" 4 fN fdN) (gN : mg "negated" = some (.ref fN)) : FnOk P w K mg base CX0 2 f fd ["sets", "clause", "bits"] (spGrown P w K) := by
  have GN : FnOk P w K mg base CX0 1 fN fdN ["literal"] (spD K rNegated) := ok_negated FN
  have bN : Binds K fdN ["literal"] [] := FN.bindsN fun _ _ _ _ _ _ us hl => match us, hl with | [_], _ => rfl
  refine F.ok scGrown (fun vs H Q E h => ?_) (fun cdv A outer s H vs Q E hr h => ?_)
  · obtain ⟨_, _, _, _, _, _, _, _, _, _, rfl, _⟩ := h
    rfl
  · refine ⟨_, PSs.nox (pss_cons (ps_set (i := 3) scGrown.nd rfl (Or.inl rfl) pe_dnewK)
      (pss_cons (ps_set (i := 5) scGrown.nd rfl (Or.inl rfl) (pe_callB (cr_sum rfl) rfl M.sum (by decide +kernel) (pa_cons (pe_lc (own := [("literal", 4)]) (te := tDGetB P w K (tVar 2) (tVar 4)) rfl scGrown.nd (pi_tup (pv 1)) (blkOk_by (own := [("literal", 4)]) (N := ["sets", "clause", "bits", "grown", "literal", "whole", "unit"]) (sc := defScope (top 9)) (by decide +kernel)) (fun _ _ _ _ _ => pg_name (i := 4) scGrown.nd rfl (Or.inl rfl)) (fun _ _ _ _ _ => pts_nil)
          (fun _ _ _ _ _ => pe_dgetB hr.units (pv 2) (pv 4) (fun _ _ => rfl))) pa_nil)))
      (pss_cons (ps_for PassesOwn.never rfl (pi_list (pv 0)) (pg_name (i := 6) scGrown.nd rfl (Or.inl rfl))
        (pss_one (ps_if (pt_cmpR op_gt (pe_op op_and (pv 6) (pv 5)) pe_int (nomark _)) (pss_one (ps_dput (hu_of hr) (pv 3) (pv 6) pe_bl rfl))
          (pss_one (ps_for PassesOwn.never rfl (pi_tup (pv 1)) (pg_name (i := 4) scGrown.nd rfl (Or.inl rfl))
            (pss_one (ps_if (pt_cmpR (op_eqD hr.units) (pe_op op_and (pv 6) (pe_dget2B hr.units (pv 2) (pe_call GN hr rfl gN FN.kp bN .nil pass0 (pa_cons (pv 4) pa_nil)) pe_int ⟨rfl, rfl, rfl, rfl⟩)) pe_int (nomark _))
              (pss_one (ps_dput (hu_of hr) (pv 3) (pe_op op_or (pv 6) (pe_dgetB hr.units (pv 2) (pv 4) (fun _ _ => rfl))) pe_bl rfl)) pss_nil)))))))
      (pss_one (ps_ret (pe_callTy (call_listD rfl) rfl M.list (by decide +kernel) (pa_cons (pv 3) pa_nil))))))), ?_⟩
    obtain ⟨B, E, ls, us, c, v, u, b, e, O, rfl, hv, hu, ⟨L, hb, hL⟩, hn, hus, hcl, hul, hcz, q⟩ := h
    intro ga hg
    have hb0 : B ga = none := fresh_back e hg
    have f0 : Fz B H B (upd H ga (.dK (gk []))) := Fz.aside e hg
    have hbp : L.Pairwise (fun l m => nk l.2.1 ≠ nk m.2.1) := by obtain ⟨_, _, _, _, h4⟩ := hb; exact h4
    have bits : ∀ {σ : L2.St} {B2 : Hp} {ty : TE} {m : Lit}, σ[2]? = some (some b) → Ex B B2 → m ∈ ls → ED K ty σ B2 (litD E m) → ED K (tDGetB P w K (tVar 2) ty) σ B2 (.int (bitN ls m : Nat)) := fun {σ B2 ty m} h2 eB hm hk => by
      obtain ⟨l, hl, e1, e2⟩ := bits_in hL hm
      exact ED.is (ed_dgetB h2 (hb.ex eB) hk ((enc_lit O).keyed m) rfl hl (by rw [e1])) (by rw [e2])
    have whole : ED K (tCB (rSum K) (tCons (tLc (iTup K (tVar 1)) (gName 4) tYes (tDGetB P w K (tVar 2) (tVar 4)) [4]) tNil)) [some v, some u, some b, some (.ref ga), none, none, none] B (.int ((c.map (bitN ls)).sum : Nat)) :=
      ed_cb (eda_1 (ED.is (ed_lcY (litD E) c (fun l => PyData.int (bitN ls l : Nat)) (id_tup (ed_var (v := u) rfl hu)) (by omega) (fun x => rfl) fun i l x B1 e1 hi hx => bits rfl e1 (hcl l (List.mem_of_getElem? hi)) (ed_var rfl hx)) (by rw [intsD, List.map_map]; rfl))) rc_sumN
    refine q_asgD (K := K) whole f0.i fun y B0 H0 g0 hy => ?_
    obtain rfl := hy.intI
    have g1 := f0.trans g0
    have hl0 : H0 ga = some (.dK (gk [])) := g0.h _ _ upd_same
    have hn0 : B0 ga = none := g0.n ga (some_ne upd_same) hb0
    refine s_forD (K := K) (ds := intsD us) (id_list (ed_var (v := v) rfl (dp_ex _ v g0.b hv))) g1.i fun xs B1 H2 f2 hd => ?_
    have ru : Ex B B1 := g0.b.trans f2.b
    refine ⟨fun i σ' H' => ∃ (B' : Hp), Fz B H B' H' ∧ Ex B1 B' ∧ B' ga = none ∧ H' ga = some (.dK (gk ((us.take i).foldl (growOne ls c) []))) ∧ ∃ a d, σ' = [some v, some u, some b, some (.ref ga), a, some (.int ((c.map (bitN ls)).sum : Nat)), d],
      ⟨B1, g1.trans f2, Ex.refl _, f2.n ga (some_ne hl0) hn0, f2.h _ _ hl0, none, none, rfl⟩, fun i σ' H' ⟨B', g, x, _⟩ => x.trans g.i, ?_, ?_⟩
    · rintro i x d σ' H' hdi hx ⟨B', g, eB, nB, lH, a, d', rfl⟩
      obtain ⟨t, hti, rfl⟩ := map_get hdi
      have htN := hus t (List.mem_of_getElem? hti)
      have gd : Gd ls.length ((us.take i).foldl (growOne ls c) []) := Gd.alls _ (fun x hx => hus x (List.mem_of_mem_take hx)) ⟨List.nodup_nil, by simp⟩
      have gl := gd.len hn
      have eT : (us.take (i + 1)).foldl (growOne ls c) [] = growOne ls c ((us.take i).foldl (growOne ls c) []) t := by rw [take_nextP hti, List.foldl_append]; rfl
      obtain rfl := hx.intI
      generalize hgi : (us.take i).foldl (growOne ls c) [] = gi at gd gl eT lH
      have vx : ∀ {a' : Option V} {B2 : Hp}, ED K (tVar 6) [some v, some u, some b, some (.ref ga), a', some (.int ((c.map (bitN ls)).sum : Nat)), some (.int (t : Int))] B2 (.int (t : Int)) := fun {a' B2} => ed_var rfl (.int _)
      have test : EvT (tTest (tOp (rI0 fun i j => .bl (decide (j < i))) (tOp (rI0 fun i j => .int (Builtin.bitAnd i j)) (tVar 6) (tVar 5)) (tC (.int 0)))) [some v, some u, some b, some (.ref ga), a, some (.int ((c.map (bitN ls)).sum : Nat)), some (.int (t : Int))] B' (decide (0 < t &&& (c.map (bitN ls)).sum)) :=
        et_d (K := K) (ED.is (ed_op (ed_op vx (ed_var (i := 5) rfl (.int _)) (rd_I0 (g := Builtin.bitAnd))) ed_int (rd_I0b (g := fun i j => decide (j < i)))) (by rw [and_int]; congr 1; exact decide_eq_decide.mpr (by omega)))
      refine s_ifD g.i test (fun ht H5 e5 => ?_) fun hf H5 e5 => ?_
      · refine s_grow (K := K) (g.up e5) hg nB (e5 _ _ lH) rfl vx (by omega) fun B6 H6 g6 e6 n6 l6 => ⟨B6, g6, eB.trans e6, n6, ?_, a, _, rfl⟩
        rw [eT, growOne, if_pos (of_decide_eq_true ht)]; exact l6
      · refine s_forD (K := K) (ds := c.map (litD E)) (id_tup (ed_var (i := 1) (v := u) rfl (dp_ex _ u (ru.trans eB) hu))) (g.up e5).i fun ys B2 H6 f6 hd2 => ?_
        have hl6 : H6 ga = some (.dK (gk gi)) := f6.h _ _ (e5 _ _ lH)
        refine ⟨fun k σ' H' => ∃ (B' : Hp), Fz B H B' H' ∧ Ex B2 B' ∧ B' ga = none ∧ H' ga = some (.dK (gk ((c.take k).foldl (growLit ls t) gi))) ∧ ∃ a, σ' = [some v, some u, some b, some (.ref ga), a, some (.int ((c.map (bitN ls)).sum : Nat)), some (.int (t : Int))],
          ⟨B2, (g.up e5).trans f6, Ex.refl _, f6.n ga (some_ne (e5 _ _ lH)) nB, hl6, a, rfl⟩, fun i σ' H' ⟨B', g, x, _⟩ => x.trans g.i, ?_, ?_⟩
        · rintro k y d σ' H' hdk hy ⟨B3, g3, e3, n3, l3, a3, rfl⟩
          obtain ⟨m, hmk, rfl⟩ := map_get hdk
          have hmc := hcl m (List.mem_of_getElem? hmk)
          have ym : ∀ {B4 : Hp}, Ex B3 B4 → ED K (tVar 4) [some v, some u, some b, some (.ref ga), some y, some (.int ((c.map (bitN ls)).sum : Nat)), some (.int (t : Int))] B4 (litD E m) := fun {B4} e4 => ed_var rfl (dp_ex _ y (e3.trans e4) hy)
          have eBB : Ex B B3 := ((ru.trans eB).trans f6.b).trans e3
          have gl3 : ((c.take k).foldl (growLit ls t) gi).length ≤ 1024 := (Gd.lits htN _ gd).len hn
          have eL : (c.take (k + 1)).foldl (growLit ls t) gi = growLit ls t ((c.take k).foldl (growLit ls t) gi) m := by rw [take_nextP hmk, List.foldl_append]; rfl
          refine s_ifD (b := decide (t &&& bitN ls (neg m) = 0)) g3.i (et_d (K := K) (ED.is (ed_op (ed_op vx (ED.is (ed_dget2B (n := 0) (i := 2) rfl (hb.ex eBB) (ed_call0 (R := rNegated) (eda_1 (ym (Ex.refl _))) ⟨E, m, O, rfl, rfl⟩) ((enc_lit O).keyed (neg m)) rfl ed_int) (by rw [bits_find O hL hbp])) (rd_I0 (g := Builtin.bitAnd))) ed_int (rd_eq rfl rfl)) (by
              rw [and_int]
              simp only [PyData.eqv]
              congr 1
              rw [Bool.eq_iff_iff]; simp))) (fun ht2 H7 e7 => ?_) fun hf2 H7 e7 => ?_
          · refine s_grow (K := K) (g3.up e7) hg n3 (e7 _ _ l3) rfl (ED.is (ed_op vx (bits rfl eBB hmc (ym (Ex.refl _))) (rd_I0 (g := Builtin.bitOr))) (by rw [or_int])) (by omega) fun B8 H8 g8 e8 n8 l8 => ⟨B8, g8, e3.trans e8, n8, ?_, some y, rfl⟩
            rw [eL, growLit, if_pos (of_decide_eq_true ht2)]; exact l8
          · refine ⟨B3, g3.up e7, e3, n3, ?_, some y, rfl⟩
            rw [eL, growLit, if_neg (of_decide_eq_false hf2)]; exact e7 _ _ l3
        · rintro σ' H' ⟨B3, g3, e3, n3, l3, a3, rfl⟩
          rw [List.length_map, List.take_length] at l3
          refine ⟨B3, g3, (eB.trans f6.b).trans e3, n3, ?_, a3, _, rfl⟩
          rw [eT, growOne, if_neg (of_decide_eq_false hf)]; exact l3
    · rintro σ' H' ⟨B', g, eB, nB, lH, a, d', rfl⟩
      have hlen : (intsD us).length = us.length := by simp [intsD]
      rw [hlen, List.take_length] at lH
      dsimp only
      refine ⟨_, rfl, ga, gk (grownN ls us c), rfl, .inl lH, fun p hp => ?_⟩
      have f9 := Fz.new (o := .lst ((gk (grownN ls us c)).map fun kv => kV kv.1)) g.i hp
      refine q (.ref p) _ _ (g.trans f9) (.lst (sq_of upd_same) ?_)
      have : ∀ gg : List Nat, DpAll K (upd B' p (.lst ((gk (grownN ls us c)).map fun kv => kV kv.1))) ((gk gg).map fun kv => kV kv.1) (intsD gg) := by
        intro gg
        induction gg with
        | nil => exact .nil
        | cons k gg ih => exact .cons (.int _) ih
      exact this _
end
end K5
end

section
set_option Elab.async false
set_option linter.all false
set_option maxRecDepth 100000
set_option maxHeartbeats 2000000
/-! W11: least_units. -/
namespace K5
open PySem PySem.Spec PyProof.Rows L2 GenW Evl NS DL

def isLessN (a b : Nat) : Bool := !(a == b) && (a &&& b == a)
def leastStep (ls : List Lit) (found : List Nat) (c : Cl) : List Nat := (grownN ls found c).filter fun u => !((grownN ls found c).any fun o => isLessN o u)
def foundN (ls : List Lit) (cs : List Cl) : List Nat := cs.foldl (leastStep ls) [0]
def unitCl (ls : List Lit) (u : Nat) : Cl := ls.filter fun l => decide (0 < bitN ls l &&& u)
def leastUnits (E : At → PyData) (cs : List Cl) : List Cl := ((foundN (litsU E cs) cs).map (unitCl (litsU E cs))).mergeSort (leOf (clD E))
def rLeastUnits (ds : List PyData) (d : PyData) : Prop := ∃ (E : At → PyData) (cs : List Cl) (x : PyData), AtOk E ∧ (∀ c ∈ cs, c.length ≤ 1000) ∧ ds = [x] ∧ IsSeq x (cs.map (clD E)) ∧ d = .list ((leastUnits E cs).map (clD E))
theorem mem_sortU {α : Type} [DecidableEq α] {enc : α → PyData} {as : List α} {x : α} : x ∈ sortU enc as ↔ x ∈ as := by
  unfold sortU
  rw [List.mem_mergeSort, List.mem_eraseDups]
theorem pos_and (i u : Nat) : 0 < 2 ^ i &&& u ↔ u.testBit i = true := by
  constructor
  · intro h
    obtain ⟨j, hj⟩ := Nat.exists_testBit_of_ne_zero (Nat.pos_iff_ne_zero.mp h)
    rw [Nat.testBit_and, Nat.testBit_two_pow, Bool.and_eq_true, decide_eq_true_eq] at hj
    rw [hj.1]; exact hj.2
  · intro h
    refine Nat.pos_of_ne_zero fun e => ?_
    have : (2 ^ i &&& u).testBit i = true := by rw [Nat.testBit_and, Nat.testBit_two_pow, h]; simp
    rw [e] at this
    simp at this
theorem bit_at {ls : List Lit} (nd : ls.Nodup) {i : Nat} (h : i < ls.length) : bitN ls ls[i] = 2 ^ i := by
  unfold bitN
  rw [if_pos (List.getElem_mem h), nd.idxOf_getElem]
theorem unitCl_ne {ls : List Lit} (nd : ls.Nodup) {u : Nat} (h0 : u ≠ 0) (hu : u < 2 ^ ls.length) : unitCl ls u ≠ [] := by
  obtain ⟨i, hi⟩ := Nat.exists_testBit_of_ne_zero h0
  have hlt : i < ls.length := by
    rcases Nat.lt_or_ge i ls.length with h | h
    · exact h
    · rw [Nat.testBit_lt_two_pow (Nat.lt_of_lt_of_le hu (Nat.pow_le_pow_right (by decide) h))] at hi; cases hi
  have hm : ls[i] ∈ unitCl ls u := List.mem_filter.mpr ⟨List.getElem_mem hlt, decide_eq_true (by rw [bit_at nd hlt]; exact (pos_and i u).mpr hi)⟩
  intro e
  rw [e] at hm; cases hm
theorem gd_found {ls : List Lit} : ∀ cs : List Cl, Gd ls.length (foundN ls cs) := by
  have key : ∀ (cs : List Cl) {g : List Nat}, Gd ls.length g → Gd ls.length (cs.foldl (leastStep ls) g) := by
    intro cs
    induction cs with
    | nil => intro g h; exact h
    | cons c cs ih =>
      intro g h
      refine ih ?_
      have hg : Gd ls.length (grownN ls g c) := Gd.alls g h.2 ⟨List.nodup_nil, by simp⟩
      exact ⟨hg.1.filter _, fun x hx => hg.2 x (List.mem_filter.mp hx).1⟩
  exact fun cs => key cs ⟨by simp, fun x hx => by rw [List.mem_singleton.mp hx]; exact Nat.two_pow_pos _⟩
theorem zero_alone {ls : List Lit} {cs : List Cl} (h0 : 0 ∈ foundN ls cs) : ∀ u ∈ foundN ls cs, u = 0 := by
  rcases List.eq_nil_or_concat cs with rfl | ⟨cs', c, rfl⟩
  · intro u hu; simpa [foundN] using hu
  · intro u hu
    have e : foundN ls (cs' ++ [c]) = leastStep ls (foundN ls cs') c := by unfold foundN; rw [List.foldl_append]; rfl
    rw [List.concat_eq_append, e] at h0 hu
    have hg := (List.mem_filter.mp h0).1
    have hu2 := (List.mem_filter.mp hu).2
    rcases Nat.eq_zero_or_pos u with z | z
    · exact z
    · exfalso
      have : ((grownN ls (foundN ls cs') c).any fun o => isLessN o u) = true := List.any_eq_true.mpr ⟨0, hg, by
        have : u ≠ 0 := by omega
        simp [isLessN]; omega⟩
      rw [this] at hu2; cases hu2
theorem few_units {ls : List Lit} (nd : ls.Nodup) (cs : List Cl) : (∀ r ∈ (foundN ls cs).map (unitCl ls), r ≠ []) ∨ ((foundN ls cs).map (unitCl ls)).length ≤ 1 := by
  have gd := gd_found (ls := ls) cs
  by_cases h0 : 0 ∈ foundN ls cs
  · right
    rw [List.length_map]
    have ha := zero_alone h0
    generalize foundN ls cs = fs at gd h0 ha
    match fs, gd, ha with
    | [], _, _ => simp
    | [a], _, _ => simp
    | a :: b :: r, gd, ha =>
      have e1 := ha a List.mem_cons_self
      have e2 := ha b (List.mem_cons_of_mem _ List.mem_cons_self)
      have := gd.1
      rw [List.nodup_cons] at this
      exact absurd (by rw [e1, e2]; exact List.mem_cons_self) this.1
  · left
    intro r hr
    obtain ⟨u, hu, rfl⟩ := List.mem_map.mp hr
    exact unitCl_ne nd (fun e => h0 (e ▸ hu)) (gd.2 u hu)
theorem zip_bits {E : At → PyData} {ls : List Lit} (nd : ls.Nodup) (u : Nat) : ((bitL E ls).filter fun p => decide (0 < Builtin.bitAnd p.2 (u : Int))).map (·.1) = (unitCl ls u).map (litD E) := by
  unfold bitL unitCl
  rw [List.filter_map, List.map_map]
  have e : ls.zipIdx.filter ((fun p : PyData × Int => decide (0 < Builtin.bitAnd p.2 (u : Int))) ∘ fun p => (litD E p.1, (2 : Int) ^ p.2)) = ls.zipIdx.filter ((fun l => decide (0 < bitN ls l &&& u)) ∘ Prod.fst) := by
    refine List.filter_congr fun p hp => ?_
    have hq := List.mem_zipIdx_iff_getElem?.mp hp
    obtain ⟨hi, hi2⟩ := List.getElem?_eq_some_iff.mp hq
    show decide (0 < Builtin.bitAnd ((2 : Int) ^ p.2) (u : Int)) = decide (0 < bitN ls p.1 &&& u)
    rw [← hi2, bit_at nd hi]
    have : ((2 : Int) ^ p.2) = ((2 ^ p.2 : Nat) : Int) := by simp
    rw [this, and_int]
    exact decide_eq_decide.mpr (by omega)
  rw [e]
  have e2 : ∀ M : List (Lit × Nat), M.map ((fun x : PyData × Int => x.1) ∘ fun p : Lit × Nat => (litD E p.1, (2 : Int) ^ p.2)) = (M.map Prod.fst).map (litD E) := fun M => by rw [List.map_map]; rfl
  rw [e2, ← List.filter_map, List.zipIdx_map_fst]
section
variable {P : Program} {w : World} {K : PySem.W.Frag} {mg : Str → Option Value} {base : Heap} {f fN fB fG fL : Addr} {fd fdN fdB fdG fdL : FuncData}
abbrev nLU : List PySem.Str := ["clauses", "bits", "found", "clause", "grown", "unit", "other", "literal"]
abbrev scU1 : Scope := { kind := .function, names := [(".0", .local), ("unit", .cell), ("any", .globalImplicit), ("grown", .free)], isGenerator := false, isCoroutine := false }
abbrev scU2 : Scope := { kind := .function, names := [(".0", .local), ("unit", .cell), ("tuple", .globalImplicit), ("bits", .free)], isGenerator := false, isCoroutine := false }
theorem scLU : FnScope nLU ["clauses"] (defScope (top 11)) := ⟨rfl, rfl, rfl, by decide +kernel, rfl, by decide +kernel, by decide +kernel⟩
theorem ok_leastUnits (M : Bn mg) (F : FnP K "least_units" 11 f fd) (FB : FnP K "literal_bits" 8 fB fdB) (gB : mg "literal_bits" = some (.ref fB)) (FG : FnP K "grown_sets" 9 fG fdG) (gG : mg "grown_sets" = some (.ref fG))
    (FL : FnP K "is_less" 10 fL fdL) (gL : mg "is_less" = some (.ref fL)) (FN : FnP K "negated" 4 fN fdN) (gN : mg "negated" = some (.ref fN)) : FnOk P w K mg base CX0 3 f fd ["clauses"] (spD K rLeastUnits) := by
  have GB : FnOk P w K mg base CX0 1 fB fdB ["clauses"] (spBits P w K) := ok_bits M FB
  have bB : Binds K fdB ["clauses"] [] := FB.bindsN fun _ _ _ _ _ _ us hl => match us, hl with | [_], _ => rfl
  have GG : FnOk P w K mg base CX0 2 fG fdG ["sets", "clause", "bits"] (spGrown P w K) := ok_grown M FG FN gN
  have bG : Binds K fdG ["sets", "clause", "bits"] [] := FG.bindsN fun _ _ _ _ _ _ us hl => match us, hl with | [_, _, _], _ => rfl
  have GL : FnOk P w K mg base CX0 1 fL fdL ["first", "second"] (spD K rIsLess) := ok_isLess FL
  have bL : Binds K fdL ["first", "second"] [] := FL.bindsN fun _ _ _ _ _ _ us hl => match us, hl with | [_, _], _ => rfl
  refine F.ok scLU (fun vs H Q E h => ?_) (fun cdv A outer s H vs Q E hr h => ?_)
  · obtain ⟨B, ds, d, _, hv, ⟨_, _, _, _, _, rfl, _⟩, _⟩ := h
    exact hv.length
  · refine ⟨_, PSs.nox (pss_cons (ps_set (i := 1) scLU.nd rfl (Or.inr rfl) (pe_call GB (hr.mono (by decide)) rfl gB FB.kp bB .nil pass0 (pa_cons (pv 0) pa_nil)))
      (pss_cons (ps_set (i := 2) scLU.nd rfl (Or.inl rfl) (pe_lst (pa_cons pe_int pa_nil)))
      (pss_cons (ps_for PassesOwn.never rfl (pi_seq (pv 0)) (pg_name (i := 3) scLU.nd rfl (Or.inl rfl))
        (pss_cons (ps_set (i := 4) scLU.nd rfl (Or.inr rfl) (pe_call GG (hr.mono (by decide)) rfl gG FG.kp bG .nil pass0 (pa_cons (pv 2) (pa_cons (pv 3) (pa_cons (pv 1) pa_nil)))))
          (pss_one (ps_setLc (i := 2) (own := [("unit", 5)]) (tt := tNot (tB (tCB (rAny K) (tCons (tLc (iList K (tVar 4)) (gName 6) tYes (tCall (spD K rIsLess) [] E0 (tCons (tVar 6) (tCons (tVar 5) tNil))) [6]) tNil)))) rfl scLU.nd rfl rfl (sw_true rfl rfl rfl (by decide +kernel)) (pi_list (pv 4)) (blkOk_by (own := [("unit", 5)]) (N := nLU) (sc := defScope (top 11)) (by decide +kernel)) (fun _ _ _ _ _ => pg_name (i := 5) scLU.nd rfl (Or.inr rfl))
            (fun _ _ _ _ _ => pts_one (pt_not (pt_val (pe_callB (cr_any rfl) rfl M.any (by decide +kernel) (pa_cons
              (pe_lc (own := [("other", 6)]) (g := gName 6) (tt := tYes) rfl scLU.nd (pi_list (pv 4)) (blkOk_by (own := [("other", 6)]) (N := nLU) (sc := relS scU1 (defScope (top 11))) (by decide +kernel)) (fun _ _ _ _ _ => pg_name (i := 6) scLU.nd rfl (Or.inl rfl)) (fun _ _ _ _ _ => pts_nil)
                (fun _ _ _ _ _ => pe_call GL (hr.mono (by decide)) rfl gL FL.kp bL .nil pass0 (pa_cons (pv 6) (pa_cons (pv 5) pa_nil)))) pa_nil))))) (fun _ _ _ _ _ => pv 5)))))
      (pss_one (ps_ret (pe_callB (cr_sortedD hr.units) rfl M.sorted (by decide +kernel) (pa_cons
        (pe_lc (own := [("unit", 5)]) (te := tCB (rTupleS K) (tCons (tLockE (tLc (iKeysB P w (tVar 1)) (gName 7) (tTest (tOp (rI0 fun i j => .bl (decide (j < i))) (tOp (rI0 fun i j => .int (Builtin.bitAnd i j)) (tDGetB P w K (tVar 1) (tVar 7)) (tVar 5)) (tC (.int 0)))) (tVar 7) [7])) tNil)) rfl scLU.nd (pi_list (pv 2)) (blkOk_by (own := [("unit", 5)]) (N := nLU) (sc := defScope (top 11)) (by decide +kernel)) (fun _ _ _ _ _ => pg_name (i := 5) scLU.nd rfl (Or.inr rfl)) (fun _ _ _ _ _ => pts_nil)
          (fun _ _ _ _ _ => pe_callTy call_tuple_of rfl M.tuple (by decide +kernel) (pa_cons (pe_lock
            (pe_lc (own := [("literal", 7)]) (g := gName 7) rfl scLU.nd (pi_keysB (pv 1)) (blkOk_by (own := [("literal", 7)]) (N := nLU) (sc := relS scU2 (defScope (top 11))) (by decide +kernel)) (fun _ _ _ _ _ => pg_name (i := 7) scLU.nd rfl (Or.inl rfl))
              (fun _ _ _ _ _ => pts_one (pt_cmpR op_gt (pe_op op_and (pe_dgetB hr.units (pv 1) (pv 7) (fun _ _ => rfl)) (pv 5)) pe_int (nomark _))) (fun _ _ _ _ _ => pv 7))) pa_nil))) pa_nil))))))), ?_⟩
    obtain ⟨B, ds, d, e, hv, ⟨E, cs, x, O, hcl, rfl, hx, rfl⟩, q⟩ := h
    obtain ⟨v, rfl, hl⟩ := dpAll_1 hv
    refine ⟨_, rfl, B, E, cs, v, x, e, O, rfl, hl, hx, fun b B0 H0 f0 hb => ?_⟩
    generalize hls : litsU E cs = ls at hb
    have nd : ls.Nodup := by rw [← hls]; exact sortU_nd _ _
    have len := lit_len nd
    have inl : ∀ c ∈ cs, ∀ l ∈ c, l ∈ ls := fun c hc l hlc => by
      rw [← hls]
      exact mem_sortU.mpr (List.mem_flatMap.mpr ⟨c, hc, hlc⟩)
    refine q_asgD (K := K) (d := .list (intsD [0])) (ed_lst (eda_1 ed_int) (by show 1 ≤ _; omega)) f0.i fun fv B1 H1 f1 hfv => ?_
    refine s_forD (K := K) (id_seq hx (ed_var (v := v) rfl (dp_ex _ v (f0.b.trans f1.b) hl))) f1.i fun xs B2 H2 f2 hd => ?_
    have fA := (f0.trans f1).trans f2
    refine ⟨fun i σ' H' => i ≤ cs.length ∧ ∃ B' fv, Fz B H B' H' ∧ Ex B2 B' ∧ Dp K B' fv (.list (intsD (foundN ls (cs.take i)))) ∧ ∃ c g u o l, σ' = [some v, some b, some fv, c, g, u, o, l],
      ⟨Nat.zero_le _, B2, fv, fA, Ex.refl _, dp_ex _ _ f2.b hfv, none, none, none, none, none, rfl⟩, fun i σ' H' ⟨_, B', fv, g, x, _⟩ => x.trans g.i, ?_, ?_⟩
    · rintro i x d σ' H' hdi hxx ⟨hi, B', fv, g, eB, hf, c0, g0, u0, o0, l0, rfl⟩
      obtain ⟨c, hci, rfl⟩ := map_get hdi
      have hlt : i < cs.length := (List.getElem?_eq_some_iff.mp hci).1
      have hcm := List.mem_of_getElem? hci
      have gd := gd_found (ls := ls) (cs.take i)
      have gl := gd.len len
      obtain ⟨L, hbd, hbL⟩ := id hb
      refine ⟨_, rfl, _, rfl, _, rfl, B', E, ls, foundN ls (cs.take i), c, fv, x, b, g.i, O, rfl, hf, dp_ex _ x eB hxx, ⟨L, hbd.ex ((f1.b.trans f2.b).trans eB), hbL⟩, len, gd.2, inl c hcm, by omega, hcl c hcm, fun gv B3 H3 f3 hgv => ?_⟩
      have gg : Gd ls.length (grownN ls (foundN ls (cs.take i)) c) := Gd.alls _ gd.2 ⟨List.nodup_nil, by simp⟩
      have ggl := gg.len len
      dsimp only [gName]
      refine s_asgD (K := K) (B := B3) (d := .list (intsD (leastStep ls (foundN ls (cs.take i)) c))) ?_ f3.i fun rv B4 H4 f4 hrv => ?_
      · refine ed_lc (fun n : Nat => PyData.int (n : Int)) (grownN ls (foundN ls (cs.take i)) c) (fun u => !((grownN ls (foundN ls (cs.take i)) c).any fun o => isLessN o u)) (fun n : Nat => PyData.int (n : Int)) (id_list (ed_var (i := 4) (v := gv) rfl hgv)) (by omega) (fun y => rfl) (fun k u y B5 e5 hk hy => ?_) (fun k u y B5 e5 hk hy _ => ed_var rfl hy)
        refine et_not (et_dB (K := K) (ED.is (ed_cb (eda_1 (ED.is (ed_lcY (fun n : Nat => PyData.int (n : Int)) (grownN ls (foundN ls (cs.take i)) c) (fun o => PyData.bool (isLessN o u)) (id_list (ed_var (i := 4) (v := gv) rfl (dp_ex _ gv e5 hgv))) (by omega) (fun z => rfl) (fun m o z B6 e6 hm hz => ED.is (ed_call0 (R := rIsLess) (eda_2 (ed_var (i := 6) (v := z) rfl hz) (ed_var (i := 5) (v := y) rfl (dp_ex _ y e6 hy))) ⟨_, _, rfl, rfl⟩) (by rw [and_int]; congr 1; simp only [isLessN]; rw [Bool.eq_iff_iff]; simp; omega)))
          (show PyData.list ((grownN ls (foundN ls (cs.take i)) c).map fun o => PyData.bool (isLessN o u)) = .list (((grownN ls (foundN ls (cs.take i)) c).map fun o => isLessN o u).map PyData.bool) by rw [List.map_map]; rfl))) rc_any) (by rw [List.any_map]; rfl)))
      · refine ⟨hlt, B4, rv, (g.trans f3).trans f4, (eB.trans f3.b).trans f4.b, ?_, some x, some gv, u0, o0, l0, rfl⟩
        have : foundN ls (cs.take (i + 1)) = leastStep ls (foundN ls (cs.take i)) c := by unfold foundN; rw [take_nextP hci, List.foldl_append]; rfl
        rw [this]; exact hrv
    · rintro σ' H' ⟨hi, B', fv, g, eB, hf, c0, g0, u0, o0, l0, rfl⟩
      rw [List.length_map, List.take_length] at hf
      have gl := (gd_found (ls := ls) cs).len len
      obtain ⟨L, hbd, hbL⟩ := id hb
      have hbd' := hbd.ex ((f1.b.trans f2.b).trans eB)
      have hLl : L.length ≤ 1000 := by
        have := congrArg List.length hbL
        simp [bitL] at this; omega
      dsimp only
      refine s_retD (K := K) (B := B') (ED.is (ed_cb (eda_1 (ED.is (ed_lcY (fun n : Nat => PyData.int (n : Int)) (foundN ls cs) (fun u => clD E (unitCl ls u)) (id_list (ed_var (i := 2) (v := fv) rfl hf)) (by omega) (fun z => rfl) (fun k u y B5 e5 hk hy => ?_)) (show PyData.list ((foundN ls cs).map fun u => clD E (unitCl ls u)) = .list (((foundN ls cs).map (unitCl ls)).map (clD E)) by rw [List.map_map]; rfl))) (rc_sorted (srt_cls O (few_units nd cs)))) (by rw [sort_enc, leastUnits, hls])) g.i fun y B3 H3 f3 hy => q _ _ _ (g.trans f3) hy
      obtain rfl := hy.intI
      refine ed_cb (eda_1 (ED.is (ed_lcB (v := b) rfl (hbd'.ex e5) hLl (fun z => rfl) (fun z => rfl) (fun l => decide (0 < Builtin.bitAnd l.2.2 (u : Int))) (fun p od l H2 ev hm hz ks hbase Q hQ => ?_)) ?_)) rc_tuple
      · obtain ⟨_, _, _, _, hp⟩ := hbd
        subst ev
        exact ⟨_, rfl, _, rfl, p, l.1, l.2.1, L, l, rfl, rfl, .inr ⟨od, hz⟩, ks, (ks l hm).1, (ks l hm).2, find_key hp hm rfl, _, rfl, _, _, rfl, rfl, _, _, rfl, rfl, _, rfl, hQ⟩
      · rw [← zip_bits nd u, ← hbL, List.filter_map, List.map_map]; rfl
end
end K5
end

section
set_option Elab.async false
set_option linter.all false
set_option maxRecDepth 100000
set_option maxHeartbeats 2000000
/-! W12: falsified. -/
namespace K5
open PySem PySem.Spec PyProof.Rows L2 GenW Evl NS DL

/-- a row of a refutation -/
inductive Row
  | given (k : Int)
  | res (i j : Nat) (a : At)
def rowD (E : At → PyData) : Row → PyData
  | .given k => .tuple [.str "given", .int k]
  | .res i j a => .tuple [.str "resolve", .int (i : Int), .int (j : Int), E a]
def keptOf (E : At → PyData) (a : At) (low high : Cl) : Cl := sortU (litD E) ((low.filter fun l => !decide (l = (a, true))) ++ high.filter fun l => !decide (l = (a, false)))
def fals (E : At → PyData) (tb : Tb) (atoms : List At) : Nat → Cl → Nat → List Row × Cl
  | 0, h, _ => if denied tb h ≠ 0 then ([.given (denied tb h)], (tb.lookup (denied tb h)).getD []) else ([], [])
  | n + 1, h, b => if denied tb h ≠ 0 then ([.given (denied tb h)], (tb.lookup (denied tb h)).getD []) else
    match atoms[h.length]? with
    | none => ([], [])
    | some a =>
      let p := fals E tb atoms n (h ++ [(a, false)]) b
      if (a, true) ∉ p.2 then p else
      let q := fals E tb atoms n (h ++ [(a, true)]) (b + p.1.length)
      if (a, false) ∉ q.2 then (p.1 ++ q.1, q.2) else (p.1 ++ q.1 ++ [.res (b + p.1.length - 1) (b + p.1.length + q.1.length - 1) a], keptOf E a p.2 q.2)
/-- it comes to an end -/
def Ref (tb : Tb) (atoms : List At) : Nat → Cl → Prop
  | 0, h => denied tb h ≠ 0
  | n + 1, h => denied tb h ≠ 0 ∨ ∃ a, atoms[h.length]? = some a ∧ Ref tb atoms n (h ++ [(a, false)]) ∧ Ref tb atoms n (h ++ [(a, true)])
structure TbOk (tb : Tb) : Prop where
  few : tb.length ≤ 1000
  len : ∀ p ∈ tb, p.2.length ≤ 10
  pos : ∀ p ∈ tb, 0 < p.1
def spFals (K : PySem.W.Frag) (n : Nat) : Sp := fun vs H Q _ => ∃ (B : Hp) (E : At → PyData) (tb : Tb) (atoms : List At) (h : Cl) (rows : List Row) (v u x : V) (l : Addr), Ex B H ∧ AtOk E ∧ vs = [v, u, x, .ref l] ∧ DI K B v (tbD E tb) ∧ Dp K B u (.list (atoms.map E)) ∧ Dp K B x (clD E h) ∧
  ML K B H l (rows.map (rowD E)) ∧ TbOk tb ∧ Ref tb atoms n h ∧ h.length + n ≤ 20 ∧ n ≤ 8 ∧ rows.length + 2 ^ (n + 1) ≤ 2000 ∧
  ∀ r B2 H2, Fl l B H B2 H2 → ML K B2 H2 l ((rows ++ (fals E tb atoms n h rows.length).1).map (rowD E)) → Dp K B2 r (clD E (fals E tb atoms n h rows.length).2) → Q r H2
/-- no promise at fuel 0 -/
def spFalsP (K : PySem.W.Frag) : Nat → Sp
  | 0 => fun _ _ _ _ => False
  | n + 1 => spFals K n
theorem denied_there {tb : Tb} {h : Cl} (hd : denied tb h ≠ 0) : ∃ c, tb.lookup (denied tb h) = some c ∧ (denied tb h, c) ∈ tb := by
  unfold denied at hd ⊢
  cases q : ((tb.map (·.1)).mergeSort (leOf PyData.int)).find? (isDenied tb h) with
  | none => rw [q] at hd; exact absurd rfl hd
  | some k =>
    have hm := List.mem_of_find?_eq_some q
    exact lookup_mem ((List.mem_mergeSort).mp hm)
theorem fals_len {E : At → PyData} {tb : Tb} (T : TbOk tb) {atoms : List At} : ∀ (n : Nat) (h : Cl) (b : Nat), (fals E tb atoms n h b).2.length ≤ 10 ∧ (fals E tb atoms n h b).1.length < 2 ^ (n + 1) := by
  intro n
  have giv : ∀ h : Cl, denied tb h ≠ 0 → ((tb.lookup (denied tb h)).getD []).length ≤ 10 := fun h hd => by
    obtain ⟨c, e1, e2⟩ := denied_there hd
    rw [e1]; exact T.len _ e2
  induction n with
  | zero =>
    intro h b
    unfold fals
    split
    · rename_i hd; exact ⟨giv h hd, by simp⟩
    · simp
  | succ n ih =>
    intro h b
    have h2 : (2 : Nat) ^ (n + 1 + 1) = 2 ^ (n + 1) + 2 ^ (n + 1) := by rw [Nat.pow_succ]; omega
    have h3 : 0 < (2 : Nat) ^ (n + 1) := Nat.two_pow_pos _
    unfold fals
    split
    · rename_i hd; exact ⟨giv h hd, by simp⟩
    · split
      · exact ⟨by simp, by show 0 < _; omega⟩
      · rename_i a _
        have p := ih (h ++ [(a, false)]) b
        dsimp only
        split
        · exact ⟨p.1, by omega⟩
        · have q := ih (h ++ [(a, true)]) (b + (fals E tb atoms n (h ++ [(a, false)]) b).1.length)
          split
          · exact ⟨q.1, by rw [List.length_append]; omega⟩
          · exact ⟨lit_len (sortU_nd _ _), by rw [List.length_append, List.length_append]; simp only [List.length_cons, List.length_nil]; omega⟩
theorem fals_given {E : At → PyData} {tb : Tb} {atoms : List At} {h : Cl} (hd : denied tb h ≠ 0) (n b : Nat) : fals E tb atoms n h b = ([.given (denied tb h)], (tb.lookup (denied tb h)).getD []) := by
  cases n <;> (unfold fals; rw [if_pos hd])
theorem fals_pos {E : At → PyData} {tb : Tb} {atoms : List At} : ∀ (n : Nat) (h : Cl) (b : Nat), Ref tb atoms n h → 0 < (fals E tb atoms n h b).1.length := by
  intro n
  induction n with
  | zero => intro h b r; rw [fals_given r]; simp
  | succ n ih =>
    intro h b r
    by_cases hd : denied tb h ≠ 0
    · rw [fals_given hd]; simp
    · rcases r with r | ⟨a, ha, r1, r2⟩
      · exact absurd r hd
      · unfold fals
        rw [if_neg hd, ha]
        dsimp only
        have p := ih _ b r1
        split
        · exact p
        · split
          · rw [List.length_append]; omega
          · rw [List.length_append, List.length_append]; omega
theorem q_len1 {K : PySem.W.Frag} {σ : L2.St} {B H : Hp} {l : Addr} {ds : List PyData} {D : Ends} {i j : Nat} {tz : TS} (m : ML K B H l ds) (e : Ex B H) (hσ : σ[i]? = some (some (.ref l))) (k : tz D (σ.set j (some (.int ((ds.length : Int) - 1)))) H) :
    tSeq (tAsg (tOp (rI0 fun i j => .int (i - j)) (tCB (rLenS K) (tCons (tVar i) tNil)) (tC (.int 1))) (gName j)) tz D σ H := ed_lenM (Q := fun x H1 => tC (.int 1) σ H1 fun y H2 => (rI0 fun i j => .int (i - j)) x y H2 fun z H3 => gName j z σ H3 (tz D)) m e hσ ⟨_, _, rfl, rfl, k⟩
theorem q_lcM {K : PySem.W.Frag} {wi : TI} {tt : TT} {te : TE} {σ : L2.St} {B H1 : Hp} {D : Ends} {i : Nat} {tz : TS} {α : Type} {j : Nat} {vs : List Nat} (enc : α → PyData) (ds : List α) (f : α → Bool) (g : α → PyData) (hs : ID K wi σ B (ds.map enc)) (hz : ds.length ≤ 40000) (hw : ∀ x, wipe ((wipe σ vs).set j (some x)) vs = wipe σ vs)
    (ht : ∀ (i : Nat) d x B1, Ex B B1 → ds[i]? = some d → Dp K B1 x (enc d) → EvT tt ((wipe σ vs).set j (some x)) B1 (f d)) (he : ∀ (i : Nat) d x B1, Ex B B1 → ds[i]? = some d → Dp K B1 x (enc d) → f d = true → ED K te ((wipe σ vs).set j (some x)) B1 (g d))
    (a : Ex B H1) (q : ∀ l B2 H2, H1 l = none → Fz B H1 B2 H2 → ML K B2 H2 l ((ds.filter f).map g) → tz D (σ.set i (some (.ref l))) H2) : tSeq (tAsg (tLc wi (gName j) tt te vs) (gName i)) tz D σ H1 := ml_lc (Q := fun y H2 => gName i y σ H2 (tz D)) enc ds f g hs hz hw ht he a q
theorem ed_more2 {K : PySem.W.Frag} {E : At → PyData} {σ : L2.St} {B : Hp} {i j : Nat} {vr va : V} {r : Cl} {a : At} {b : Bool} (hr : σ[i]? = some (some vr)) (ha : σ[j]? = some (some va)) (dr : Dp K B vr (clD E r)) (da : Dp K B va (E a)) (hl : r.length ≤ 1000) :
    ED K (tOp (rCatD K) (tVar i) (tTup (tCons (tTup (tCons (tVar j) (tCons (tC (.bl b)) tNil))) tNil))) σ B (clD E (r ++ [(a, b)])) :=
  ED.is (ed_op (ed_var hr dr) (ed_tup (eda_1 (ed_tup (eda_2 (ed_var ha da) ed_bl) (by show 2 ≤ _; omega))) (by show 1 ≤ _; omega)) (rd_cat (by rw [List.length_map]; show r.length + 1 ≤ _; omega))) (by rw [clD, List.map_append]; rfl)
section
variable {P : Program} {w : World} {K : PySem.W.Frag} {mg : Str → Option Value} {base : Heap} {f fN fL fD fC : Addr} {fd fdN fdL fdD fdC : FuncData}
abbrev nFa : List PySem.Str := ["clauses", "atoms", "held", "rows", "label", "atom", "low", "first", "high", "kept", "literal"]
theorem scFa : FnScope nFa ["clauses", "atoms", "held", "rows"] (defScope (top 21)) := ⟨rfl, rfl, rfl, by decide +kernel, rfl, by decide +kernel, by decide +kernel⟩
theorem fals_step (M : Bn mg) (F : FnP K "falsified" 21 f fd) (gF : mg "falsified" = some (.ref f)) (FD : FnP K "denied_label" 14 fD fdD) (gD : mg "denied_label" = some (.ref fD)) (FC : FnP K "clause_of" 5 fC fdC) (gC : mg "clause_of" = some (.ref fC))
    (FL : FnP K "left_over" 13 fL fdL) (gL : mg "left_over" = some (.ref fL)) (FN : FnP K "negated" 4 fN fdN) (gN : mg "negated" = some (.ref fN)) (n : Nat)
    (G : FnOk P w K mg base CX0 (4 + n) f fd ["clauses", "atoms", "held", "rows"] (spFalsP K n)) : FnOk P w K mg base CX0 (4 + n + 1) f fd ["clauses", "atoms", "held", "rows"] (spFals K n) := by
  have bF : Binds K fd ["clauses", "atoms", "held", "rows"] [] := F.bindsN fun _ _ _ _ _ _ us hl => match us, hl with | [_, _, _, _], _ => rfl
  have GD : FnOk P w K mg base CX0 3 fD fdD ["clauses", "held"] (spDenied K) := ok_denied M FD FL gL FN gN
  have bD : Binds K fdD ["clauses", "held"] [] := FD.bindsN fun _ _ _ _ _ _ us hl => match us, hl with | [_, _], _ => rfl
  have GC : FnOk P w K mg base CX0 1 fC fdC ["literals"] (spD K rClauseOf) := ok_clauseOf M FC
  have bC : Binds K fdC ["literals"] [] := FC.bindsN fun _ _ _ _ _ _ us hl => match us, hl with | [_], _ => rfl
  refine F.ok scFa (fun vs H Q E hsp => ?_) (fun cdv A outer s H vs Q E hr hsp => ?_)
  · obtain ⟨_, _, _, _, _, _, _, _, _, _, _, _, rfl, _⟩ := hsp
    rfl
  · refine ⟨_, PSs.nox (pss_cons (ps_set (i := 4) scFa.nd rfl (Or.inl rfl) (pe_call GD (hr.mono (by omega)) rfl gD FD.kp bD .nil pass0 (pa_cons (pv 0) (pa_cons (pv 2) pa_nil))))
      (pss_cons (ps_if (pt_cmpR op_gt (pv 4) pe_int (nomark _))
        (pss_cons (ps_expr (pe_bm PySem.F.plainAttrs_list PySem.F.slot_list_append PySem.F.type_list_append mt_append (pv 3) (pa_cons (pe_tup (pa_cons pe_str (pa_cons (pv 4) pa_nil))) pa_nil)))
          (pss_one (ps_ret (pe_dget (hu_of hr) (pv 0) (pv 4) (fun _ _ => rfl))))) pss_nil)
      (pss_cons (ps_set (i := 5) scFa.nd rfl (Or.inr rfl) (pe_ix ix_seq (pv 1) (pe_callB call_len_seq rfl M.len boot_len (pa_cons (pv 2) pa_nil)) (fun _ _ => rfl)))
      (pss_cons (ps_set (i := 6) scFa.nd rfl (Or.inl rfl) (pe_call G hr rfl gF F.kp bF .nil pass0 (pa_cons (pv 0) (pa_cons (pv 1) (pa_cons (pe_op op_catD (pv 2) (pe_tup (pa_cons (pe_tup (pa_cons (pv 5) (pa_cons pe_bl pa_nil))) pa_nil))) (pa_cons (pv 3) pa_nil))))))
      (pss_cons (ps_if (pt_cmpR (r := rInS K true) (op_notInS (u65 hr)) (pe_tup (pa_cons (pv 5) (pa_cons pe_bl pa_nil))) (pv 6) (by with_unfolding_all rfl)) (pss_one (ps_ret (pv 6))) pss_nil)
      (pss_cons (ps_set (i := 7) scFa.nd rfl (Or.inl rfl) (pe_op op_sub (pe_callB call_len_seq rfl M.len boot_len (pa_cons (pv 3) pa_nil)) pe_int))
      (pss_cons (ps_set (i := 8) scFa.nd rfl (Or.inl rfl) (pe_call G hr rfl gF F.kp bF .nil pass0 (pa_cons (pv 0) (pa_cons (pv 1) (pa_cons (pe_op op_catD (pv 2) (pe_tup (pa_cons (pe_tup (pa_cons (pv 5) (pa_cons pe_bl pa_nil))) pa_nil))) (pa_cons (pv 3) pa_nil))))))
      (pss_cons (ps_if (pt_cmpR (r := rInS K true) (op_notInS (u65 hr)) (pe_tup (pa_cons (pv 5) (pa_cons pe_bl pa_nil))) (pv 8) (by with_unfolding_all rfl)) (pss_one (ps_ret (pv 8))) pss_nil)
      (pss_cons (ps_expr (pe_bm PySem.F.plainAttrs_list PySem.F.slot_list_append PySem.F.type_list_append mt_append (pv 3) (pa_cons (pe_tup (pa_cons pe_str (pa_cons (pv 7) (pa_cons (pe_op op_sub (pe_callB call_len_seq rfl M.len boot_len (pa_cons (pv 3) pa_nil)) pe_int) (pa_cons (pv 5) pa_nil))))) pa_nil)))
      (pss_cons (ps_setLc (i := 9) (own := [("literal", 10)]) (tt := tTest (tOp (rNeD K) (tVar 10) (tTup (tCons (tVar 5) (tCons (tC (.bl true)) tNil))))) rfl scFa.nd rfl rfl (sw_true rfl rfl rfl (by decide +kernel)) (pi_tup (pv 6)) (blkOk_by (own := [("literal", 10)]) (N := nFa) (sc := defScope (top 21)) (by decide +kernel)) (fun _ _ _ _ _ => pg_name (i := 10) scFa.nd rfl (Or.inl rfl))
          (fun _ _ _ _ _ => pts_one (pt_cmpR (r := rNeD K) (op_neD hr.units) (pv 10) (pe_tup (pa_cons (pv 5) (pa_cons pe_bl pa_nil))) (nomark _))) (fun _ _ _ _ _ => pv 10))
      (pss_cons (ps_expr (pe_bm PySem.F.plainAttrs_list PySem.F.slot_list_extend PySem.F.type_list_extend mt_extend (pv 9) (pa_cons
          (pe_lc (own := [("literal", 10)]) (tt := tTest (tOp (rNeD K) (tVar 10) (tTup (tCons (tVar 5) (tCons (tC (.bl false)) tNil))))) rfl scFa.nd (pi_tup (pv 8)) (blkOk_by (own := [("literal", 10)]) (N := nFa) (sc := defScope (top 21)) (by decide +kernel)) (fun _ _ _ _ _ => pg_name (i := 10) scFa.nd rfl (Or.inl rfl))
            (fun _ _ _ _ _ => pts_one (pt_cmpR (r := rNeD K) (op_neD hr.units) (pv 10) (pe_tup (pa_cons (pv 5) (pa_cons pe_bl pa_nil))) (nomark _))) (fun _ _ _ _ _ => pv 10)) pa_nil)))
      (pss_one (ps_ret (pe_call GC (hr.mono (by omega)) rfl gC FC.kp bC .nil pass0 (pa_cons (pv 9) pa_nil))))))))))))))), ?_⟩
    obtain ⟨B, E, tb, atoms, h, rows, v, u, x, l, e, O, rfl, hv, hu, hx, m, T, R, hn1, hn2, hrl, q⟩ := hsp
    refine ⟨_, rfl, _, rfl, B, E, tb, h, v, x, e, O, rfl, hv, hx, T.few, fun p hp => Nat.le_trans (T.len p hp) (by omega), fun H1 e1 => ?_⟩
    dsimp only [gName]
    have f1 : Fl l B H B H1 := (Fl.refl e).up e1
    have m1 := m.up e1
    have hpos : denied tb h ≠ 0 → 0 < denied tb h := fun hd => by obtain ⟨c, _, hc⟩ := denied_there hd; exact T.pos _ hc
    refine s_ifD (b := decide (0 < denied tb h)) f1.i (et_d (K := K) (ed_op (ed_var (i := 4) rfl (.int _)) ed_int (rd_I0b (g := fun i j => decide (j < i))))) (fun ht H2 e2 => ?_) fun hf H2 e2 => ?_
    · have hd : denied tb h ≠ 0 := by have := of_decide_eq_true ht; omega
      obtain ⟨c, hc1, hc2⟩ := denied_there hd
      rw [fals_given hd] at q
      refine q_appF (K := K) (f1.up e2) (m1.up e2) rfl ((ed_tup (eda_2 ed_str (ed_var (i := 4) rfl (.int _))) (by show 2 ≤ _; omega)).eh (f1.up e2).i) (by rw [List.length_map]; have := Nat.two_pow_pos (n + 1); omega) fun B3 H3 f3 e3 m3 => ?_
      refine s_retD (K := K) (d := clD E c) (ed_dget (i := 0) rfl (hv.ex e3) (ed_var (i := 4) rfl (.int _)) (List.mem_map.mpr ⟨_, hc2, rfl⟩)) f3.i fun r B4 H4 f4 hr' => ?_
      refine q r B4 H4 (f3.trans (.of f4)) ?_ (by rw [hc1]; exact hr')
      have := m3.step f4
      rw [List.map_append]; exact this
    have hd0 : denied tb h = 0 := by
      by_cases hd : denied tb h = 0
      · exact hd
      · exact absurd (hpos hd) (of_decide_eq_false hf)
    cases n with
    | zero => exact absurd hd0 R
    | succ n =>
    rcases R with R | ⟨a, ha, R1, R2⟩
    · exact absurd hd0 R
    have f2 := f1.up e2
    have m2 := m1.up e2
    have hat : atI (atoms.map E) (((h.map (litD E)).length : Nat) : Int) = some (E a) := atI_nat (by rw [List.length_map, List.getElem?_map, ha]; rfl)
    refine q_asgD (K := K) (ed_op (ed_var (i := 1) (v := u) rfl hu) (ed_cb (eda_1 (ed_var (i := 2) (v := x) rfl hx)) rc_lenT) (rd_ixL hat)) f2.i fun av B3 H3 f3 hav => ?_
    have g3 := f2.trans (.of f3)
    have m3 := m2.step f3
    -- low
    refine ⟨_, rfl, _, rfl, ed_more2 (i := 2) (j := 5) (b := false) (vr := x) (va := av) rfl rfl (dp_ex _ x f3.b hx) hav (by omega) H3 g3.i _ fun y B4 H4 f4 hy => ⟨_, rfl, ?_⟩⟩
    have g4 := g3.trans (.of f4)
    have m4 := m3.step f4
    refine ⟨B4, E, tb, atoms, h ++ [(a, false)], rows, v, u, y, l, g4.i, O, rfl, hv.ex (f3.b.trans f4.b), dp_ex _ u (f3.b.trans f4.b) hu, hy, m4, T, R1, by rw [List.length_append]; simp only [List.length_cons, List.length_nil]; omega, by omega, by have := Nat.two_pow_pos (n + 1); have : (2 : Nat) ^ (n + 1 + 1) = 2 ^ (n + 1) + 2 ^ (n + 1) := by { rw [Nat.pow_succ]; omega }; omega, fun low B5 H5 f5 m5 hlow => ?_⟩
    have g5 := g4.trans f5
    have e35 : Ex B3 B5 := f4.b.trans f5.b
    have efals : fals E tb atoms (n + 1) h rows.length = (let p := fals E tb atoms n (h ++ [(a, false)]) rows.length
      if (a, true) ∉ p.2 then p else
      let q := fals E tb atoms n (h ++ [(a, true)]) (rows.length + p.1.length)
      if (a, false) ∉ q.2 then (p.1 ++ q.1, q.2) else (p.1 ++ q.1 ++ [.res (rows.length + p.1.length - 1) (rows.length + p.1.length + q.1.length - 1) a], keptOf E a p.2 q.2)) := by
      show (if denied tb h ≠ 0 then _ else _) = _
      rw [if_neg (by rw [hd0]; simp), ha]
    have lenL := fals_len T (E := E) (atoms := atoms) n (h ++ [(a, false)]) rows.length
    have posL := fals_pos (E := E) n (h ++ [(a, false)]) rows.length R1
    have h28 : (2 : Nat) ^ (n + 1) ≤ 256 := Nat.le_trans (Nat.pow_le_pow_right (by decide) (by omega)) (by decide : 2 ^ 8 ≤ 256)
    generalize fals E tb atoms n (h ++ [(a, false)]) rows.length = p at efals lenL posL m5 hlow
    dsimp only [gName]
    have av5 := dp_ex _ av e35 hav
    refine s_ifD (b := !decide ((a, true) ∈ p.2)) g5.i (et_d (K := K) (ED.is (ed_op (ed_tup (eda_2 (ed_var (i := 5) (v := av) rfl av5) ed_bl) (by show 2 ≤ _; omega)) (ed_var (i := 6) (v := low) rfl hlow) (rd_in (d := litD E (a, true)) (shaped_lit O _) (shaped_lits O p.2) (.inr rfl))) (by rw [any_lit O]; rfl))) (fun ht H6 e6 => ?_) fun hf6 H6 e6 => ?_
    · have hni : (a, true) ∉ p.2 := by simpa using ht
      rw [if_pos hni] at efals
      rw [efals] at q
      exact s_retD (K := K) (ed_var (i := 6) (v := low) rfl hlow) (g5.up e6).i fun r B7 H7 f7 hr' => q r B7 H7 ((g5.up e6).trans (.of f7)) ((m5.up e6).step f7) hr'
    have hni : ¬ (a, true) ∉ p.2 := by simpa using hf6
    rw [if_neg hni] at efals
    have g6 := g5.up e6
    have m6 := m5.up e6
    -- first
    refine q_len1 (K := K) m6 g6.i rfl ?_
    -- high
    refine ⟨_, rfl, _, rfl, ed_more2 (i := 2) (j := 5) (b := true) (vr := x) (va := av) rfl rfl (dp_ex _ x (f3.b.trans e35) hx) av5 (by omega) H6 g6.i _ fun y2 B7 H7 f7 hy2 => ⟨_, rfl, ?_⟩⟩
    have g7 := g6.trans (.of f7)
    have m7 := m6.step f7
    have lenH := fals_len T (E := E) (atoms := atoms) n (h ++ [(a, true)]) (rows.length + p.1.length)
    have posH := fals_pos (E := E) n (h ++ [(a, true)]) (rows.length + p.1.length) R2
    have hpow : (2 : Nat) ^ (n + 1 + 1) = 2 ^ (n + 1) + 2 ^ (n + 1) := by rw [Nat.pow_succ]; omega
    have erl : (rows ++ p.1).length = rows.length + p.1.length := List.length_append
    refine ⟨B7, E, tb, atoms, h ++ [(a, true)], rows ++ p.1, v, u, y2, l, g7.i, O, rfl, hv.ex ((f3.b.trans e35).trans f7.b), dp_ex _ u ((f3.b.trans e35).trans f7.b) hu, hy2, m7, T, R2, by rw [List.length_append]; simp only [List.length_cons, List.length_nil]; omega, by omega, by omega, fun high B8 H8 f8 m8 hhigh => ?_⟩
    rw [erl] at m8 hhigh
    have g8 := g7.trans f8
    have e58 : Ex B5 B8 := f7.b.trans f8.b
    generalize fals E tb atoms n (h ++ [(a, true)]) (rows.length + p.1.length) = qq at efals lenH posH m8 hhigh
    dsimp only [gName]
    have av8 := dp_ex _ av e58 av5
    have low8 := dp_ex _ low e58 hlow
    refine s_ifD (b := !decide ((a, false) ∈ qq.2)) g8.i (et_d (K := K) (ED.is (ed_op (ed_tup (eda_2 (ed_var (i := 5) (v := av) rfl av8) ed_bl) (by show 2 ≤ _; omega)) (ed_var (i := 8) (v := high) rfl hhigh) (rd_in (d := litD E (a, false)) (shaped_lit O _) (shaped_lits O qq.2) (.inr rfl))) (by rw [any_lit O]; rfl))) (fun ht H9 e9 => ?_) fun hf9 H9 e9 => ?_
    · have hni2 : (a, false) ∉ qq.2 := by simpa using ht
      dsimp only at efals
      rw [if_pos hni2] at efals
      rw [efals] at q
      exact s_retD (K := K) (ed_var (i := 8) (v := high) rfl hhigh) (g8.up e9).i fun r B10 H10 f10 hr' => q r B10 H10 ((g8.up e9).trans (.of f10)) (by have := (m8.up e9).step f10; rwa [List.append_assoc] at this) hr'
    have hni2 : ¬ (a, false) ∉ qq.2 := by simpa using hf9
    dsimp only at efals
    rw [if_neg hni2] at efals
    rw [efals] at q
    have g9 := g8.up e9
    have m9 := m8.up e9
    have hlr : ((rows ++ p.1) ++ qq.1).length = rows.length + p.1.length + qq.1.length := by rw [List.length_append, erl]
    -- the resolve row
    have row : EH K (tTup (tCons (tC (.str "resolve")) (tCons (tVar 7) (tCons (tOp (rI0 fun i j => .int (i - j)) (tCB (rLenS K) (tCons (tVar 3) tNil)) (tC (.int 1))) (tCons (tVar 5) tNil))))) ([some v, some u, some x, some (.ref l), some (.int (denied tb h)), some av, some low, some (.int ((((rows ++ p.1).map (rowD E)).length : Int) - 1)), some high, none, none]) B8 H9 (rowD E (.res (rows.length + p.1.length - 1) (rows.length + p.1.length + qq.1.length - 1) a)) := by
      intro Q' qq'
      refine ⟨_, rfl, ed_lenM (Q := fun y H1 => tC (.int 1) _ H1 fun z H2 => (rI0 fun i j => .int (i - j)) y z H2 fun c H3 => tCons (tVar 5) tNil _ H3 fun xs H4 => _) m9 g9.i rfl ⟨_, _, rfl, rfl, _, rfl, sz_of (by show 4 ≤ _; omega), fun r hr' => ?_⟩⟩
      have fz := Fz.new (o := .tup [.str "resolve", .int ((((rows ++ p.1).map (rowD E)).length : Int) - 1), .int (((((rows ++ p.1) ++ qq.1).map (rowD E)).length : Int) - 1), av]) g9.i hr'
      refine qq' (.ref r) _ _ fz (.tup (st_of upd_same) (.cons (.str _) (.cons ?_ (.cons ?_ (.one (dp_ex _ av fz.b av8))))))
      · have e9 : ((((rows ++ p.1).map (rowD E)).length : Int) - 1) = ((rows.length + p.1.length - 1 : Nat) : Int) := by rw [List.length_map, erl]; omega
        rw [e9]; exact .int _
      · have e9 : (((((rows ++ p.1) ++ qq.1).map (rowD E)).length : Int) - 1) = ((rows.length + p.1.length + qq.1.length - 1 : Nat) : Int) := by rw [List.length_map, hlr]; omega
        rw [e9]; exact .int _
    refine q_appF (K := K) g9 m9 rfl row (by rw [List.length_map, hlr]; omega) fun B10 H10 g10 e10 m10 => ?_
    -- kept
    have e810 : Ex B8 B10 := e10
    have av10 := dp_ex _ av e810 av8
    have test : ∀ {σ' : L2.St} {B1 : Hp} {m : Lit} {y : V} (b : Bool), σ'[10]? = some (some y) → σ'[5]? = some (some av) → Ex B10 B1 → Dp K B1 y (litD E m) → EvT (tTest (tOp (rNeD K) (tVar 10) (tTup (tCons (tVar 5) (tCons (tC (.bl b)) tNil))))) σ' B1 (!decide (m = (a, b))) := fun {σ' B1 m y} b h1 h2 h3 h4 =>
      et_d (K := K) (ED.is (ed_op (ed_var h1 h4) (ed_tup (eda_2 (ed_var h2 (dp_ex _ av h3 av10)) ed_bl) (by show 2 ≤ _; omega)) (rd_ne (e := litD E (a, b)) (shaped_lit O m) (shaped_lit O _))) (by rw [eqv_lit O]))
    refine q_lcM (K := K) (litD E) p.2 (fun m => !decide (m = (a, true))) (litD E) (id_tup (ed_var (i := 6) (v := low) rfl (dp_ex _ low e810 low8))) (by omega) (fun y => rfl) (fun i m y B1 h1 h2 h3 => test true rfl rfl h1 h3) (fun i m y B1 h1 h2 h3 _ => ed_var rfl h3) g10.i fun pk B11 H11 hpk f11 mk => ?_
    have g11 := g10.trans (.of f11)
    have m11 := m10.step f11
    obtain ⟨nk11, zs, hk1, hk2⟩ := mk
    -- extend
    refine ⟨_, rfl, .inl ⟨rfl, zs, sq_of hk1⟩, ?_⟩
    refine ml_lc (K := K) (litD E) qq.2 (fun m => !decide (m = (a, false))) (litD E) (id_tup (ed_var (i := 8) (v := high) rfl (dp_ex _ high (e810.trans f11.b) hhigh))) (by omega) (fun y => rfl) (fun i m y B1 h1 h2 h3 => test false rfl rfl (f11.b.trans h1) h3) (fun i m y B1 h1 h2 h3 _ => ed_var rfl h3) g11.i fun pe B12 H12 hpe f12 me => ?_
    obtain ⟨ne12, ws, he1, he2⟩ := me
    have hk12 : H12 pk = some (.lst zs) := f12.h _ _ hk1
    have nk12 : B12 pk = none := f12.n pk (some_ne hk1) nk11
    have g12 := g11.trans (.of f12)
    have m12 := m11.step f12
    have hz1 : zs.length ≤ 10 := by rw [hk2.length, List.length_map]; exact Nat.le_trans (List.length_filter_le _ _) lenL.1
    have hz2 : ws.length ≤ 10 := by rw [he2.length, List.length_map]; exact Nat.le_trans (List.length_filter_le _ _) lenH.1
    have hpkl : pk ≠ l := fun z => by
      obtain ⟨_, xs10, q1, _⟩ := m10
      rw [z, q1] at hpk; cases hpk
    have hpk0 : H pk = none := by
      cases hq : H pk with
      | none => rfl
      | some o => rw [g10.h pk o hpkl hq] at hpk; cases hpk
    refine ⟨pk, pe, zs, ws, rfl, rfl, hk12, he1, sz_of (by omega), ?_⟩
    -- taken into the base
    have ex13 : Ex (upd B12 pk (.lst (zs ++ ws))) (upd H12 pk (.lst (zs ++ ws))) := fun b o hb => by
      by_cases hbp : b = pk
      · subst hbp; rw [upd_same] at hb ⊢; exact hb
      · rw [upd_ne hbp] at hb ⊢; exact g12.i b o hb
    have g13 : Fl l B H (upd B12 pk (.lst (zs ++ ws))) (upd H12 pk (.lst (zs ++ ws))) := ⟨g12.b.trans (Ex.new nk12), fun b o hb hq => by rw [upd_ne (show b ≠ pk from fun z => by rw [z, hpk0] at hq; cases hq)]; exact g12.h b o hb hq, ex13,
      fun b h1 h2 => by rw [upd_ne (show b ≠ pk from fun z => h1 (by rw [z]; exact hpk0))]; exact g12.n b h1 h2, fun h1 => by rw [upd_ne hpkl.symm]; exact g12.s h1⟩
    have m13 : ML K (upd B12 pk (.lst (zs ++ ws))) (upd H12 pk (.lst (zs ++ ws))) l (((rows ++ p.1) ++ qq.1).map (rowD E) ++ [rowD E (.res (rows.length + p.1.length - 1) (rows.length + p.1.length + qq.1.length - 1) a)]) := by
      obtain ⟨n1, xs1, q1, q2⟩ := m12
      exact ⟨by rw [upd_ne hpkl.symm]; exact n1, xs1, by rw [upd_ne hpkl.symm]; exact q1, dpAll_ex _ _ (Ex.new nk12) q2⟩
    have dk : Dp K (upd B12 pk (.lst (zs ++ ws))) (.ref pk) (.list (((p.2.filter fun m => !decide (m = (a, true))) ++ qq.2.filter fun m => !decide (m = (a, false))).map (litD E))) := by
      rw [List.map_append]
      exact .lst (sq_of upd_same) (dpAll_ex _ _ (Ex.new nk12) ((dpAll_ex _ _ f12.b hk2).append he2))
    dsimp only
    refine s_retD (K := K) (B := upd B12 pk (.lst (zs ++ ws))) (ed_call0 (R := rClauseOf) (eda_1 (ed_var (i := 9) (v := .ref pk) rfl dk)) ⟨E, _, O, ?_, rfl, rfl⟩) ex13 fun r B14 H14 f14 hr' => ?_
    · rw [List.length_append]
      have h1 := List.length_filter_le (fun m => !decide (m = (a, true))) p.2
      have h2 := List.length_filter_le (fun m => !decide (m = (a, false))) qq.2
      omega
    · refine q r B14 H14 (g13.trans (.of f14)) ?_ hr'
      have := m13.step f14
      simpa [List.append_assoc] using this
theorem ok_fals (M : Bn mg) (F : FnP K "falsified" 21 f fd) (gF : mg "falsified" = some (.ref f)) (FD : FnP K "denied_label" 14 fD fdD) (gD : mg "denied_label" = some (.ref fD)) (FC : FnP K "clause_of" 5 fC fdC) (gC : mg "clause_of" = some (.ref fC))
    (FL : FnP K "left_over" 13 fL fdL) (gL : mg "left_over" = some (.ref fL)) (FN : FnP K "negated" 4 fN fdN) (gN : mg "negated" = some (.ref fN)) : ∀ n : Nat, FnOk P w K mg base CX0 (4 + n) f fd ["clauses", "atoms", "held", "rows"] (spFalsP K n)
  | 0 => F.ok (k := 3) scFa (fun _ _ _ _ h => h.elim) fun _ _ _ _ _ _ _ _ _ h => h.elim
  | n + 1 => fals_step M F gF FD gD FC gC FL gL FN gN n (ok_fals M F gF FD gD FC gC FL gL FN gN n)
end
end K5
end

section
set_option Elab.async false
set_option linter.all false
set_option maxRecDepth 100000
set_option maxHeartbeats 2000000
/-! W13: _law_dict. -/
namespace K5
open PySem PySem.Spec PyProof.Rows L2 GenW Evl NS DL

def pairD (E : At → PyData) (p : Int × Cl) : PyData := .list [.int p.1, clD E p.2]
def spDict (K : PySem.W.Frag) : Sp := fun vs H Q _ => ∃ (B : Hp) (E : At → PyData) (tb : Tb) (v : V), Ex B H ∧ AtOk E ∧ vs = [v] ∧ Dp K B v (.list (tb.map (pairD E))) ∧ (tb.map (·.1)).Nodup ∧ tb.length ≤ 1000 ∧ ∀ r B2 H2, Fz B H B2 H2 → DI K B2 r (tbD E tb) → Q r H2
theorem putK_new {kvs : List (Key × V)} {k : Key} {v : V} (h : k ∉ kvs.map (·.1)) : putK kvs k v = kvs ++ [(k, v)] := by
  unfold putK
  rw [if_neg]
  intro hc
  obtain ⟨kv, h1, h2⟩ := List.any_eq_true.mp hc
  exact h (List.mem_map.mpr ⟨kv, h1, of_decide_eq_true h2⟩)
section
variable {P : Program} {w : World} {K : PySem.W.Frag} {mg : Str → Option Value} {base : Heap} {f : Addr} {fd : FuncData}
theorem scDict : FnScope ["_law_rows", "_law_found", "_law_row"] ["_law_rows"] (defScope (top 28)) := ⟨rfl, rfl, rfl, by decide +kernel, rfl, by decide +kernel, by decide +kernel⟩
theorem ok_dict (F : FnP K "_law_dict" 28 f fd) : FnOk P w K mg base CX0 1 f fd ["_law_rows"] (spDict K) := by
  refine F.ok scDict (fun vs H Q E h => ?_) (fun cdv A outer s H vs Q E hr h => ?_)
  · obtain ⟨_, _, _, _, _, _, rfl, _⟩ := h
    rfl
  · refine ⟨_, PSs.nox (pss_cons (ps_set (i := 1) scDict.nd rfl (Or.inl rfl) pe_dnewK) (pss_cons (ps_for PassesOwn.never rfl (pi_list (pv 0)) (pg_name (i := 2) scDict.nd rfl (Or.inl rfl))
        (pss_one (ps_dput (hu_of hr) (pv 1) (pe_ix ix_seq (pv 2) pe_int (fun _ _ => rfl)) (pe_ix ix_seq (pv 2) pe_int (fun _ _ => rfl)) rfl)))
      (pss_one (ps_ret (pv 1))))), ?_⟩
    obtain ⟨B, E, tb, v, e, O, rfl, hv, nd, hz, q⟩ := h
    intro g hg
    have hb0 : B g = none := fresh_back e hg
    have f0 : Fz B H B (upd H g (.dK [])) := Fz.aside e hg
    refine s_forD (K := K) (id_list (ed_var (v := v) rfl hv)) f0.i fun xs B1 H1 f1 hd => ?_
    refine ⟨fun i σ' H' => i ≤ tb.length ∧ ∃ (B' : Hp) (kvs : List (Key × V)), Fz B H B' H' ∧ Ex B1 B' ∧ B' g = none ∧ H' g = some (.dK kvs) ∧ kvs.map (·.1) = (tb.take i).map (fun p => (Sum.inl p.1 : Key)) ∧ DpAll K B' (kvs.map (·.2)) ((tb.take i).map fun p => clD E p.2) ∧ ∃ y, σ' = [some v, some (.ref g), y],
      ⟨Nat.zero_le _, B1, [], f0.trans f1, Ex.refl _, f1.n g (some_ne upd_same) hb0, f1.h _ _ upd_same, rfl, .nil, none, rfl⟩, fun i σ' H' ⟨_, B', kvs, ff, x, _⟩ => x.trans ff.i, ?_, ?_⟩
    · rintro i x d σ' H' hdi hx ⟨hi, B', kvs, ff, eB, nB, lH, hk, hvv, y, rfl⟩
      obtain ⟨t, hti, rfl⟩ := map_get hdi
      have hlt : i < tb.length := (List.getElem?_eq_some_iff.mp hti).1
      have hxt := dp_ex _ x eB hx
      have vx : ∀ {B2 : Hp}, Ex B' B2 → ED K (tVar 2) [some v, some (.ref g), some x] B2 (pairD E t) := fun {B2} e2 => ed_var rfl (dp_ex _ x e2 hxt)
      have kl : kvs.length = i := by have := congrArg List.length hk; simp at this; omega
      refine ed_op (vx (Ex.refl _)) ed_int (rd_ixL atI_1) H' ff.i _ fun cv B2 H2 f2 hcv => ⟨_, rfl, ?_⟩
      refine ed_op (vx f2.b) ed_int (rd_ixL atI_0) H2 f2.i _ fun kv B3 H3 f3 hkv => ?_
      have fA := (ff.trans f2).trans f3
      have n3 : B3 g = none := f3.n g (some_ne (f2.h _ _ lH)) (f2.n g (some_ne lH) nB)
      have nk : (Sum.inl t.1 : Key) ∉ kvs.map (·.1) := by
        rw [hk]
        intro hm
        obtain ⟨p, hp, e'⟩ := List.mem_map.mp hm
        obtain ⟨k, hkk, hk2⟩ := List.getElem_of_mem hp
        rw [List.length_take] at hkk
        rw [List.getElem_take] at hk2
        have e2 : p.1 = t.1 := Sum.inl.inj e'
        have h1 : (tb.map (·.1))[k]'(by rw [List.length_map]; omega) = (tb.map (·.1))[i]'(by rw [List.length_map]; omega) := by
          rw [List.getElem_map, List.getElem_map, hk2, (List.getElem?_eq_some_iff.mp hti).2, e2]
        have : k = i := (List.getElem_inj nd).mp h1
        omega
      refine ⟨g, upd H3 g (.dK (kvs ++ [(Sum.inl t.1, cv)])), rfl, .inl ⟨kvs, Sum.inl t.1, f3.h _ _ (f2.h _ _ lH), hkv.intI, by rw [kl, sizeLine_eq]; omega, by rw [putK_new nk]⟩, hlt, B3, kvs ++ [(Sum.inl t.1, cv)], ⟨fA.b, Ex.mut fA.h hg, Ex.mut fA.i n3, fA.n⟩, eB.trans (f2.b.trans f3.b), n3, upd_same, ?_, ?_, some x, rfl⟩
      · rw [take_nextP hti, List.map_append, List.map_append, hk]; rfl
      · rw [take_nextP hti, List.map_append, List.map_append]
        exact (dpAll_ex _ _ (f2.b.trans f3.b) hvv).append (.one (dp_ex _ _ f3.b hcv))
    · rintro σ' H' ⟨hi, B', kvs, ff, eB, nB, lH, hk, hvv, y, rfl⟩
      rw [List.length_map, List.take_length] at hk hvv
      dsimp only
      refine ⟨_, rfl, q (.ref g) (upd B' g (.dK kvs)) H' ⟨ff.b.trans (Ex.new nB), ff.h, fun b o hb => ?_, fun b k1 k2 => ?_⟩ ⟨g, kvs, rfl, upd_same, ?_, ?_, ?_, ?_⟩⟩
      · by_cases hbg : b = g
        · subst hbg; rw [upd_same] at hb; rw [lH, hb]
        · rw [upd_ne hbg] at hb; exact ff.i b o hb
      · rw [upd_ne (show b ≠ g from fun z => k1 (by rw [z]; exact hg))]; exact ff.n b k1 k2
      · rw [hk, tbD, List.map_map]; rfl
      · rw [tbD, List.map_map]; exact dpAll_ex _ _ (Ex.new nB) hvv
      · rw [tbD, List.map_map]; exact nd
      · intro p hp
        obtain ⟨t, _, rfl⟩ := List.mem_map.mp hp
        exact kb_cl O t.2
end
end K5
end

section
set_option Elab.async false
set_option linter.all false
set_option maxRecDepth 100000
set_option maxHeartbeats 2000000
/-! W14: _law_state, _law_draw. -/
namespace K5
open PySem PySem.Spec PyProof.Rows L2 GenW Evl NS DL

abbrev st5 (sc : Addr) (a b c d : Int) : List V := [.ref sc, .int a, .int b, .int c, .int d]
/-- the state of the draws stands at l -/
def StOk (H : Hp) (l sc : Addr) : Prop := ∃ (ns : List Int) (a b c d : Int), H l = some (.lst (st5 sc a b c d)) ∧ H sc = some (.lst (ns.map V.int)) ∧ sc ≠ l ∧ 0 ≤ a ∧ 0 ≤ b ∧ 0 ≤ c ∧ c < 10 ^ 18 ∧ 0 ≤ d ∧ d ≤ 6
/-- all but the list at l stays -/
def Exl (l : Addr) (H H' : Hp) : Prop := ∀ a o, a ≠ l → H a = some o → H' a = some o
def spState (K : PySem.W.Frag) : Sp := fun vs H Q _ => ∃ (s : Addr) (ns : List Int), vs = [.ref s] ∧ SqL K H s (ns.map V.int) ∧ ∀ l sc H', H l = none → H sc = none → Ex H H' → StOk H' l sc → Q (.ref l) H'
def spDraw (K : PySem.W.Frag) : Sp := fun vs H Q _ => ∃ (l sc : Addr) (m : Int), vs = [.ref l, .int m] ∧ StOk H l sc ∧ m < 2 ^ 20 ∧ ∀ r H', 0 ≤ r → (r < m ∨ r = 0) → Exl l H H' → StOk H' l sc → Q (.int r) H'
section
variable {P : Program} {w : World} {K : PySem.W.Frag} {mg : Str → Option Value} {base : Heap} {f : Addr} {fd : FuncData}
theorem scState : FnScope ["_law_script"] ["_law_script"] (defScope (top 24)) := ⟨rfl, rfl, rfl, by decide +kernel, rfl, by decide +kernel, by decide +kernel⟩
theorem ok_state (M : Bn mg) (F : FnP K "_law_state" 24 f fd) : FnOk P w K mg base CX0 1 f fd ["_law_script"] (spState K) := by
  refine F.ok scState (fun vs H Q E h => ?_) (fun cdv A outer s H vs Q E hr h => ?_)
  · obtain ⟨_, _, rfl, _⟩ := h
    rfl
  · refine ⟨_, PSs.nox (pss_one (ps_ret (pe_lst (pa_cons (pe_callTy call_list_of rfl M.list (by decide +kernel) (pa_cons (pv 0) pa_nil)) (pa_cons pe_int (pa_cons pe_int (pa_cons pe_int (pa_cons pe_int pa_nil)))))))), ?_⟩
    obtain ⟨sa, ns, rfl, hs, q⟩ := h
    refine ⟨_, rfl, sa, _, rfl, .inl hs, fun p hp => ⟨sz_of (by show 5 ≤ _; omega), fun l hl => ?_⟩⟩
    have hpl : p ≠ l := fun z => by subst z; rw [upd_same] at hl; cases hl
    have hl0 : H l = none := by rw [upd_ne hpl.symm] at hl; exact hl
    exact q l p _ hl0 hp ((Ex.new hp).trans (Ex.new hl)) ⟨ns, 0, 0, 0, 0, upd_same, by rw [upd_ne hpl]; exact upd_same, hpl, by omega, by omega, by omega, by decide, by omega, by omega⟩
theorem StOk.up {H H' : Hp} {l sc : Addr} (h : StOk H l sc) (e : Ex H H') : StOk H' l sc := let ⟨ns, a, b, c, d, h1, h2, r⟩ := h; ⟨ns, a, b, c, d, e _ _ h1, e _ _ h2, r⟩
theorem Exl.of {l : Addr} {H H' : Hp} (e : Ex H H') : Exl l H H' := fun a o _ h => e a o h
theorem Exl.trans {l : Addr} {H H1 H2 : Hp} (a : Exl l H H1) (b : Exl l H1 H2) : Exl l H H2 := fun x o hx h => b x o hx (a x o hx h)
theorem Exl.set {l : Addr} {H : Hp} {o : HO} : Exl l H (upd H l o) := fun a o' ha h => by rw [upd_ne ha]; exact h
theorem ev_st {H : Hp} {l sc : Addr} {a b c d : Int} {σ : L2.St} {j : Int} {v : V} (hl : H l = some (.lst (st5 sc a b c d))) (hσ : σ[0]? = some (some (.ref l))) (hv : atI (st5 sc a b c d) j = some v) : Ev (tOp (rIxL K) (tVar 0) (tC (.int j))) σ H v :=
  ev_op (ev_var hσ) ev_c (rv_ixL (sq_of hl) hv)
abbrev nDr : List PySem.Str := ["_law_state_here", "_law_many", "_law_cell", "_law_found", "_law_mixed"]
theorem scDraw : FnScope nDr ["_law_state_here", "_law_many"] (defScope (top 25)) := ⟨rfl, rfl, rfl, by decide +kernel, rfl, by decide +kernel, by decide +kernel⟩
theorem ok_draw (M : Bn mg) (F : FnP K "_law_draw" 25 f fd) : FnOk P w K mg base CX0 1 f fd ["_law_state_here", "_law_many"] (spDraw K) := by
  refine F.ok scDraw (fun vs H Q E h => ?_) (fun cdv A outer s H vs Q E hr h => ?_)
  · obtain ⟨_, _, _, rfl, _⟩ := h
    rfl
  · refine ⟨_, PSs.nox (pss_cons (ps_if (pt_cmpR op_lt (pv 1) pe_int (nomark _)) (pss_one (ps_ret pe_int)) pss_nil)
      (pss_cut (ps_if (PW.pt (pw_and (pt_cmpR op_eq (pe_ix ix_list (pv 0) pe_int (fun _ _ => rfl)) pe_int (nomark _)) (pw_and (pt_cmpR op_eq (pe_ix ix_list (pv 0) pe_int (fun _ _ => rfl)) pe_int (nomark _))
          (pw_and1 (pt_cmpR op_lt (pe_ix ix_list (pv 0) pe_int (fun _ _ => rfl)) (pe_callB call_len_seq rfl M.len boot_len (pa_cons (pe_ix ix_list (pv 0) pe_int (fun _ _ => rfl)) pa_nil)) (nomark _))))))
        (pss_cons (ps_set (i := 2) scDraw.nd rfl (Or.inl rfl) (pe_ix ix_list (pe_ix ix_list (pv 0) pe_int (fun _ _ => rfl)) (pe_ix ix_list (pv 0) pe_int (fun _ _ => rfl)) (fun _ _ => rfl)))
        (pss_cons (ps_asg (pe_op op_add (pe_ix ix_list (pv 0) pe_int (fun _ _ => rfl)) pe_int) (pg_sub (pv 0) pe_int set_list))
        (pss_cut (ps_if (pt_cmpR op_lt (pv 2) pe_int (nomark _)) (pss_one (ps_set (i := 2) scDraw.nd rfl (Or.inl rfl) (pe_op op_sub pe_int (pe_op op_mul pe_int (pv 2))))) pss_nil)
        (pss_one (ps_if (pt_cmpR op_ge (pv 2) (pe_op op_pow pe_int pe_int) (nomark _)) (pss_one (ps_asg (pv 2) (pg_sub (pv 0) pe_int set_list)))
          (pss_cons (ps_asg (pv 2) (pg_sub (pv 0) pe_int set_list)) (pss_one (ps_asg pe_int (pg_sub (pv 0) pe_int set_list))))))))) pss_nil)
      (pss_cons (ps_if (pt_cmpR op_gt (pe_ix ix_list (pv 0) pe_int (fun _ _ => rfl)) pe_int (nomark _))
        (pss_cons (ps_set (i := 3) scDraw.nd rfl (Or.inl rfl) (pe_op op_modN (pe_callTy call_int1 rfl M.int (by decide +kernel) (pa_cons (pe_ix ix_list (pv 0) pe_int (fun _ _ => rfl)) pa_nil)) (pv 1)))
        (pss_cons (ps_asg (pe_op op_fdivN (pe_ix ix_list (pv 0) pe_int (fun _ _ => rfl)) (pv 1)) (pg_sub (pv 0) pe_int set_list)) (pss_one (ps_ret (pv 3))))) pss_nil)
      (pss_cons (ps_if (pt_cmpR op_gt (pe_ix ix_list (pv 0) pe_int (fun _ _ => rfl)) pe_int (nomark _))
        (pss_cons (ps_asg (pe_op op_sub (pe_ix ix_list (pv 0) pe_int (fun _ _ => rfl)) pe_int) (pg_sub (pv 0) pe_int set_list))
        (pss_cons (ps_set (i := 4) scDraw.nd rfl (Or.inl rfl) (pe_op op_modN (pe_callTy call_int1 rfl M.int (by decide +kernel) (pa_cons (pe_op op_mul (pe_ix ix_list (pv 0) pe_int (fun _ _ => rfl)) (pe_op op_add pe_int (pe_op op_mul pe_int (pe_ix ix_list (pv 0) pe_int (fun _ _ => rfl))))) pa_nil)) pe_int))
        (pss_cons (ps_set (i := 4) scDraw.nd rfl (Or.inl rfl) (pe_op op_modN (pe_callTy call_int1 rfl M.int (by decide +kernel) (pa_cons (pe_op op_mul (pv 4) (pe_op op_add pe_int (pe_ix ix_list (pv 0) pe_int (fun _ _ => rfl)))) pa_nil)) pe_int))
        (pss_one (ps_ret (pe_op op_modN (pe_callTy call_int1 rfl M.int (by decide +kernel) (pa_cons (pv 4) pa_nil)) (pv 1))))))) pss_nil)
      (pss_one (ps_ret pe_int)))))), ?_⟩
    obtain ⟨l, sc, m, rfl, hS, hm, q⟩ := h
    refine q_when (b := decide (m < 2)) (et_test (ev_op (ev_var (v := .int m) rfl) ev_c (rv_I0 (g := fun i j => .bl (decide (i < j)))))) (fun ht H1 e1 => ?_) fun hf H1 e1 => ?_
    · exact s_ret ev_c fun H2 e2 => q 0 H2 (by omega) (.inr rfl) (.of (e1.trans e2)) (hS.up (e1.trans e2))
    have hm2 : 2 ≤ m := by have := of_decide_eq_false hf; omega
    refine ⟨fun σ' H' => Exl l H H' ∧ StOk H' l sc ∧ ∃ x y z, σ' = [some (.ref l), some (.int m), x, y, z], ?_, ?_⟩
    · obtain ⟨ns, a, b, c, d, h1, h2, hne, ha, hb, hc, hc8, hd, hd6⟩ := hS.up e1
      have s2 := ev_st (K := K) (σ := [some (.ref l), some (.int m), none, none, none]) (j := 2) h1 rfl (atI_nat (j := 2) rfl)
      have s4 := ev_st (K := K) (σ := [some (.ref l), some (.int m), none, none, none]) (j := 4) h1 rfl (atI_nat (j := 4) rfl)
      have s1 := ev_st (K := K) (σ := [some (.ref l), some (.int m), none, none, none]) (j := 1) h1 rfl (atI_nat (j := 1) rfl)
      have s0 := ev_st (K := K) (σ := [some (.ref l), some (.int m), none, none, none]) (j := 0) h1 rfl (atI_nat (j := 0) rfl)
      refine s_when (et_and (et_test (ev_op s2 ev_c (rv_eq rfl))) fun _ => et_and (et_test (ev_op s4 ev_c (rv_eq rfl))) fun _ => et_test (ev_op s1 (ev_len s0 (sq_of h2)) (rv_I0 (g := fun i j => .bl (decide (i < j)))))) (fun ht H2 e2 => ?_) fun hf2 H2 e2 => ?_
      · simp only [Bool.and_eq_true, decide_eq_true_eq, V.int.injEq, List.length_map] at ht
        obtain ⟨hb0, hd0, hlen⟩ := ht
        subst hb0 hd0
        have hcell : atI (ns.map V.int) a = some (.int (ns.getD a.toNat 0)) := by
          have hlt : a.toNat < ns.length := by omega
          have := atI_nat (xs := ns.map V.int) (j := a.toNat) (v := .int (ns.getD a.toNat 0)) (by rw [List.getElem?_map, List.getElem?_eq_getElem hlt, List.getD_eq_getElem?_getD, List.getElem?_eq_getElem hlt]; rfl)
          rwa [Int.toNat_of_nonneg ha] at this
        refine q_asg (ev_op (Ev.mono e2 s0) (Ev.mono e2 s1) (rv_ixL (sq_of (e2 _ _ h2)) hcell)) fun H3 e3 => ?_
        generalize ns.getD a.toNat 0 = cell
        have e23 := e2.trans e3
        have h13 := e23 _ _ h1
        have h23 := e23 _ _ h2
        refine q_setL (j := 1) h13 (ev_op (ev_st (K := K) (j := 1) h13 rfl (atI_nat (j := 1) rfl)) ev_c (rv_I0 (g := fun i j => .int (i + j)))) (ev_var rfl) ev_c (by show 1 < 5; omega) fun H4 e4 => ?_
        have x4 : Exl l H (upd H4 l (.lst (st5 sc (a + 1) 0 c 0))) := (Exl.of ((e1.trans e23).trans e4)).trans .set
        have h14 : (upd H4 l (.lst (st5 sc (a + 1) 0 c 0))) l = some (.lst (st5 sc (a + 1) 0 c 0)) := upd_same
        have h24 : (upd H4 l (.lst (st5 sc (a + 1) 0 c 0))) sc = some (.lst (ns.map V.int)) := by rw [upd_ne hne]; exact e4 _ _ h23
        show tCut _ _ _ _ (upd H4 l (.lst (st5 sc (a + 1) 0 c 0)))
        generalize upd H4 l (.lst (st5 sc (a + 1) 0 c 0)) = H5 at x4 h14 h24
        refine ⟨fun σ' H' => Exl l H H' ∧ H' l = some (.lst (st5 sc (a + 1) 0 c 0)) ∧ H' sc = some (.lst (ns.map V.int)) ∧ ∃ n : Int, 0 ≤ n ∧ σ' = [some (.ref l), some (.int m), some (.int n), none, none], ?_, ?_⟩
        · refine s_when (b := decide (cell < 0)) (et_test (ev_op (ev_var (i := 2) rfl) ev_c (rv_I0 (g := fun i j => .bl (decide (i < j)))))) (fun ht H6 e6 => ?_) fun hf6 H6 e6 => ?_
          · have hneg := of_decide_eq_true ht
            refine s_asg (ev_op ev_c (ev_op ev_c (ev_var (i := 2) (v := .int cell) rfl) (rv_I (C := CMul) (g := fun i j => .int (i * j)) (.inl ⟨by decide, by decide⟩))) (rv_I0 (g := fun i j => .int (i - j)))) fun H7 e7 => ⟨x4.trans (.of (e6.trans e7)), (e6.trans e7) _ _ h14, (e6.trans e7) _ _ h24, 1 - 2 * cell, by omega, rfl⟩
          · have hnn := of_decide_eq_false hf6
            exact ⟨x4.trans (.of e6), e6 _ _ h14, e6 _ _ h24, cell, by omega, rfl⟩
        · rintro σ' H6 ⟨x6, h16, h26, n, hn, rfl⟩
          refine s_if (b := decide ((10 : Int) ^ 18 ≤ n)) (et_test (ev_op (ev_var (i := 2) (v := .int n) rfl) (ev_op ev_c ev_c (rv_I (g := fun i j => .int (i ^ j.toNat)) ?_)) (rv_I0 (g := fun i j => .bl (decide (j ≤ i)))))) (fun ht H7 e7 => ?_) fun hf7 H7 e7 => ?_
          · exact ⟨by decide, by decide, by decide⟩
          · refine s_setL (j := 2) (e7 _ _ h16) (ev_var (i := 2) (v := .int n) rfl) (ev_var rfl) ev_c (by show 2 < 5; omega) fun H8 e8 => ?_
            exact ⟨(x6.trans (.of (e7.trans e8))).trans .set, ⟨ns, a + 1, n, c, 0, upd_same, by rw [upd_ne hne]; exact (e7.trans e8) _ _ h26, hne, by omega, hn, hc, hc8, by omega, by omega⟩, _, _, _, rfl⟩
          · have hlt := of_decide_eq_false hf7
            refine q_setL (j := 3) (e7 _ _ h16) (ev_var (i := 2) (v := .int n) rfl) (ev_var rfl) ev_c (by show 3 < 5; omega) fun H8 e8 => ?_
            refine s_setL (l := l) (xs := st5 sc (a + 1) 0 n 0) (j := 4) upd_same ev_c (ev_var rfl) ev_c (by show 4 < 5; omega) fun H9 e9 => ?_
            have h29 : H9 sc = some (.lst (ns.map V.int)) := e9 _ _ (by rw [upd_ne hne]; exact (e7.trans e8) _ _ h26)
            exact ⟨(((x6.trans (.of (e7.trans e8))).trans .set).trans (.of e9)).trans .set, ⟨ns, a + 1, 0, n, 6, upd_same, by rw [upd_ne hne]; exact h29, hne, by omega, by omega, hn, by omega, by omega, by omega⟩, _, _, _, rfl⟩
      · exact ⟨.of (e1.trans e2), hS.up (e1.trans e2), none, none, none, rfl⟩
    · rintro σ' H2 ⟨x2, hS2, x, y, z, rfl⟩
      obtain ⟨ns, a, b, c, d, h1, h2, hne, ha, hb, hc, hc8, hd, hd6⟩ := hS2
      have rc1 : ∀ {i : Int} {H' : Hp}, RC (fun xs H Q => (∃ i, xs = [.int i] ∧ Q (.int i) H) ∨ ∃ k, xs = [.bl k] ∧ Q (.int (if k then 1 else 0)) H) [.int i] H' (.int i) := fun {i H'} H1 e Q q => .inl ⟨i, rfl, q H1 (Ex.refl _)⟩
      have s2 : ∀ {H' : Hp} {x y z : Option V} {b : Int} {c d : Int}, H' l = some (.lst (st5 sc a b c d)) → Ev (tOp (rIxL K) (tVar 0) (tC (.int 2))) [some (.ref l), some (.int m), x, y, z] H' (.int b) := fun {H' x y z b c d} h => ev_st h rfl (atI_nat (j := 2) rfl)
      have s3 : ∀ {H' : Hp} {x y z : Option V} {b : Int} {c d : Int}, H' l = some (.lst (st5 sc a b c d)) → Ev (tOp (rIxL K) (tVar 0) (tC (.int 3))) [some (.ref l), some (.int m), x, y, z] H' (.int c) := fun {H' x y z b c d} h => ev_st h rfl (atI_nat (j := 3) rfl)
      have s4 : ∀ {H' : Hp} {x y z : Option V} {b : Int} {c d : Int}, H' l = some (.lst (st5 sc a b c d)) → Ev (tOp (rIxL K) (tVar 0) (tC (.int 4))) [some (.ref l), some (.int m), x, y, z] H' (.int d) := fun {H' x y z b c d} h => ev_st h rfl (atI_nat (j := 4) rfl)
      refine q_when (b := decide (0 < b)) (et_test (ev_op (s2 h1) ev_c (rv_I0 (g := fun i j => .bl (decide (j < i)))))) (fun ht H3 e3 => ?_) fun hf3 H3 e3 => ?_
      · refine q_asg (v := .int (b.fmod m)) (ev_op (ev_cb (ea_cons (s2 (e3 _ _ h1)) ea_nil) rc1) (ev_var (i := 1) rfl) (rv_I (g := fun i j => .int (i.fmod j)) (by show m ≠ 0; omega))) fun H4 e4 => ?_
        have h14 := (e3.trans e4) _ _ h1
        refine q_setL (j := 2) h14 (ev_op (s2 h14) (ev_var (i := 1) rfl) (rv_I (g := fun i j => .int (i.fdiv j)) (by show m ≠ 0 ∧ m.natAbs < 1073741824; omega))) (ev_var rfl) ev_c (by show 2 < 5; omega) fun H5 e5 => ?_
        refine s_ret (ev_var (i := 3) rfl) fun H6 e6 => q (b.fmod m) H6 (Int.fmod_nonneg_of_pos b (by omega)) (.inl (Int.fmod_lt_of_pos b (by omega))) (((x2.trans (.of ((e3.trans e4).trans e5))).trans .set).trans (.of e6)) ?_
        exact StOk.up ⟨ns, a, b.fdiv m, c, d, upd_same, by rw [upd_ne hne]; exact ((e3.trans e4).trans e5) _ _ h2, hne, ha, Int.fdiv_nonneg (by omega) (by omega), hc, hc8, hd, hd6⟩ e6
      · refine q_when (b := decide (0 < d)) (et_test (ev_op (s4 (e3 _ _ h1)) ev_c (rv_I0 (g := fun i j => .bl (decide (j < i)))))) (fun ht H4 e4 => ?_) fun hf4 H4 e4 => ?_
        · have hdp := of_decide_eq_true ht
          have h14 := (e3.trans e4) _ _ h1
          refine q_setL (j := 4) h14 (ev_op (s4 h14) ev_c (rv_I0 (g := fun i j => .int (i - j)))) (ev_var rfl) ev_c (by show 4 < 5; omega) fun H5 e5 => ?_
          have x5 : Exl l H (upd H5 l (.lst (st5 sc a b c (d - 1)))) := (x2.trans (.of ((e3.trans e4).trans e5))).trans .set
          have h15 : (upd H5 l (.lst (st5 sc a b c (d - 1)))) l = some (.lst (st5 sc a b c (d - 1))) := upd_same
          have h25 : (upd H5 l (.lst (st5 sc a b c (d - 1)))) sc = some (.lst (ns.map V.int)) := by rw [upd_ne hne]; exact ((e3.trans e4).trans e5) _ _ h2
          show tSeq _ _ _ _ (upd H5 l (.lst (st5 sc a b c (d - 1))))
          generalize upd H5 l (.lst (st5 sc a b c (d - 1))) = H6 at x5 h15 h25
          refine q_asg (v := .int ((c * (48271 + 2 * (d - 1))).fmod 2147483647)) (ev_op (ev_cb (ea_cons (ev_op (s3 h15) (ev_op ev_c (ev_op ev_c (s4 h15) (rv_I (C := CMul) (g := fun i j => .int (i * j)) (.inl ⟨by decide, by decide⟩))) (rv_I0 (g := fun i j => .int (i + j)))) (rv_I (C := CMul) (g := fun i j => .int (i * j)) (.inl ⟨by omega, by omega⟩))) ea_nil) rc1) ev_c (rv_I (g := fun i j => .int (i.fmod j)) (by decide))) fun H7 e7 => ?_
          generalize (c * (48271 + 2 * (d - 1))).fmod 2147483647 = mx
          have h17 := e7 _ _ h15
          refine q_asg (v := .int ((mx * (16807 + (d - 1))).fmod 1000003)) (ev_op (ev_cb (ea_cons (ev_op (ev_var (i := 4) (v := .int mx) rfl) (ev_op ev_c (s4 h17) (rv_I0 (g := fun i j => .int (i + j)))) (rv_I (C := CMul) (g := fun i j => .int (i * j)) (.inr ⟨by omega, by omega⟩))) ea_nil) rc1) ev_c (rv_I (g := fun i j => .int (i.fmod j)) (by decide))) fun H8 e8 => ?_
          generalize (mx * (16807 + (d - 1))).fmod 1000003 = my
          refine s_ret (v := .int (my.fmod m)) (ev_op (ev_cb (ea_cons (ev_var (i := 4) (v := .int my) rfl) ea_nil) rc1) (ev_var (i := 1) (v := .int m) rfl) (rv_I (g := fun i j => .int (i.fmod j)) (by show m ≠ 0; omega))) fun H9 e9 => ?_
          have e79 := (e7.trans e8).trans e9
          exact q _ H9 (Int.fmod_nonneg_of_pos my (by omega)) (.inl (Int.fmod_lt_of_pos my (by omega))) (x5.trans (.of e79)) ⟨ns, a, b, c, d - 1, e79 _ _ h15, e79 _ _ h25, hne, ha, hb, hc, hc8, by omega, by omega⟩
        · refine s_ret ev_c fun H5 e5 => q 0 H5 (by omega) (.inr rfl) (x2.trans (.of ((e3.trans e4).trans e5))) ?_
          exact StOk.up ⟨ns, a, b, c, d, h1, h2, hne, ha, hb, hc, hc8, hd, hd6⟩ ((e3.trans e4).trans e5)
end
end K5
end

section
set_option Elab.async false
set_option linter.all false
set_option maxRecDepth 100000
set_option maxHeartbeats 2000000
/-! W15: _law_alike. -/
namespace K5
open PySem PySem.Spec PyProof.Rows L2 GenW Evl NS DL

def alN : Nat → PyData → Bool
  | 0, _ => false
  | _ + 1, .int _ => true
  | _ + 1, .bool _ => true
  | _ + 1, .str x => SeqAt.shaped (.str x)
  | n + 1, .tuple ds => decide (ds.length ≤ 40000) && ds.all (alN n)
  | n + 1, .list ds => decide (ds.length ≤ 40000) && ds.all (alN n)
  | _ + 1, _ => false
/-- a datum's class name -/
def tyD : PyData → String
  | .bool _ => "bool"
  | .int _ => "int"
  | .str _ => "str"
  | .tuple _ => "tuple"
  | .list _ => "list"
  | _ => "NoneType"
def spAl (K : PySem.W.Frag) (n : Nat) : Sp := fun vs H Q _ => ∃ (B : Hp) (d : PyData) (v u : V), Ex B H ∧ vs = [v, u] ∧ Dp K B v d ∧ Dp K B u d ∧ alN n d = true ∧ ∀ H2, Ex H H2 → Q (.bl true) H2
theorem tyx_l {K : PySem.W.Frag} {H : Hp} {a : Addr} {xs : List V} (h : SqL K H a xs) : TyX K H (.ref a) (.type "list") := by
  rcases h with (h | ⟨o, h⟩) | ⟨o, _, _, h1, h2, _⟩
  · exact .base (.lst h)
  · exact .base (.frz h)
  · exact .kList h1 h2
theorem tyx_t {K : PySem.W.Frag} {H : Hp} {a : Addr} {xs : List V} (h : SqT K H a xs) : TyX K H (.ref a) (.type "tuple") := by
  rcases h with (h | ⟨o, h⟩) | ⟨o, _, _, h1, h2, _⟩
  · exact .base (.tup h)
  · exact .fTuple h
  · exact .kTuple h1 h2
theorem tyx {K : PySem.W.Frag} {H : Hp} {n : Nat} {d : PyData} {v : V} (h : Dp K H v d) (a : alN n d = true) : TyX K H v (.type (tyD d)) := by
  cases n with
  | zero => cases d <;> cases a
  | succ n =>
  cases d with
  | int i => rw [h.intI]; exact .base (.int i)
  | bool b => rw [h.blI]; exact .base (.bl b)
  | str s => rw [h.strI]; exact .base (.str s)
  | list ds => obtain ⟨p, xs, rfl, h1, _⟩ := h.lstI; exact tyx_l h1
  | tuple ds => obtain ⟨p, xs, rfl, h1, _⟩ := h.tupI; exact tyx_t h1
  | _ => cases a
theorem kit_ty {K : PySem.W.Frag} (n : Nat) (d : PyData) (a : alN n d = true) (T : String) (hT : T = "bool" ∨ T = "int" ∨ T = "str" ∨ T = "tuple" ∨ T = "list") : PySem.W.kitOne K (.type (tyD d)) (.type T) = some (tyD d == T || (tyD d == "bool" && T == "int")) := by
  cases n with
  | zero => cases d <;> cases a
  | succ n =>
  rcases hT with rfl | rfl | rfl | rfl | rfl <;> cases d <;> first | rfl | cases a
def isiB (d : PyData) (T : String) : Bool := tyD d == T || (tyD d == "bool" && T == "int")
theorem ev_isi {K : PySem.W.Frag} {σ : L2.St} {B : Hp} {i n : Nat} {v : V} {d : PyData} {T : String} (hσ : σ[i]? = some (some v)) (h : Dp K B v d) (a : alN n d = true) (hT : T = "bool" ∨ T = "int" ∨ T = "str" ∨ T = "tuple" ∨ T = "list") :
    Ev (tCB (rIsi K) (tCons (tVar i) (tCons (tC (.ty T)) tNil))) σ B (.bl (isiB d T)) := fun H1 e Q q =>
  ⟨v, hσ, v, .ty T, .type (tyD d), .type T, isiB d T, rfl, .ty T, tyx (dp_ex d v e h) a, kit_ty n d a T hT, q H1 (Ex.refl H1)⟩
theorem alN_shape {n : Nat} {d : PyData} (a : alN n d = true) : (∃ b, d = .bool b) ∨ (∃ i, d = .int i) ∨ (∃ x, d = .str x ∧ SeqAt.shaped (.str x) = true) ∨ (∃ ds, d = .list ds ∧ ds.length ≤ 40000 ∧ ∀ e ∈ ds, alN (n - 1) e = true) ∨ ∃ ds, d = .tuple ds ∧ ds.length ≤ 40000 ∧ ∀ e ∈ ds, alN (n - 1) e = true := by
  cases n with
  | zero => cases d <;> cases a
  | succ n =>
  have sq : ∀ ds : List PyData, (decide (ds.length ≤ 40000) && ds.all (alN n)) = true → ds.length ≤ 40000 ∧ ∀ e ∈ ds, alN n e = true := fun ds h => by
    rw [Bool.and_eq_true] at h
    exact ⟨of_decide_eq_true h.1, fun e he => List.all_eq_true.mp h.2 e he⟩
  cases d with
  | bool b => exact .inl ⟨b, rfl⟩
  | int i => exact .inr (.inl ⟨i, rfl⟩)
  | str x => exact .inr (.inr (.inl ⟨x, rfl, a⟩))
  | list ds => exact .inr (.inr (.inr (.inl ⟨ds, rfl, sq ds a⟩)))
  | tuple ds => exact .inr (.inr (.inr (.inr ⟨ds, rfl, sq ds a⟩)))
  | _ => cases a
theorem nn_of {K : PySem.W.Frag} {H : Hp} {n : Nat} {d : PyData} {v : V} (h : Dp K H v d) (a : alN n d = true) : decide (v = .non) = false := by
  rcases alN_shape a with ⟨b, rfl⟩ | ⟨i, rfl⟩ | ⟨x, rfl, hxs⟩ | ⟨ds, rfl, _⟩ | ⟨ds, rfl, _⟩
  · rw [h.blI]; simp
  · rw [h.intI]; simp
  · rw [h.strI]; simp
  · obtain ⟨p, xs, rfl, _⟩ := h.lstI; simp
  · obtain ⟨p, xs, rfl, _⟩ := h.tupI; simp
def rNon : R2 := fun x y H Q => y = .non ∧ Q (.bl (decide (x = .non))) H
theorem op_isNon {X : Cx} : OpR X (compareOp .Is) rNon := op_isN
theorem eqv_same {n : Nat} {d : PyData} (h : (∃ b, d = .bool b) ∨ (∃ i, d = .int i) ∨ (∃ x, d = .str x ∧ SeqAt.shaped (.str x) = true)) : PyData.eqv d d = true ∧ SeqAt.shaped d = true := by
  rcases h with ⟨b, rfl⟩ | ⟨i, rfl⟩ | ⟨x, rfl, hx⟩
  · exact ⟨by simp [PyData.eqv], rfl⟩
  · exact ⟨by simp [PyData.eqv], rfl⟩
  · exact ⟨by simp [PyData.eqv], hx⟩
section
variable {P : Program} {w : World} {K : PySem.W.Frag} {mg : Str → Option Value} {base : Heap} {f : Addr} {fd : FuncData}
abbrev nAl : List PySem.Str := ["_law_actual", "_law_due", "_law_k"]
theorem scAl : FnScope nAl ["_law_actual", "_law_due"] (defScope (top 26)) := ⟨rfl, rfl, rfl, by decide +kernel, rfl, by decide +kernel, by decide +kernel⟩
theorem al_step (M : Bn mg) (F : FnP K "_law_alike" 26 f fd) (gF : mg "_law_alike" = some (.ref f)) (n : Nat)
    (G : FnOk P w K mg base CX0 (1 + n) f fd ["_law_actual", "_law_due"] (spAl K n)) : FnOk P w K mg base CX0 (1 + n + 1) f fd ["_law_actual", "_law_due"] (spAl K (n + 1)) := by
  have bF : Binds K fd ["_law_actual", "_law_due"] [] := F.bindsN fun _ _ _ _ _ _ us hl => match us, hl with | [_, _], _ => rfl
  refine F.ok scAl (fun vs H Q E hsp => ?_) (fun cdv A outer s H vs Q E hr hsp => ?_)
  · obtain ⟨_, _, _, _, _, rfl, _⟩ := hsp
    rfl
  · refine ⟨_, PSs.nox (pss_cons (ps_if (pt_cmpR op_isNon (pv 1) pe_non (nomark _)) (pss_one (ps_ret (pe_cmpR op_isNon (pv 0) pe_non (nomark _)))) pss_nil)
      (pss_cons (ps_if (PW.pt (pw_or (pt_val (pe_callB call_isi rfl M.isinstance (by decide +kernel) (pa_cons (pv 1) (pa_cons (pe_bltn (v := .ty "bool") rfl M.bool (by decide +kernel) rfl) pa_nil)))) (pw_or1 (pt_val (pe_callB call_isi rfl M.isinstance (by decide +kernel) (pa_cons (pv 0) (pa_cons (pe_bltn (v := .ty "bool") rfl M.bool (by decide +kernel) rfl) pa_nil)))))))
        (pss_one (ps_ret (pe_and (pe_callB call_isi rfl M.isinstance (by decide +kernel) (pa_cons (pv 1) (pa_cons (pe_bltn (v := .ty "bool") rfl M.bool (by decide +kernel) rfl) pa_nil)))
          (pe_and (pe_callB call_isi rfl M.isinstance (by decide +kernel) (pa_cons (pv 0) (pa_cons (pe_bltn (v := .ty "bool") rfl M.bool (by decide +kernel) rfl) pa_nil))) (pe_one (pe_cmpR (op_eqD hr.units) (pv 0) (pv 1) (nomark _))))))) pss_nil)
      (pss_cons (ps_if (pt_val (pe_callB call_isi rfl M.isinstance (by decide +kernel) (pa_cons (pv 1) (pa_cons (pe_bltn (v := .ty "int") rfl M.int (by decide +kernel) rfl) pa_nil))))
        (pss_one (ps_ret (pe_and (pe_callB call_isi rfl M.isinstance (by decide +kernel) (pa_cons (pv 0) (pa_cons (pe_bltn (v := .ty "int") rfl M.int (by decide +kernel) rfl) pa_nil))) (pe_one (pe_cmpR (op_eqD hr.units) (pv 0) (pv 1) (nomark _)))))) pss_nil)
      (pss_cons (ps_if (pt_val (pe_callB call_isi rfl M.isinstance (by decide +kernel) (pa_cons (pv 1) (pa_cons (pe_bltn (v := .ty "str") rfl M.str (by decide +kernel) rfl) pa_nil))))
        (pss_one (ps_ret (pe_and (pe_callB call_isi rfl M.isinstance (by decide +kernel) (pa_cons (pv 0) (pa_cons (pe_bltn (v := .ty "str") rfl M.str (by decide +kernel) rfl) pa_nil))) (pe_one (pe_cmpR (op_eqD hr.units) (pv 0) (pv 1) (nomark _)))))) pss_nil)
      (pss_cut (ps_if (pt_val (pe_callB call_isi rfl M.isinstance (by decide +kernel) (pa_cons (pv 1) (pa_cons (pe_bltn (v := .ty "list") rfl M.list (by decide +kernel) rfl) pa_nil))))
        (pss_one (ps_if (pt_not (pt_val (pe_callB call_isi rfl M.isinstance (by decide +kernel) (pa_cons (pv 0) (pa_cons (pe_bltn (v := .ty "list") rfl M.list (by decide +kernel) rfl) pa_nil))))) (pss_one (ps_ret pe_bl)) pss_nil))
        (pss_one (ps_if (pt_not (pt_val (pe_callB call_isi rfl M.isinstance (by decide +kernel) (pa_cons (pv 0) (pa_cons (pe_bltn (v := .ty "tuple") rfl M.tuple (by decide +kernel) rfl) pa_nil))))) (pss_one (ps_ret pe_bl)) pss_nil)))
      (pss_cons (ps_if (pt_cmpR op_ne (pe_callB call_len_seq rfl M.len boot_len (pa_cons (pv 0) pa_nil)) (pe_callB call_len_seq rfl M.len boot_len (pa_cons (pv 1) pa_nil)) (nomark _)) (pss_one (ps_ret pe_bl)) pss_nil)
      (pss_cons (ps_for PassesOwn.never rfl (pi_range1 rfl M.range (pa_cons (pe_callB call_len_seq rfl M.len boot_len (pa_cons (pv 1) pa_nil)) pa_nil)) (pg_name (i := 2) scAl.nd rfl (Or.inl rfl))
        (pss_one (ps_if (pt_not (pt_val (pe_call G hr rfl gF F.kp bF .nil pass0 (pa_cons (pe_ix ix_seq (pv 0) (pv 2) (fun _ _ => rfl)) (pa_cons (pe_ix ix_seq (pv 1) (pv 2) (fun _ _ => rfl)) pa_nil))))) (pss_one (ps_ret pe_bl)) pss_nil)))
      (pss_one (ps_ret pe_bl))))))))), ?_⟩
    obtain ⟨B, d, v, u, e, rfl, hv, hu, ha, q⟩ := hsp
    have t0 : ∀ {T : String} {y : Option V}, (T = "bool" ∨ T = "int" ∨ T = "str" ∨ T = "tuple" ∨ T = "list") → Ev (tCB (rIsi K) (tCons (tVar 0) (tCons (tC (.ty T)) tNil))) [some v, some u, y] B (.bl (isiB d T)) := fun h => ev_isi rfl hv ha h
    have t1 : ∀ {T : String} {y : Option V}, (T = "bool" ∨ T = "int" ∨ T = "str" ∨ T = "tuple" ∨ T = "list") → Ev (tCB (rIsi K) (tCons (tVar 1) (tCons (tC (.ty T)) tNil))) [some v, some u, y] B (.bl (isiB d T)) := fun h => ev_isi rfl hu ha h
    have teq : ((∃ b, d = .bool b) ∨ (∃ i, d = .int i) ∨ (∃ x, d = .str x ∧ SeqAt.shaped (.str x) = true)) → Ev (tOp (rEqD K) (tVar 0) (tVar 1)) [some v, some u, none] B (.bl true) := fun h => by
      obtain ⟨z1, z2⟩ := eqv_same (n := 0) h
      exact ev_bl (K := K) (ED.is (ed_op (ed_var (i := 0) rfl hv) (ed_var (i := 1) rfl hu) (rd_eq z2 z2)) (by rw [z1]))
    refine s_ifD (b := false) e (et_is (et_test (ev_op (z := .bl (decide (u = .non))) (ev_var (i := 1) (v := u) rfl) ev_c (show RV rNon u .non B _ from fun H1 e1 Q q => ⟨rfl, q H1 (Ex.refl _)⟩))) (nn_of hu ha)) (fun ht => by cases ht) fun _ H1 e1 => ?_
    have a1 := e.trans e1
    refine s_ifD (b := isiB d "bool" || isiB d "bool") a1 (et_or (et_B (t1 (by simp))) fun _ => et_B (t0 (by simp))) (fun ht H2 e2 => ?_) fun hf H2 e2 => ?_
    · have hb : ∃ b, d = .bool b := by
        rcases alN_shape ha with ⟨b, rfl⟩ | ⟨i, rfl⟩ | ⟨x, rfl, hxs⟩ | ⟨ds, rfl, _⟩ | ⟨ds, rfl, _⟩
        · exact ⟨b, rfl⟩
        all_goals exact absurd ht (by simp [isiB, tyD])
      refine s_ret ((ev_andV (t1 (by simp)) fun _ => ev_andV (t0 (by simp)) fun _ => teq (.inl hb)).mono (a1.trans e2)) fun H3 e3 => ?_
      obtain ⟨b, rfl⟩ := hb
      exact q H3 (e1.trans (e2.trans e3))
    have a2 := a1.trans e2
    refine s_ifD (b := isiB d "int") a2 (et_B (t1 (by simp))) (fun ht H3 e3 => ?_) fun hf2 H3 e3 => ?_
    · have hb : ∃ b, d = .int b := by
        rcases alN_shape ha with ⟨b, rfl⟩ | ⟨i, rfl⟩ | ⟨x, rfl, hxs⟩ | ⟨ds, rfl, _⟩ | ⟨ds, rfl, _⟩
        · exact absurd hf (by simp [isiB, tyD])
        · exact ⟨i, rfl⟩
        all_goals exact absurd ht (by simp [isiB, tyD])
      refine s_ret ((ev_andV (t0 (by simp)) fun _ => teq (.inr (.inl hb))).mono (a2.trans e3)) fun H4 e4 => ?_
      obtain ⟨b, rfl⟩ := hb
      exact q H4 (e1.trans (e2.trans (e3.trans e4)))
    have a3 := a2.trans e3
    refine s_ifD (b := isiB d "str") a3 (et_B (t1 (by simp))) (fun ht H4 e4 => ?_) fun hf3 H4 e4 => ?_
    · have hb : ∃ b, d = .str b ∧ SeqAt.shaped (.str b) = true := by
        rcases alN_shape ha with ⟨b, rfl⟩ | ⟨i, rfl⟩ | ⟨x, rfl, hxs⟩ | ⟨ds, rfl, _⟩ | ⟨ds, rfl, _⟩
        · exact absurd hf (by simp [isiB, tyD])
        · exact absurd hf2 (by simp [isiB, tyD])
        · exact ⟨x, rfl, hxs⟩
        all_goals exact absurd ht (by simp [isiB, tyD])
      refine s_ret ((ev_andV (t0 (by simp)) fun _ => teq (.inr (.inr hb))).mono (a3.trans e4)) fun H5 e5 => ?_
      obtain ⟨b, rfl, _⟩ := hb
      exact q H5 (e1.trans (e2.trans (e3.trans (e4.trans e5))))
    have a4 := a3.trans e4
    have g4 := e1.trans (e2.trans (e3.trans e4))
    -- a list or a tuple
    have sq : ∃ ds, IsSeq d ds ∧ ds.length ≤ 40000 ∧ ∀ c ∈ ds, alN n c = true := by
      rcases alN_shape ha with ⟨b, rfl⟩ | ⟨i, rfl⟩ | ⟨x, rfl, hxs⟩ | ⟨ds, rfl, h1, h2⟩ | ⟨ds, rfl, h1, h2⟩
      · exact absurd hf (by simp [isiB, tyD])
      · exact absurd hf2 (by simp [isiB, tyD])
      · exact absurd hf3 (by simp [isiB, tyD])
      · exact ⟨ds, .inl rfl, h1, h2⟩
      · exact ⟨ds, .inr rfl, h1, h2⟩
    obtain ⟨ds, hs, hz, hds⟩ := sq
    refine ⟨fun σ' H' => Ex H4 H' ∧ σ' = [some v, some u, none], ?_, ?_⟩
    · refine s_ifD (b := isiB d "list") a4 (et_B (t1 (by simp))) (fun ht H5 e5 => ?_) fun hf4 H5 e5 => ?_
      · exact s_ifD (b := !isiB d "list") (a4.trans e5) (et_not (et_B (t0 (by simp)))) (fun hf H6 e6 => by rw [ht] at hf; cases hf) fun hf H6 e6 => ⟨e5.trans e6, rfl⟩
      · have ht : isiB d "tuple" = true := by
          rcases hs with rfl | rfl
          · exact absurd hf4 (by simp [isiB, tyD])
          · simp [isiB, tyD]
        exact s_ifD (b := !isiB d "tuple") (a4.trans e5) (et_not (et_B (t0 (by simp)))) (fun hf H6 e6 => by rw [ht] at hf; cases hf) fun hf H6 e6 => ⟨e5.trans e6, rfl⟩
    rintro σ' H5 ⟨e5, rfl⟩
    have a5 := a4.trans e5
    have ln : ∀ {σ : L2.St} {i : Nat} {y : V}, σ[i]? = some (some y) → Dp K B y d → ED K (tCB (rLenS K) (tCons (tVar i) tNil)) σ B (.int ds.length) := fun {σ i y} h1 h2 => by
      rcases hs with rfl | rfl
      · exact ed_cb (eda_1 (ed_var h1 h2)) rc_len
      · exact ed_cb (eda_1 (ed_var h1 h2)) rc_lenT
    refine s_ifD (b := !decide (V.int (ds.length : Int) = .int ds.length)) a5 (et_test (ev_op (ev_int (K := K) (ln (i := 0) (y := v) rfl hv)) (ev_int (K := K) (ln (i := 1) (y := u) rfl hu)) fun H1 e1 Q q => ⟨rfl, q H1 (Ex.refl _)⟩)) (fun ht H6 e6 => by simp at ht) fun _ H6 e6 => ?_
    have a6 := a5.trans e6
    refine s_forD (K := K) (id_range (n := ds.length) (eda_1 (ln (i := 1) (y := u) rfl hu)) (by omega)) a6 fun xs B1 H7 f7 hxs => ?_
    refine ⟨fun i σ' H' => Ex H7 H' ∧ ∃ y, σ' = [some v, some u, y], ⟨Ex.refl _, _, rfl⟩, fun i σ' H' p => f7.i.trans p.1, ?_, ?_⟩
    · rintro i x c σ' H' hci hx ⟨p1, y, rfl⟩
      rw [List.getElem?_map] at hci
      have hin : i < ds.length := by
        by_cases h : i < ds.length
        · exact h
        · rw [List.getElem?_eq_none (by simpa using h)] at hci; cases hci
      have hc : c = .int (i : Int) := by rw [List.getElem?_range hin] at hci; exact (Option.some.inj hci).symm
      subst hc
      have ix : ∀ {j : Nat} {y : V}, [some v, some u, some x][j]? = some (some y) → Dp K B y d → ED K (tOp (rIx K) (tVar j) (tVar 2)) [some v, some u, some x] B1 ds[i] := fun {j y} h1 h2 => by
        have z1 := dp_ex _ y f7.b h2
        have at1 : atI ds (i : Int) = some ds[i] := atI_nat (by simp [hin])
        rcases hs with rfl | rfl
        · exact ed_op (ed_var h1 z1) (ed_var rfl hx) (rd_ixL at1)
        · exact ed_op (ed_var h1 z1) (ed_var rfl hx) (rd_ixT at1)
      refine s_ifD (b := false) (f7.i.trans p1) ?_ (fun ht => by cases ht) fun _ H8 e8 => ⟨p1.trans e8, _, rfl⟩
      intro H8 e8 Q' q'
      refine ix (j := 0) rfl hv H8 e8 _ fun y1 B9 H9 f9 hy1 => (ix (j := 1) rfl hu).mono f9.b H9 f9.i _ fun y2 B10 H10 f10 hy2 => ?_
      exact ⟨B10, ds[i], y1, y2, f10.i, rfl, dp_ex _ y1 f10.b hy1, hy2, hds _ (List.getElem_mem hin), fun H11 e11 => ⟨true, rfl, q' H11 ((f9.h.trans f10.h).trans e11)⟩⟩
    · rintro σ' H' ⟨p1, y, rfl⟩
      dsimp only
      refine s_ret (v := .bl true) (σ := [some v, some u, y]) (Ev.mono (f7.i.trans p1) ev_c) fun H8 e8 => ?_
      exact q H8 (g4.trans (e5.trans (e6.trans (f7.h.trans (p1.trans e8)))))
theorem ok_alike (M : Bn mg) (F : FnP K "_law_alike" 26 f fd) (gF : mg "_law_alike" = some (.ref f)) : ∀ n : Nat, FnOk P w K mg base CX0 (1 + n) f fd ["_law_actual", "_law_due"] (spAl K n)
  | 0 => F.ok (k := 0) scAl (fun _ _ _ _ h => by obtain ⟨_, _, _, _, _, rfl, _⟩ := h; rfl) fun _ _ _ _ _ _ _ _ _ h => by obtain ⟨_, d, _, _, _, _, _, _, h, _⟩ := h; cases d <;> cases h
  | n + 1 => al_step M F gF n (ok_alike M F gF n)
end
end K5
end

section
set_option Elab.async false
set_option linter.all false
set_option maxRecDepth 100000
set_option maxHeartbeats 2000000
/-! W16: draws over a base; _law_plain_clause. -/
namespace K5
open PySem PySem.Spec PyProof.Rows L2 GenW Evl NS DL

/-- the draws' state stands at l, outside the base -/
structure DW (l sc : Addr) (B0 H0 B H : Hp) : Prop where
  f : Fl l B0 H0 B H
  nb : B l = none
  st : StOk H l sc
  s0 : H0 sc ≠ none
theorem StOk.ne {H : Hp} {l sc : Addr} (h : StOk H l sc) : H l ≠ none := by obtain ⟨_, _, _, _, _, h1, _⟩ := h; exact some_ne h1
theorem StOk.nsc {H : Hp} {l sc : Addr} (h : StOk H l sc) : H sc ≠ none := by obtain ⟨_, _, _, _, _, _, h1, _⟩ := h; exact some_ne h1
section
variable {l sc : Addr} {B0 H0 B H B1 H1 : Hp}
theorem DW.start (e : Ex B H) (nb : B l = none) (s : StOk H l sc) : DW l sc B H B H := ⟨Fl.refl e, nb, s, s.nsc⟩
theorem DW.step (d : DW l sc B0 H0 B H) (f : Fz B H B1 H1) : DW l sc B0 H0 B1 H1 := ⟨d.f.trans (.of f), f.n l d.st.ne d.nb, d.st.up f.h, d.s0⟩
theorem DW.up (d : DW l sc B0 H0 B H) (e : Ex H H1) : DW l sc B0 H0 B H1 := ⟨d.f.up e, d.nb, d.st.up e, d.s0⟩
theorem DW.drawn (d : DW l sc B0 H0 B H) (x : Exl l H H1) (s : StOk H1 l sc) : DW l sc B0 H0 B H1 := by
  have g : Fl l B H B H1 := ⟨Ex.refl _, fun a o ha h => x a o ha h, fun a o h => x a o (fun z => by subst z; rw [d.nb] at h; cases h) (d.f.i a o h), fun a _ h => h, fun _ => s.ne⟩
  exact ⟨d.f.trans g, d.nb, s, d.s0⟩
/-- a list that is new since H0 has been appended to -/
theorem DW.app {p : Addr} (d : DW l sc B0 H0 B H) (g : Fl p B H B1 H1) (h0 : H0 p = none) (hpl : p ≠ l) : DW l sc B0 H0 B1 H1 := by
  have hps : sc ≠ p := fun z => d.s0 (z ▸ h0)
  refine ⟨⟨d.f.b.trans g.b, fun a o ha q => g.h a o (fun z => by rw [z, h0] at q; cases q) (d.f.h a o ha q), g.i, fun a h1 h2 => ?_, fun _ => ?_⟩, g.n l d.st.ne d.nb, ?_, d.s0⟩
  · refine g.n a ?_ (d.f.n a h1 h2)
    by_cases z : a = l
    · subst z; exact d.st.ne
    · cases q : H0 a with
      | none => exact absurd q h1
      | some o => exact some_ne (d.f.h a o z q)
  · cases q : H l with
    | none => exact absurd q d.st.ne
    | some o => exact some_ne (g.h l o hpl.symm q)
  · obtain ⟨ns, a, b, c, e, h1, h2, r⟩ := d.st
    exact ⟨ns, a, b, c, e, g.h _ _ hpl.symm h1, g.h _ _ hps h2, r⟩
theorem e_draw {K : PySem.W.Frag} {σ : L2.St} {i : Nat} {te : TE} {m : Int} {E : XK} {Q : VK} (d : DW l sc B0 H0 B H) (hσ : σ[i]? = some (some (.ref l))) (h : Ev te σ B (.int m)) (hm : m < 2 ^ 20)
    (k : ∀ r H1, 0 ≤ r → (r < m ∨ r = 0) → DW l sc B0 H0 B H1 → Exl l H H1 → Q (.int r) H1) : tCall (spDraw K) [] E (tCons (tVar i) (tCons te tNil)) σ H Q :=
  ⟨_, hσ, h H d.f.i _ fun H2 e2 => ⟨l, sc, m, rfl, d.st.up e2, hm, fun r H3 h1 h2 h3 h4 => k r H3 h1 h2 ((d.up e2).drawn h3 h4) fun a o ha q => h3 a o ha (e2 a o q)⟩⟩
theorem ml_drawn {K : PySem.W.Frag} {p : Addr} {ds : List PyData} (m : ML K B H p ds) (x : Exl l H H1) (hpl : p ≠ l) : ML K B H1 p ds := by
  obtain ⟨nb, xs, h1, h2⟩ := m
  exact ⟨nb, xs, x _ _ hpl h1, h2⟩
theorem Exl.ofEx {l : Addr} {H H1 : Hp} (e : Ex H H1) : Exl l H H1 := fun a o _ q => e a o q
/-- [..][draw(state, m)] -/
theorem e_pick {K : PySem.W.Frag} {σ : L2.St} {i : Nat} {tr : TA} {ns : List Int} {m : Int} {E : XK} {Q : VK} (d : DW l sc B0 H0 B H) (hσ : σ[i]? = some (some (.ref l))) (hL : EvA tr σ B (ns.map V.int)) (hm : m = (ns.length : Int)) (h0 : 0 < ns.length) (h1 : ns.length ≤ 1000)
    (k : ∀ n H1, n ∈ ns → DW l sc B0 H0 B H1 → Exl l H H1 → Q (.int n) H1) : tOp (rIx K) (tLst tr) (tCall (spDraw K) [] E (tCons (tVar i) (tCons (tC (.int m)) tNil))) σ H Q :=
  hL H d.f.i _ fun H2 e2 => ⟨sz_of (by rw [List.length_map]; omega), fun q hq => by
    have hql : q ≠ l := fun z => (d.up e2).st.ne (z ▸ hq)
    refine e_draw ((d.up e2).up (Ex.new hq)) hσ (m := m) ev_c (by omega) fun r H3 h2 h3 d3 x3 => ?_
    have hr : r.toNat < ns.length := by omega
    refine .inl ⟨q, ns.map V.int, r, .int ns[r.toNat], rfl, rfl, sq_of (x3 _ _ hql upd_same), ?_, k _ H3 (List.getElem_mem hr) d3 (((Exl.ofEx e2).trans (Exl.ofEx (Ex.new hq))).trans x3)⟩
    have e : r = ((r.toNat : Nat) : Int) := by omega
    have z : atI (ns.map V.int) ((r.toNat : Nat) : Int) = some (.int ns[r.toNat]) := atI_nat (by rw [List.getElem?_map, List.getElem?_eq_getElem hr]; rfl)
    rwa [← e] at z⟩
/-- a list of this call is taken into the base -/
theorem DW.close {K : PySem.W.Frag} {p : Addr} {ds : List PyData} (d : DW l sc B0 H0 B H) (m : ML K B H p ds) (h0 : H0 p = none) (hpl : p ≠ l) : ∃ Bx, DW l sc B0 H0 Bx H ∧ Ex B Bx ∧ Dp K Bx (.ref p) (.list ds) := by
  obtain ⟨nb, xs, h1, h2⟩ := m
  refine ⟨upd B p (.lst xs), ⟨⟨d.f.b.trans (Ex.new nb), d.f.h, fun b o hb => ?_, fun b k1 k2 => ?_, d.f.s⟩, by rw [upd_ne hpl.symm]; exact d.nb, d.st, d.s0⟩, Ex.new nb, .lst (sq_of upd_same) (dpAll_ex _ _ (Ex.new nb) h2)⟩
  · by_cases e : b = p
    · subst e; rw [upd_same] at hb; rw [h1, hb]
    · rw [upd_ne e] at hb; exact d.f.i b o hb
  · rw [upd_ne (show b ≠ p from fun z => k1 (by rw [z]; exact h0))]; exact d.f.n b k1 k2
end
end K5
end

section
/-! M1: clauses, hitting sets, duality. Plain Lean. -/
namespace Mth
section
variable {α : Type} [DecidableEq α]
abbrev Lit (α : Type) := α × Bool
def ng (l : Lit α) : Lit α := (l.1, !l.2)
theorem ng_ng (l : Lit α) : ng (ng l) = l := by
  obtain ⟨a, b⟩ := l
  simp [ng]
theorem ng_ne (l : Lit α) : ng l ≠ l := by
  obtain ⟨a, b⟩ := l
  cases b <;> simp [ng]
theorem ng_fst (l : Lit α) : (ng l).1 = l.1 := rfl
/-- a literal with the same atom is the literal or its negation -/
theorem lit_cases {l m : Lit α} (h : l.1 = m.1) : l = m ∨ l = ng m := by
  obtain ⟨a, b⟩ := l
  obtain ⟨c, d⟩ := m
  cases h
  cases b <;> cases d <;> simp [ng]

/-- not torn -/
def Con (S : List (Lit α)) : Prop := ∀ l ∈ S, ng l ∉ S
/-- some literal of c is in S -/
def Hit (c S : List (Lit α)) : Prop := ∃ l ∈ c, l ∈ S
def HitAll (cs : List (List (Lit α))) (S : List (Lit α)) : Prop := ∀ c ∈ cs, Hit c S
/-- without l -/
def wo (l : Lit α) (S : List (Lit α)) : List (Lit α) := S.filter fun m => decide (m ≠ l)
theorem mem_wo {l m : Lit α} {S : List (Lit α)} : m ∈ wo l S ↔ m ∈ S ∧ m ≠ l := by
  unfold wo
  rw [List.mem_filter, decide_eq_true_eq]
/-- least: it hits all, and does not so without any one of its literals -/
def Least (cs : List (List (Lit α))) (S : List (Lit α)) : Prop := HitAll cs S ∧ ∀ l ∈ S, ¬ HitAll cs (wo l S)

theorem Hit.mono {c S T : List (Lit α)} (h : Hit c S) (s : ∀ l ∈ S, l ∈ T) : Hit c T := by
  obtain ⟨l, h1, h2⟩ := h
  exact ⟨l, h1, s l h2⟩
theorem HitAll.mono {cs : List (List (Lit α))} {S T : List (Lit α)} (h : HitAll cs S) (s : ∀ l ∈ S, l ∈ T) : HitAll cs T := fun c hc => (h c hc).mono s
theorem Con.mono {S T : List (Lit α)} (h : Con T) (s : ∀ l ∈ S, l ∈ T) : Con S := fun l hl hn => h l (s l hl) (s _ hn)
theorem Hit.symm {c S : List (Lit α)} (h : Hit c S) : Hit S c := by
  obtain ⟨l, h1, h2⟩ := h
  exact ⟨l, h2, h1⟩

/-- every hitting set holds a least one -/
theorem exists_least (cs : List (List (Lit α))) : ∀ (n : Nat) (S : List (Lit α)), S.length ≤ n → HitAll cs S → ∃ T, T.Sublist S ∧ Least cs T
  | 0, S, hn, h => by
    have e : S = [] := List.length_eq_zero_iff.mp (by omega)
    subst e
    exact ⟨[], List.Sublist.refl _, h, fun l hl => by cases hl⟩
  | n + 1, S, hn, h => by
    by_cases q : ∃ l ∈ S, HitAll cs (wo l S)
    · obtain ⟨l, hl, q⟩ := q
      have hlt : (wo l S).length < S.length := by
        unfold wo
        refine Nat.lt_of_le_of_ne (List.length_filter_le _ _) fun e => ?_
        have := List.length_filter_eq_length_iff.mp e l hl
        simp at this
      obtain ⟨T, t1, t2⟩ := exists_least cs n (wo l S) (by omega) q
      exact ⟨T, t1.trans List.filter_sublist, t2⟩
    · exact ⟨S, List.Sublist.refl _, h, fun l hl z => q ⟨l, hl, z⟩⟩

/-- the literals of a least set stand in the clauses -/
theorem Least.mem {cs : List (List (Lit α))} {S : List (Lit α)} (h : Least cs S) {l : Lit α} (hl : l ∈ S) : ∃ c ∈ cs, l ∈ c := by
  have q := h.2 l hl
  refine Classical.byContradiction fun z => q fun c hc => ?_
  obtain ⟨m, h1, h2⟩ := h.1 c hc
  exact ⟨m, h1, mem_wo.mpr ⟨h2, fun e => z ⟨c, hc, e ▸ h1⟩⟩⟩
/-- two families that the untorn sets hit alike have the same least untorn sets -/
theorem Least.congr {cs ds : List (List (Lit α))} {S : List (Lit α)} (h : Least cs S) (hc : Con S) (e : ∀ T, Con T → (∀ l ∈ T, l ∈ S) → (HitAll cs T ↔ HitAll ds T)) : Least ds S :=
  ⟨(e S hc fun _ z => z).mp h.1, fun l hl z => h.2 l hl ((e _ (hc.mono fun m hm => (mem_wo.mp hm).1) fun m hm => (mem_wo.mp hm).1).mpr z)⟩
/-- a least set is no more than a hitting set within it -/
theorem Least.sub {cs : List (List (Lit α))} {S T : List (Lit α)} (h : Least cs S) (ht : HitAll cs T) (s : ∀ l ∈ T, l ∈ S) : ∀ l ∈ S, l ∈ T := fun l hl =>
  Classical.byContradiction fun z => h.2 l hl (ht.mono fun m hm => mem_wo.mpr ⟨s m hm, fun e => z (e ▸ hm)⟩)

/-! ### lists of least sets -/
/-- the list holds, up to order within, just the least untorn sets -/
structure Units (cs us : List (List (Lit α))) : Prop where
  con : ∀ u ∈ us, Con u
  least : ∀ u ∈ us, Least cs u
  all : ∀ S, Con S → Least cs S → ∃ u ∈ us, ∀ l, l ∈ u ↔ l ∈ S
theorem Units.within {cs us : List (List (Lit α))} (U : Units cs us) {S : List (Lit α)} (hc : Con S) (h : HitAll cs S) : ∃ u ∈ us, ∀ l ∈ u, l ∈ S := by
  obtain ⟨T, t1, t2⟩ := exists_least cs _ S (Nat.le_refl _) h
  obtain ⟨u, hu, e⟩ := U.all T (hc.mono fun l hl => t1.mem hl) t2
  exact ⟨u, hu, fun l hl => t1.mem ((e l).mp hl)⟩

/-- the units of the units of the units -/
theorem units_thrice {cs us fs : List (List (Lit α))} (pl : ∀ c ∈ cs, Con c) (U : Units cs us) (F : Units us fs) {S : List (Lit α)} (hc : Con S) : HitAll fs S ↔ HitAll cs S := by
  constructor
  · intro h c hcc
    have hh : HitAll us c := fun u hu => ((U.least u hu).1 c hcc).symm
    obtain ⟨f, hf, s⟩ := F.within (pl c hcc) hh
    obtain ⟨l, h1, h2⟩ := h f hf
    exact ⟨l, s l h1, h2⟩
  · intro h f hf
    obtain ⟨u, hu, s⟩ := U.within hc h
    obtain ⟨l, h1, h2⟩ := (F.least f hf).1 u hu
    exact ⟨l, h2, s l h1⟩
/-- worlds: total over the atoms, untorn, meeting all clauses; every such total one is listed -/
structure Worlds (as : List α) (cs ws : List (List (Lit α))) : Prop where
  con : ∀ w ∈ ws, Con w
  tot : ∀ w ∈ ws, ∀ a ∈ as, (a, true) ∈ w ∨ (a, false) ∈ w
  hit : ∀ w ∈ ws, HitAll cs w
  all : ∀ p : α → Bool, (∀ c ∈ cs, ∃ l ∈ c, p l.1 = l.2) → ∃ w ∈ ws, ∀ l, l ∈ w ↔ l.1 ∈ as ∧ p l.1 = l.2
/-- a set over the atoms hits all units just where it hits all worlds -/
theorem units_worlds {as : List α} {cs us ws : List (List (Lit α))} (W : Worlds as cs ws) (U : Units cs us) (hcs : ∀ c ∈ cs, ∀ l ∈ c, l.1 ∈ as) {S : List (Lit α)} (hc : Con S) (hS : ∀ l ∈ S, l.1 ∈ as) : HitAll us S ↔ HitAll ws S := by
  constructor
  · intro h w hw
    obtain ⟨u, hu, s⟩ := U.within (W.con w hw) (W.hit w hw)
    exact ((h u hu).symm.mono s).symm
  · intro h u hu
    refine Classical.byContradiction fun z => ?_
    -- a world that holds u and denies S
    have q := W.all (fun a => if (a, true) ∈ u then true else if (a, false) ∈ u then false else decide ((a, true) ∉ S)) fun c hcc => by
      obtain ⟨l, h1, h2⟩ := (U.least u hu).1 c hcc
      refine ⟨l, h1, ?_⟩
      obtain ⟨a, b⟩ := l
      cases b with
      | true => simp [h2]
      | false =>
        have : (a, true) ∉ u := fun e => U.con u hu _ e h2
        simp [h2, this]
    obtain ⟨w, hw, e⟩ := q
    obtain ⟨l, h1, h2⟩ := h w hw
    have e1 := ((e l).mp h1).2
    have hlu : l ∉ u := fun y => z ⟨l, y, h2⟩
    obtain ⟨a, b⟩ := l
    simp only at e1
    cases b with
    | true =>
      rw [if_neg hlu] at e1
      by_cases y : (a, false) ∈ u
      · rw [if_pos y] at e1; exact absurd e1 (by decide)
      · rw [if_neg y] at e1
        exact (of_decide_eq_true e1) h2
    | false =>
      by_cases y : (a, true) ∈ u
      · rw [if_pos y] at e1; exact absurd e1 (by decide)
      · rw [if_neg y, if_neg hlu] at e1
        have := of_decide_eq_false e1
        exact this fun x => hc _ x h2
end
end Mth
end

section
set_option Elab.async false
set_option linter.all false
set_option maxRecDepth 100000
set_option maxHeartbeats 2000000
/-! W17: _law_plain_clause. -/
namespace K5
open PySem PySem.Spec PyProof.Rows L2 GenW Evl NS DL

def spPlain (K : PySem.W.Frag) : Sp := fun vs H Q _ => ∃ (B : Hp) (E : At → PyData) (as : List At) (l sc : Addr) (v : V), Ex B H ∧ AtOk E ∧ vs = [.ref l, v] ∧ B l = none ∧ StOk H l sc ∧ Dp K B v (.list (as.map E)) ∧ as ≠ [] ∧ as.length ≤ 5 ∧
  ∀ (c : Cl) r B2 H2, (c.map (·.1)).Nodup → (∀ x ∈ c, x.1 ∈ as) → c.length ≤ 3 → DW l sc B H B2 H2 → Dp K B2 r (clD E (c.mergeSort (leOf (litD E)))) → Q r H2
section
variable {P : Program} {w : World} {K : PySem.W.Frag} {mg : Str → Option Value} {base : Heap} {f fD : Addr} {fd fdD : FuncData}
abbrev nPc : List PySem.Str := ["_law_state_here", "_law_atoms", "_law_found", "_law_k", "_law_atom", "_law_literal"]
theorem scPc : FnScope nPc ["_law_state_here", "_law_atoms"] (defScope (top 36)) := ⟨rfl, rfl, rfl, by decide +kernel, rfl, by decide +kernel, by decide +kernel⟩
theorem ok_plain (M : Bn mg) (F : FnP K "_law_plain_clause" 36 f fd) (FD : FnP K "_law_draw" 25 fD fdD) (gD : mg "_law_draw" = some (.ref fD)) : FnOk P w K mg base CX0 2 f fd ["_law_state_here", "_law_atoms"] (spPlain K) := by
  have GD : FnOk P w K mg base CX0 1 fD fdD ["_law_state_here", "_law_many"] (spDraw K) := ok_draw M FD
  have bD : Binds K fdD ["_law_state_here", "_law_many"] [] := FD.bindsN fun _ _ _ _ _ _ us hl => match us, hl with | [_, _], _ => rfl
  refine F.ok scPc (fun vs H Q E hsp => ?_) (fun cdv A outer s H vs Q E hr hsp => ?_)
  · obtain ⟨_, _, _, _, _, _, _, _, rfl, _⟩ := hsp
    rfl
  · refine ⟨_, PSs.nox (pss_cons (ps_set (i := 2) scPc.nd rfl (Or.inl rfl) (pe_lst pa_nil))
      (pss_cons (ps_for PassesOwn.never rfl (pi_range1 rfl M.range (pa_cons (pe_ix ix_seq (pe_lst (pa_cons pe_int (pa_cons pe_int (pa_cons pe_int (pa_cons pe_int (pa_cons pe_int (pa_cons pe_int (pa_cons pe_int (pa_cons pe_int pa_nil)))))))))
          (pe_call GD hr rfl gD FD.kp bD .nil pass0 (pa_cons (pv 0) (pa_cons pe_int pa_nil))) (fun _ _ => rfl)) pa_nil)) (pg_name (i := 3) scPc.nd rfl (Or.inl rfl))
        (pss_cons (ps_set (i := 4) scPc.nd rfl (Or.inl rfl) (pe_ix ix_seq (pv 1) (pe_call GD hr rfl gD FD.kp bD .nil pass0 (pa_cons (pv 0) (pa_cons (pe_callB call_len_seq rfl M.len boot_len (pa_cons (pv 1) pa_nil)) pa_nil))) (fun _ _ => rfl)))
        (pss_one (ps_if (pt_cmpR (r := rInS K true) (op_notInS (u65 hr)) (pv 4)
            (pe_lc (own := [("_law_literal", 5)]) (te := tOp (rIx K) (tVar 5) (tC (.int 0))) rfl scPc.nd (pi_list (pv 2)) (blkOk_by (own := [("_law_literal", 5)]) (N := nPc) (sc := defScope (top 36)) (by decide +kernel)) (fun _ _ _ _ _ => pg_name (i := 5) scPc.nd rfl (Or.inl rfl))
              (fun _ _ _ _ _ => pts_nil) (fun _ _ _ _ _ => pe_ix (r := rIx K) ix_seq (pv 5) pe_int (fun _ _ => rfl))) (by with_unfolding_all rfl))
          (pss_one (ps_expr (pe_bm PySem.F.plainAttrs_list PySem.F.slot_list_append PySem.F.type_list_append mt_append (pv 2) (pa_cons (pe_tup (pa_cons (pv 4) (pa_cons (pe_cmpR op_eq (pe_call GD hr rfl gD FD.kp bD .nil pass0 (pa_cons (pv 0) (pa_cons pe_int pa_nil))) pe_int (nomark _)) pa_nil))) pa_nil)))) pss_nil))))
      (pss_one (ps_ret (pe_callTy call_tuple_of rfl M.tuple (by decide +kernel) (pa_cons (pe_callB (cr_sortedD hr.units) rfl M.sorted (by decide +kernel) (pa_cons (pv 2) pa_nil)) pa_nil)))))), ?_⟩
    obtain ⟨B, E, as, l, sc, v, e, O, rfl, hl, hS, hv, hne, hle, q⟩ := hsp
    have hp_ne : ∀ p, H p = none → p ≠ l := fun p hp z => hS.ne (z ▸ hp)
    refine ⟨Nat.zero_le _, fun p hp => ?_⟩
    have hpl := hp_ne p hp
    have d1 : DW l sc B H B (upd H p (.lst [])) := (DW.start e hl hS).up (Ex.new hp)
    have m1 : ML K B (upd H p (.lst [])) p [] := ⟨fresh_back e hp, [], upd_same, .nil⟩
    generalize upd H p (.lst []) = H1 at d1 m1
    dsimp only [gName]
    refine e_pick d1 rfl (ns := [2, 1, 3, 2, 3, 1, 2, 0]) (ea_cons ev_c (ea_cons ev_c (ea_cons ev_c (ea_cons ev_c (ea_cons ev_c (ea_cons ev_c (ea_cons ev_c (ea_cons ev_c ea_nil)))))))) rfl (by decide) (by decide) fun n H2 hn d2 x2 => ?_
    have hn3 : 0 ≤ n ∧ n ≤ 3 := by revert n; decide
    have m2 := ml_drawn m1 x2 hpl
    refine ⟨n, rfl, by omega, by omega, for_range (lo := 0) (n := n.toNat) (fun i σ' H' => ∃ B2 c, DW l sc B H B2 H' ∧ ML K B2 H' p (c.map (litD E)) ∧ (c.map (·.1)).Nodup ∧ (∀ x ∈ c, x.1 ∈ as) ∧ c.length ≤ i ∧ ∃ y z, σ' = [some (.ref l), some v, some (.ref p), y, z, none])
      ⟨B, [], d2, m2, .nil, by simp, Nat.le_refl _, _, _, rfl⟩ ?_ ?_⟩
    · rintro i σ' H3 hi ⟨B3, c, d3, m3, nd, hc, hcl, y, z, rfl⟩
      have hv3 := dp_ex _ v d3.f.b hv
      dsimp only [gName]
      refine ⟨v, rfl, ?_⟩
      refine e_draw d3 rfl (m := (as.length : Int)) (ev_int (K := K) (ED.is (ed_cb (eda_1 (ed_var (i := 1) (v := v) rfl hv3)) rc_len) (by rw [List.length_map]))) (by omega) fun r H4 r0 r1 d4 x4 => ?_
      have hlen : 0 < as.length := List.length_pos_iff.mpr hne
      have hr : r.toNat < as.length := by omega
      have ha : as[r.toNat] ∈ as := List.getElem_mem hr
      have hat : atI (as.map E) r = some (E as[r.toNat]) := by
        have er : r = ((r.toNat : Nat) : Int) := by omega
        have z : atI (as.map E) ((r.toNat : Nat) : Int) = some (E as[r.toNat]) := atI_nat (by rw [List.getElem?_map, List.getElem?_eq_getElem hr]; rfl)
        rwa [← er] at z
      generalize as[r.toNat] = a at ha hat
      refine rd_ixL (K := K) hat B3 H4 d4.f.i v (.int r) hv3 (.int r) _ fun av B5 H5 f5 hav => ?_
      have d5 := d4.step f5
      have m5 := (ml_drawn m3 x4 hpl).step f5
      dsimp only [gName]
      obtain ⟨Bx, dx, ex, hx⟩ := d5.close m5 hp hpl
      have shp := shaped_list (f := E) O.lay O.dep (by omega : 4 ≤ 60)
      refine s_ifD (b := !decide (a ∈ c.map (·.1))) dx.f.i (et_d (K := K) (ED.is (ed_op (ed_var (i := 4) (v := av) rfl (dp_ex _ av ex hav)) (ED.is (ed_lcY (litD E) c (fun x => E x.1) (id_list (ed_var (i := 2) rfl hx)) (by omega) (fun y => rfl) fun i x y B1 e1 hi hy => ed_op (ed_var rfl hy) ed_int (rd_ixT atI_0)) (show PyData.list (c.map fun x => E x.1) = PyData.list ((c.map (·.1)).map E) by rw [List.map_map]; rfl)) (rd_in (shaped_at O a) (shp _) (.inl rfl))) (by rw [any_at O]; rfl))) (fun ht H6 e6 => ?_) fun hf H6 e6 => ?_
      · have hnew : a ∉ c.map (·.1) := by simpa using ht
        have m6 := m5.up e6
        have d6 := d5.up e6
        have hl6 := m6.ex
        obtain ⟨xs6, hxs6, _⟩ := hl6
        refine ⟨_, rfl, .inl ⟨rfl, xs6, sq_of hxs6⟩, ⟨av, rfl, ?_⟩⟩
        refine e_draw d6 rfl (m := 2) ev_c (by decide) fun t H7 t0 t1 d7 x7 => ?_
        refine ⟨rfl, sz_of (by show 2 ≤ _; omega), fun q hq => ?_⟩
        have f8 := Fz.new (o := .tup [av, .bl (decide (V.int t = .int 0))]) d7.f.i hq
        have d8 := d7.step f8
        have m8 := (ml_drawn m6 x7 hpl).step f8
        obtain ⟨n8, xs8, h81, h82⟩ := m8
        refine ⟨p, xs8, .ref q, rfl, rfl, h81, sz_lt (by rw [h82.length, List.length_map]; omega), ?_⟩
        have g9 : Fl p _ _ _ (upd _ p (.lst (xs8 ++ [.ref q]))) := ⟨Ex.refl _, fun b o hb q => by rw [upd_ne hb]; exact q, Ex.mut d8.f.i n8, fun _ _ h => h, fun _ => by rw [upd_same]; simp⟩
        refine ⟨_, c ++ [(a, decide (V.int t = .int 0))], d8.app g9 hp hpl, ⟨n8, _, upd_same, ?_⟩, ?_, ?_, ?_, _, _, rfl⟩
        · rw [List.map_append]
          exact h82.append (.one (.tup (st_of upd_same) (.cons (dp_ex _ av f8.b hav) (.one (.bl _)))))
        · rw [List.map_append]
          exact List.nodup_append.mpr ⟨nd, by simp, fun x hx y hy e => hnew (by rw [e, List.mem_singleton.mp hy] at hx; exact hx)⟩
        · intro x hx
          rcases List.mem_append.mp hx with z | z
          · exact hc x z
          · rw [List.mem_singleton.mp z]; exact ha
        · rw [List.length_append]; simp only [List.length_cons, List.length_nil]; omega
      · exact ⟨B5, c, d5.up e6, m5.up e6, nd, hc, by omega, _, _, rfl⟩
    · rintro σ' H3 ⟨B3, c, d3, m3, nd, hc, hcl, y, z, rfl⟩
      obtain ⟨Bx, dx, ex, hx⟩ := d3.close m3 hp hpl
      dsimp only
      refine s_retD (K := K) (B := Bx) (d := clD E (c.mergeSort (leOf (litD E)))) (ed_cb (eda_1 (ed_cb (eda_1 (ed_var (i := 2) rfl hx)) (rc_sorted ((enc_lit O).srt c)))) (by rw [sort_enc]; exact rc_tuple)) dx.f.i fun r B4 H4 f4 hr' => ?_
      exact q c r B4 H4 nd hc (by omega) (dx.step f4) hr'
end
end K5
end

section
set_option Elab.async false
set_option linter.all false
set_option maxRecDepth 100000
set_option maxHeartbeats 2000000
/-! W18: _law_atom_row. -/
namespace K5
open PySem PySem.Spec PyProof.Rows L2 GenW Evl NS DL

def sgn (n : Nat) : PySem.Str := ⟨#[97 + n % 6]⟩
def atomD (style shift k : Nat) : PyData :=
  if style = 0 then .tuple [.str "o", .str "word", .str (sgn (k + shift) ++ (toString (9 - (k : Int)) : String))]
  else if style = 1 then .tuple [.str (sgn (k + shift)), .str "word", .str "w"]
  else if style = 2 then .tuple [.str "t", .str "below", .str "x", .str (sgn (k + shift))]
  else if style = 3 then .tuple [.str (sgn (k + shift) ++ "1"), .str "turn", .str "x", .str "y", .int ((k % 3 : Nat) : Int)]
  else if style = 4 then .tuple [.str "", .str "same", .str (sgn (k + shift)), .str "x"]
  else .tuple [.str "u", .str "equal", .tuple [.str (sgn (k + shift))], .tuple [.str "g", .tuple [.str "x"]]]
def atomE (style shift : Nat) (a : At) : PyData := atomD style shift a.val
theorem atomE_eqv : ∀ st sh : Fin 6, ∀ a b : Fin 5, PyData.eqv (atomE st.val sh.val a) (atomE st.val sh.val b) = decide (a = b) := by decide +kernel
theorem atomE_inj : ∀ st sh : Fin 6, ∀ a b : Fin 5, nk (atomE st.val sh.val a) = nk (atomE st.val sh.val b) → a = b := by decide +kernel
theorem atomE_alike : ∀ st sh : Fin 6, ∀ a b : Fin 5, PySem.W.alike (atomE st.val sh.val a) (atomE st.val sh.val b) = true := by decide +kernel
theorem atomE_kb : ∀ st sh : Fin 6, ∀ a : Fin 5, NS.kb (atomE st.val sh.val a) = true := by decide +kernel
theorem atomE_nk : ∀ st sh : Fin 6, ∀ a : Fin 5, (nk (atomE st.val sh.val a)).depth ≤ 4 := by decide +kernel
theorem atomE_lay : ∀ st sh : Fin 6, ∀ a : Fin 5, (atomE st.val sh.val a).canLay0 = true := by decide +kernel
theorem atomE_dep : ∀ st sh : Fin 6, ∀ a : Fin 5, (atomE st.val sh.val a).depth ≤ 4 := by decide +kernel
theorem atomE_al : ∀ st sh : Fin 6, ∀ a : Fin 5, alN 4 (atomE st.val sh.val a) = true := by decide +kernel
theorem atomE_tup (st sh : Nat) (a : At) : ∃ x r, atomE st sh a = .tuple (x :: r) := by
  unfold atomE atomD
  (repeat' split) <;> exact ⟨_, _, rfl⟩
theorem atomE_ok (st sh : Fin 6) : AtOk (atomE st.val sh.val) := ⟨atomE_eqv st sh, atomE_inj st sh, atomE_alike st sh, atomE_tup _ _, atomE_kb st sh, atomE_nk st sh, atomE_lay st sh, atomE_dep st sh⟩
def ats (n : Nat) : List At := (List.finRange 5).take n
theorem ats_next {i : Nat} (h : i < 5) : ats (i + 1) = ats i ++ [⟨i, h⟩] := by
  unfold ats
  exact take_nextP (by rw [List.getElem?_eq_getElem (by simp; exact h)]; simp)
theorem ats_len {n : Nat} (h : n ≤ 5) : (ats n).length = n := by
  unfold ats; rw [List.length_take, List.length_finRange]; omega
def spRow (K : PySem.W.Frag) : Sp := fun vs H Q _ => ∃ (B : Hp) (l sc : Addr) (n : Nat), Ex B H ∧ vs = [.ref l, .int (n : Int)] ∧ B l = none ∧ StOk H l sc ∧ n ≤ 5 ∧
  ∀ (st sh : Fin 6) r B2 H2, DW l sc B H B2 H2 → Dp K B2 r (.list ((ats n).map (atomE st.val sh.val))) → Q r H2
theorem num_log : ∀ m : Fin 5, (9 - (m.val : Int)).natAbs.log2 < 1920 := by decide +kernel
theorem num_len : ∀ m : Fin 5, (PySem.Str.ofString (toString (9 - (m.val : Int)))).length ≤ 10 := by decide +kernel
theorem sign_at : ∀ m : Fin 6, atI ("abcdef" : PySem.Str).cps.toList (m.val : Int) = some (97 + m.val) := by decide +kernel
section
variable {P : Program} {w : World} {K : PySem.W.Frag} {mg : Str → Option Value} {base : Heap} {f fD : Addr} {fd fdD : FuncData}
theorem rd_catS {x y : PySem.Str} (h : x.length + y.length ≤ 100000) : RD2 K (fun x y H Q => ∃ i j, x = .str i ∧ y = .str j ∧ i.length + j.length ≤ sizeLine ∧ Q (.str (i ++ j)) H) (.str x) (.str y) (.str (x ++ y)) := fun B H a u v hx hy Q q => ⟨x, y, hx.strI, hy.strI, sz_of h, q _ B H (.refl a) (.str _)⟩
theorem rc_strI {i : Int} (h : i.natAbs.log2 < 1920) : RDC K (fun xs H Q => ∃ i, xs = [.int i] ∧ i.natAbs.log2 < 1920 ∧ Q (.str (toString i)) H) [.int i] (.str (toString i)) := fun B H a vs hv Q q => by
  obtain ⟨v, rfl, h1⟩ := dpAll_1 hv
  exact ⟨i, by rw [h1.intI], h, q _ B H (.refl a) (.str _)⟩
theorem rc_int1 {i : Int} : RDC K (fun xs H Q => (∃ i, xs = [.int i] ∧ Q (.int i) H) ∨ ∃ k, xs = [.bl k] ∧ Q (.int (if k then 1 else 0)) H) [.int i] (.int i) := fun B H a vs hv Q q => by
  obtain ⟨v, rfl, h1⟩ := dpAll_1 hv
  exact .inl ⟨i, by rw [h1.intI], q _ B H (.refl a) (.int _)⟩
theorem fin6 {r : Int} (h0 : 0 ≤ r) (h1 : r < 6 ∨ r = 0) : ∃ st : Fin 6, r = (st.val : Int) := ⟨⟨r.toNat, by omega⟩, by show r = ((r.toNat : Nat) : Int); omega⟩
abbrev nAr : List PySem.Str := ["_law_state_here", "_law_count", "_law_style", "_law_shift", "_law_atoms", "_law_k", "_law_sign"]
theorem scAr : FnScope nAr ["_law_state_here", "_law_count"] (defScope (top 27)) := ⟨rfl, rfl, rfl, by decide +kernel, rfl, by decide +kernel, by decide +kernel⟩
theorem ok_row (M : Bn mg) (F : FnP K "_law_atom_row" 27 f fd) (FD : FnP K "_law_draw" 25 fD fdD) (gD : mg "_law_draw" = some (.ref fD)) : FnOk P w K mg base CX0 2 f fd ["_law_state_here", "_law_count"] (spRow K) := by
  have GD : FnOk P w K mg base CX0 1 fD fdD ["_law_state_here", "_law_many"] (spDraw K) := ok_draw M FD
  have bD : Binds K fdD ["_law_state_here", "_law_many"] [] := FD.bindsN fun _ _ _ _ _ _ us hl => match us, hl with | [_, _], _ => rfl
  refine F.ok scAr (fun vs H Q E hsp => ?_) (fun cdv A outer s H vs Q E hr hsp => ?_)
  · obtain ⟨_, _, _, _, _, rfl, _⟩ := hsp
    rfl
  · refine ⟨_, PSs.nox (pss_cons (ps_set (i := 2) scAr.nd rfl (Or.inl rfl) (pe_call GD hr rfl gD FD.kp bD .nil pass0 (pa_cons (pv 0) (pa_cons pe_int pa_nil))))
      (pss_cons (ps_set (i := 3) scAr.nd rfl (Or.inl rfl) (pe_call GD hr rfl gD FD.kp bD .nil pass0 (pa_cons (pv 0) (pa_cons pe_int pa_nil))))
      (pss_cons (ps_set (i := 4) scAr.nd rfl (Or.inl rfl) (pe_lst pa_nil))
      (pss_cons (ps_for PassesOwn.never rfl (pi_range1 rfl M.range (pa_cons (pv 1) pa_nil)) (pg_name (i := 5) scAr.nd rfl (Or.inl rfl))
        (pss_cons (ps_set (i := 6) scAr.nd rfl (Or.inl rfl) (pe_ix ix_seq pe_str (pe_op op_mod (pe_callTy call_int1 rfl M.int (by decide +kernel) (pa_cons (pe_op op_add (pv 5) (pv 3)) pa_nil)) pe_int) (fun _ _ => rfl)))
        (pss_one (ps_if (pt_cmpR op_eq (pv 2) pe_int (nomark _))
          (pss_one (ps_expr (pe_bm PySem.F.plainAttrs_list PySem.F.slot_list_append PySem.F.type_list_append mt_append (pv 4) (pa_cons (pe_tup (pa_cons pe_str (pa_cons pe_str (pa_cons (pe_op op_add_str (pv 6) (pe_callTy call_str_int rfl M.str (by decide +kernel) (pa_cons (pe_op op_sub pe_int (pv 5)) pa_nil))) pa_nil)))) pa_nil))))
          (pss_one (ps_if (pt_cmpR op_eq (pv 2) pe_int (nomark _))
            (pss_one (ps_expr (pe_bm PySem.F.plainAttrs_list PySem.F.slot_list_append PySem.F.type_list_append mt_append (pv 4) (pa_cons (pe_tup (pa_cons (pv 6) (pa_cons pe_str (pa_cons pe_str pa_nil)))) pa_nil))))
            (pss_one (ps_if (pt_cmpR op_eq (pv 2) pe_int (nomark _))
              (pss_one (ps_expr (pe_bm PySem.F.plainAttrs_list PySem.F.slot_list_append PySem.F.type_list_append mt_append (pv 4) (pa_cons (pe_tup (pa_cons pe_str (pa_cons pe_str (pa_cons pe_str (pa_cons (pv 6) pa_nil))))) pa_nil))))
              (pss_one (ps_if (pt_cmpR op_eq (pv 2) pe_int (nomark _))
                (pss_one (ps_expr (pe_bm PySem.F.plainAttrs_list PySem.F.slot_list_append PySem.F.type_list_append mt_append (pv 4) (pa_cons (pe_tup (pa_cons (pe_op op_add_str (pv 6) pe_str) (pa_cons pe_str (pa_cons pe_str (pa_cons pe_str (pa_cons (pe_op op_mod (pe_callTy call_int1 rfl M.int (by decide +kernel) (pa_cons (pv 5) pa_nil)) pe_int) pa_nil)))))) pa_nil))))
                (pss_one (ps_if (pt_cmpR op_eq (pv 2) pe_int (nomark _))
                  (pss_one (ps_expr (pe_bm PySem.F.plainAttrs_list PySem.F.slot_list_append PySem.F.type_list_append mt_append (pv 4) (pa_cons (pe_tup (pa_cons pe_str (pa_cons pe_str (pa_cons (pv 6) (pa_cons pe_str pa_nil))))) pa_nil))))
                  (pss_one (ps_expr (pe_bm PySem.F.plainAttrs_list PySem.F.slot_list_append PySem.F.type_list_append mt_append (pv 4) (pa_cons (pe_tup (pa_cons pe_str (pa_cons pe_str (pa_cons (pe_tup (pa_cons (pv 6) pa_nil)) (pa_cons (pe_tup (pa_cons pe_str (pa_cons (pe_tup (pa_cons pe_str pa_nil)) pa_nil))) pa_nil))))) pa_nil))))))))))))))))
      (pss_one (ps_ret (pv 4))))))), ?_⟩
    obtain ⟨B, l, sc, n, e, rfl, hl, hS, hn, q⟩ := hsp
    have hp_ne : ∀ p, H p = none → p ≠ l := fun p hp z => hS.ne (z ▸ hp)
    refine e_draw (DW.start e hl hS) rfl (m := 6) ev_c (by decide) fun r1 H1 h10 h11 d1 x1 => ?_
    obtain ⟨st, rfl⟩ := fin6 h10 h11
    dsimp only [gName]
    refine e_draw d1 rfl (m := 6) ev_c (by decide) fun r2 H2 h20 h21 d2 x2 => ?_
    obtain ⟨sh, rfl⟩ := fin6 h20 h21
    dsimp only [gName]
    refine ⟨Nat.zero_le _, fun p hp => ?_⟩
    have hp0 : H p = none := by
      by_cases z : p = l
      · subst z; exact absurd hp d2.st.ne
      · cases hq : H p with
        | none => rfl
        | some o => rw [d2.f.h p o z hq] at hp; cases hp
    have hpl := hp_ne p hp0
    have d3 : DW l sc B H B (upd H2 p (.lst [])) := d2.up (Ex.new hp)
    have m3 : ML K B (upd H2 p (.lst [])) p [] := ⟨fresh_back e hp0, [], upd_same, .nil⟩
    generalize upd H2 p (.lst []) = H3 at d3 m3
    dsimp only [gName]
    refine ⟨_, rfl, (n : Int), rfl, by omega, by omega, for_range (lo := 0) (n := n) (fun i σ' H' => ∃ B2, DW l sc B H B2 H' ∧ ML K B2 H' p ((ats i).map (atomE st.val sh.val)) ∧ ∃ y z, σ' = [some (.ref l), some (.int (n : Int)), some (.int (st.val : Int)), some (.int (sh.val : Int)), some (.ref p), y, z])
      ⟨B, d3, m3, _, _, rfl⟩ ?_ ?_⟩
    · rintro i σ' H4 hi ⟨B4, d4, m4, y, z, rfl⟩
      dsimp only [gName]
      have h5 : i < 5 := by omega
      have sg : ED K (tOp (rIx K) (tC (.str "abcdef")) (tOp (rI (fun _ j => 0 < j) fun i j => .int (i % j)) (tCB (fun xs H Q => (∃ i, xs = [.int i] ∧ Q (.int i) H) ∨ ∃ k, xs = [.bl k] ∧ Q (.int (if k then 1 else 0)) H) (tCons (tOp (rI0 fun i j => .int (i + j)) (tVar 5) (tVar 3)) tNil)) (tC (.int 6)))) [some (.ref l), some (.int (n : Int)), some (.int (st.val : Int)), some (.int (sh.val : Int)), some (.ref p), some (.int (0 + (i : Int))), z] B4 (.str (sgn (i + sh.val))) := by
        refine ed_op (d := .str "abcdef") ed_str (ed_op (ed_cb (eda_1 (ed_op (ed_var (i := 5) rfl (.int _)) (ed_var (i := 3) rfl (.int _)) (rd_I0 (g := fun i j => i + j)))) rc_int1) ed_int (rd_I (C := fun _ j => 0 < j) (g := fun i j => i % j) (by decide))) (rd_ixS (by decide) ?_)
        have e6 : ((0 + (i : Int)) + (sh.val : Int)) % 6 = (((⟨(i + sh.val) % 6, Nat.mod_lt _ (by decide)⟩ : Fin 6).val : Nat) : Int) := by show _ = (((i + sh.val) % 6 : Nat) : Int); omega
        rw [e6]
        exact sign_at _
      refine q_asgD (K := K) sg d4.f.i fun sv B5 H5 f5 hsv => ?_
      obtain rfl := hsv.strI
      have d5 := d4.step f5
      have m5 := m4.step f5
      have s6 : ∀ {B' : Hp}, ED K (tVar 6) [some (.ref l), some (.int (n : Int)), some (.int (st.val : Int)), some (.int (sh.val : Int)), some (.ref p), some (.int (0 + (i : Int))), some (.str (sgn (i + sh.val)))] B' (.str (sgn (i + sh.val))) := fun {B'} => ed_var rfl (.str _)
      have s5 : ∀ {B' : Hp}, ED K (tVar 5) [some (.ref l), some (.int (n : Int)), some (.int (st.val : Int)), some (.int (sh.val : Int)), some (.ref p), some (.int (0 + (i : Int))), some (.str (sgn (i + sh.val)))] B' (.int (0 + (i : Int))) := fun {B'} => ed_var rfl (.int _)
      have test : ∀ k : Int, EvT (tTest (tOp rEq (tVar 2) (tC (.int k)))) [some (.ref l), some (.int (n : Int)), some (.int (st.val : Int)), some (.int (sh.val : Int)), some (.ref p), some (.int (0 + (i : Int))), some (.str (sgn (i + sh.val)))] B5 (decide (V.int (st.val : Int) = .int k)) := fun k => et_test (ev_op (ev_var (i := 2) rfl) ev_c (rv_eq rfl))
      have app : ∀ {te : TE} {H6 : Hp} {D : Ends} {d : PyData}, Ex H5 H6 → d = atomE st.val sh.val ⟨i, h5⟩ → ED K te [some (.ref l), some (.int (n : Int)), some (.int (st.val : Int)), some (.int (sh.val : Int)), some (.ref p), some (.int (0 + (i : Int))), some (.str (sgn (i + sh.val)))] B5 d →
          (∀ B' H', DW l sc B H B' H' → ML K B' H' p ((ats (i + 1)).map (atomE st.val sh.val)) → D.nx [some (.ref l), some (.int (n : Int)), some (.int (st.val : Int)), some (.int (sh.val : Int)), some (.ref p), some (.int (0 + (i : Int))), some (.str (sgn (i + sh.val)))] H') →
          tDrop (tBM K "list" rAppend (tVar 4) (tCons te tNil)) D [some (.ref l), some (.int (n : Int)), some (.int (st.val : Int)), some (.int (sh.val : Int)), some (.ref p), some (.int (0 + (i : Int))), some (.str (sgn (i + sh.val)))] H6 := fun {te H6 D d} e6 hd h k => by
        have d6 := d5.up e6
        refine s_appF (K := K) (l := p) (Fl.refl d6.f.i) (m5.up e6) rfl (h.eh d6.f.i) (by rw [List.length_map, ats_len (by omega)]; omega) fun B7 H7 f7 e7 m7 => k B7 H7 (d6.app f7 hp0 hpl) ?_
        rw [ats_next h5, List.map_append, List.map_singleton, ← hd]; exact m7
      have dec : ∀ {k : Nat}, decide (V.int (st.val : Int) = .int (k : Int)) = true → st.val = k := fun {k} h => by have := V.int.inj (of_decide_eq_true h); omega
      have decN : ∀ {k : Nat}, decide (V.int (st.val : Int) = .int (k : Int)) = false → st.val ≠ k := fun {k} h z => (of_decide_eq_false h) (by rw [z])
      have e1s : (sgn (i + sh.val)).length = 1 := rfl
      refine s_ifD d5.f.i (test 0) (fun ht H6 e6 => ?_) fun hf0 H6 e6 => ?_
      · have hs := dec (k := 0) ht
        refine app (d := .tuple [.str "o", .str "word", .str (sgn (i + sh.val) ++ (toString (9 - (i : Int)) : String))]) e6 (by unfold atomE atomD; rw [if_pos hs]) (ed_tup (eda_cons ed_str (eda_2 ed_str (ed_op s6 (ED.is (ed_cb (eda_1 (ed_op ed_int s5 (rd_I0 (g := fun i j => i - j)))) (rc_strI ?_)) (by rw [Int.zero_add])) (rd_catS ?_)))) (by show 3 ≤ _; omega)) fun B' H' d' m' => ⟨B', d', m', _, _, rfl⟩
        · rw [Int.zero_add]; exact num_log ⟨i, h5⟩
        · have : (PySem.Str.ofString (toString (9 - (i : Int)))).length ≤ 10 := num_len ⟨i, h5⟩
          rw [e1s]; omega
      have n0 := decN (k := 0) hf0
      refine s_ifD (d5.up e6).f.i ((test 1).mono (Ex.refl _)) (fun ht H7 e7 => ?_) fun hf1 H7 e7 => ?_
      · have hs := dec (k := 1) ht
        exact app (d := .tuple [.str (sgn (i + sh.val)), .str "word", .str "w"]) (e6.trans e7) (by unfold atomE atomD; rw [if_neg n0, if_pos hs]) (ed_tup (eda_cons s6 (eda_2 ed_str ed_str)) (by show 3 ≤ _; omega)) fun B' H' d' m' => ⟨B', d', m', _, _, rfl⟩
      have n1 := decN (k := 1) hf1
      have e67 := e6.trans e7
      refine s_ifD (d5.up e67).f.i (test 2) (fun ht H8 e8 => ?_) fun hf2 H8 e8 => ?_
      · have hs := dec (k := 2) ht
        exact app (d := .tuple [.str "t", .str "below", .str "x", .str (sgn (i + sh.val))]) (e67.trans e8) (by unfold atomE atomD; rw [if_neg n0, if_neg n1, if_pos hs]) (ed_tup (eda_cons ed_str (eda_cons ed_str (eda_2 ed_str s6))) (by show 4 ≤ _; omega)) fun B' H' d' m' => ⟨B', d', m', _, _, rfl⟩
      have n2 := decN (k := 2) hf2
      have e68 := e67.trans e8
      refine s_ifD (d5.up e68).f.i (test 3) (fun ht H9 e9 => ?_) fun hf3 H9 e9 => ?_
      · have hs := dec (k := 3) ht
        refine app (d := .tuple [.str (sgn (i + sh.val) ++ "1"), .str "turn", .str "x", .str "y", .int ((i % 3 : Nat) : Int)]) (e68.trans e9) (by unfold atomE atomD; rw [if_neg n0, if_neg n1, if_neg n2, if_pos hs]) (ed_tup (eda_cons (ed_op s6 ed_str (rd_catS (by rw [e1s]; decide))) (eda_cons ed_str (eda_cons ed_str (eda_2 ed_str (ED.is (ed_op (ed_cb (eda_1 s5) rc_int1) ed_int (rd_I (C := fun _ j => 0 < j) (g := fun i j => i % j) (by decide))) ?_))))) (by show 5 ≤ _; omega)) fun B' H' d' m' => ⟨B', d', m', _, _, rfl⟩
        congr 1
        omega
      have n3 := decN (k := 3) hf3
      have e69 := e68.trans e9
      refine s_ifD (d5.up e69).f.i (test 4) (fun ht H10 e10 => ?_) fun hf4 H10 e10 => ?_
      · have hs := dec (k := 4) ht
        exact app (d := .tuple [.str "", .str "same", .str (sgn (i + sh.val)), .str "x"]) (e69.trans e10) (by unfold atomE atomD; rw [if_neg n0, if_neg n1, if_neg n2, if_neg n3, if_pos hs]) (ed_tup (eda_cons ed_str (eda_cons ed_str (eda_2 s6 ed_str))) (by show 4 ≤ _; omega)) fun B' H' d' m' => ⟨B', d', m', _, _, rfl⟩
      have n4 := decN (k := 4) hf4
      exact app (d := .tuple [.str "u", .str "equal", .tuple [.str (sgn (i + sh.val))], .tuple [.str "g", .tuple [.str "x"]]]) (e69.trans e10) (by unfold atomE atomD; rw [if_neg n0, if_neg n1, if_neg n2, if_neg n3, if_neg n4]) (ed_tup (eda_cons ed_str (eda_cons ed_str (eda_2 (ed_tup (eda_1 s6) (by show 1 ≤ _; omega)) (ed_tup (eda_2 ed_str (ed_tup (eda_1 ed_str) (by show 1 ≤ _; omega))) (by show 2 ≤ _; omega))))) (by show 4 ≤ _; omega)) fun B' H' d' m' => ⟨B', d', m', _, _, rfl⟩
    · rintro σ' H4 ⟨B4, d4, m4, y, z, rfl⟩
      obtain ⟨Bx, dx, ex, hx⟩ := d4.close m4 hp0 hpl
      dsimp only
      exact s_retD (K := K) (B := Bx) (ed_var (i := 4) rfl hx) dx.f.i fun r B5 H5 f5 hr' => q st sh r B5 H5 (dx.step f5) hr'
end
end K5
end

section
set_option Elab.async false
set_option linter.all false
set_option maxRecDepth 100000
set_option maxHeartbeats 2000000
/-! W19: _law_resolved. -/
namespace K5
open PySem PySem.Spec PyProof.Rows L2 GenW Evl NS DL

def keepL (a : At) (k : Cl) (l : Lit) : Cl := if l ≠ (a, false) ∧ l ∉ k then k ++ [l] else k
def resolvedL (a : At) (c1 c2 : Cl) : Cl := c2.foldl (keepL a) (c1.filter fun l => !decide (l = (a, true)))
def lsD (E : At → PyData) (c : Cl) : PyData := .list (c.map (litD E))
def spResolved (K : PySem.W.Frag) : Sp := fun vs H Q _ => ∃ (B : Hp) (E : At → PyData) (fs : List Cl) (i j : Nat) (a : At) (c1 c2 : Cl) (l : Addr) (u : V), Ex B H ∧ AtOk E ∧ vs = [.ref l, u] ∧ ML K B H l (fs.map (lsD E)) ∧ Dp K B u (rowD E (.res i j a)) ∧
  fs[i]? = some c1 ∧ fs[j]? = some c2 ∧ (a, true) ∈ c1 ∧ (a, false) ∈ c2 ∧ c1.length ≤ 1000 ∧ c2.length ≤ 1000 ∧ ∀ r B2 H2, Fz B H B2 H2 → Dp K B2 r (lsD E (resolvedL a c1 c2)) → Q r H2
theorem keep_len (a : At) : ∀ (c k : Cl), (c.foldl (keepL a) k).length ≤ k.length + c.length
  | [], k => by simp
  | l :: c, k => by
    have := keep_len a c (keepL a k l)
    have : (keepL a k l).length ≤ k.length + 1 := by
      unfold keepL
      split <;> simp
    rw [List.foldl_cons, List.length_cons]; omega
section
variable {K : PySem.W.Frag} {σ : L2.St} {B H H1 : Hp} {te : TE} {wi : TI} {tt : TT} {ds : List PyData} {D : Ends} {tu : TS}
/-- a walked thing, at this heap -/
def IH (K : PySem.W.Frag) (wi : TI) (σ : L2.St) (B H1 : Hp) (ds : List PyData) : Prop := ∀ R : It → Hp → Prop, (∀ J xs B2 H2, Fz B H1 B2 H2 → JV J xs B2 → DpAll K B2 xs ds → R J H2) → wi σ H1 R
theorem q_lcH {i : Nat} {tz : TS} {α : Type} {j : Nat} {vs : List Nat} (enc : α → PyData) (ds : List α) (f : α → Bool) (g : α → PyData) (hs : IH K wi σ B H1 (ds.map enc)) (hz : ds.length ≤ 40000) (hw : ∀ x, wipe ((wipe σ vs).set j (some x)) vs = wipe σ vs)
    (ht : ∀ (i : Nat) d x B1, Ex B B1 → ds[i]? = some d → Dp K B1 x (enc d) → EvT tt ((wipe σ vs).set j (some x)) B1 (f d)) (he : ∀ (i : Nat) d x B1, Ex B B1 → ds[i]? = some d → Dp K B1 x (enc d) → f d = true → ED K te ((wipe σ vs).set j (some x)) B1 (g d))
    (a : Ex B H1) (q : ∀ l B2 H2, H1 l = none → Fz B H1 B2 H2 → ML K B2 H2 l ((ds.filter f).map g) → tz D (σ.set i (some (.ref l))) H2) : tSeq (tAsg (tLc wi (gName j) tt te vs) (gName i)) tz D σ H1 := hs _ fun J xs B2 H2 fz jv hd Dl hD => by
  have hl := hd.length
  rw [List.length_map] at hl
  refine ⟨fun i m H => m = ds.length - i ∧ i ≤ ds.length ∧ ∃ B3 acc, Fz B H1 B3 H ∧ Ex B2 B3 ∧ B3 Dl = none ∧ H Dl = some (.lst acc) ∧ DpAll K B3 acc (((ds.take i).filter f).map g), ⟨ds.length, by simp, Nat.zero_le _, B2, [], ?_, Ex.refl _, fresh_back fz.i hD, upd_same, .nil⟩, ?_⟩
  · exact fz.trans (Fz.aside fz.i hD)
  rintro i m H ⟨rfl, hi, B3, acc, f3, e3, n3, l3, d3⟩
  have hD1 : H1 Dl = none := fresh_back fz.h hD
  by_cases hlt : i < ds.length
  · refine .inr ⟨jv.go i H (e3.trans f3.i) (by omega), fun H' => i + 1 ≤ ds.length ∧ ∃ B3 acc, Fz B H1 B3 H' ∧ Ex B2 B3 ∧ B3 Dl = none ∧ H' Dl = some (.lst acc) ∧ DpAll K B3 acc (((ds.take (i + 1)).filter f).map g), fun H' p' => ⟨ds.length - (i + 1), by omega, rfl, p'⟩, fun x H' y => ?_⟩
    obtain ⟨rfl, hx⟩ := jv.yld i H x H' (e3.trans f3.i) (by omega) y
    obtain ⟨d0, hd0, hxd⟩ := hd.getV hx
    obtain ⟨d, hdi, rfl⟩ := map_get hd0
    have hxd3 := dp_ex _ x e3 hxd
    have hal : acc.length ≤ 40000 := by
      rw [d3.length, List.length_map]
      exact Nat.le_trans (List.length_filter_le _ _) (Nat.le_trans (by rw [List.length_take]; omega) hz)
    refine ⟨hw x, ht i d x B3 f3.b hdi hxd3 H' f3.i _ fun H4 e4 => ?_⟩
    cases hf : f d with
    | false =>
      rw [if_neg Bool.false_ne_true]
      refine ⟨hlt, B3, acc, ⟨f3.b, f3.h.trans e4, f3.i.trans e4, f3.n⟩, e3, n3, e4 _ _ l3, ?_⟩
      rw [take_nextP hdi, List.filter_append, List.filter_cons, if_neg (by rw [hf]; decide), List.filter_nil, List.append_nil]
      exact d3
    | true =>
      rw [if_pos rfl]
      refine he i d x B3 f3.b hdi hxd3 hf H4 (f3.i.trans e4) _ fun y B5 H5 f5 hy => ?_
      have l5 : H5 Dl = some (.lst acc) := f5.h _ _ (e4 _ _ l3)
      have n5 : B5 Dl = none := f5.n Dl (some_ne (e4 _ _ l3)) n3
      refine ⟨acc, l5, sz_lt (by omega), hlt, B5, acc ++ [y], ⟨f3.b.trans f5.b, Ex.mut ((f3.h.trans e4).trans f5.h) hD1, Ex.mut f5.i n5, fun l k1 k2 => f5.n l ?_ (f3.n l k1 k2)⟩, e3.trans f5.b, n5, upd_same, ?_⟩
      · cases hq : H1 l with
        | none => exact absurd hq k1
        | some o => exact some_ne (e4 _ _ (f3.h _ _ hq))
      · rw [take_nextP hdi, List.filter_append, List.filter_cons, if_pos hf, List.filter_nil, List.map_append]
        exact (dpAll_ex _ _ f5.b d3).append (.one hy)
  · have e : i = ds.length := by omega
    subst e
    refine .inl ⟨by rw [← hl]; exact jv.stop H (e3.trans f3.i), ?_⟩
    rw [List.take_length] at d3
    exact q Dl B3 H hD1 f3 ⟨n3, acc, l3, d3⟩
theorem s_forH {j : Nat} (hs : IH K wi σ B H ds) (a : Ex B H)
    (h0 : ∀ xs B1 H1, Fz B H B1 H1 → DpAll K B1 xs ds → ∃ Pv : Nat → L2.St → Hp → Prop, Pv 0 σ H1 ∧ (∀ i σ' H', Pv i σ' H' → Ex B1 H') ∧
      (∀ (i : Nat) x d σ' H', ds[i]? = some d → Dp K B1 x d → Pv i σ' H' → tu { D with nx := Pv (i + 1), ct := Pv (i + 1), bk := D.nx } (σ'.set j (some x)) H') ∧ ∀ σ' H', Pv ds.length σ' H' → D.nx σ' H') : tFor wi (gName j) tu D σ H :=
  hs _ fun J xs B1 H1 fz jv hd => by
    obtain ⟨Pv, p0, pe, ps, pd⟩ := h0 xs B1 H1 fz hd
    have hl := hd.length
    refine ⟨fun i m σ H => m = ds.length - i ∧ i ≤ ds.length ∧ Pv i σ H, ⟨ds.length, by simp, Nat.zero_le _, p0⟩, ?_⟩
    rintro i m σ' H' ⟨rfl, hi, p⟩
    by_cases hlt : i < ds.length
    · refine .inr ⟨jv.go i H' (pe _ _ _ p) (by omega), Pv (i + 1), fun σ2 H2 p' => ⟨ds.length - (i + 1), by omega, rfl, hlt, p'⟩, fun x H2 y => ?_⟩
      obtain ⟨rfl, hx⟩ := jv.yld i H' x H2 (pe _ _ _ p) (by omega) y
      obtain ⟨d, hdi, hxd⟩ := hd.getV hx
      exact ps i x d σ' _ hdi hxd p
    · have e : i = ds.length := by omega
      subst e
      exact .inl ⟨by rw [← hl]; exact jv.stop H' (pe _ _ _ p), pd σ' H' p⟩
theorem ih_val {p : Addr} {ys : List V} (h : ∀ Q : VK, (∀ H2, Ex H1 H2 → Q (.ref p) H2) → te σ H1 Q) (hp : SqL K B p ys) (hy : DpAll K B ys ds) (e : Ex B H1) : IH K (iList K te) σ B H1 ds := fun R q => h _ fun H2 e2 => ⟨p, rfl, ⟨ys, ex_l (e.trans e2) hp⟩, q _ ys B H2 (Fz.step e e2) (jv_list hp) hy⟩
theorem atI_2 {α : Type} {x y z : α} {r : List α} : atI (x :: y :: z :: r) (2 : Int) = some z := atI_nat (j := 2) rfl
theorem atI_3 {α : Type} {x y z w : α} {r : List α} : atI (x :: y :: z :: w :: r) (3 : Int) = some w := atI_nat (j := 3) rfl
end
section
variable {P : Program} {w : World} {K : PySem.W.Frag} {mg : Str → Option Value} {base : Heap} {f fD : Addr} {fd fdD : FuncData}
abbrev nRs : List PySem.Str := ["_law_found", "_law_row", "_law_at", "_law_literal", "_law_kept"]
theorem scRs : FnScope nRs ["_law_found", "_law_row"] (defScope (top 34)) := ⟨rfl, rfl, rfl, by decide +kernel, rfl, by decide +kernel, by decide +kernel⟩
theorem ok_resolved (M : Bn mg) (F : FnP K "_law_resolved" 34 f fd) : FnOk P w K mg base CX0 1 f fd ["_law_found", "_law_row"] (spResolved K) := by
  refine F.ok scRs (fun vs H Q E hsp => ?_) (fun cdv A outer s H vs Q E hr hsp => ?_)
  · obtain ⟨_, _, _, _, _, _, _, _, _, _, _, _, rfl, _⟩ := hsp
    rfl
  · refine ⟨_, PSs.nox (pss_cons (ps_for PassesOwn.never rfl (pi_list (pe_lst (pa_cons (pe_ix ix_seq (pv 1) pe_int (fun _ _ => rfl)) (pa_cons (pe_ix ix_seq (pv 1) pe_int (fun _ _ => rfl)) pa_nil)))) (pg_name (i := 2) scRs.nd rfl (Or.inl rfl))
        (pss_one (ps_if (PW.pt (pw_or (pt_not (pt_val (pe_callB call_isi rfl M.isinstance (by decide +kernel) (pa_cons (pv 2) (pa_cons (pe_bltn (v := .ty "int") rfl M.int (by decide +kernel) rfl) pa_nil)))))
            (pw_or (pt_val (pe_callB call_isi rfl M.isinstance (by decide +kernel) (pa_cons (pv 2) (pa_cons (pe_bltn (v := .ty "bool") rfl M.bool (by decide +kernel) rfl) pa_nil))))
              (pw_or (pt_cmpR op_lt (pv 2) pe_int (nomark _)) (pw_or1 (pt_cmpR op_ge (pv 2) (pe_callB call_len_seq rfl M.len boot_len (pa_cons (pv 0) pa_nil)) (nomark _))))))) (pss_one (ps_ret pe_non)) pss_nil)))
      (pss_cons (ps_if (PW.pt (pw_or (pt_cmpR (r := rInS K true) (op_notInS (u65 hr)) (pe_tup (pa_cons (pe_ix ix_seq (pv 1) pe_int (fun _ _ => rfl)) (pa_cons pe_bl pa_nil))) (pe_ix ix_seq (pv 0) (pe_ix ix_seq (pv 1) pe_int (fun _ _ => rfl)) (fun _ _ => rfl)) (by with_unfolding_all rfl))
          (pw_or1 (pt_cmpR (r := rInS K true) (op_notInS (u65 hr)) (pe_tup (pa_cons (pe_ix ix_seq (pv 1) pe_int (fun _ _ => rfl)) (pa_cons pe_bl pa_nil))) (pe_ix ix_seq (pv 0) (pe_ix ix_seq (pv 1) pe_int (fun _ _ => rfl)) (fun _ _ => rfl)) (by with_unfolding_all rfl))))) (pss_one (ps_ret pe_non)) pss_nil)
      (pss_cons (ps_setLc (i := 4) (own := [("_law_literal", 3)]) (tt := tTest (tOp (rNeD K) (tVar 3) (tTup (tCons (tOp (rIx K) (tVar 1) (tC (.int 3))) (tCons (tC (.bl true)) tNil))))) rfl scRs.nd rfl rfl (sw_true rfl rfl rfl (by decide +kernel)) (pi_list (pe_ix ix_seq (pv 0) (pe_ix ix_seq (pv 1) pe_int (fun _ _ => rfl)) (fun _ _ => rfl))) (blkOk_by (own := [("_law_literal", 3)]) (N := nRs) (sc := defScope (top 34)) (by decide +kernel)) (fun _ _ _ _ _ => pg_name (i := 3) scRs.nd rfl (Or.inl rfl))
          (fun _ _ _ _ _ => pts_one (pt_cmpR (r := rNeD K) (op_neD hr.units) (pv 3) (pe_tup (pa_cons (pe_ix (r := rIx K) ix_seq (pv 1) pe_int (fun _ _ => rfl)) (pa_cons pe_bl pa_nil))) (nomark _))) (fun _ _ _ _ _ => pv 3))
      (pss_cons (ps_for PassesOwn.never rfl (pi_list (pe_ix ix_seq (pv 0) (pe_ix ix_seq (pv 1) pe_int (fun _ _ => rfl)) (fun _ _ => rfl))) (pg_name (i := 3) scRs.nd rfl (Or.inl rfl))
        (pss_one (ps_if (PW.pt (pw_and (pt_cmpR (r := rNeD K) (op_neD hr.units) (pv 3) (pe_tup (pa_cons (pe_ix ix_seq (pv 1) pe_int (fun _ _ => rfl)) (pa_cons pe_bl pa_nil))) (nomark _)) (pw_and1 (pt_cmpR (r := rInS K true) (op_notInS (u65 hr)) (pv 3) (pv 4) (by with_unfolding_all rfl)))))
          (pss_one (ps_expr (pe_bm PySem.F.plainAttrs_list PySem.F.slot_list_append PySem.F.type_list_append mt_append (pv 4) (pa_cons (pv 3) pa_nil)))) pss_nil)))
      (pss_one (ps_ret (pv 4))))))), ?_⟩
    obtain ⟨B, E, fs, i, j, a, c1, c2, l, u, e, O, rfl, m, hu, hi, hj, ha1, ha2, hz1, hz2, q⟩ := hsp
    obtain ⟨nb, xs, hl, hxs⟩ := id m
    -- the closed base
    have eBx : Ex B (upd B l (.lst xs)) := Ex.new nb
    have eHx : Ex (upd B l (.lst xs)) H := fun b o hb => by
      by_cases z : b = l
      · subst z; rw [upd_same] at hb; rw [hl, hb]
      · rw [upd_ne z] at hb; exact e b o hb
    have hfx : Dp K (upd B l (.lst xs)) (.ref l) (.list (fs.map (lsD E))) := .lst (sq_of upd_same) (dpAll_ex _ _ eBx hxs)
    generalize upd B l (.lst xs) = Bx at eBx eHx hfx
    have ix : ∀ {σ : L2.St} {B' : Hp} {n : Int} {d : PyData}, σ[1]? = some (some u) → Ex B B' → atI [PyData.str "resolve", .int (i : Int), .int (j : Int), E a] n = some d → ED K (tOp (rIx K) (tVar 1) (tC (.int n))) σ B' d := fun {σ B' n d} h1 h2 h3 => ed_op (ed_var h1 (dp_ex _ u h2 hu)) ed_int (rd_ixT h3)
    have fx : ∀ {σ : L2.St} {B' : Hp} {n : Int} {k : Nat} {c : Cl}, σ[0]? = some (some (.ref l)) → σ[1]? = some (some u) → Ex Bx B' → atI [PyData.str "resolve", .int (i : Int), .int (j : Int), E a] n = some (.int (k : Int)) → fs[k]? = some c → ED K (tOp (rIx K) (tVar 0) (tOp (rIx K) (tVar 1) (tC (.int n)))) σ B' (lsD E c) := fun {σ B' n k c} h0 h1 h2 h3 h4 =>
      ed_op (ed_var h0 (dp_ex _ _ h2 hfx)) (ix h1 (eBx.trans h2) h3) (rd_ixL (atI_nat (by rw [List.getElem?_map, h4]; rfl)))
    have hi' : i < fs.length := (List.getElem?_eq_some_iff.mp hi).1
    have hj' : j < fs.length := (List.getElem?_eq_some_iff.mp hj).1
    -- the places
    refine s_forD (K := K) (B := B) (ds := [.int (i : Int), .int (j : Int)]) (id_list (ed_lst (eda_2 (ix rfl (Ex.refl _) atI_1) (ix rfl (Ex.refl _) atI_2)) (by show 2 ≤ _; omega))) e fun ys B1 H1 f1 hd => ?_
    refine ⟨fun n σ' H' => Ex H1 H' ∧ ∃ y, σ' = [some (.ref l), some u, y, none, none], ⟨Ex.refl _, none, rfl⟩, fun n σ' H' p => f1.i.trans p.1, ?_, ?_⟩
    · rintro n x d σ' H' hdi hx ⟨p1, y, rfl⟩
      have hk : ∃ k : Nat, d = .int (k : Int) ∧ k < fs.length := by
        have := List.mem_of_getElem? hdi
        simp only [List.mem_cons, List.not_mem_nil, or_false] at this
        rcases this with rfl | rfl
        · exact ⟨i, rfl, hi'⟩
        · exact ⟨j, rfl, hj'⟩
      obtain ⟨k, rfl, hkl⟩ := hk
      obtain rfl := hx.intI
      have eBH : Ex Bx H' := (eHx.trans f1.h).trans p1
      refine s_ifD (B := Bx) (b := !isiB (.int (k : Int)) "int" || (isiB (.int (k : Int)) "bool" || (decide ((k : Int) < 0) || decide ((fs.length : Int) ≤ (k : Int))))) eBH (et_or (et_not (et_B (ev_isi (n := 1) (i := 2) (d := .int (k : Int)) rfl (.int _) rfl (by simp)))) fun _ => et_or (et_B (ev_isi (n := 1) (i := 2) (d := .int (k : Int)) rfl (.int _) rfl (by simp))) fun _ => et_or (et_d (K := K) (ed_op (ed_var (i := 2) rfl (.int _)) ed_int (rd_I0b (g := fun i j => decide (i < j)))))
          fun _ => et_d (K := K) (ed_op (ed_var (i := 2) rfl (.int _)) (ED.is (ed_cb (eda_1 (ed_var (i := 0) rfl hfx)) rc_len) (by rw [List.length_map])) (rd_I0b (g := fun i j => decide (j ≤ i))))) (fun ht H6 e6 => ?_) fun hf H6 e6 => ⟨p1.trans e6, _, rfl⟩
      exfalso
      have z1 : isiB (.int (k : Int)) "int" = true := rfl
      have z2 : isiB (.int (k : Int)) "bool" = false := rfl
      rw [z1, z2] at ht
      simp only [Bool.not_true, Bool.false_or, Bool.or_eq_true, decide_eq_true_eq] at ht
      omega
    · rintro σ' H' ⟨p1, y, rfl⟩
      have g1 : Fz B H B1 H' := f1.trans (Fz.step f1.i p1)
      have eBH : Ex Bx H' := (eHx.trans f1.h).trans p1
      dsimp only
      have tin : ∀ {n : Int} {k : Nat} {c : Cl} {b : Bool}, atI [PyData.str "resolve", .int (i : Int), .int (j : Int), E a] n = some (.int (k : Int)) → fs[k]? = some c → EvT (tTest (tOp (rInS K true) (tTup (tCons (tOp (rIx K) (tVar 1) (tC (.int 3))) (tCons (tC (.bl b)) tNil))) (tOp (rIx K) (tVar 0) (tOp (rIx K) (tVar 1) (tC (.int n)))))) [some (.ref l), some u, y, none, none] Bx (!decide ((a, b) ∈ c)) := fun {n k c b} h1 h2 =>
        et_d (K := K) (ED.is (ed_op (ed_tup (eda_2 (ix rfl eBx atI_3) ed_bl) (by show 2 ≤ _; omega)) (fx rfl rfl (Ex.refl _) h1 h2) (rd_in (d := litD E (a, b)) (shaped_lit O _) (shaped_lits O c) (.inl rfl))) (by rw [any_lit O]; rfl))
      refine s_ifD (B := Bx) (b := !decide ((a, true) ∈ c1) || !decide ((a, false) ∈ c2)) eBH (et_or (tin atI_1 hi) fun _ => tin atI_2 hj) (fun ht H2 e2 => ?_) fun hf H2 e2 => ?_
      · rw [decide_eq_true ha1, decide_eq_true ha2] at ht; cases ht
      have g2 : Fz B H B1 H2 := g1.up e2
      have eB2 : Ex Bx H2 := eBH.trans e2
      -- the values
      have hv : ∀ {k : Nat} {c : Cl}, fs[k]? = some c → ∃ p ys, atI xs (k : Int) = some (V.ref p) ∧ SqL K B p ys ∧ DpAll K B ys (c.map (litD E)) := fun {k c} hk => by
        obtain ⟨v, h1, h2⟩ := atI_dp (i := (k : Int)) (d := lsD E c) hxs (atI_nat (by rw [List.getElem?_map, hk]; rfl))
        obtain ⟨p, ys, rfl, h3, h4⟩ := h2.lstI
        exact ⟨p, ys, h1, h3, h4⟩
      obtain ⟨p1', ys1, hp1, hs1, hd1⟩ := hv hi
      obtain ⟨p2', ys2, hp2, hs2, hd2⟩ := hv hj
      have val : ∀ {σ : L2.St} {H' : Hp} {n : Int} {k : Nat} {p : Addr}, σ[0]? = some (some (.ref l)) → σ[1]? = some (some u) → Ex B H' → H' l = some (.lst xs) → atI [PyData.str "resolve", .int (i : Int), .int (j : Int), E a] n = some (.int (k : Int)) → atI xs (k : Int) = some (V.ref p) →
          ∀ Q : VK, (∀ H2, Ex H' H2 → Q (.ref p) H2) → tOp (rIx K) (tVar 0) (tOp (rIx K) (tVar 1) (tC (.int n))) σ H' Q := fun {σ H' n k p} h0 h1 h2 h3 h4 h5 Q q => by
        refine ⟨_, h0, ix (B' := B) h1 (Ex.refl _) h4 H' h2 _ fun y B3 H3 f3 hy => ?_⟩
        obtain rfl := hy.intI
        exact .inl ⟨l, xs, _, _, rfl, rfl, sq_of (f3.h _ _ h3), h5, q H3 f3.h⟩
      have hl2 : H2 l = some (.lst xs) := g2.h _ _ hl
      refine q_lcH (K := K) (B := B1) (litD E) c1 (fun m => !decide (m = (a, true))) (litD E) (ih_val (val rfl rfl (g2.b.trans g2.i) hl2 atI_1 hp1) (ex_l g2.b hs1) (dpAll_ex _ _ g2.b hd1) g2.i) (by omega) (fun y => rfl) (fun k m y B3 e3 hk hy => ?_) (fun k m y B3 e3 hk hy _ => ed_var rfl hy) g2.i fun pk B3 H3 hpk f3 m3 => ?_
      · exact et_d (K := K) (ED.is (ed_op (ed_var (i := 3) rfl hy) (ed_tup (eda_2 (ix rfl (g2.b.trans e3) atI_3) ed_bl) (by show 2 ≤ _; omega)) (rd_ne (e := litD E (a, true)) (shaped_lit O m) (shaped_lit O _))) (by rw [eqv_lit O]))
      have g3 := g2.trans f3
      have hpk0 : H pk = none := fresh_back g2.h hpk
      have hl3 : H3 l = some (.lst xs) := f3.h _ _ hl2
      refine s_forH (K := K) (B := B3) (ds := c2.map (litD E)) (ih_val (val rfl rfl (g3.b.trans g3.i) hl3 atI_2 hp2) (ex_l g3.b hs2) (dpAll_ex _ _ g3.b hd2) g3.i) g3.i fun zs B4 H4 f4 hd4 => ?_
      refine ⟨fun k σ' H' => ∃ B', Fz B H B' H' ∧ Ex B4 B' ∧ ML K B' H' pk (((c2.take k).foldl (keepL a) (c1.filter fun l => !decide (l = (a, true)))).map (litD E)) ∧ ∃ z, σ' = [some (.ref l), some u, y, z, some (.ref pk)],
        ⟨B4, g3.trans f4, Ex.refl _, m3.step f4, none, rfl⟩, fun k σ' H' ⟨B', g, x, _⟩ => x.trans g.i, ?_, ?_⟩
      · rintro k x d σ' H' hdk hx ⟨B5, g5, e5, m5, z, rfl⟩
        obtain ⟨t, htk, rfl⟩ := map_get hdk
        have eT : (c2.take (k + 1)).foldl (keepL a) (c1.filter fun l => !decide (l = (a, true))) = keepL a ((c2.take k).foldl (keepL a) (c1.filter fun l => !decide (l = (a, true)))) t := by rw [take_nextP htk, List.foldl_append]; rfl
        have len5 : ((c2.take k).foldl (keepL a) (c1.filter fun l => !decide (l = (a, true)))).length ≤ 2000 := by
          exact Nat.le_trans (keep_len _ _ _) (Nat.le_trans (Nat.add_le_add (List.length_filter_le _ _) (List.length_take_le' _ _)) (by omega))
        generalize (c2.take k).foldl (keepL a) (c1.filter fun l => !decide (l = (a, true))) = kk at eT len5 m5
        have hx5 := dp_ex _ x e5 hx
        refine et_d (K := K) (B := B5) (ED.is (ed_op (ed_var (i := 3) (v := x) rfl hx5) (ed_tup (eda_2 (ix rfl g5.b atI_3) ed_bl) (by show 2 ≤ _; omega)) (rd_ne (e := litD E (a, false)) (shaped_lit O t) (shaped_lit O _))) (by rw [eqv_lit O])) H' g5.i _ fun H6 e6 => ?_
        by_cases ht : t = (a, false)
        · rw [decide_eq_true ht, Bool.not_true]
          dsimp only
          rw [if_neg (by decide), if_neg (by decide)]
          refine ⟨B5, g5.up e6, e5, ?_, some x, rfl⟩
          rw [eT, keepL, if_neg (fun h => h.1 ht)]; exact m5.up e6
        · rw [decide_eq_false ht, Bool.not_false]
          dsimp only
          rw [if_pos rfl]
          refine t_inML (g5.up e6).i (m5.up e6) rfl (ed_var (i := 3) (v := x) rfl hx5) (shaped_lit O t) (shaped_lits O kk) fun B7 H7 g7 m7 => ?_
          rw [any_lit O, if_pos rfl]
          by_cases hm : t ∈ kk
          · rw [decide_eq_true hm, if_neg (by decide)]
            refine ⟨B7, (g5.up e6).trans g7, e5.trans g7.b, ?_, some x, rfl⟩
            rw [eT, keepL, if_neg (fun h => h.2 hm)]; exact m7
          · rw [decide_eq_false hm, if_pos (by decide)]
            refine s_appD ((g5.up e6).trans g7) hpk0 m7 rfl (ed_var (i := 3) (v := x) rfl (dp_ex _ x g7.b hx5)) (by rw [List.length_map]; omega) fun B8 H8 g8 e8 m8 => ⟨B8, g8, (e5.trans g7.b).trans e8, ?_, some x, rfl⟩
            rw [eT, keepL, if_pos ⟨ht, hm⟩, List.map_append]; exact m8
      · rintro σ' H' ⟨B5, g5, e5, m5, z, rfl⟩
        rw [List.length_map, List.take_length] at m5
        obtain ⟨B6, g6, e6, hD⟩ := m5.close g5 hpk0
        dsimp only
        exact s_retD (K := K) (B := B6) (ed_var (i := 4) (v := .ref pk) rfl hD) g6.i fun r B7 H7 f7 hr' => q r B7 H7 (g6.trans f7) hr'
end
end K5
end

section
set_option Elab.async false
set_option linter.all false
set_option maxRecDepth 100000
set_option maxHeartbeats 2000000
/-! W20: _law_read_rows. -/
namespace K5
open PySem PySem.Spec PyProof.Rows L2 GenW Evl NS DL

def readRow (tb : Tb) (fs : List Cl) : Row → Option Cl
  | .given k => tb.lookup k
  | .res i j a => match fs[i]?, fs[j]? with
    | some c1, some c2 => if (a, true) ∈ c1 ∧ (a, false) ∈ c2 then some (resolvedL a c1 c2) else none
    | _, _ => none
def readRows (tb : Tb) : List Row → List Cl → Option (List Cl)
  | [], fs => some fs
  | r :: rs, fs => match readRow tb fs r with
    | none => none
    | some c => readRows tb rs (fs ++ [c])
def spRead (K : PySem.W.Frag) : Sp := fun vs H Q _ => ∃ (B : Hp) (E : At → PyData) (tb : Tb) (rows : List Row) (fs : List Cl) (v u : V), Ex B H ∧ AtOk E ∧ vs = [v, u] ∧ Dp K B v (.tuple (rows.map (rowD E))) ∧ DI K B u (tbD E tb) ∧ rows.length ≤ 2000 ∧
  (∀ p ∈ tb, p.2.Nodup) ∧ readRows tb rows [] = some fs ∧ ∀ r B2 H2, Fz B H B2 H2 → Dp K B2 r (.list (fs.map (lsD E))) → Q r H2
theorem keep_nd (a : At) : ∀ (c k : Cl), k.Nodup → (c.foldl (keepL a) k).Nodup
  | [], k, h => h
  | l :: c, k, h => by
    refine keep_nd a c _ ?_
    unfold keepL
    split
    · rename_i q
      exact List.nodup_append.mpr ⟨h, by simp, fun x hx y hy e => q.2 (by rw [e, List.mem_singleton.mp hy] at hx; exact hx)⟩
    · exact h
theorem lookup_in {tb : Tb} {k : Int} {c : Cl} (h : tb.lookup k = some c) : (k, c) ∈ tb := by
  induction tb with
  | nil => cases h
  | cons p tb ih =>
    obtain ⟨k0, c0⟩ := p
    by_cases e : k = k0
    · subst e
      simp [List.lookup] at h
      rw [h]; exact List.mem_cons_self
    · rw [List.lookup_cons, beq_false_of_ne e] at h
      exact List.mem_cons_of_mem _ (ih h)
theorem readRow_nd {tb : Tb} {fs : List Cl} {r : Row} {c : Cl} (ht : ∀ p ∈ tb, p.2.Nodup) (hf : ∀ d ∈ fs, d.Nodup) (h : readRow tb fs r = some c) : c.Nodup := by
  cases r with
  | given k => exact ht _ (lookup_in h)
  | res i j a =>
    simp only [readRow] at h
    split at h
    · rename_i c1 c2 h1 h2
      split at h
      · cases h
        exact keep_nd a _ _ ((hf _ (List.mem_of_getElem? h1)).filter _)
      · cases h
    · cases h
section
variable {P : Program} {w : World} {K : PySem.W.Frag} {mg : Str → Option Value} {base : Heap} {f fR : Addr} {fd fdR : FuncData}
theorem ev_isiT {σ : L2.St} {B : Hp} {i : Nat} {v : V} {ds : List PyData} (hσ : σ[i]? = some (some v)) (h : Dp K B v (.tuple ds)) : Ev (tCB (rIsi K) (tCons (tVar i) (tCons (tC (.ty "tuple")) tNil))) σ B (.bl true) := fun H1 e Q q => by
  obtain ⟨p, xs, rfl, h1, _⟩ := (dp_ex _ v e h).tupI
  exact ⟨_, hσ, .ref p, .ty "tuple", .type "tuple", .type "tuple", true, rfl, .ty "tuple", tyx_t h1, rfl, q H1 (Ex.refl H1)⟩
theorem sh_g : SeqAt.shaped (.str "given") = true := by decide +kernel
theorem sh_r : SeqAt.shaped (.str "resolve") = true := by decide +kernel
theorem eq_gg : PyData.eqv (.str "given") (.str "given") = true := by decide +kernel
theorem eq_rr : PyData.eqv (.str "resolve") (.str "resolve") = true := by decide +kernel
theorem eq_gr : PyData.eqv (.str "given") (.str "resolve") = false := by decide +kernel
theorem eq_rg : PyData.eqv (.str "resolve") (.str "given") = false := by decide +kernel
theorem shaped_int (i : Int) : SeqAt.shaped (.int i) = true := rfl
theorem any_int (ks : List Int) (k : Int) : ((ks.map PyData.int).any fun z => PyData.eqv z (.int k)) = decide (k ∈ ks) := by
  induction ks with
  | nil => simp
  | cons a ks ih =>
    rw [List.map_cons, List.any_cons, ih, Bool.eq_iff_iff]
    simp only [PyData.eqv, Bool.or_eq_true, beq_iff_eq, decide_eq_true_eq, List.mem_cons]
    exact ⟨fun h => h.elim (fun e => .inl e.symm) .inr, fun h => h.elim (fun e => .inl e.symm) .inr⟩
abbrev nRr : List PySem.Str := ["_law_rows", "_law_clauses", "_law_found", "_law_row", "_law_clause"]
theorem scRr : FnScope nRr ["_law_rows", "_law_clauses"] (defScope (top 35)) := ⟨rfl, rfl, rfl, by decide +kernel, rfl, by decide +kernel, by decide +kernel⟩
theorem ok_read (M : Bn mg) (F : FnP K "_law_read_rows" 35 f fd) (FR : FnP K "_law_resolved" 34 fR fdR) (gR : mg "_law_resolved" = some (.ref fR)) : FnOk P w K mg base CX0 2 f fd ["_law_rows", "_law_clauses"] (spRead K) := by
  have GR : FnOk P w K mg base CX0 1 fR fdR ["_law_found", "_law_row"] (spResolved K) := ok_resolved M FR
  have bR : Binds K fdR ["_law_found", "_law_row"] [] := FR.bindsN fun _ _ _ _ _ _ us hl => match us, hl with | [_, _], _ => rfl
  refine F.ok scRr (fun vs H Q E hsp => ?_) (fun cdv A outer s H vs Q E hr hsp => ?_)
  · obtain ⟨_, _, _, _, _, _, _, _, _, rfl, _⟩ := hsp
    rfl
  · refine ⟨_, PSs.nox (pss_cons (ps_set (i := 2) scRr.nd rfl (Or.inl rfl) (pe_lst pa_nil))
      (pss_cons (ps_for PassesOwn.never rfl (pi_tup (pv 0)) (pg_name (i := 3) scRr.nd rfl (Or.inl rfl))
        (pss_cons (ps_if (PW.pt (pw_or (pt_not (pt_val (pe_callB call_isi rfl M.isinstance (by decide +kernel) (pa_cons (pv 3) (pa_cons (pe_bltn (v := .ty "tuple") rfl M.tuple (by decide +kernel) rfl) pa_nil))))) (pw_or1 (pt_cmpR op_eq (pe_callB call_len_seq rfl M.len boot_len (pa_cons (pv 3) pa_nil)) pe_int (nomark _))))) (pss_one (ps_ret pe_non)) pss_nil)
        (pss_cons (ps_set (i := 4) scRr.nd rfl (Or.inl rfl) pe_non)
        (pss_cons (ps_if (PW.pt (pw_and (pt_cmpR (r := rEqD K) (op_eqD hr.units) (pe_ix ix_seq (pv 3) pe_int (fun _ _ => rfl)) pe_str (nomark _)) (pw_and (pt_cmpR op_eq (pe_callB call_len_seq rfl M.len boot_len (pa_cons (pv 3) pa_nil)) pe_int (nomark _))
              (pw_and1 (pt_cmpR (r := rInS K false) (op_inS (u65 hr)) (pe_ix ix_seq (pv 3) pe_int (fun _ _ => rfl)) (pe_callTy (call_listD rfl) rfl M.list (by decide +kernel) (pa_cons (pv 1) pa_nil)) (by with_unfolding_all rfl))))))
            (pss_one (ps_set (i := 4) scRr.nd rfl (Or.inl rfl) (pe_callTy call_list_of rfl M.list (by decide +kernel) (pa_cons (pe_dget (hu_of hr) (pv 1) (pe_ix ix_seq (pv 3) pe_int (fun _ _ => rfl)) (fun _ _ => rfl)) pa_nil)))) pss_nil)
        (pss_cons (ps_if (PW.pt (pw_and (pt_cmpR (r := rEqD K) (op_eqD hr.units) (pe_ix ix_seq (pv 3) pe_int (fun _ _ => rfl)) pe_str (nomark _)) (pw_and1 (pt_cmpR op_eq (pe_callB call_len_seq rfl M.len boot_len (pa_cons (pv 3) pa_nil)) pe_int (nomark _)))))
            (pss_one (ps_set (i := 4) scRr.nd rfl (Or.inl rfl) (pe_call GR hr rfl gR FR.kp bR .nil pass0 (pa_cons (pv 2) (pa_cons (pv 3) pa_nil))))) pss_nil)
        (pss_cons (ps_if (pt_cmpR op_isNon (pv 4) pe_non (nomark _)) (pss_one (ps_ret pe_non)) pss_nil)
        (pss_one (ps_expr (pe_bm PySem.F.plainAttrs_list PySem.F.slot_list_append PySem.F.type_list_append mt_append (pv 2) (pa_cons (pv 4) pa_nil))))))))))
      (pss_one (ps_ret (pv 2))))), ?_⟩
    obtain ⟨B, E, tb, rows, fs, v, u, e, O, rfl, hv, hu, hz, hnd, hrd, q⟩ := hsp
    refine q_newD (K := K) (Fz.refl e) fun l H1 h0 _ f1 _ m1 => ?_
    refine s_forD (K := K) (id_tup (ed_var (v := v) rfl hv)) f1.i fun xs B1 H2 f2 hd => ?_
    refine ⟨fun i σ' H' => i ≤ rows.length ∧ ∃ (B' : Hp) (fk : List Cl), Fz B H B' H' ∧ Ex B1 B' ∧ ML K B' H' l (fk.map (lsD E)) ∧ readRows tb (rows.drop i) fk = some fs ∧ fk.length ≤ i ∧ (∀ d ∈ fk, d.Nodup) ∧ ∃ a b, σ' = [some v, some u, some (.ref l), a, b],
      ⟨Nat.zero_le _, B1, [], f1.trans f2, Ex.refl _, m1.step f2, hrd, Nat.le_refl _, by simp, none, none, rfl⟩, fun i σ' H' ⟨_, B', fk, g, x, _⟩ => x.trans g.i, ?_, ?_⟩
    · rintro i x d σ' H' hdi hx ⟨hi, B', fk, g, eB, m, hrk, hfl, hfn, a, b, rfl⟩
      obtain ⟨row, hri, rfl⟩ := map_get hdi
      have hlt : i < rows.length := (List.getElem?_eq_some_iff.mp hri).1
      have hdrop : rows.drop i = row :: rows.drop (i + 1) := by
        rw [List.drop_eq_getElem_cons hlt, (List.getElem?_eq_some_iff.mp hri).2]
      rw [hdrop, readRows] at hrk
      have hx' := dp_ex _ x eB hx
      have hu' := hu.ex ((f1.b.trans f2.b).trans eB)
      have rt : ∃ ds, rowD E row = .tuple ds ∧ 2 ≤ ds.length ∧ ds.length ≤ 4 := by
        cases row with
        | given k => exact ⟨_, rfl, by show 2 ≤ 2; omega, by show 2 ≤ 4; omega⟩
        | res i j a => exact ⟨_, rfl, by show 2 ≤ 4; omega, by show 4 ≤ 4; omega⟩
      obtain ⟨ds, hds, hd2, hd4⟩ := rt
      have ln : ∀ {σ : L2.St} {B2 : Hp}, σ[3]? = some (some x) → Ex B' B2 → ED K (tCB (rLenS K) (tCons (tVar 3) tNil)) σ B2 (.int ds.length) := fun {σ B2} h1 h2 => ed_cb (eda_1 (ed_var h1 (hds ▸ dp_ex _ x h2 hx'))) rc_lenT
      refine s_ifD (b := !true || decide (V.int (ds.length : Int) = .int 0)) g.i (et_or (et_not (et_B (ev_isiT (ds := ds) (i := 3) (v := x) rfl (hds ▸ hx')))) fun _ => et_test (ev_op (ev_int (K := K) (ln rfl (Ex.refl _))) ev_c (rv_eq rfl))) (fun ht H3 e3 => ?_) fun _ H3 e3 => ?_
      · exfalso
        simp only [Bool.not_true, Bool.false_or, decide_eq_true_eq] at ht
        have := V.int.inj ht
        omega
      have g3 := g.up e3
      have m3 := m.up e3
      -- what is left, once the clause stands
      have tail : ∀ {c : Cl} {cv : V} {B5 H5 : Hp} {D : Ends}, readRow tb fk row = some c → Fz B H B5 H5 → Ex B' B5 → ML K B5 H5 l (fk.map (lsD E)) → Dp K B5 cv (lsD E c) →
          (∀ σ' H', (i + 1 ≤ rows.length ∧ ∃ (B' : Hp) (fk : List Cl), Fz B H B' H' ∧ Ex B1 B' ∧ ML K B' H' l (fk.map (lsD E)) ∧ readRows tb (rows.drop (i + 1)) fk = some fs ∧ fk.length ≤ i + 1 ∧ (∀ d ∈ fk, d.Nodup) ∧ ∃ a b, σ' = [some v, some u, some (.ref l), a, b]) → D.nx σ' H') →
          tSeq (tIfS (tTest (tOp rNon (tVar 4) (tC .non))) (tRet (tC .non)) tNext) (tDrop (tBM K "list" rAppend (tVar 2) (tCons (tVar 4) tNil))) D [some v, some u, some (.ref l), some x, some cv] H5 := fun {c cv B5 H5 D} hc g5 e5 m5 hcv k => by
        rw [hc] at hrk
        have ncv : decide (cv = .non) = false := by
          obtain ⟨p, ys, rfl, _⟩ := hcv.lstI
          simp
        refine s_ifD (b := false) g5.i (et_is (et_test (ev_op (z := .bl (decide (cv = .non))) (ev_var (i := 4) (v := cv) rfl) ev_c (show RV rNon cv .non B5 _ from fun H1 e1 Q q => ⟨rfl, q H1 (Ex.refl _)⟩))) ncv) (fun ht => by cases ht) fun _ H6 e6 => ?_
        refine s_appD (g5.up e6) h0 (m5.up e6) rfl (ed_var (i := 4) (v := cv) rfl hcv) (by rw [List.length_map]; omega) fun B7 H7 g7 e7 m7 => k _ _ ⟨hlt, B7, fk ++ [c], g7, (eB.trans e5).trans e7, ?_, hrk, ?_, ?_, _, _, rfl⟩
        · rw [List.map_append]; exact m7
        · rw [List.length_append]; simp only [List.length_cons, List.length_nil]; omega
        · intro d hd'
          rcases List.mem_append.mp hd' with z | z
          · exact hfn d z
          · rw [List.mem_singleton.mp z]; exact readRow_nd hnd hfn hc
      refine q_asgD (K := K) ed_non g3.i fun nv B4 H4 f4 hnv => ?_
      have g4 := g3.trans f4
      have m4 := m3.step f4
      have hx4 := dp_ex _ x f4.b hx'
      have hu4 := hu'.ex f4.b
      cases row with
      | given k =>
        cases hds
        have hxr : Dp K B4 x (.tuple [.str "given", .int k]) := hx4
        cases hc : readRow tb fk (.given k) with
        | none => rw [hc] at hrk; cases hrk
        | some c =>
        have hmem : (k, c) ∈ tb := lookup_in hc
        have ix0 : ∀ {σ : L2.St} {B' : Hp}, σ[3]? = some (some x) → Ex B4 B' → ED K (tOp (rIx K) (tVar 3) (tC (.int 0))) σ B' (.str "given") := fun {σ B'} h1 h2 => ed_op (ed_var h1 (dp_ex _ x h2 hxr)) ed_int (rd_ixT atI_0)
        have ix1 : ∀ {σ : L2.St} {B' : Hp}, σ[3]? = some (some x) → Ex B4 B' → ED K (tOp (rIx K) (tVar 3) (tC (.int 1))) σ B' (.int k) := fun {σ B'} h1 h2 => ed_op (ed_var h1 (dp_ex _ x h2 hxr)) ed_int (rd_ixT atI_1)
        refine s_ifD (b := PyData.eqv (.str "given") (.str "given") && (decide (V.int (2 : Int) = .int 2) && decide (k ∈ tb.map (·.1)))) g4.i (et_and (et_d (K := K) (ed_op (ix0 rfl (Ex.refl _)) ed_str (rd_eq sh_g sh_g))) fun _ => et_and (et_test (ev_op (ev_int (K := K) (ed_cb (eda_1 (ed_var (i := 3) rfl hxr)) rc_lenT)) ev_c (rv_eq rfl))) fun _ =>
          et_d (K := K) (ED.is (ed_op (ix1 rfl (Ex.refl _)) (ED.is (ed_keys (i := 1) rfl hu4) (show PyData.list ((tbD E tb).map fun p => .int p.1) = .list ((tb.map (·.1)).map PyData.int) by simp [tbD])) (rd_in (shaped_int k) (shaped_list (f := PyData.int) (n := 1) (fun _ => rfl) (fun _ => by simp [PyData.depth]) (by omega) _) (.inl rfl))) (by rw [any_int]; rfl))) (fun _ H5 e5 => ?_) fun hf H5 e5 => ?_
        · refine s_asgD (K := K) (d := lsD E c) (ed_cb (eda_1 (ed_dget (i := 1) rfl hu4 (ix1 rfl (Ex.refl _)) (List.mem_map.mpr ⟨_, hmem, rfl⟩))) rc_listT) (g4.up e5).i fun cv B6 H6 f6 hcv => ?_
          have g6 := (g4.up e5).trans f6
          have hx6 := dp_ex _ x f6.b hxr
          refine s_ifD (b := PyData.eqv (.str "given") (.str "resolve") && decide (V.int (2 : Int) = .int 4)) g6.i (et_and (et_d (K := K) (ed_op (ix0 rfl f6.b) ed_str (rd_eq sh_g sh_r))) fun _ => et_test (ev_op (ev_int (K := K) (ed_cb (eda_1 (ed_var (i := 3) rfl hx6)) rc_lenT)) ev_c (rv_eq rfl))) (fun ht => absurd ht (by rw [eq_gr]; simp)) fun _ H7 e7 => ?_
          exact tail hc (g6.up e7) (f4.b.trans f6.b) (((m4.up e5).step f6).up e7) hcv fun _ _ h => h
        · exfalso
          have z := eq_gg
          rw [z, decide_eq_true rfl, decide_eq_true (List.mem_map.mpr ⟨_, hmem, rfl⟩)] at hf
          cases hf
      | res i1 j1 a1 =>
        cases hds
        have hxr : Dp K B4 x (.tuple [.str "resolve", .int (i1 : Int), .int (j1 : Int), E a1]) := hx4
        cases hc : readRow tb fk (.res i1 j1 a1) with
        | none => rw [hc] at hrk; cases hrk
        | some c =>
        have ix0 : ∀ {σ : L2.St} {B' : Hp}, σ[3]? = some (some x) → Ex B4 B' → ED K (tOp (rIx K) (tVar 3) (tC (.int 0))) σ B' (.str "resolve") := fun {σ B'} h1 h2 => ed_op (ed_var h1 (dp_ex _ x h2 hxr)) ed_int (rd_ixT atI_0)
        refine s_ifD (b := false) g4.i (et_is (a := PyData.eqv (.str "resolve") (.str "given") && false) (et_and (et_d (K := K) (ed_op (ix0 rfl (Ex.refl _)) ed_str (rd_eq sh_r sh_g))) fun h => absurd h (by rw [eq_rg]; simp)) (by simp)) (fun ht => by cases ht) fun _ H5 e5 => ?_
        refine s_ifD (b := PyData.eqv (.str "resolve") (.str "resolve") && decide (V.int (4 : Int) = .int 4)) (g4.up e5).i (et_and (et_d (K := K) (ed_op (ix0 rfl (Ex.refl _)) ed_str (rd_eq sh_r sh_r))) fun _ => et_test (ev_op (ev_int (K := K) (ed_cb (eda_1 (ed_var (i := 3) rfl hxr)) rc_lenT)) ev_c (rv_eq rfl))) (fun _ H6 e6 => ?_) fun hf H6 e6 => ?_
        · have hc' := hc
          simp only [readRow] at hc'
          split at hc'
          · rename_i c1 c2 h1 h2
            split at hc'
            · rename_i h12
              cases hc'
              have g6 := (g4.up e5).up e6
              have len10 : ∀ d ∈ fk, d.length ≤ 1000 := fun d hd => Nat.le_trans (lit_len (hfn d hd)) (by omega)
              refine ⟨_, rfl, _, rfl, B4, E, fk, i1, j1, a1, c1, c2, l, x, g6.i, O, rfl, (m4.up e5).up e6, hxr, h1, h2, h12.1, h12.2, len10 _ (List.mem_of_getElem? h1), len10 _ (List.mem_of_getElem? h2), fun cv B7 H7 f7 hcv => ?_⟩
              exact tail hc (g6.trans f7) (f4.b.trans f7.b) (((m4.up e5).up e6).step f7) hcv fun _ _ h => h
            · cases hc'
          · cases hc'
        · exfalso
          have z := eq_rr
          rw [z, decide_eq_true rfl] at hf
          cases hf
    · rintro σ' H' ⟨hi, B', fk, g, eB, m, hrk, hfl, hfn, a, b, rfl⟩
      rw [List.length_map, List.drop_length, readRows] at hrk
      cases hrk
      obtain ⟨B2, g2, e2, hD⟩ := m.close g h0
      dsimp only
      exact s_retD (K := K) (B := B2) (ed_var (i := 2) (v := .ref l) rfl hD) g2.i fun y B3 H3 f3 hy => q _ _ _ (g2.trans f3) hy
end
end K5
end

section
set_option Elab.async false
set_option linter.all false
set_option maxRecDepth 100000
set_option maxHeartbeats 2000000
/-! W21: extensions, valuations. -/
namespace K5
open PySem PySem.Spec PyProof.Rows L2 GenW Evl NS DL LL

def exts (tb : Tb) (atoms : List At) : Nat → Cl → List Cl
  | 0, h => if denied tb h = 0 then [h] else []
  | n + 1, h => if denied tb h = 0 then (match atoms[h.length]? with
    | none => []
    | some a => exts tb atoms n (h ++ [(a, false)]) ++ exts tb atoms n (h ++ [(a, true)])) else []
def spExt (K : PySem.W.Frag) (n : Nat) : SpGL := fun vs H rows => ∃ (E : At → PyData) (tb : Tb) (atoms : List At) (h : Cl) (v u x : V), AtOk E ∧ vs = [v, u, x] ∧ DI K H v (tbD E tb) ∧ Dp K H u (.list (atoms.map E)) ∧ Dp K H x (clD E h) ∧ tb.length ≤ 1000 ∧ (∀ p ∈ tb, p.2.length ≤ 1000) ∧
  h.length + n = atoms.length ∧ atoms.length ≤ 1000 ∧ rows = (exts tb atoms n h).map (clD E)
def spExtP (K : PySem.W.Frag) (N : Nat) : SpGL := fun vs H rows => ∃ n, n < N ∧ spExt K n vs H rows
def spVals (K : PySem.W.Frag) : SpGL := fun vs H rows => ∃ (E : At → PyData) (tb : Tb) (v : V), AtOk E ∧ vs = [v] ∧ DI K H v (tbD E tb) ∧ tb.length ≤ 1000 ∧ (∀ p ∈ tb, p.2.length ≤ 1000) ∧ ((tb.map (·.2)).flatMap fun c => c).length < 64 ∧
  rows = (exts tb (atomsU E (tb.map (·.2))) (atomsU E (tb.map (·.2))).length []).map (clD E)
theorem di_env {K : PySem.W.Frag} {B B' : Hp} {v : V} {ps : List (Int × PyData)} (e : EnvH B B') (h : DI K B v ps) : DI K B' v ps := let ⟨a, kvs, h1, h2, h3, h4, h5⟩ := h; ⟨a, kvs, h1, e a _ h2 nofun, h3, dpAll_env e h4, h5⟩
section
variable {P : Program} {w : World} {K : PySem.W.Frag} {mg : Str → Option Value} {base : Heap} {f fN fL fD fC fA fE : Addr} {fd fdN fdL fdD fdC fdA fdE : FuncData}
theorem gen_ok {x : PySem.Str} {i : Nat} {N ps : List PySem.Str} {k : Nat} {sp : SpGL} (F : FnP K x i f fd) (S : GScope N ps (defScope (top i))) (len : ∀ vs H rows, sp vs H rows → vs.length = ps.length)
    (hbody : ∀ (cdv : Value) (A : Around) (outer : List Env) (s : Shared) (H : Hp) (vs : List V) (rows : List PyData), Room k (A.deeper (envOfC x (defScope (top i)) s.heap.objs.size f cdv)) → sp vs H rows →
      ∃ t, GSsL (gcx P w K mg base N x (defScope (top i)) f cdv A outer s H) (defBody (top i)) t ∧ ∀ H2, EnvH H H2 → t ⟨fun rows' _ _ => rows' = []⟩ rows (start N vs) H2) : GFnL P w K mg base (k + 1) f fd ps sp := by
  obtain ⟨oc, od, dV, kV, doc, pm, an, cdv, ct, osl, rfl, lk, hcd, _, _⟩ := F.ex
  exact gfnL_of lk hcd S len fun A outer s H vs rows hr hsp => hbody cdv A outer s H vs rows hr hsp
abbrev nEx : List PySem.Str := ["clauses", "atoms", "held", "sign", "longer"]
theorem scEx : GScope nEx ["clauses", "atoms", "held"] (defScope (top 19)) := ⟨rfl, rfl, rfl, by decide +kernel, rfl, by decide +kernel, by decide +kernel⟩
theorem ext_step (M : Bn mg) (F : FnP K "extensions" 19 f fd) (gF : mg "extensions" = some (.ref f)) (FD : FnP K "denied_label" 14 fD fdD) (gD : mg "denied_label" = some (.ref fD))
    (FL : FnP K "left_over" 13 fL fdL) (gL : mg "left_over" = some (.ref fL)) (FN : FnP K "negated" 4 fN fdN) (gN : mg "negated" = some (.ref fN)) (N k : Nat) (hk : 3 ≤ k)
    (G : GFnL P w K mg base k f fd ["clauses", "atoms", "held"] (spExtP K N)) : GFnL P w K mg base (k + 3) f fd ["clauses", "atoms", "held"] (spExtP K (N + 1)) := by
  have bF : Binds K fd ["clauses", "atoms", "held"] [] := F.bindsN fun _ _ _ _ _ _ us hl => match us, hl with | [_, _, _], _ => rfl
  have GD : FnOk P w K mg base CX0 3 fD fdD ["clauses", "held"] (spDenied K) := ok_denied M FD FL gL FN gN
  have bD : Binds K fdD ["clauses", "held"] [] := FD.bindsN fun _ _ _ _ _ _ us hl => match us, hl with | [_, _], _ => rfl
  refine gen_ok F scEx (fun vs H rows hsp => ?_) fun cdv A outer s H vs rows hr hsp => ?_
  · obtain ⟨_, _, _, _, _, _, _, _, _, _, rfl, _⟩ := hsp
    rfl
  · refine ⟨_, gsl_cons (gsl_if (pt_cmpR op_eq (pe_call GD (hr.mono (by omega)) rfl gD FD.kp bD .nil pass0 (pa_cons (pv 0) (pa_cons (pv 2) pa_nil))) pe_int (nomark _))
      (gsl_cons (gsl_if (pt_cmpR op_eq (pe_callB call_len_seq rfl M.len boot_len (pa_cons (pv 2) pa_nil)) (pe_callB call_len_seq rfl M.len boot_len (pa_cons (pv 1) pa_nil)) (nomark _))
        (gsl_cons (gsl_yield (pv 2)) gsl_nil)
        (gsl_cons (gsl_for rfl (pi_tup (pe_tup (pa_cons pe_bl (pa_cons pe_bl pa_nil)))) (pg_name (i := 3) scEx.nd rfl (Or.inl rfl))
          (gsl_cons (gsl_ps (ps_set (i := 4) scEx.nd rfl (Or.inl rfl) (pe_op op_catD (pv 2) (pe_tup (pa_cons (pe_tup (pa_cons (pe_ix ix_seq (pv 1) (pe_callB call_len_seq rfl M.len boot_len (pa_cons (pv 2) pa_nil)) (fun _ _ => rfl)) (pa_cons (pv 3) pa_nil))) pa_nil)))))
          (gsl_cons (gsl_from G hr rfl gF F.kp bF (pa_cons (pv 0) (pa_cons (pv 1) (pa_cons (pv 4) pa_nil)))) gsl_nil))) gsl_nil)) gsl_nil) gsl_nil) gsl_nil, fun H2 e2 => ?_⟩
    obtain ⟨n, hnN, E, tb, atoms, h, v, u, x, O, rfl, hv, hu, hx, hz, hcl, hn, ha, rfl⟩ := hsp
    replace hv := di_env e2 hv
    replace hu := dp_env e2 hu
    replace hx := dp_env e2 hx
    clear e2
    have test : Ev (tCall (spDenied K) [] E0 (tCons (tVar 0) (tCons (tVar 2) tNil))) [some v, some u, some x, none, none] H2 (.int (denied tb h)) := fun H1 e Q q =>
      ⟨_, rfl, _, rfl, H2, E, tb, h, v, x, e, O, rfl, hv, hx, hz, hcl, fun H' e' => q H' e'⟩
    refine (et_test (ev_op test ev_c (rv_eq rfl))) H2 (Ex.refl _) _ fun H3 e3 => ⟨e3, ?_⟩
    have eR : exts tb atoms n h = exts tb atoms n h := rfl
    by_cases hd : ¬ denied tb h = 0
    · have e0 : exts tb atoms n h = [] := by
        cases n <;> (unfold exts; rw [if_neg hd])
      rw [decide_eq_false (fun z => hd (V.int.inj z)), e0]
      exact rfl
    replace hd : denied tb h = 0 := Classical.not_not.mp hd
    rw [decide_eq_true (by rw [hd]), if_pos rfl]
    -- the lengths
    have len : EvT (tTest (tOp rEq (tCB (rLenS K) (tCons (tVar 2) tNil)) (tCB (rLenS K) (tCons (tVar 1) tNil)))) [some v, some u, some x, none, none] H2 (decide (V.int (h.length : Int) = .int (atoms.length : Int))) :=
      et_test (ev_op (ev_int (K := K) (ED.is (ed_cb (eda_1 (ed_var (i := 2) (v := x) rfl hx)) rc_lenT) (by rw [List.length_map]))) (ev_int (K := K) (ED.is (ed_cb (eda_1 (ed_var (i := 1) (v := u) rfl hu)) rc_len) (by rw [List.length_map]))) (rv_eq rfl))
    refine len H3 e3 _ fun H4 e4 => ⟨e4, ?_⟩
    have e24 := e3.trans e4
    cases n with
    | zero =>
      rw [decide_eq_true (by rw [← hn, Nat.add_zero]), if_pos rfl]
      refine ⟨x, rfl, Ex.refl _, clD E h, [], by unfold exts; rw [if_pos hd]; rfl, dp_ex _ x e24 hx, fun H5 e5 => rfl⟩
    | succ n =>
    rw [decide_eq_false (fun z => by have := V.int.inj z; omega), if_neg (by decide)]
    have hlt : h.length < atoms.length := by omega
    have hat : atoms[h.length]? = some atoms[h.length] := List.getElem?_eq_getElem hlt
    generalize atoms[h.length] = a at hat
    have ex : exts tb atoms (n + 1) h = exts tb atoms n (h ++ [(a, false)]) ++ exts tb atoms n (h ++ [(a, true)]) := by
      rw [exts, if_pos hd, hat]
    rw [ex]
    -- the signs
    refine ⟨by show 2 ≤ _; exact sz_of (by omega), fun p hp => ⟨p, rfl, ⟨[.bl false, .bl true], st_of upd_same⟩, Ex.new hp, 2, fun i rows' σ' H' => EnvH (upd H4 p (.tup [.bl false, .bl true])) H' ∧ i ≤ 2 ∧ rows' = ([exts tb atoms n (h ++ [(a, false)]), exts tb atoms n (h ++ [(a, true)])].drop i).flatten.map (clD E) ∧ ∃ y z, σ' = [some v, some u, some x, y, z],
      ⟨EnvH.refl _, Nat.zero_le _, by simp, none, none, rfl⟩, ?_⟩⟩
    rintro i rows' σ' H5 ⟨e5, hi, rfl, y, z, rfl⟩
    have st : SqT K H5 p [.bl false, .bl true] := st_of (e5 _ _ upd_same nofun)
    have e45 : EnvH H2 H5 := ((EnvH.of e24).trans (EnvH.of (Ex.new hp))).trans e5
    have hv5 := di_env e45 hv
    have hu5 := dp_env e45 hu
    have hx5 := dp_env e45 hx
    by_cases h2 : i = 2
    · subst h2
      exact .inl ⟨⟨_, st, Nat.le_refl _⟩, rfl⟩
    have hi2 : i < 2 := by omega
    refine .inr ⟨hi2, ⟨[.bl false, .bl true], if i = 0 then .bl false else .bl true, st, ?_⟩, fun b H5 yl => ?_⟩
    · rcases (show i = 0 ∨ i = 1 by omega) with rfl | rfl <;> rfl
    obtain ⟨eH, hb⟩ := yl
    subst eH
    have hb' := hb _ st
    obtain ⟨sg, rfl, hsg⟩ : ∃ sg : Bool, b = .bl sg ∧ (i = 0 ∧ sg = false ∨ i = 1 ∧ sg = true) := by
      rcases (show i = 0 ∨ i = 1 by omega) with rfl | rfl
      · exact ⟨false, (Option.some.inj hb').symm, .inl ⟨rfl, rfl⟩⟩
      · exact ⟨true, (Option.some.inj hb').symm, .inr ⟨rfl, rfl⟩⟩
    refine ⟨Ex.refl _, ?_⟩
    dsimp only [gName]
    refine ⟨Ex.refl _, ?_⟩
    have longer : ED K (tOp (rCatD K) (tVar 2) (tTup (tCons (tTup (tCons (tOp (rIx K) (tVar 1) (tCB (rLenS K) (tCons (tVar 2) tNil))) (tCons (tVar 3) tNil))) tNil))) [some v, some u, some x, some (.bl sg), z] H5 (clD E (h ++ [(a, sg)])) :=
      ED.is (ed_op (ed_var (i := 2) (v := x) rfl hx5) (ed_tup (eda_1 (ed_tup (eda_2 (ed_op (ed_var (i := 1) (v := u) rfl hu5) (ed_cb (eda_1 (ed_var (i := 2) (v := x) rfl hx5)) rc_lenT) (rd_ixL (d := E a) (atI_nat (by rw [List.length_map, List.getElem?_map, hat]; rfl)))) (ed_var (i := 3) (d := .bool sg) rfl (.bl sg))) (by show 2 ≤ _; omega))) (by show 1 ≤ _; omega)) (rd_cat (by rw [List.length_map]; show h.length + 1 ≤ _; omega))) (by rw [clD, List.map_append]; rfl)
    refine longer H5 (Ex.refl _) _ fun lv B6 H6 f6 hlv => ?_
    dsimp only [gName]
    refine ⟨f6.h, _, rfl, _, rfl, _, rfl, Ex.refl _, ?_⟩
    have e56 : EnvH H5 H6 := EnvH.of f6.h
    have hv6 := di_env e56 hv5
    have hu6 := dp_env e56 hu5
    have hlv6 := dp_ex _ lv f6.i hlv
    have callee : spExtP K N [v, u, lv] H6 ((exts tb atoms n (h ++ [(a, sg)])).map (clD E)) := ⟨n, by omega, E, tb, atoms, h ++ [(a, sg)], v, u, lv, O, rfl, hv6, hu6, hlv6, hz, hcl, by rw [List.length_append]; simp only [List.length_cons, List.length_nil]; omega, ha, rfl⟩
    refine ⟨(exts tb atoms n (h ++ [(a, sg)])).map (clD E), (([exts tb atoms n (h ++ [(a, false)]), exts tb atoms n (h ++ [(a, true)])].drop (i + 1)).flatten).map (clD E), ?_, callee, fun H7 e7 => ⟨(e5.trans e56).trans e7, by omega, rfl, _, _, rfl⟩⟩
    rcases hsg with ⟨rfl, rfl⟩ | ⟨rfl, rfl⟩ <;> simp
theorem ok_ext (M : Bn mg) (F : FnP K "extensions" 19 f fd) (gF : mg "extensions" = some (.ref f)) (FD : FnP K "denied_label" 14 fD fdD) (gD : mg "denied_label" = some (.ref fD))
    (FL : FnP K "left_over" 13 fL fdL) (gL : mg "left_over" = some (.ref fL)) (FN : FnP K "negated" 4 fN fdN) (gN : mg "negated" = some (.ref fN)) : ∀ N : Nat, GFnL P w K mg base (4 + 3 * N) f fd ["clauses", "atoms", "held"] (spExtP K N)
  | 0 => gen_ok (k := 3) F scEx (fun _ _ _ ⟨_, h, _⟩ => absurd h (Nat.not_lt_zero _)) fun _ _ _ _ _ _ _ _ ⟨_, h, _⟩ => absurd h (Nat.not_lt_zero _)
  | N + 1 => ext_step M F gF FD gD FL gL FN gN N (4 + 3 * N) (by omega) (ok_ext M F gF FD gD FL gL FN gN N)
abbrev nVa : List PySem.Str := ["clauses", "atoms"]
theorem scVa : GScope nVa ["clauses"] (defScope (top 20)) := ⟨rfl, rfl, rfl, by decide +kernel, rfl, by decide +kernel, by decide +kernel⟩
theorem ok_vals (M : Bn mg) (F : FnP K "valuations" 20 f fd) (FE : FnP K "extensions" 19 fE fdE) (gE : mg "extensions" = some (.ref fE)) (FA : FnP K "all_atoms" 18 fA fdA) (gA : mg "all_atoms" = some (.ref fA)) (FC : FnP K "clause_atoms" 16 fC fdC) (gC : mg "clause_atoms" = some (.ref fC))
    (FD : FnP K "denied_label" 14 fD fdD) (gD : mg "denied_label" = some (.ref fD))
    (FL : FnP K "left_over" 13 fL fdL) (gL : mg "left_over" = some (.ref fL)) (FN : FnP K "negated" 4 fN fdN) (gN : mg "negated" = some (.ref fN)) : GFnL P w K mg base 25 f fd ["clauses"] (spVals K) := by
  have G : GFnL P w K mg base 22 fE fdE ["clauses", "atoms", "held"] (spExtP K 6) := ok_ext M FE gE FD gD FL gL FN gN 6
  have bE : Binds K fdE ["clauses", "atoms", "held"] [] := FE.bindsN fun _ _ _ _ _ _ us hl => match us, hl with | [_, _, _], _ => rfl
  have GA : FnOk P w K mg base CX0 2 fA fdA ["clauses"] (spAllAtoms K) := ok_allAtoms M FA FC gC
  have bA : Binds K fdA ["clauses"] [] := FA.bindsN fun _ _ _ _ _ _ us hl => match us, hl with | [_], _ => rfl
  refine gen_ok (k := 24) F scVa (fun vs H rows hsp => ?_) fun cdv A outer s H vs rows hr hsp => ?_
  · obtain ⟨_, _, _, _, rfl, _⟩ := hsp
    rfl
  · refine ⟨_, gsl_cons (gsl_ps (ps_set (i := 1) scVa.nd rfl (Or.inl rfl) (pe_call GA (hr.mono (by omega)) rfl gA FA.kp bA .nil pass0 (pa_cons (pv 0) pa_nil))))
      (gsl_cons (gsl_from G hr rfl gE FE.kp bE (pa_cons (pv 0) (pa_cons (pv 1) (pa_cons (pe_tup pa_nil) pa_nil)))) gsl_nil), fun H2 e2 => ?_⟩
    obtain ⟨E, tb, v, O, rfl, hv, hz, hcl, hat, rfl⟩ := hsp
    replace hv := di_env e2 hv
    refine ⟨_, rfl, H2, E, tb, v, Ex.refl _, O, rfl, hv, hat, hz, fun av B3 H3 f3 hav => ?_⟩
    dsimp only [gName]
    refine ⟨f3.h, _, rfl, _, rfl, by show 0 ≤ _; exact Nat.zero_le _, fun p hp => ⟨Ex.new hp, _, [], (List.append_nil _).symm, ?_, fun H5 e5 => rfl⟩⟩
    have e35 : Ex H2 (upd H3 p (.tup [])) := f3.h.trans (Ex.new hp)
    have hav' := dp_ex _ av (f3.i.trans (Ex.new (o := .tup []) hp)) hav
    exact ⟨(atomsU E (tb.map (·.2))).length, by have := atomsU_len E (tb.map (·.2)); omega, E, tb, atomsU E (tb.map (·.2)), [], v, av, .ref p, O, rfl, hv.ex e35, hav', .tup (st_of upd_same) .nil, hz, hcl, by simp, by have := atomsU_len E (tb.map (·.2)); omega, rfl⟩
end
end K5
end

section
set_option Elab.async false
set_option linter.all false
set_option maxRecDepth 100000
set_option maxHeartbeats 2000000
/-! W22: Stands(): an own exception whose __init__ says super().__init__(a text). -/
namespace K5
open PySem PySem.Spec PyProof.Rows L2 GenW Evl NS DL LL
open PySem.W PySem.Calls PySem.HandSPX

def clsBody (s : Stmt) : List Stmt := match s with
  | .ClassDef _ _ _ b _ _ _ _ _ _ _ => b
  | _ => []
def initSt : Stmt := (clsBody (top 2)).getD 0 (.Pass ⟨0, 0, 0, 0⟩)
/-- what the written part says of the class at C -/
structure StandsK (P : Program) (K : PySem.W.Frag) (C fI : Addr) : Prop where
  ini : excInitIn K C veTail "ValueError.__new__" = true
  iC : findIn K (.ref C) "__init__" = some (some (.ref fI))
  tI : typeIn K (.ref fI) = some (.type "function")
  exC : subIn K (.ref C) (.type "BaseException") = some true
  tyC : typeIn K (.ref C) = some (.type "type")
  kC : keepIn K (.ref C) = true
  sup : ks_superIn K C C "__init__" = some (some (.builtin "ValueError.__init__"))
  sv : subIn K (.ref C) (.type "ValueError") = some true
  sc : mroIn K C (.ref C) = some true
  exm : exmOne K (.ref C) (.ref C) = some true
  th : nsIn K cStatics "thirdparty.any" = some none
  fn : ∃ (oc ccl cl : Value) (od cdd cld an : Option Addr) (osl ccs csl : Array (Option Value)) (kV doc pm ct : Value) (cda cc : Addr) (q : PySem.Str) (vs : Array Value) (file : PySem.Str) (tf : Tok),
    K.lookup fI = some ⟨oc, od, .func (fnX "__init__" q (defArgs initSt) (defBody initSt) (defScope initSt) [("__class__", cc)] .none kV doc pm an (.ref cda) ct), osl⟩ ∧ codeIn K (.ref cda) q = true ∧
    K.lookup cda = some ⟨ccl, cdd, .fields vs, ccs⟩ ∧ vs[2]? = some (.str file tf) ∧ ((P.main.file : PySem.Str) == file) = true ∧ K.lookup cc = some ⟨cl, cld, .cell (some (.ref C)), csl⟩
  tp : (P.main.scope.names.lookup ("super" : PySem.Str)).isSome = false
section
variable {prog : Program} {w : World} {A : Around} {E : Value → Shared → Prop} {K : PySem.W.Frag} {C fI : Addr}
theorem kxs_bound {M : Model} {s : Shared} {i : String} {pos : Pos} {u x : Addr} {first : List Value} {env : Env} {e : Expr} {rest : List Expr} {Q : Value → Shared → Prop}
    (h : wpAny M A (spliced (backTo pos (starEach (e :: rest) env))) (fun vs s₁ => KxsAt i u x s₁.heap ∧ wpAny M A (call (.ref u) (first ++ vs)) Q E s₁) E s)
    (he : starEach (e :: rest) env = (false, eval e env) :: starEach rest env := by rfl) (hplain : (backTo pos (starEach rest env)).any (·.1) = false := by rfl) :
    wpAny M A (callWith pos (.ref u) first (backTo pos (starEach (e :: rest) env)) []) Q E s := by
  rw [he] at h ⊢
  refine kxs_callWith (i := i) (x := x) (by show (false || (backTo pos (starEach rest env)).any (·.1)) = false; rw [hplain]; rfl) ?_
  exact evalArgs_plain h
/-- the bound ValueError.__init__, called -/
theorem call_kxs {h : Heap} {g : Array GenState} {d : Drawn} {t : Nat} {os : OsState} {u e t0 : Addr} {rest : List Value} {Q : Value → Shared → Prop} (X : K.In h) (q : excInitIn K C veTail "ValueError.__new__" = true) (he : h.get? e = some (excO C t0)) (hu : h.get? u = some (kxs_mw "ValueError.__init__" e)) (hrest : rest.length ≤ sizeLine)
    (hq : ∀ h' t1, (∀ b o, b ≠ e → h.get? b = some o → h'.get? b = some o) → h'.get? e = some (excO C t1) → Q .none ⟨h', g, d, t, os⟩) :
    wpAny (model prog w) A (call (.ref u) rest) Q E ⟨h, g, d, t, os⟩ := by
  obtain ⟨nm, N', qn, bs, bm, hdct, sn, sub, ab, col, dd, k0, k1, k2, k3, k5, hC, hT⟩ := excInit_of X q
  refine wpAny_call (codeAny_of_tree ?_)
  show wpAny _ A.in1 (callAny (.ref u) ⟨rest, []⟩) _ _ _
  simp only [callAny]
  refine wpAny_bind (wpAny_load hu ?_)
  simp only [kxs_mw, show (Value.type "method-wrapper" == Value.type "method" || Value.type "method-wrapper" == Value.type "builtin_function_or_method" || Value.type "method-wrapper" == Value.type "method-wrapper") = true by decide, if_true]
  refine KFB.if_so (by decide) ?_
  refine wpAny_bind (check_bound_init F.excBase_ValueError.toExcCallFacts hC he rfl ?_)
  refine wpAny_bind (wpAny_pure (wpAny_pure ?_))
  refine ⟨plainId_quiet F.excBase_ValueError.init.plain _, codeAny_builtin F.excBase_ValueError.initEntry ?_⟩
  exact exc_init_tree (cls := .ref C) (t0 := t0) (dv := none) (c2 := .none) (c3 := .none) (b4 := .bool false) he hrest fun h' k e' t' => hq h' _ k e'
theorem scI : ∀ x ∈ (defScope initSt).names, x.2 ≠ .cell := by decide +kernel
/-- __init__(e) -/
theorem call_init {h : Heap} {g : Array GenState} {d : Drawn} {t : Nat} {os : OsState} {e t0 : Addr} {R : Result → Shared → Prop} {mg mb : PySem.Str → Option Value} (T : StandsK prog K C fI) (X : K.In h) (hroom : A.depth < recursionLimit) (lim : h.NoLimit)
    (hg : h.Ns mainGlobals mg) (hmg : mg "super" = none) (hb : h.Ns builtinsNs mb) (hmb : mb "super" = some (.type "super")) (he : h.get? e = some (excO C t0))
    (hq : ∀ h' t' t1, (∀ b o, b ≠ e → h.get? b = some o → h'.get? b = some o) → h'.get? e = some (excO C t1) → R (.ok (.ret .none)) ⟨h', g, d, t', os⟩) :
    codeAny (model prog w) A (.call (.ref fI) ⟨[.ref e], []⟩) R ⟨h, g, d, t, os⟩ := by
  obtain ⟨oc, ccl, cl, od, cdd, cld, an, osl, ccs, csl, kV, doc, pm, ct, cda, cc, q, vs, file, tf, lk, hcd, lc, hvs, hfile, lcc⟩ := T.fn
  obtain ⟨cdC, hcdC⟩ : ∃ cd, clsIn K C = some cd := by
    cases hc : clsIn K C with
    | none => have := T.sup; unfold ks_superIn at this; rw [hc] at this; cases this
    | some cd => exact ⟨cd, rfl⟩
  obtain ⟨oC, hC1, hC2⟩ : ∃ oD, h.get? C = some oD ∧ oD.data = .cls cdC := by
    unfold clsIn at hcdC
    split at hcdC
    · rename_i c d cd' sl ho
      cases hcdC
      exact ⟨_, X _ _ ho, rfl⟩
    · cases hcdC
  have I : InstAt h e (excO C t0) C none := ⟨he, rfl, rfl, trivial⟩
  refine ks_codeAny_call_defAt (fd := fnX "__init__" q (defArgs initSt) (defBody initSt) (defScope initSt) [("__class__", cc)] .none kV doc pm an (.ref cda) ct) (binds := [("self", .ref e)]) hroom (X _ _ lk) rfl lim (codeRec_of X hcd) rfl (fun _ _ _ _ hq => wpAny_of_eq rfl hq) scI (fun x hx => by rw [List.mem_singleton.mp hx]; rfl) (fun h₀ hns hk₁ => ?_) rfl rfl rfl
  have X₀ : K.In h₀ := X.keeps hk₁
  refine ks_wpAt_execs_cons (ks_wpAt_Expr_any (ks_wpAt_MethodCall (ks_wpAt_super_base (f := fI) (cc := cda) (tf := tf) rfl rfl rfl rfl (X₀ _ _ lk) rfl rfl rfl (X₀ _ _ lc) rfl hvs hfile T.tp ?_)))
  refine ks_loadName_global rfl rfl (loadGlobal_builtin (hg.keeps hk₁) hmg (hb.keeps hk₁) hmb ⟨rfl, ?_⟩)
  refine wpAny_loadName_free rfl rfl rfl ⟨_, X₀ _ _ lcc, rfl⟩ ?_
  refine wpAny_loadName_local rfl rfl hns rfl ?_
  refine ks_wpAny_isType_cls (hk₁ _ _ hC1) hC2 ⟨rfl, ?_⟩
  refine ks_wpAny_call_super (hk₁ _ _ hC1) hC2 (hk₁ _ _ he) rfl (fun c z => by cases z) (looks_mroIn X₀ T.sc) (fun h2 e2 k2 => ?_)
  have k02 : ∀ b o, h.get? b = some o → h2.get? b = some o := fun b o q => k2 b o (hk₁ b o q)
  have X₂ : K.In h2 := X.keeps k02
  have I2 : InstAt h2 e (excO C t0) C none := ⟨k02 _ _ he, rfl, rfl, trivial⟩
  have hm : alongIn K "__init__" ((cdC.mro.dropWhile (· != .ref C)).drop 1) = some (some (.builtin "ValueError.__init__")) := by
    have := T.sup
    unfold ks_superIn at this
    rw [hcdC] at this
    exact this
  refine kxs_getMethod kxs_ValueError e2 (looks_opaque X₂ T.th) (l₀ := cdC.mro) (fun A Q E s k q => wpAny_bind ((looks_clsIn X₂ hcdC) A _ E s k (wpAny_pure q))) rfl X₂ hm (I2.type.andThen (looks_subIn X₂ T.sv)) (ks_ne X I hcdC) rfl ?_
  have k3 : ∀ b o, h2.get? b = some o → (h2.push (kxs_mw "ValueError.__init__" e)).get? b = some o := fun b o q => Heap.get?_push_of_some _ q
  have hu : (h2.push (kxs_mw "ValueError.__init__" e)).get? h2.objs.size = some (kxs_mw "ValueError.__init__" e) := Heap.get?_push_at rfl rfl
  refine kxs_bound (i := "ValueError.__init__") (x := e) (Calls.spliced_cons (Calls.Constant_str (k := 0) (pos := ⟨7, 25, 7, 41⟩) (Calls.spliced_nil ⟨hu, ?_⟩)))
  refine call_kxs (X₂.keeps k3) T.ini (k3 _ _ (k02 _ _ he)) hu (by rw [sizeLine_eq]; show 1 ≤ _; omega) fun h' t1 k e' => ?_
  refine wpAt_of_wpAny (wpAny_execs_nil ?_)
  exact hq h' _ t1 (fun b o hb q => k b o hb (k3 b o (k02 b o q))) e'
/-- Stands() -/
theorem pmk_stands {X : Cx} {x : PySem.Str} {p pos : Pos} {k : Nat} (T : StandsK X.prog X.K C fI) (hr : Room (k + 1) X.A) (hg : Gl X x) (hm : X.mg x = some (.ref C)) (hs : X.mg "super" = none) (hdb : (x == ("__debug__" : PySem.Str)) = false := by decide) :
    PMk X (.Call (.Name x p) [] [] pos) (fun σ H Q => Q (.ref C) none H) := by
  intro pins s σ H Q I q
  refine wpAny_Call_Name_kw (ld_glob I hg hm ?_ hdb)
  refine callWith_K0 I.kIn T.kC ?_
  show wpAny _ _ (call (.ref C) []) _ _ _
  obtain ⟨nm, N', qn, bs, bm, hdct, sn, sub, ab, col, dd, k0, k1, k2, k3, k5, hC, hT⟩ := excInit_of I.kIn T.ini
  obtain ⟨mb, hb1, hb2⟩ := I.mod.blt
  have hlim := I.nolimit
  have hgl := I.mod.glob.keeps I.bk
  have hbl := hb1.keeps I.bk
  have hfresh : H (s.heap.objs.size + 1) = none := I.hok.fresh (Nat.le_succ _)
  have hK := I.kIn
  have hbare := I.bare
  obtain ⟨hp, g, dr, tk, os⟩ := s
  have kk : ∀ b o, hp.get? b = some o → ((hp.push (kdv_tup [])).push (excO C hp.objs.size)).get? b = some o := fun b o e => Heap.get?_push_of_some _ (Heap.get?_push_of_some _ e)
  have hget : ((hp.push (kdv_tup [])).push (excO C hp.objs.size)).get? (hp.objs.size + 1) = some (excO C hp.objs.size) := by heap_get
  refine wpAny_call (call_own F.excBase_ValueError hT hC (looks_findIn hK T.iC) (fun self => bind_fn hK self T.tI) (Nat.zero_le _) ?_)
  refine call_init T (hK.keeps kk) (hr.make C [] []).depth (hlim.keeps kk) (hgl.keeps kk) hs (hbl.keeps kk) ((hb2 _ (by decide)).trans (by decide +kernel)) hget fun h' t' t1 k e' => ⟨rfl, ?_⟩
  refine ⟨hp.objs.size + 1, _, _, ⟨hp, g, dr, tk, os⟩, H, .ref C, none, rfl, I, fun b o e => k b o (fun z => ?_) (kk b o e), ?_, e', ⟨rfl, rfl⟩, rfl, rfl, hfresh, rfl, hbare, raises_own T.exC T.tyC, q⟩
  · have e2 : hp.get? (hp.objs.size + 1) = some o := z ▸ e
    have := Heap.lt_size e2
    exact absurd this (Nat.not_lt_of_le (Nat.le_succ _))
  · cases hq : hp.get? (hp.objs.size + 1) with
    | none => rfl
    | some o => exact absurd (Heap.lt_size hq) (Nat.not_lt_of_le (Nat.le_succ _))
end
end K5
end

section
set_option Elab.async false
set_option linter.all false
set_option maxRecDepth 100000
set_option maxHeartbeats 2000000
/-! W23: refutation_rows. -/
namespace K5
open PySem PySem.Spec PyProof.Rows L2 GenW Evl NS DL LL

def heldOf (E : At → PyData) (goal : Cl) : Cl := sortU (litD E) (goal.map neg)
def restOf (E : At → PyData) (tb : Tb) (goal : Cl) : List At := (atomsU E (tb.map (·.2))).filter fun a => !decide (a ∈ (heldOf E goal).map (·.1))
def atomsOf (E : At → PyData) (tb : Tb) (goal : Cl) : List At := (heldOf E goal).map (·.1) ++ restOf E tb goal
def extRows (E : At → PyData) (tb : Tb) (goal : Cl) : List Cl := exts tb (atomsOf E tb goal) (restOf E tb goal).length (heldOf E goal)
def refRows (E : At → PyData) (tb : Tb) (goal : Cl) : List Row := (fals E tb (atomsOf E tb goal) 5 (heldOf E goal) 0).1
def spRefut (K : PySem.W.Frag) (C : Addr) : Sp := fun vs H Q X => ∃ (E : At → PyData) (tb : Tb) (goal : Cl) (v u : V), AtOk E ∧ vs = [v, u] ∧ DI K H v (tbD E tb) ∧ Dp K H u (clD E goal) ∧ TbOk tb ∧ ((tb.map (·.2)).flatMap fun c => c).length < 64 ∧ goal.length < 64 ∧
  (extRows E tb goal = [] → ∀ r H', EnvH H H' → Dp K H' r (.tuple ((refRows E tb goal).map (rowD E))) → Q r H') ∧ (extRows E tb goal ≠ [] → ∀ H', EnvH H H' → X (.ref C) none H')
theorem exts_ref {tb : Tb} {atoms : List At} : ∀ (n : Nat) (h : Cl), h.length + n = atoms.length → exts tb atoms n h = [] → Ref tb atoms n h
  | 0, h, _, e => by
    unfold exts at e
    unfold Ref
    intro z
    rw [if_pos z] at e; cases e
  | n + 1, h, hl, e => by
    unfold Ref
    by_cases z : denied tb h = 0
    · right
      have hlt : h.length < atoms.length := by omega
      have ha : atoms[h.length]? = some atoms[h.length] := List.getElem?_eq_getElem hlt
      refine ⟨_, ha, ?_⟩
      unfold exts at e
      rw [if_pos z, ha] at e
      have e' := List.append_eq_nil_iff.mp e
      exact ⟨exts_ref n _ (by rw [List.length_append]; simp only [List.length_cons, List.length_nil]; omega) e'.1, exts_ref n _ (by rw [List.length_append]; simp only [List.length_cons, List.length_nil]; omega) e'.2⟩
    · exact .inl z
theorem Ref.up {tb : Tb} {atoms : List At} : ∀ (n : Nat) (h : Cl), Ref tb atoms n h → Ref tb atoms (n + 1) h
  | 0, h, r => .inl r
  | n + 1, h, r => by
    rcases r with r | ⟨a, ha, r1, r2⟩
    · exact .inl r
    · exact .inr ⟨a, ha, Ref.up n _ r1, Ref.up n _ r2⟩
theorem Ref.mono {tb : Tb} {atoms : List At} {n m : Nat} {h : Cl} (r : Ref tb atoms n h) (le : n ≤ m) : Ref tb atoms m h := by
  induction le with
  | refl => exact r
  | step _ ih => exact Ref.up _ _ ih
theorem rest_len (E : At → PyData) (tb : Tb) (goal : Cl) : (restOf E tb goal).length ≤ 5 := Nat.le_trans (List.length_filter_le _ _) (atomsU_len _ _)
theorem held_len (E : At → PyData) (goal : Cl) : (heldOf E goal).length ≤ 10 := lit_len (sortU_nd _ _)
theorem ref_of {E : At → PyData} {tb : Tb} {goal : Cl} (h : extRows E tb goal = []) : Ref tb (atomsOf E tb goal) 5 (heldOf E goal) :=
  (exts_ref _ _ (by unfold atomsOf; rw [List.length_append, List.length_map]) h).mono (rest_len E tb goal)
section
variable {P : Program} {w : World} {K : PySem.W.Frag} {mg : Str → Option Value} {base : Heap} {f fN fL fD fC fA fE fF fG fO C fI aE : Addr} {fd fdN fdL fdD fdC fdA fdE fdF fdG fdO : FuncData}
section
variable {σ : L2.St} {B H : Hp} {te : TE} {d : PyData} {D : Ends} {u : TS} {i : Nat}
theorem l_asg (h : ED K te σ B d) (a : Ex B H) (k : ∀ v B1 H1, Fz B H B1 H1 → Dp K B1 v d → u D (σ.set i (some v)) H1) : tThenL (tQS (tAsg te (gName i))) u D σ H := h H a _ fun v B1 H1 f hv => ⟨ExX.of f.h, k v B1 H1 f hv⟩
theorem l_lc {wi : TI} {tt : TT} {H1 : Hp} {α : Type} {j : Nat} {vs : List Nat} (enc : α → PyData) (ds : List α) (f : α → Bool) (g : α → PyData) (hs : ID K wi σ B (ds.map enc)) (hz : ds.length ≤ 40000) (hw : ∀ x, wipe ((wipe σ vs).set j (some x)) vs = wipe σ vs)
    (ht : ∀ (i : Nat) d x B1, Ex B B1 → ds[i]? = some d → Dp K B1 x (enc d) → EvT tt ((wipe σ vs).set j (some x)) B1 (f d)) (he : ∀ (i : Nat) d x B1, Ex B B1 → ds[i]? = some d → Dp K B1 x (enc d) → f d = true → ED K te ((wipe σ vs).set j (some x)) B1 (g d))
    (a : Ex B H1) (q : ∀ l B2 H2, H1 l = none → Fz B H1 B2 H2 → ML K B2 H2 l ((ds.filter f).map g) → u D (σ.set i (some (.ref l))) H2) : tThenL (tQS (tAsg (tLc wi (gName j) tt te vs) (gName i))) u D σ H1 :=
  ml_lc (Q := fun x H' => gName i x σ H' fun σ' H'' => ExX H1 H'' ∧ u D σ' H'') enc ds f g hs hz hw ht he a fun l B2 H2 h1 h2 h3 => ⟨ExX.of h2.h, q l B2 H2 h1 h2 h3⟩
end
abbrev nRf : List PySem.Str := ["clauses", "goal", "held", "fixed", "atoms", "row", "rows", "literal", "atom"]
theorem scRf : FnScope nRf ["clauses", "goal"] (defScope (top 22)) := ⟨rfl, rfl, rfl, by decide +kernel, rfl, by decide +kernel, by decide +kernel⟩
abbrev FnR (K : PySem.W.Frag) (aE f : Addr) (fd : FuncData) : Prop := FunD K "refutation_rows" "refutation_rows" (defArgs (top 22)) (defBody (top 22)) (defScope (top 22)) [.ref aE] [] f fd
theorem ok_refut (M : Bn mg) (F : FnR K aE f fd) (TS : StandsK P K C fI) (gS : mg "Stands" = some (.ref C)) (FG : FnP K "negations" 6 fG fdG) (gG : mg "negations" = some (.ref fG)) (FE : FnP K "extensions" 19 fE fdE) (gE : mg "extensions" = some (.ref fE)) (FA : FnP K "all_atoms" 18 fA fdA) (gA : mg "all_atoms" = some (.ref fA)) (FC : FnP K "clause_atoms" 16 fC fdC) (gC : mg "clause_atoms" = some (.ref fC))
    (FF : FnP K "falsified" 21 fF fdF) (gF : mg "falsified" = some (.ref fF)) (FO : FnP K "clause_of" 5 fO fdO) (gO : mg "clause_of" = some (.ref fO)) (FD : FnP K "denied_label" 14 fD fdD) (gD : mg "denied_label" = some (.ref fD))
    (FL : FnP K "left_over" 13 fL fdL) (gL : mg "left_over" = some (.ref fL)) (FN : FnP K "negated" 4 fN fdN) (gN : mg "negated" = some (.ref fN)) : FnL P w K mg base 25 f fd ["clauses", "goal"] (spRefut K C) := by
  have GE : GFnL P w K mg base 22 fE fdE ["clauses", "atoms", "held"] (spExtP K 6) := ok_ext M FE gE FD gD FL gL FN gN 6
  have bE : Binds K fdE ["clauses", "atoms", "held"] [] := FE.bindsN fun _ _ _ _ _ _ us hl => match us, hl with | [_, _, _], _ => rfl
  have GA : FnOk P w K mg base CX0 2 fA fdA ["clauses"] (spAllAtoms K) := ok_allAtoms M FA FC gC
  have bA : Binds K fdA ["clauses"] [] := FA.bindsN fun _ _ _ _ _ _ us hl => match us, hl with | [_], _ => rfl
  have GG : FnOk P w K mg base CX0 2 fG fdG ["literals"] (spD K rNegations) := ok_negations M FG FN gN
  have bG : Binds K fdG ["literals"] [] := FG.bindsN fun _ _ _ _ _ _ us hl => match us, hl with | [_], _ => rfl
  have GF : FnOk P w K mg base CX0 10 fF fdF ["clauses", "atoms", "held", "rows"] (spFalsP K 6) := ok_fals M FF gF FD gD FO gO FL gL FN gN 6
  have bF : Binds K fdF ["clauses", "atoms", "held", "rows"] [] := FF.bindsN fun _ _ _ _ _ _ us hl => match us, hl with | [_, _, _, _], _ => rfl
  obtain ⟨oc, od, dV, kV, doc, pm, an, cdv, ct, osl, rfl, lk, hcd, _, _⟩ := F.ex
  refine fnL_of (k := 24) lk hcd scRf (fun vs H Q X hsp => ?_) fun A outer s H vs Q X hr hsp => ?_
  · obtain ⟨_, _, _, _, _, _, rfl, _⟩ := hsp
    rfl
  · refine ⟨_, pssl_cons (psl_q fun L => ps_set (i := 2) scRf.nd rfl (Or.inl rfl) (pe_call GG (hr.mono (by decide)) rfl gG FG.kp bG .nil pass0 (pa_cons (pv 1) pa_nil)))
      (pssl_cons (psl_q (t := tAsg (tLc (iTup K (tVar 2)) (gName 7) tYes (tOp (rIx K) (tVar 7) (tC (.int 0))) [7]) (gName 3)) fun L => ps_set (i := 3) scRf.nd rfl (Or.inr rfl) (pe_lc (own := [("literal", 7)]) (te := tOp (rIx K) (tVar 7) (tC (.int 0))) rfl scRf.nd (pi_tup (pv 2)) (blkOk_by (own := [("literal", 7)]) (N := nRf) (sc := defScope (top 22)) (by decide +kernel)) (fun _ _ _ _ _ => pg_name (i := 7) scRf.nd rfl (Or.inl rfl)) (fun _ _ _ _ _ => pts_nil) (fun _ _ _ _ _ => pe_ix (r := rIx K) ix_seq (pv 7) pe_int (fun _ _ => rfl))))
      (pssl_cons (psl_q (t := tAsg (tOp rCat (tVar 3) (tLc (iList K (tCall (spAllAtoms K) [] E0 (tCons (tVar 0) tNil))) (gName 8) (tTest (tOp (rInS K true) (tVar 8) (tVar 3))) (tVar 8) [8])) (gName 4)) fun L => ps_set (i := 4) scRf.nd rfl (Or.inl rfl) (pe_op op_cat (pv 3) (pe_lc (own := [("atom", 8)]) (tt := tTest (tOp (rInS K true) (tVar 8) (tVar 3))) rfl scRf.nd (pi_list (pe_call GA (hr.mono (by decide)) rfl gA FA.kp bA .nil pass0 (pa_cons (pv 0) pa_nil))) (blkOk_by (own := [("atom", 8)]) (N := nRf) (sc := defScope (top 22)) (by decide +kernel)) (fun _ _ _ _ _ => pg_name (i := 8) scRf.nd rfl (Or.inl rfl))
          (fun _ _ _ _ _ => pts_one (pt_cmpR (r := rInS K true) (op_notInS (u65 hr)) (pv 8) (pv 3) (by with_unfolding_all rfl))) (fun _ _ _ _ _ => pv 8))))
      (pssl_cons (psl_forGen (i := 5) (fun L => owns_xl) GE hr rfl gE FE.kp bE (fun L => pa_cons (pv 0) (pa_cons (pv 4) (pa_cons (pv 2) pa_nil))) scRf.nd rfl (Or.inl rfl) (fun L => pss_one (ps_raise rfl takes_xl (pmk_stands TS hr rfl gS M.super))))
      (pssl_cons (psl_q fun L => ps_set (i := 6) scRf.nd rfl (Or.inl rfl) (pe_lst pa_nil))
      (pssl_cons (psl_q fun L => ps_expr (pe_call GF (hr.mono (by decide)) rfl gF FF.kp bF .nil pass0 (pa_cons (pv 0) (pa_cons (pv 4) (pa_cons (pv 2) (pa_cons (pv 6) pa_nil))))))
      (pssl_one (psl_q (t := tRet (tCB (rTupleS K) (tCons (tVar 6) tNil))) fun L => ps_ret (pe_callTy (T := "tuple") (r := rTupleS K) call_tuple_of rfl M.tuple (by decide +kernel) (pa_cons (pv 6) pa_nil))))))))), ?_⟩
    obtain ⟨E, tb, goal, v, u, O, rfl, hv, hu, T, hat, hgl, qok, qraise⟩ := hsp
    have hcl : ∀ p ∈ tb, p.2.length ≤ 1000 := fun p hp => Nat.le_trans (T.len p hp) (by omega)
    -- held
    refine l_asg (K := K) (B := H) (ed_call0 (R := rNegations) (eda_1 (ed_var (i := 1) (v := u) rfl hu)) ⟨E, goal, clD E goal, O, hgl, rfl, .inr rfl, rfl⟩) (Ex.refl _) fun hv0 B1 H1 f1 hhd => ?_
    replace hhd : Dp K H1 hv0 (clD E (heldOf E goal)) := dp_ex _ hv0 f1.i hhd
    have e1 : Ex H H1 := f1.h
    clear f1
    -- fixed
    refine l_lc (K := K) (B := H1) (litD E) (heldOf E goal) (fun _ => true) (fun l => E l.1) (id_tup (ed_var (i := 2) (v := hv0) rfl hhd)) (Nat.le_trans (held_len E goal) (by omega)) (fun y => rfl) (fun i m y B2 h1 h2 h3 => et_yes) (fun i m y B2 h1 h2 h3 _ => ed_op (ed_var rfl h3) ed_int (rd_ixT atI_0)) (Ex.refl _) fun lf B2 H2 hlf f2 mf => ?_
    rw [List.filter_eq_self.mpr (by simp)] at mf
    obtain ⟨nf, xf, hf1, hf2⟩ := mf
    replace hf2 : DpAll K H2 xf (((heldOf E goal).map (·.1)).map E) := by rw [List.map_map]; exact dpAll_ex _ _ f2.i hf2
    have e2 : Ex H1 H2 := f2.h
    clear f2 nf
    have hfx : Dp K H2 (.ref lf) (.list (((heldOf E goal).map (·.1)).map E)) := .lst (sq_of hf1) hf2
    -- atoms
    refine ⟨_, rfl, ?_⟩
    show tLc (iList K (tCall (spAllAtoms K) [] E0 (tCons (tVar 0) tNil))) (gName 8) (tTest (tOp (rInS K true) (tVar 8) (tVar 3))) (tVar 8) [8] [some v, some u, some hv0, some (.ref lf), none, none, none, none, none] H2 _
    refine ml_lc (K := K) (B := H2) E (atomsU E (tb.map (·.2))) (fun a => !decide (a ∈ (heldOf E goal).map (·.1))) E (id_list (fun H3 e3 Q q => ⟨_, rfl, H2, E, tb, v, e3, O, rfl, hv.ex (e1.trans e2), hat, T.few, fun r B4 H4 f4 hr => q r B4 H4 f4 hr⟩)) (Nat.le_trans (atomsU_len _ _) (by omega)) (fun y => rfl)
      (fun i m y B3 h1 h2 h3 => et_d (K := K) (ED.is (ed_op (ed_var (i := 8) (v := y) rfl h3) (ed_var (i := 3) rfl (dp_ex _ _ h1 hfx)) (rd_in (shaped_at O m) (shaped_list (f := E) O.lay O.dep (by omega : 4 ≤ 60) _) (.inl rfl))) (by rw [any_at O]; rfl))) (fun i m y B3 h1 h2 h3 _ => ed_var rfl h3) (Ex.refl _) fun lr B3 H3 hlr f3 mr => ?_
    obtain ⟨nr, xr, hr1, hr2⟩ := mr
    replace hr2 : DpAll K H3 xr ((restOf E tb goal).map E) := dpAll_ex _ _ f3.i hr2
    have e3 : Ex H2 H3 := f3.h
    have lf3 : xf.length ≤ 10 := by rw [hf2.length, List.length_map, List.length_map]; exact held_len E goal
    have lr3 : xr.length ≤ 5 := by rw [hr2.length, List.length_map]; exact rest_len E tb goal
    refine ⟨lf, lr, xf, xr, rfl, rfl, e3 _ _ hf1, hr1, sz_of (by omega), fun la hla => ?_⟩
    have e4 : Ex H3 (upd H3 la (.lst (xf ++ xr))) := Ex.new hla
    have hat4 : Dp K (upd H3 la (.lst (xf ++ xr))) (.ref la) (.list ((atomsOf E tb goal).map E)) := .lst (sq_of upd_same) (by
      unfold atomsOf
      rw [List.map_append]
      exact (dpAll_ex _ _ (e3.trans e4) hf2).append (dpAll_ex _ _ e4 hr2))
    refine ⟨ExX.of (e3.trans e4), ?_⟩
    dsimp only
    generalize upd H3 la (.lst (xf ++ xr)) = H4 at e4 hat4
    have e04 : Ex H H4 := ((e1.trans e2).trans e3).trans e4
    have hv4 := hv.ex e04
    have hh4 := dp_ex _ hv0 ((e2.trans e3).trans e4) hhd
    have hla : (heldOf E goal).length + (restOf E tb goal).length = (atomsOf E tb goal).length := by unfold atomsOf; rw [List.length_append, List.length_map]
    have h10 := held_len E goal
    have h5 := rest_len E tb goal
    -- the loop
    refine ⟨_, rfl, _, rfl, _, rfl, (extRows E tb goal).map (clD E), ⟨(restOf E tb goal).length, by omega, E, tb, atomsOf E tb goal, heldOf E goal, v, .ref la, hv0, O, rfl, hv4, hat4, hh4, T.few, hcl, hla, by omega, rfl⟩, ExX.refl _, fun he H5 e5 => ?_, fun hne rv L' H5 e5 lg => ⟨qraise (fun z => hne (by rw [z]; rfl)) H5 ((EnvH.of e04).trans e5), lg⟩⟩
    have hext : extRows E tb goal = [] := List.map_eq_nil_iff.mp he
    have hv5 := di_env e5 hv4
    have ha5 := dp_env e5 hat4
    have hh5 := dp_env e5 hh4
    -- rows
    refine ⟨Nat.zero_le _, fun lw hlw => ⟨ExX.of (Ex.new hlw), ?_⟩⟩
    dsimp only
    have m6 : ML K H5 (upd H5 lw (.lst [])) lw (([] : List Row).map (rowD E)) := ⟨hlw, [], upd_same, .nil⟩
    have e6 : Ex H5 (upd H5 lw (.lst [])) := Ex.new hlw
    generalize upd H5 lw (.lst []) = H6 at m6 e6
    -- falsified
    refine ⟨_, rfl, _, rfl, _, rfl, _, rfl, H5, E, tb, atomsOf E tb goal, heldOf E goal, [], v, .ref la, hv0, lw, e6, O, rfl, hv5, ha5, hh5, m6, T, ref_of hext, by show (heldOf E goal).length + 5 ≤ 20; omega, by show 5 ≤ 8; omega, by decide, fun r B7 H7 f7 m7 hr7 => ?_⟩
    have e57 : Ex H5 H7 := f7.b.trans f7.i
    obtain ⟨n7, xs7, h71, h72⟩ := m7
    obtain ⟨_, xs6, h61, _⟩ := m6
    refine ⟨fun b φ hb => f7.h b _ (fun z => by rw [z, h61] at hb; cases hb) hb, ?_⟩
    refine ⟨_, rfl, lw, xs7, rfl, .inl ⟨sq_of h71, fun l hl => ⟨ExX.of (Ex.new hl), ?_⟩⟩⟩
    refine qok hext _ _ (((EnvH.of e04).trans e5).trans (EnvH.of (e57.trans (Ex.new hl)))) (.tup (st_of upd_same) ?_)
    have z := dpAll_ex _ _ (f7.i.trans (Ex.new (o := .tup xs7) hl)) h72
    exact z
end
end K5
end

section
set_option Elab.async false
set_option linter.all false
set_option maxRecDepth 100000
set_option maxHeartbeats 2000000
/-! W24: _law_stands. -/
namespace K5
open PySem PySem.Spec PyProof.Rows L2 GenW Evl NS DL LL

def spStands (K : PySem.W.Frag) : Sp := fun vs H Q _ => ∃ (E : At → PyData) (tb : Tb) (goal : Cl) (v u : V), AtOk E ∧ vs = [v, u] ∧ DI K H v (tbD E tb) ∧ Dp K H u (clD E goal) ∧ TbOk tb ∧ ((tb.map (·.2)).flatMap fun c => c).length < 64 ∧ goal.length < 64 ∧
  extRows E tb goal ≠ [] ∧ ∀ H', EnvH H H' → Q (.bl true) H'
theorem passesL_of {X : Cx} {xl : XL} {W : WX} {E : XK} (tk : ∀ L, Takes (X.wish (xl L)) (fun cls d σ H => W cls d σ H ∧ LH H L)) (h : ∀ cls d σ H, E cls d H → W cls d σ H) : PassesL X xl E := fun pins σ H1 s1 e s' L' I c =>
  passes_call (X := X.wish (xl L')) (tk L') (fun cls d σ H q => ⟨h cls d σ H q.1, q.2⟩) pins σ H1 s1 e s' (I.wish _) c
section
variable {P : Program} {w : World} {K : PySem.W.Frag} {mg : Str → Option Value} {base : Heap} {f fR C fI aE : Addr} {fd fdR : FuncData}
theorem refut_binds (F : FnR K aE f fd) : Binds K fd ["clauses", "goal"] [] := by
  obtain ⟨ds, h1, h2⟩ := F.binds1 (ps := ["clauses", "goal"]) 2 1 (by simp) rfl fun T kV doc pm an cdv ct us its hl hi => match us, its, hl, hi with
    | [a, b], [c], _, _ => ⟨_, rfl, rfl⟩
  cases h1
  exact h2
theorem refut_binds1 (F : FnR K aE f fd) : ∃ ds, Vals [.ref aE] ds ∧ Binds K fd ["clauses", "goal"] ds :=
  F.binds1 (ps := ["clauses", "goal"]) 1 0 (by simp) rfl fun T kV doc pm an cdv ct us its hl hi => match us, its, hl, hi with
    | [a], [c], _, _ => ⟨_, rfl, rfl⟩
theorem scSt : FnScope ["_law_table", "_law_goal"] ["_law_table", "_law_goal"] (defScope (top 39)) := ⟨rfl, rfl, rfl, by decide +kernel, rfl, by decide +kernel, by decide +kernel⟩
theorem ok_stands (M : Bn mg) (F : FnP K "_law_stands" 39 f fd) (FR : FnR K aE fR fdR) (gR : mg "refutation_rows" = some (.ref fR)) (GR : FnL P w K mg base 25 fR fdR ["clauses", "goal"] (spRefut K C)) (TS : StandsK P K C fI) (gS : mg "Stands" = some (.ref C)) :
    FnL P w K mg base 26 f fd ["_law_table", "_law_goal"] (spStands K) := by
  have bR := refut_binds FR
  obtain ⟨oc, od, dV, kV, doc, pm, an, cdv, ct, osl, rfl, lk, hcd, _, _⟩ := F.ex
  refine fnL_of (k := 25) lk hcd scSt (fun vs H Q X hsp => ?_) fun A outer s H vs Q X hr hsp => ?_
  · obtain ⟨_, _, _, _, _, _, rfl, _⟩ := hsp
    rfl
  · refine ⟨_, pssl_cons (psl_try (x := "Stands") (c := .ref C) (ts := fun _ _ _ => tRet (tC (.bl true))) rfl rfl ⟨rfl, by decide, .inl gS⟩
        (fun W pn xe0 xl' tk own => pssl_one (psl_expr (pel_call (x := "refutation_rows") (E := fun cls d H' => ∀ σ, W cls d σ H') GR hr (passesL_of tk fun cls d σ H h => h σ) rfl gR FR.kp bR .nil (pal_q (ta := tCons (tCB rDictDi (tCons (tVar 0) tNil)) (tCons (tVar 1) tNil)) fun L => pa_cons (pe_callTy (r := rDictDi) call_dictD rfl M.dict (by decide +kernel) (pa_cons (pv 0) pa_nil)) (pa_cons (pv 1) pa_nil)))))
        (fun a oe cls d pn h1 h2 => pss_one (ps_ret pe_bl)))
      (pssl_one (psl_q fun L => ps_ret pe_bl)), ?_⟩
    obtain ⟨E, tb, goal, v, u, O, rfl, hv, hu, T, hat, hgl, hne, q⟩ := hsp
    refine ei_dict (K := K) (i := 0) rfl hv H (Ex.refl _) _ fun dv B1 H1 f1 hd => ⟨_, rfl, ExX.of f1.h, ?_⟩
    refine ⟨E, tb, goal, dv, u, O, rfl, hd.ex f1.i, dp_ex _ u f1.h hu, T, hat, hgl, fun he => absurd he hne, fun _ H' e' σ => ⟨TS.exm, fun a ha => ⟨ExX.refl _, q H' ((EnvH.of f1.h).trans e')⟩⟩⟩
end
end K5
end

section
set_option Elab.async false
set_option linter.all false
set_option maxRecDepth 100000
set_option maxHeartbeats 2000000
/-! W25: _law_ends_in. -/
namespace K5
open PySem PySem.Spec PyProof.Rows L2 GenW Evl NS DL LL

def spEnds (K : PySem.W.Frag) : Sp := fun vs H Q _ => ∃ (E : At → PyData) (tb : Tb) (goal : Cl) (fs : List Cl) (v u : V), AtOk E ∧ vs = [v, u] ∧ DI K H v (tbD E tb) ∧ Dp K H u (clD E goal) ∧ TbOk tb ∧ (∀ p ∈ tb, p.2.Nodup) ∧ ((tb.map (·.2)).flatMap fun c => c).length < 64 ∧ goal.length < 64 ∧
  extRows E tb goal = [] ∧ readRows tb (refRows E tb goal) [] = some fs ∧ 1 ≤ (refRows E tb goal).length ∧ (refRows E tb goal).length ≤ 2 * 2 ^ (atomsU E (tb.map (·.2))).length ∧ (∃ c, fs.getLast? = some c ∧ c.mergeSort (leOf (litD E)) = goal) ∧ ∀ H', EnvH H H' → Q (.bl true) H'
theorem passesL_none {X : Cx} {xl : XL} : PassesL X xl (fun _ _ _ => False) := fun pins σ H1 s1 e s' L' I c => by
  obtain ⟨_, _, _, _, _, _, _, _, _, _, _, _, q, _⟩ := c
  exact q.elim
abbrev rNotN : R2 := fun x y H Q => y = .non ∧ Q (.bl (!decide (x = .non))) H
abbrev tEnds (K : PySem.W.Frag) : TS := tSeq (tAsg (tCall (spD K rAtomsOf) [] E0 (tCons (tLockE (tLc (iKeys (tVar 0)) (gName 5) tYes (tDGet (tVar 0) (tVar 5)) [5])) tNil)) (gName 3))
  (tSeq (tIfS (tOr (tNot (tB (tCB (rIsi K) (tCons (tVar 2) (tCons (tC (.ty "tuple")) tNil))))) (tNot (tTest (tChain (rI0 fun i j => .bl (decide (i ≤ j))) (rI0 fun i j => .bl (decide (i ≤ j))) (tC (.int 1)) (tCB (rLenS K) (tCons (tVar 2) tNil)) (tOp (rI CPow fun i j => .int (i * 2 ^ j.toNat)) (tC (.int 2)) (tCB (rLenS K) (tCons (tVar 3) tNil))))))) (tRet (tC (.bl false))) tNext)
  (tSeq (tAsg (tCall (spRead K) [] E0 (tCons (tVar 2) (tCons (tVar 0) tNil))) (gName 4))
  (tRet (tAndV (tOp rNotN (tVar 4) (tC .non)) (tOp (rEqD K) (tCB (rTupleS K) (tCons (tCB (rSortedD K) (tCons (tOp (rIx K) (tVar 4) (tOp (rI0 fun i j => .int (i - j)) (tCB (rLenS K) (tCons (tVar 4) tNil)) (tC (.int 1)))) tNil)) tNil)) (tVar 1))))))
theorem eqvAll_map {E : At → PyData} (O : AtOk E) : ∀ c d : Cl, PyData.eqvAll (c.map (litD E)) (d.map (litD E)) = decide (c = d)
  | [], [] => by simp [PyData.eqvAll]
  | [], _ :: _ => by simp [PyData.eqvAll]
  | _ :: _, [] => by simp [PyData.eqvAll]
  | l :: c, m :: d => by
    show PyData.eqvAll (litD E l :: c.map (litD E)) (litD E m :: d.map (litD E)) = _
    rw [PyData.eqvAll, eqv_lit O, eqvAll_map O c d, Bool.eq_iff_iff]
    simp
theorem eqv_cl {E : At → PyData} (O : AtOk E) (c d : Cl) : PyData.eqv (clD E c) (clD E d) = decide (c = d) := by
  rw [clD, clD, PyData.eqv, eqvAll_map O]
theorem _root_.L2.Evl_is {te : TE} {σ : L2.St} {H : Hp} {v w : V} (h : Ev te σ H v) (e : v = w) : Ev te σ H w := e ▸ h
section
variable {P : Program} {w : World} {K : PySem.W.Frag} {mg : Str → Option Value} {base : Heap} {f fR C fI aE fA fD fX : Addr} {fd fdR fdA fdD fdX : FuncData}
abbrev nEi : List PySem.Str := ["_law_table", "_law_goal", "_law_found", "_law_atoms", "_law_clauses", "_law_label"]
theorem scEi : FnScope nEi ["_law_table", "_law_goal"] (defScope (top 40)) := ⟨rfl, rfl, rfl, by decide +kernel, rfl, by decide +kernel, by decide +kernel⟩
theorem ok_ends (M : Bn mg) (F : FnP K "_law_ends_in" 40 f fd) (FR : FnR K aE fR fdR) (gR : mg "refutation_rows" = some (.ref fR)) (GR : FnL P w K mg base 25 fR fdR ["clauses", "goal"] (spRefut K C)) (hE : ∀ H, SqT K H aE [])
    (FA : FnP K "_law_atoms_of" 29 fA fdA) (gA : mg "_law_atoms_of" = some (.ref fA)) (FD : FnP K "_law_read_rows" 35 fD fdD) (gD : mg "_law_read_rows" = some (.ref fD)) (FX : FnP K "_law_resolved" 34 fX fdX) (gX : mg "_law_resolved" = some (.ref fX)) :
    FnL P w K mg base 26 f fd ["_law_table", "_law_goal"] (spEnds K) := by
  have bR := refut_binds FR
  obtain ⟨ds1, hds1, bR1⟩ := refut_binds1 FR
  have GA : FnOk P w K mg base CX0 1 fA fdA ["_law_clauses"] (spD K rAtomsOf) := ok_atomsOf M FA
  have bA : Binds K fdA ["_law_clauses"] [] := FA.bindsN fun _ _ _ _ _ _ us hl => match us, hl with | [_], _ => rfl
  have GD : FnOk P w K mg base CX0 2 fD fdD ["_law_rows", "_law_clauses"] (spRead K) := ok_read M FD FX gX
  have bD : Binds K fdD ["_law_rows", "_law_clauses"] [] := FD.bindsN fun _ _ _ _ _ _ us hl => match us, hl with | [_, _], _ => rfl
  obtain ⟨oc, od, dV, kV, doc, pm, an, cdv, ct, osl, rfl, lk, hcd, _, _⟩ := F.ex
  refine fnL_of (k := 25) lk hcd scEi (fun vs H Q X hsp => ?_) fun A outer s H vs Q X hr hsp => ?_
  · obtain ⟨_, _, _, _, _, _, _, rfl, _⟩ := hsp
    rfl
  · refine ⟨_, pssl_cons (psl_set (i := 2) scEi.nd rfl (Or.inl rfl) (pel_call (x := "refutation_rows") (E := fun _ _ _ => False) GR hr passesL_none (by exact rfl) gR FR.kp bR .nil (pal_q (ta := tCons (tCB rDictDi (tCons (tVar 0) tNil)) (tCons (tVar 1) tNil)) fun L => pa_cons (pe_callTy (r := rDictDi) call_dictD rfl M.dict (by decide +kernel) (pa_cons (pv 0) pa_nil)) (pa_cons (pv 1) pa_nil))))
      (pssl_cons (psl_if (ptl_q (t := tTest (tOp rEq (tCB (rLenS K) (tCons (tVar 1) tNil)) (tC (.int 0)))) fun L => pt_cmpR op_eq (pe_callB (r := rLenS K) call_len_seq rfl M.len boot_len (pa_cons (pv 1) pa_nil)) pe_int (nomark _))
          (pssl_one (psl_set (i := 2) scEi.nd rfl (Or.inl rfl) (pel_call (x := "refutation_rows") (E := fun _ _ _ => False) GR hr passesL_none (by exact rfl) gR FR.kp bR1 hds1 (pal_q (ta := tCons (tCB rDictDi (tCons (tVar 0) tNil)) tNil) fun L => pa_cons (pe_callTy (r := rDictDi) call_dictD rfl M.dict (by decide +kernel) (pa_cons (pv 0) pa_nil)) pa_nil)))) pssl_nil)
      (pssl_q (t := tEnds K) fun L => pss_cons (ps_set (i := 3) scEi.nd rfl (Or.inl rfl) (pe_call GA (hr.mono (by decide)) rfl gA FA.kp bA .nil pass0 (pa_cons (pe_lock (pe_lc (own := [("_law_label", 5)]) rfl scEi.nd (pi_keys (pv 0)) (blkOk_by (own := [("_law_label", 5)]) (N := nEi) (sc := defScope (top 40)) (by decide +kernel)) (fun _ _ _ _ _ => pg_name (i := 5) scEi.nd rfl (Or.inl rfl)) (fun _ _ _ _ _ => pts_nil) (fun _ _ _ _ _ => pe_dget (hu_of hr) (pv 0) (pv 5) (fun _ _ => rfl)))) pa_nil)))
        (pss_cons (ps_if (PW.pt (pw_or (pt_not (pt_val (pe_callB call_isi rfl M.isinstance (by decide +kernel) (pa_cons (pv 2) (pa_cons (pe_bltn (v := .ty "tuple") rfl M.tuple (by decide +kernel) rfl) pa_nil))))) (pw_or1 (pt_not (pt_chain op_le op_le pe_int (pe_callB call_len_seq rfl M.len boot_len (pa_cons (pv 2) pa_nil)) (pe_op op_shl pe_int (pe_callB call_len_seq rfl M.len boot_len (pa_cons (pv 3) pa_nil)))))))) (pss_one (ps_ret pe_bl)) pss_nil)
        (pss_cons (ps_set (i := 4) scEi.nd rfl (Or.inl rfl) (pe_call GD (hr.mono (by decide)) rfl gD FD.kp bD .nil pass0 (pa_cons (pv 2) (pa_cons (pv 0) pa_nil))))
        (pss_one (ps_ret (pe_and (pe_cmpR op_notN (pv 4) pe_non (nomark _)) (pe_one (pe_cmpR (op_eqD hr.units) (pe_callTy (T := "tuple") (r := rTupleS K) call_tuple_of rfl M.tuple (by decide +kernel) (pa_cons (pe_callB (cr_sortedD hr.units) rfl M.sorted (by decide +kernel) (pa_cons (pe_ix ix_seq (pv 4) (pe_op op_sub (pe_callB call_len_seq rfl M.len boot_len (pa_cons (pv 4) pa_nil)) pe_int) (fun _ _ => rfl)) pa_nil)) pa_nil)) (pv 1) (nomark _)))))))))), ?_⟩
    obtain ⟨E, tb, goal, fs, v, u, O, rfl, hv, hu, T, hnd, hat, hgl, hext, hread, hn1, hn2, ⟨c, hc1, hc2⟩, q⟩ := hsp
    have flen : fs.length = (refRows E tb goal).length := by
      have key : ∀ (rows : List Row) (gs fs : List Cl), readRows tb rows gs = some fs → fs.length = gs.length + rows.length := by
        intro rows
        induction rows with
        | nil => intro gs fs h; cases h; rfl
        | cons r rows ih =>
          intro gs fs h
          rw [readRows] at h
          split at h
          · cases h
          · have := ih _ _ h
            rw [List.length_append] at this
            rw [List.length_cons]
            simp only [List.length_cons, List.length_nil] at this
            omega
      have := key _ [] fs hread
      simpa using this
    have a5 := atomsU_len E (tb.map (·.2))
    have p5 : (2 : Nat) ^ (atomsU E (tb.map (·.2))).length ≤ 2 ^ 5 := Nat.pow_le_pow_right (by decide) a5
    -- behind the rows
    have tail : ∀ (r : V) (H2 : Hp), EnvH H H2 → Dp K H2 r (.tuple ((refRows E tb goal).map (rowD E))) → tQS (tEnds K) { nx := fun _ H' => Q .non H', rt := Q } [some v, some u, some r, none, none, none] H2 := fun r H2 e2 hr2 => by
      have hv2 := di_env e2 hv
      have hu2 := dp_env e2 hu
      have v0 : ([some v, some u, some r, none, none, none] : L2.St)[0]? = some (some v) := rfl
      refine q_asgD (K := K) (B := H2) (ed_call0 (R := rAtomsOf) (eda_1 (ed_vals v0 hv2 (by simp [tbD]; have := T.few; omega) (fun x => rfl) (fun x => rfl) (fun x => rfl))) ⟨E, tb.map (·.2), O, by omega, by simp [tbD], rfl⟩) (Ex.refl _) fun av B3 H3 f3 hav => ?_
      have hr3 := dp_ex _ r f3.b hr2
      have lenF : ∀ {B' : Hp}, Ex B3 B' → ED K (tCB (rLenS K) (tCons (tVar 2) tNil)) [some v, some u, some r, some av, none, none] B' (.int ((refRows E tb goal).length : Nat)) := fun {B'} h => ED.is (ed_cb (eda_1 (ed_var (i := 2) (v := r) rfl (dp_ex _ r h hr3))) rc_lenT) (by rw [List.length_map])
      have lenA : ∀ {B' : Hp}, Ex B3 B' → ED K (tCB (rLenS K) (tCons (tVar 3) tNil)) [some v, some u, some r, some av, none, none] B' (.int ((atomsU E (tb.map (·.2))).length : Nat)) := fun {B'} h => ED.is (ed_cb (eda_1 (ed_var (i := 3) (v := av) rfl (dp_ex _ av h hav))) rc_len) (by rw [List.length_map])
      refine s_ifD (B := B3) (b := !true || !true) f3.i (et_or (et_not (et_B (ev_isiT (i := 2) (v := r) rfl hr3))) fun _ => et_not ?_) (fun ht => by simp at ht) fun _ H4 e4 => ?_
      · intro H4 e4 Q' q'
        refine lenF (Ex.refl _) H4 e4 _ fun y B5 H5 f5 hy => ?_
        obtain rfl := hy.intI
        refine ⟨_, _, rfl, rfl, _, rfl, ?_⟩
        rw [if_pos (by simp; omega)]
        refine lenA f5.b H5 f5.i _ fun z B6 H6 f6 hz => ?_
        obtain rfl := hz.intI
        refine ⟨_, _, rfl, rfl, ⟨by omega, by omega, by decide⟩, _, _, rfl, rfl, true, ?_, q' H6 (f5.h.trans f6.h)⟩
        refine congrArg V.bl (decide_eq_true (p := ((refRows E tb goal).length : Int) ≤ 2 * 2 ^ ((atomsU E (tb.map (·.2))).length : Int).toNat) ?_)
        rw [Int.toNat_natCast]
        have e : ((2 : Int) * 2 ^ (atomsU E (tb.map (·.2))).length) = ((2 * 2 ^ (atomsU E (tb.map (·.2))).length : Nat) : Int) := by simp
        rw [e]
        omega
      have hv3 := hv2.ex f3.h
      refine ⟨_, rfl, _, rfl, H3, E, tb, refRows E tb goal, fs, r, v, e4, O, rfl, dp_ex _ r f3.i hr3, hv3, by omega, hnd, hread, fun cv B5 H5 f5 hcv => ?_⟩
      dsimp only [gName]
      have hu5 := dp_ex _ u (f3.h.trans f5.b) hu2
      have ncv : decide (cv = .non) = false := by
        obtain ⟨p, ys, rfl, _⟩ := hcv.lstI
        simp
      have hlast : atI (fs.map (lsD E)) ((fs.length : Int) - 1) = some (lsD E c) := by
        have e : ((fs.length : Int) - 1) = ((fs.length - 1 : Nat) : Int) := by omega
        rw [e]
        refine atI_nat ?_
        rw [List.getElem?_map, ← List.getLast?_eq_getElem?, hc1]; rfl
      have lst : ED K (tCB (rTupleS K) (tCons (tCB (rSortedD K) (tCons (tOp (rIx K) (tVar 4) (tOp (rI0 fun i j => .int (i - j)) (tCB (rLenS K) (tCons (tVar 4) tNil)) (tC (.int 1)))) tNil)) tNil)) [some v, some u, some r, some av, some cv, none] B5 (clD E goal) := by
        have h1 : ED K (tOp (rIx K) (tVar 4) (tOp (rI0 fun i j => .int (i - j)) (tCB (rLenS K) (tCons (tVar 4) tNil)) (tC (.int 1)))) [some v, some u, some r, some av, some cv, none] B5 (lsD E c) :=
          ed_op (ed_var (i := 4) (v := cv) rfl hcv) (ed_op (ED.is (ed_cb (eda_1 (ed_var (i := 4) (v := cv) rfl hcv)) rc_len) (by rw [List.length_map])) ed_int (rd_I0 (g := fun i j => i - j))) (rd_ixL hlast)
        refine ED.is (ed_cb (eda_1 (ED.is (ed_cb (eda_1 h1) (rc_sorted ((enc_lit O).srt c))) (by rw [sort_enc, hc2]))) rc_tuple) rfl
      refine s_retD (K := K) (B := B5) (d := .bool true) (ed_b (ev_andV (a := true) (b := true) (L2.Evl_is (e := by rw [ncv]; rfl) <| ev_op (z := .bl (!decide (cv = .non))) (ev_var (i := 4) (v := cv) rfl) ev_c (show RV rNotN cv .non B5 _ from fun H1 e1 Q q => ⟨rfl, q H1 (Ex.refl _)⟩)) fun _ => ev_bl (K := K) (ED.is (ed_op lst (ed_var (i := 1) (v := u) rfl hu5) (rd_eq (shaped_cl O goal) (shaped_cl O goal))) (by rw [eqv_cl O]; simp)))) f5.i fun y B6 H6 f6 hy => ?_
      obtain rfl := hy.blI
      have e26 : Ex H2 H6 := ((f3.h.trans e4).trans f5.h).trans f6.h
      exact ⟨ExX.of e26, q H6 (e2.trans (EnvH.of e26))⟩
    refine ei_dict (K := K) (i := 0) rfl hv H (Ex.refl _) _ fun dv B1 H1 f1 hd => ⟨_, rfl, ExX.of f1.h, ?_⟩
    refine ⟨E, tb, goal, dv, u, O, rfl, hd.ex f1.i, dp_ex _ u f1.h hu, T, hat, hgl, fun _ r H2 e2 hr2 => ?_, fun hne => absurd hext hne⟩
    have e02 : EnvH H H2 := (EnvH.of f1.h).trans e2
    dsimp only [gName]
    have test : EvT (tTest (tOp rEq (tCB (rLenS K) (tCons (tVar 1) tNil)) (tC (.int 0)))) [some v, some u, some r, none, none, none] H2 (decide (V.int (goal.length : Int) = .int 0)) :=
      et_test (ev_op (ev_int (K := K) (ED.is (ed_cb (eda_1 (ed_var (i := 1) (v := u) rfl (dp_env e02 hu))) rc_lenT) (by rw [List.length_map]))) ev_c (rv_eq rfl))
    refine test H2 (Ex.refl _) _ fun H3 e3 => ⟨ExX.of e3, ?_⟩
    have e03 : EnvH H H3 := e02.trans (EnvH.of e3)
    by_cases hg0 : goal = []
    · subst hg0
      dsimp only
      rw [if_pos (by simp)]
      refine ei_dict (K := K) (i := 0) rfl (di_env e03 hv) H3 (Ex.refl _) _ fun dv2 B4 H4 f4 hd2 => ⟨ExX.of f4.h, ?_⟩
      refine ⟨E, tb, [], dv2, .ref aE, O, rfl, hd2.ex f4.i, .tup (hE _) .nil, T, hat, hgl, fun _ r2 H5 e5 hr5 => ?_, fun hne => absurd hext hne⟩
      exact tail r2 H5 ((e03.trans (EnvH.of f4.h)).trans e5) hr5
    · dsimp only
      rw [if_neg (fun z => hg0 (List.length_eq_zero_iff.mp (by have := V.int.inj (of_decide_eq_true z); omega)))]
      exact tail r H3 e03 (dp_ex _ r e3 hr2)
end
end K5
end

section
set_option Elab.async false
set_option linter.all false
set_option maxRecDepth 100000
set_option maxHeartbeats 2000000
/-! M2: the numbers of least_units stand for the least sets. -/
namespace K5

theorem mem_unitCl {ls : List Lit} {u : Nat} {l : Lit} : l ∈ unitCl ls u ↔ l ∈ ls ∧ u.testBit (ls.idxOf l) = true := by
  unfold unitCl
  rw [List.mem_filter, decide_eq_true_eq]
  refine ⟨fun ⟨h, q⟩ => ⟨h, ?_⟩, fun ⟨h, q⟩ => ⟨h, ?_⟩⟩
  · rw [bitN, if_pos h] at q; exact (pos_and _ _).mp q
  · rw [bitN, if_pos h]; exact (pos_and _ _).mpr q
theorem unit_ext {ls : List Lit} (nd : ls.Nodup) {u v : Nat} (hu : u < 2 ^ ls.length) (hv : v < 2 ^ ls.length) (h : ∀ l, l ∈ unitCl ls u ↔ l ∈ unitCl ls v) : u = v := by
  refine Nat.eq_of_testBit_eq fun i => ?_
  by_cases hi : i < ls.length
  · have e := h ls[i]
    rw [mem_unitCl, mem_unitCl, nd.idxOf_getElem] at e
    have hm : ls[i] ∈ ls := List.getElem_mem hi
    rw [Bool.eq_iff_iff]
    exact ⟨fun q => (e.mp ⟨hm, q⟩).2, fun q => (e.mpr ⟨hm, q⟩).2⟩
  · have hp : 2 ^ ls.length ≤ 2 ^ i := Nat.pow_le_pow_right (by decide) (by omega)
    rw [Nat.testBit_lt_two_pow (Nat.lt_of_lt_of_le hu hp), Nat.testBit_lt_two_pow (Nat.lt_of_lt_of_le hv hp)]
theorem idx_inj {ls : List Lit} {l m : Lit} (h1 : l ∈ ls) (h2 : m ∈ ls) (e : ls.idxOf l = ls.idxOf m) : l = m := by
  have a := List.getElem_idxOf (List.idxOf_lt_length_of_mem h1)
  have b := List.getElem_idxOf (List.idxOf_lt_length_of_mem h2)
  rw [← a, ← b]
  congr 1
theorem mem_or {ls : List Lit} {t : Nat} {l m : Lit} (hl : l ∈ ls) : m ∈ unitCl ls (t ||| bitN ls l) ↔ m ∈ unitCl ls t ∨ m = l := by
  rw [mem_unitCl, mem_unitCl, bitN, if_pos hl, Nat.testBit_or, Nat.testBit_two_pow, Bool.or_eq_true, decide_eq_true_eq]
  constructor
  · rintro ⟨h, q | q⟩
    · exact .inl ⟨h, q⟩
    · exact .inr (idx_inj h hl q.symm)
  · rintro (⟨h, q⟩ | rfl)
    · exact ⟨h, .inl q⟩
    · exact ⟨hl, .inr rfl⟩
theorem and_zero {ls : List Lit} {t : Nat} {m : Lit} : t &&& bitN ls m = 0 ↔ m ∉ unitCl ls t := by
  by_cases hm : m ∈ ls
  · rw [mem_unitCl, bitN, if_pos hm, Nat.and_comm]
    constructor
    · intro h z
      have := (pos_and _ _).mpr z.2
      omega
    · intro h
      rcases Nat.eq_zero_or_pos (2 ^ ls.idxOf m &&& t) with z | z
      · exact z
      · exact absurd ⟨hm, (pos_and _ _).mp z⟩ h
  · rw [bitN, if_neg hm, Nat.and_zero]
    exact ⟨fun _ z => hm (mem_unitCl.mp z).1, fun _ => rfl⟩
theorem sum_bits {ls : List Lit} : ∀ c : Cl, c.Nodup → (∀ l ∈ c, l ∈ ls) → ∀ i, (c.map (bitN ls)).sum.testBit i = true ↔ ∃ l ∈ c, ls.idxOf l = i
  | [], _, _, i => by simp
  | l :: c, nd, h, i => by
    rw [List.nodup_cons] at nd
    have ih := sum_bits c nd.2 fun m hm => h m (List.mem_cons_of_mem _ hm)
    rw [List.map_cons, List.sum_cons]
    have hl := h l List.mem_cons_self
    have hz : bitN ls l &&& (c.map (bitN ls)).sum = 0 := by
      rw [bitN, if_pos hl]
      rcases Nat.eq_zero_or_pos (2 ^ ls.idxOf l &&& (c.map (bitN ls)).sum) with z | z
      · exact z
      · obtain ⟨m, hm, e⟩ := (ih _).mp ((pos_and _ _).mp z)
        exact absurd (idx_inj (h m (List.mem_cons_of_mem _ hm)) hl e ▸ hm) nd.1
    have e := Bits.nat_xor_add_and (bitN ls l) (c.map (bitN ls)).sum
    rw [hz, Nat.mul_zero, Nat.add_zero] at e
    rw [← e, Nat.testBit_xor, bitN, if_pos hl, Nat.testBit_two_pow]
    have hx : ∀ j, (∃ m ∈ c, ls.idxOf m = j) → ls.idxOf l ≠ j := fun j ⟨m, hm, e⟩ z => nd.1 (idx_inj (h m (List.mem_cons_of_mem _ hm)) hl (e.trans z.symm) ▸ hm)
    by_cases q : ls.idxOf l = i
    · have : (c.map (bitN ls)).sum.testBit i = false := by
        rw [Bool.eq_false_iff]
        exact fun z => hx i ((ih i).mp z) q
      rw [this, decide_eq_true q]
      exact ⟨fun _ => ⟨l, List.mem_cons_self, q⟩, fun _ => rfl⟩
    · rw [decide_eq_false q, Bool.false_xor, ih]
      constructor
      · rintro ⟨m, hm, e⟩; exact ⟨m, List.mem_cons_of_mem _ hm, e⟩
      · rintro ⟨m, hm, e2⟩
        rcases List.mem_cons.mp hm with rfl | hm
        · exact absurd e2 q
        · exact ⟨m, hm, e2⟩
theorem hit_bits {ls : List Lit} {c : Cl} (nd : c.Nodup) (h : ∀ l ∈ c, l ∈ ls) {u : Nat} : 0 < u &&& (c.map (bitN ls)).sum ↔ ∃ l ∈ c, l ∈ unitCl ls u := by
  constructor
  · intro z
    obtain ⟨i, hi⟩ := Nat.exists_testBit_of_ne_zero (Nat.pos_iff_ne_zero.mp z)
    rw [Nat.testBit_and, Bool.and_eq_true] at hi
    obtain ⟨l, hl, e⟩ := (sum_bits c nd h i).mp hi.2
    exact ⟨l, hl, mem_unitCl.mpr ⟨h l hl, e ▸ hi.1⟩⟩
  · rintro ⟨l, hl, q⟩
    refine Nat.pos_of_ne_zero fun e => ?_
    have : (u &&& (c.map (bitN ls)).sum).testBit (ls.idxOf l) = true := by
      rw [Nat.testBit_and, (mem_unitCl.mp q).2, (sum_bits c nd h _).mpr ⟨l, hl, rfl⟩]; rfl
    rw [e] at this
    simp at this
theorem sub_bits {ls : List Lit} (nd : ls.Nodup) {u v : Nat} (hu : u < 2 ^ ls.length) (hv : v < 2 ^ ls.length) : isLessN u v = true ↔ (∀ l ∈ unitCl ls u, l ∈ unitCl ls v) ∧ ¬ ∀ l ∈ unitCl ls v, l ∈ unitCl ls u := by
  unfold isLessN
  rw [Bool.and_eq_true, Bool.not_eq_true', beq_eq_false_iff_ne, beq_iff_eq]
  have hsub : u &&& v = u ↔ ∀ l ∈ unitCl ls u, l ∈ unitCl ls v := by
    constructor
    · intro e l hl
      rw [mem_unitCl] at hl ⊢
      refine ⟨hl.1, ?_⟩
      have := hl.2
      rw [← e, Nat.testBit_and, Bool.and_eq_true] at this
      exact this.2
    · intro h
      refine unit_ext nd (Nat.lt_of_le_of_lt Nat.and_le_left hu) hu fun l => ?_
      rw [mem_unitCl, mem_unitCl, Nat.testBit_and, Bool.and_eq_true]
      constructor
      · rintro ⟨h1, h2, h3⟩; exact ⟨h1, h2⟩
      · rintro ⟨h1, h2⟩; exact ⟨h1, h2, (mem_unitCl.mp (h l (mem_unitCl.mpr ⟨h1, h2⟩))).2⟩
  rw [hsub]
  constructor
  · rintro ⟨ne, h⟩
    exact ⟨h, fun h2 => ne (unit_ext nd hu hv fun l => ⟨h l, h2 l⟩)⟩
  · rintro ⟨h, h2⟩
    exact ⟨fun e => h2 (e ▸ fun _ z => z), h⟩

/-! ### grown -/
theorem mem_putN {g : List Nat} {k x : Nat} : x ∈ putN g k ↔ x ∈ g ∨ x = k := by
  unfold putN
  split
  · rename_i h
    exact ⟨.inl, fun z => z.elim id fun e => e ▸ h⟩
  · simp
theorem mem_growLits {ls : List Lit} {u x : Nat} : ∀ (c : Cl) (g : List Nat), x ∈ c.foldl (growLit ls u) g ↔ x ∈ g ∨ ∃ l ∈ c, neg l ∉ unitCl ls u ∧ x = u ||| bitN ls l
  | [], g => by simp
  | l :: c, g => by
    rw [List.foldl_cons, mem_growLits c]
    have e : x ∈ growLit ls u g l ↔ x ∈ g ∨ (neg l ∉ unitCl ls u ∧ x = u ||| bitN ls l) := by
      unfold growLit
      by_cases h : u &&& bitN ls (neg l) = 0
      · rw [if_pos h, mem_putN]
        have := and_zero.mp h
        exact ⟨fun z => z.elim .inl fun z => .inr ⟨this, z⟩, fun z => z.elim .inl fun z => .inr z.2⟩
      · rw [if_neg h]
        exact ⟨.inl, fun z => z.elim id fun z => absurd (and_zero.mpr z.1) h⟩
    rw [e, or_assoc]
    constructor
    · rintro (h | ⟨h1, h2⟩ | ⟨m, h1, h2⟩)
      · exact .inl h
      · exact .inr ⟨l, List.mem_cons_self, h1, h2⟩
      · exact .inr ⟨m, List.mem_cons_of_mem _ h1, h2⟩
    · rintro (h | ⟨m, h1, h2⟩)
      · exact .inl h
      · rcases List.mem_cons.mp h1 with rfl | h1
        · exact .inr (.inl h2)
        · exact .inr (.inr ⟨m, h1, h2⟩)
def grows (ls : List Lit) (c : Cl) (t x : Nat) : Prop := ((∃ l ∈ c, l ∈ unitCl ls t) ∧ x = t) ∨ (¬ (∃ l ∈ c, l ∈ unitCl ls t) ∧ ∃ l ∈ c, neg l ∉ unitCl ls t ∧ x = t ||| bitN ls l)
theorem mem_grownN {ls : List Lit} {c : Cl} (nd : c.Nodup) (h : ∀ l ∈ c, l ∈ ls) {us : List Nat} {x : Nat} : x ∈ grownN ls us c ↔ ∃ t ∈ us, grows ls c t x := by
  have key : ∀ (us g : List Nat), x ∈ us.foldl (growOne ls c) g ↔ x ∈ g ∨ ∃ t ∈ us, grows ls c t x := by
    intro us
    induction us with
    | nil => intro g; simp
    | cons t us ih =>
      intro g
      rw [List.foldl_cons, ih]
      have e : x ∈ growOne ls c g t ↔ x ∈ g ∨ grows ls c t x := by
        unfold growOne grows
        by_cases hh : 0 < t &&& (c.map (bitN ls)).sum
        · rw [if_pos hh, mem_putN]
          have q := (hit_bits nd h).mp hh
          exact ⟨fun z => z.elim .inl fun z => .inr (.inl ⟨q, z⟩), fun z => z.elim .inl fun z => z.elim (fun z => .inr z.2) fun z => absurd q z.1⟩
        · rw [if_neg hh, mem_growLits]
          have q : ¬ ∃ l ∈ c, l ∈ unitCl ls t := fun z => hh ((hit_bits nd h).mpr z)
          exact ⟨fun z => z.elim .inl fun z => .inr (.inr ⟨q, z⟩), fun z => z.elim .inl fun z => z.elim (fun z => absurd z.1 q) fun z => .inr z.2⟩
      rw [e, or_assoc]
      simp only [List.mem_cons, exists_eq_or_imp]
  unfold grownN
  rw [key]; simp

/-- the numbers stand for the least untorn sets -/
structure Rep (ls : List Lit) (cs : List Cl) (us : List Nat) : Prop where
  lt : ∀ u ∈ us, u < 2 ^ ls.length
  U : Mth.Units cs (us.map (unitCl ls))
theorem Least.nil {S : Cl} (h : Mth.Least ([] : List Cl) S) : S = [] := by
  cases S with
  | nil => rfl
  | cons l S => exact absurd (fun c hc => by cases hc) (h.2 l List.mem_cons_self)
theorem unit_zero (ls : List Lit) : unitCl ls 0 = [] := by
  rw [List.eq_nil_iff_forall_not_mem]
  intro l hl
  have := (mem_unitCl.mp hl).2
  simp at this
theorem Rep.start (ls : List Lit) : Rep ls [] [0] := by
  refine ⟨fun u hu => by rw [List.mem_singleton.mp hu]; exact Nat.two_pow_pos _, ⟨?_, ?_, ?_⟩⟩
  · intro u hu
    rw [List.map_singleton, List.mem_singleton, unit_zero] at hu
    subst hu; exact fun l hl => by cases hl
  · intro u hu
    rw [List.map_singleton, List.mem_singleton, unit_zero] at hu
    subst hu; exact ⟨fun c hc => (by cases hc), fun l hl => (by cases hl)⟩
  · intro S _ h
    refine ⟨[], by rw [List.map_singleton, unit_zero]; exact List.mem_singleton.mpr rfl, fun l => ?_⟩
    rw [Least.nil h]
theorem hitAll_app {cs : List Cl} {c S : Cl} : Mth.HitAll (cs ++ [c]) S ↔ Mth.HitAll cs S ∧ Mth.Hit c S := by
  constructor
  · intro h
    exact ⟨fun d hd => h d (List.mem_append_left _ hd), h c (List.mem_append_right _ (List.mem_singleton.mpr rfl))⟩
  · rintro ⟨h1, h2⟩ d hd
    rcases List.mem_append.mp hd with z | z
    · exact h1 d z
    · rw [List.mem_singleton.mp z]; exact h2
theorem Rep.step {ls : List Lit} (nd : ls.Nodup) {cs : List Cl} {c : Cl} {us : List Nat} (cn : c.Nodup) (hc : ∀ l ∈ c, l ∈ ls) (R : Rep ls cs us) : Rep ls (cs ++ [c]) (leastStep ls us c) := by
  have gl : ∀ x ∈ grownN ls us c, x < 2 ^ ls.length := by
    intro x hx
    obtain ⟨t, ht, h⟩ := (mem_grownN cn hc).mp hx
    rcases h with ⟨_, rfl⟩ | ⟨_, l, hl, _, rfl⟩
    · exact R.lt _ ht
    · refine Nat.or_lt_two_pow (R.lt _ ht) ?_
      rw [bitN, if_pos (hc l hl)]
      exact Nat.pow_lt_pow_right (by decide) (List.idxOf_lt_length_of_mem (hc l hl))
  -- A: the grown are untorn and meet all
  have A : ∀ x ∈ grownN ls us c, Mth.Con (unitCl ls x) ∧ Mth.HitAll (cs ++ [c]) (unitCl ls x) := by
    intro x hx
    obtain ⟨t, ht, h⟩ := (mem_grownN cn hc).mp hx
    have tm : unitCl ls t ∈ us.map (unitCl ls) := List.mem_map.mpr ⟨t, ht, rfl⟩
    have tc := R.U.con _ tm
    have th := (R.U.least _ tm).1
    rcases h with ⟨hh, rfl⟩ | ⟨_, l, hl, hn, rfl⟩
    · exact ⟨tc, hitAll_app.mpr ⟨th, hh⟩⟩
    · refine ⟨fun m hm hm' => ?_, hitAll_app.mpr ⟨th.mono fun m hm => (mem_or (hc l hl)).mpr (.inl hm), l, hl, (mem_or (hc l hl)).mpr (.inr rfl)⟩⟩
      rcases (mem_or (hc l hl)).mp hm with a | a
      · rcases (mem_or (hc l hl)).mp hm' with b | b
        · exact tc m a b
        · refine hn ?_
          rw [← b]
          show (m.1, !!m.2) ∈ _
          rw [Bool.not_not]; exact a
      · subst a
        rcases (mem_or (hc m hl)).mp hm' with b | b
        · exact hn b
        · exact Mth.ng_ne m b
  -- B: below each untorn set that meets all there is a grown one
  have Bw : ∀ T : Cl, Mth.Con T → Mth.HitAll (cs ++ [c]) T → ∃ x ∈ grownN ls us c, ∀ l ∈ unitCl ls x, l ∈ T := by
    intro T tc th
    obtain ⟨h1, h2⟩ := hitAll_app.mp th
    obtain ⟨u, hu, hs⟩ := R.U.within tc h1
    obtain ⟨t, ht, rfl⟩ := List.mem_map.mp hu
    by_cases q : ∃ l ∈ c, l ∈ unitCl ls t
    · exact ⟨t, (mem_grownN cn hc).mpr ⟨t, ht, .inl ⟨q, rfl⟩⟩, hs⟩
    · obtain ⟨l, hl, hlT⟩ := h2
      refine ⟨t ||| bitN ls l, (mem_grownN cn hc).mpr ⟨t, ht, .inr ⟨q, l, hl, fun z => tc l hlT (hs _ z), rfl⟩⟩, fun m hm => ?_⟩
      rcases (mem_or (hc l hl)).mp hm with a | a
      · exact hs m a
      · rw [a]; exact hlT
  have mem : ∀ x, x ∈ leastStep ls us c ↔ x ∈ grownN ls us c ∧ ∀ o ∈ grownN ls us c, isLessN o x = false := by
    intro x
    unfold leastStep
    rw [List.mem_filter, Bool.not_eq_true', List.any_eq_false]
    simp
  refine ⟨fun u hu => gl u ((mem u).mp hu).1, ⟨?_, ?_, ?_⟩⟩
  · intro u hu
    obtain ⟨x, hx, rfl⟩ := List.mem_map.mp hu
    exact (A x ((mem x).mp hx).1).1
  · intro u hu
    obtain ⟨x, hx, rfl⟩ := List.mem_map.mp hu
    obtain ⟨hg, hmin⟩ := (mem x).mp hx
    obtain ⟨ac, ah⟩ := A x hg
    refine ⟨ah, fun l hl hw => ?_⟩
    obtain ⟨g, hg2, hs⟩ := Bw (Mth.wo l (unitCl ls x)) (ac.mono fun m hm => (Mth.mem_wo.mp hm).1) hw
    have : isLessN g x = true := (sub_bits nd (gl g hg2) (gl x hg)).mpr ⟨fun m hm => (Mth.mem_wo.mp (hs m hm)).1, fun z => (Mth.mem_wo.mp (hs l (z l hl))).2 rfl⟩
    rw [hmin g hg2] at this; cases this
  · intro S sc sl
    obtain ⟨g, hg, hs⟩ := Bw S sc sl.1
    obtain ⟨ac, ah⟩ := A g hg
    have hs2 := sl.sub ah hs
    refine ⟨unitCl ls g, List.mem_map.mpr ⟨g, (mem g).mpr ⟨hg, fun o ho => ?_⟩, rfl⟩, fun l => ⟨hs l, hs2 l⟩⟩
    rw [Bool.eq_false_iff]
    intro z
    obtain ⟨z1, z2⟩ := (sub_bits nd (gl o ho) (gl g hg)).mp z
    exact z2 fun l hl => sl.sub (A o ho).2 (fun m hm => hs m (z1 m hm)) l (hs l hl)
theorem rep_found {ls : List Lit} (nd : ls.Nodup) (cs : List Cl) (h : ∀ c ∈ cs, c.Nodup ∧ ∀ l ∈ c, l ∈ ls) : Rep ls cs (foundN ls cs) := by
  have key : ∀ (ds pre : List Cl) (us : List Nat), (∀ c ∈ ds, c.Nodup ∧ ∀ l ∈ c, l ∈ ls) → Rep ls pre us → Rep ls (pre ++ ds) (ds.foldl (leastStep ls) us) := by
    intro ds
    induction ds with
    | nil => intro pre us _ R; rw [List.append_nil]; exact R
    | cons c ds ih =>
      intro pre us hd R
      have := ih (pre ++ [c]) (leastStep ls us c) (fun d hd' => hd d (List.mem_cons_of_mem _ hd')) (R.step nd (hd c List.mem_cons_self).1 (hd c List.mem_cons_self).2)
      rw [List.append_assoc] at this
      exact this
  exact key cs [] [0] h (Rep.start ls)
end K5
end

section
set_option Elab.async false
set_option linter.all false
set_option maxRecDepth 100000
set_option maxHeartbeats 2000000
/-! M3: orders, the law's listings. -/
namespace K5
open PySem DL NS

/-! ### orders -/
/-- sorted, each literal once -/
structure Ord (E : At → PyData) (c : Cl) : Prop where
  s : c.Pairwise fun a b => leOf (litD E) a b = true
  n : c.Nodup
section
variable {E : At → PyData} (O : AtOk E)
include O
theorem Ord.eq {c d : Cl} (h1 : Ord E c) (h2 : Ord E d) (h : ∀ l, l ∈ c ↔ l ∈ d) : c = d :=
  List.Perm.eq_of_pairwise (fun a b _ _ h1 h2 => leOf_anti (enc_lit O) h1 h2) h1.s h2.s ((List.perm_ext_iff_of_nodup h1.n h2.n).mpr h)
omit O in
theorem sort_pw (enc : Lit → PyData) (l : List Lit) : (l.mergeSort (leOf enc)).Pairwise fun a b => leOf enc a b = true :=
  List.pairwise_mergeSort (fun a b c => (leOf_total enc).trans a b c) (fun a b => by rcases (leOf_total enc).total a b with h | h <;> simp [h]) l
omit O in
theorem sort_pwA (enc : At → PyData) (l : List At) : (l.mergeSort (leOf enc)).Pairwise fun a b => leOf enc a b = true :=
  List.pairwise_mergeSort (fun a b c => (leOf_total enc).trans a b c) (fun a b => by rcases (leOf_total enc).total a b with h | h <;> simp [h]) l
omit O in
theorem ord_sort {c : Cl} (h : c.Nodup) : Ord E (c.mergeSort (leOf (litD E))) := ⟨sort_pw _ _, ((List.mergeSort_perm c _).nodup_iff).mpr h⟩
omit O in
theorem ord_sortU (c : Cl) : Ord E (sortU (litD E) c) := ord_sort (nodup_eraseDups c)
omit O in
theorem Ord.filter {c : Cl} (h : Ord E c) (f : Lit → Bool) : Ord E (c.filter f) := ⟨h.s.filter f, h.n.filter f⟩
/-- of different atoms the atoms' order tells -/
theorem le_lit {a b : At} (hne : a ≠ b) (x y : Bool) : leOf (litD E) (a, x) (b, y) = leOf E a b := by
  show (!PySem.W.dataLt (litD E (b, y)) (litD E (a, x))) = (!PySem.W.dataLt (E b) (E a))
  congr 1
  show PyProof.Rows.lexLt PyProof.Rows.itemOrd (PySem.W.keyToks (.tuple [E b, .bool y])) (PySem.W.keyToks (.tuple [E a, .bool x])) = _
  rw [PySem.W.keyToks, PySem.W.keyToks, PySem.W.toks_all_cons (E b) [.bool y], PySem.W.toks_all_cons (E a) [.bool x]]
  rw [PyProof.Rows.lex_self]
  refine (PySem.W.toks_eqv _ _ (O.alike b a)).2 ?_ _ _
  rw [O.eqv]
  exact decide_eq_false fun e => hne e.symm
theorem ord_atoms {as : List At} (hs : as.Pairwise fun a b => leOf E a b = true) (hn : as.Nodup) : ∀ {c : Cl}, (c.map (·.1)).Sublist as → Ord E c := fun {c} h => by
  have s1 := hs.sublist h
  have n1 := hn.sublist h
  refine ⟨?_, ?_⟩
  · have := s1.and n1
    rw [List.pairwise_map] at this
    exact this.imp fun {l m} ⟨h1, h2⟩ => by
      obtain ⟨a, x⟩ := l; obtain ⟨b, y⟩ := m
      rw [le_lit O h2]; exact h1
  · exact (List.pairwise_map.mp n1).imp fun h e => h (by rw [e])
theorem leCl_anti {c d : Cl} (h1 : leOf (clD E) c d = true) (h2 : leOf (clD E) d c = true) : c = d := by
  have h1' : (!PySem.W.dataLt (clD E d) (clD E c)) = true := h1
  have h2' : (!PySem.W.dataLt (clD E c) (clD E d)) = true := h2
  rw [Bool.not_eq_true'] at h1' h2'
  have e := (PyProof.Rows.listOrd PyProof.Rows.itemOrd).total _ _ h2' h1'
  have al : PySem.W.alike (clD E c) (clD E d) = true := by rw [clD, clD, PySem.W.alike]; exact alike_lits O c d
  have := eqv_of_toks al e
  rw [eqv_cl O] at this
  exact of_decide_eq_true this
theorem perm_sortCl {l m : List Cl} (p : l.Perm m) : l.mergeSort (leOf (clD E)) = m.mergeSort (leOf (clD E)) := by
  have T := leOf_total (clD E)
  have sl : (l.mergeSort (leOf (clD E))).Pairwise (fun a b => leOf (clD E) a b = true) := List.pairwise_mergeSort (fun a b c => T.trans a b c) (fun a b => by rcases T.total a b with h | h <;> simp [h]) l
  have sm : (m.mergeSort (leOf (clD E))).Pairwise (fun a b => leOf (clD E) a b = true) := List.pairwise_mergeSort (fun a b c => T.trans a b c) (fun a b => by rcases T.total a b with h | h <;> simp [h]) m
  exact List.Perm.eq_of_pairwise (fun a b _ _ h1 h2 => leCl_anti O h1 h2) sl sm (((List.mergeSort_perm l _).trans p).trans (List.mergeSort_perm m _).symm)
end

/-! ### the listings -/
theorem mem_three {a : At} {r c : Cl} : c ∈ three a r ↔ ∃ e : Cl, c = r ++ e ∧ (e.map (·.1)).Sublist [a] := by
  simp only [three, List.mem_cons, List.not_mem_nil, or_false]
  constructor
  · rintro (rfl | rfl | rfl)
    · exact ⟨[], by simp, by simp⟩
    · exact ⟨[(a, false)], rfl, by simp⟩
    · exact ⟨[(a, true)], rfl, by simp⟩
  · rintro ⟨e, rfl, h⟩
    match e, h with
    | [], _ => left; simp
    | [(b, x)], h =>
      have : b = a := by simpa using h
      subst this
      cases x
      · right; left; rfl
      · right; right; rfl
    | _ :: _ :: _, h => have := h.length_le; simp at this
theorem mem_grow3 : ∀ (as : List At) (rows : List Cl) (c : Cl), c ∈ as.foldl (fun rows a => rows.flatMap (three a)) rows ↔ ∃ r ∈ rows, ∃ d : Cl, c = r ++ d ∧ (d.map (·.1)).Sublist as
  | [], rows, c => by
    constructor
    · intro h; exact ⟨c, h, [], by simp, by simp⟩
    · rintro ⟨r, h, d, rfl, hd⟩
      have : d = [] := List.map_eq_nil_iff.mp (List.sublist_nil.mp hd)
      subst this; simpa using h
  | a :: as, rows, c => by
    rw [List.foldl_cons, mem_grow3 as]
    constructor
    · rintro ⟨r', h, d, rfl, hd⟩
      obtain ⟨r, hr, h3⟩ := List.mem_flatMap.mp h
      obtain ⟨e, rfl, he⟩ := mem_three.mp h3
      refine ⟨r, hr, e ++ d, by rw [List.append_assoc], ?_⟩
      rw [List.map_append]
      exact he.append hd
    · rintro ⟨r, hr, d, rfl, hd⟩
      obtain ⟨l1, l2, e, s1, s2⟩ := List.sublist_append_iff.mp (show (d.map (·.1)).Sublist ([a] ++ as) from hd)
      obtain ⟨d1, d2, rfl, rfl, rfl⟩ := List.map_eq_append_iff.mp e
      exact ⟨r ++ d1, List.mem_flatMap.mpr ⟨r, hr, mem_three.mpr ⟨d1, rfl, s1⟩⟩, d2, by rw [List.append_assoc], s2⟩
theorem mem_sets {as : List At} {c : Cl} : c ∈ sets as ↔ (c.map (·.1)).Sublist as := by
  unfold sets growAll
  rw [mem_grow3]
  constructor
  · rintro ⟨r, hr, d, rfl, h⟩
    rw [List.mem_singleton.mp hr]; exact h
  · intro h; exact ⟨[], List.mem_singleton.mpr rfl, c, rfl, h⟩
theorem nd_grow3 : ∀ (as : List At) (rows : List Cl), as.Nodup → rows.Nodup → (∀ r ∈ rows, ∀ l ∈ r, l.1 ∉ as) → (as.foldl (fun rows a => rows.flatMap (three a)) rows).Nodup
  | [], rows, _, h, _ => h
  | a :: as, rows, hn, h, hr => by
    rw [List.nodup_cons] at hn
    refine nd_grow3 as _ hn.2 ?_ ?_
    · refine List.pairwise_flatMap.mpr ⟨fun r _ => ?_, ?_⟩
      · simp [three]
      · refine List.Pairwise.imp_of_mem (fun {r1 r2} m1 m2 hne c1 hc1 c2 hc2 e => ?_) h
        subst e
        obtain ⟨e1, q1, s1⟩ := mem_three.mp hc1
        obtain ⟨e2, q2, s2⟩ := mem_three.mp hc2
        have key : ∀ {r e : Cl}, r ∈ rows → (e.map (·.1)).Sublist [a] → (r ++ e).filter (fun l => !decide (l.1 = a)) = r := fun {r e} hr' he => by
          rw [List.filter_append, List.filter_eq_self.mpr (fun l hl => by
            have := hr r hr' l hl
            simp only [Bool.not_eq_true', decide_eq_false_iff_not]
            exact fun z => this (by rw [z]; exact List.mem_cons_self)), List.filter_eq_nil_iff.mpr (fun l hl => by
            have := he.subset (List.mem_map_of_mem (f := (·.1)) hl)
            rw [List.mem_singleton.mp this]; simp), List.append_nil]
        exact hne (by rw [← key m1 s1, ← key m2 s2, ← q1, ← q2])
    · intro r hr' l hl
      obtain ⟨r0, h0, h3⟩ := List.mem_flatMap.mp hr'
      obtain ⟨e, rfl, he⟩ := mem_three.mp h3
      rcases List.mem_append.mp hl with z | z
      · exact fun q => hr r0 h0 l z (List.mem_cons_of_mem _ q)
      · have := he.subset (List.mem_map_of_mem (f := (·.1)) z)
        rw [List.mem_singleton.mp this]; exact hn.1
end K5
end

section
set_option Elab.async false
set_option linter.all false
set_option maxRecDepth 100000
set_option maxHeartbeats 2000000
/-! M4: the units of units. -/
namespace K5
open PySem DL NS

theorem nd_sets {as : List At} (h : as.Nodup) : (sets as).Nodup := nd_grow3 as [[]] h (by simp) (by simp)
theorem mem_two {a : At} {r c : Cl} : c ∈ two a r ↔ ∃ b, c = r ++ [(a, b)] := by
  simp only [two, List.mem_cons, List.not_mem_nil, or_false]
  constructor
  · rintro (rfl | rfl)
    · exact ⟨false, rfl⟩
    · exact ⟨true, rfl⟩
  · rintro ⟨b, rfl⟩
    cases b
    · exact .inl rfl
    · exact .inr rfl
theorem mem_grow2 : ∀ (as : List At) (rows : List Cl) (c : Cl), c ∈ as.foldl (fun rows a => rows.flatMap (two a)) rows ↔ ∃ r ∈ rows, ∃ d : Cl, c = r ++ d ∧ d.map (·.1) = as
  | [], rows, c => by
    constructor
    · intro h; exact ⟨c, h, [], by simp, rfl⟩
    · rintro ⟨r, h, d, rfl, hd⟩
      have : d = [] := List.map_eq_nil_iff.mp hd
      subst this; simpa using h
  | a :: as, rows, c => by
    rw [List.foldl_cons, mem_grow2 as]
    constructor
    · rintro ⟨r', h, d, rfl, hd⟩
      obtain ⟨r, hr, h3⟩ := List.mem_flatMap.mp h
      obtain ⟨b, rfl⟩ := mem_two.mp h3
      exact ⟨r, hr, (a, b) :: d, by rw [List.append_assoc]; rfl, by rw [List.map_cons, hd]⟩
    · rintro ⟨r, hr, d, rfl, hd⟩
      match d, hd with
      | (b, x) :: d, hd =>
        rw [List.map_cons, List.cons.injEq] at hd
        obtain ⟨hb, hd2⟩ := hd
        have hb' : b = a := hb
        subst hb'
        exact ⟨r ++ [(b, x)], List.mem_flatMap.mpr ⟨r, hr, mem_two.mpr ⟨x, rfl⟩⟩, d, by rw [List.append_assoc]; rfl, hd2⟩
theorem mem_vectors {as : List At} {c : Cl} : c ∈ vectors as ↔ c.map (·.1) = as := by
  unfold vectors growAll
  rw [mem_grow2]
  constructor
  · rintro ⟨r, hr, d, rfl, h⟩
    rw [List.mem_singleton.mp hr]; exact h
  · intro h; exact ⟨[], List.mem_singleton.mpr rfl, c, rfl, h⟩

/-! ### meets -/
theorem meets_iff {c h : Cl} : meets c h = true ↔ Mth.Hit c h := by
  unfold meets Mth.Hit
  rw [List.any_eq_true]
  simp
theorem meetsAll_iff {cs : List Cl} {h : Cl} : meetsAll cs h = true ↔ Mth.HitAll cs h := by
  unfold meetsAll Mth.HitAll
  rw [List.all_eq_true]
  exact forall_congr' fun c => forall_congr' fun _ => meets_iff
theorem isLeast_iff {cs : List Cl} {r : Cl} : isLeast cs r = true ↔ Mth.Least cs r := by
  unfold isLeast Mth.Least
  rw [Bool.and_eq_true, Bool.not_eq_true', List.any_eq_false, meetsAll_iff]
  refine and_congr Iff.rfl (forall_congr' fun l => forall_congr' fun _ => ?_)
  rw [meetsAll_iff]
  have e : without r l = Mth.wo l r := by
    unfold without Mth.wo
    refine List.filter_congr fun m _ => ?_
    simp
  rw [e]
theorem hitAll_congr {cs : List Cl} {S T : Cl} (h : ∀ l, l ∈ S ↔ l ∈ T) : Mth.HitAll cs S ↔ Mth.HitAll cs T := ⟨fun z => z.mono fun l hl => (h l).mp hl, fun z => z.mono fun l hl => (h l).mpr hl⟩
theorem least_mem {cs : List Cl} {S T : Cl} (h : ∀ l, l ∈ S ↔ l ∈ T) (z : Mth.Least cs S) : Mth.Least cs T :=
  ⟨(hitAll_congr h).mp z.1, fun l hl q => z.2 l ((h l).mpr hl) ((hitAll_congr fun m => by rw [Mth.mem_wo, Mth.mem_wo, h]).mpr q)⟩
theorem con_of_fst {c : Cl} (h : (c.map (·.1)).Nodup) : Mth.Con c := by
  intro l hl hn
  have e : ∀ {l m : Lit}, l ∈ c → m ∈ c → l.1 = m.1 → l = m := fun {l m} h1 h2 e => by
    obtain ⟨i, hi, rfl⟩ := List.getElem_of_mem h1
    obtain ⟨j, hj, rfl⟩ := List.getElem_of_mem h2
    have : i = j := by
      have z := (List.getElem_inj (xs := c.map (·.1)) (i := i) (j := j) (h₀ := by rw [List.length_map]; exact hi) (h₁ := by rw [List.length_map]; exact hj) h).mp (by rw [List.getElem_map, List.getElem_map]; exact e)
      exact z
    subst this; rfl
  exact Mth.ng_ne l (e hn hl rfl)
theorem fst_of_con {c : Cl} (h : Mth.Con c) (n : c.Nodup) : (c.map (·.1)).Nodup := by
  refine List.pairwise_map.mpr (List.Pairwise.imp_of_mem (fun {l m} hl hm hne e => ?_) n)
  rcases Mth.lit_cases e with z | z
  · exact hne z
  · exact h m hm (z ▸ hl)
theorem sub_nodup {c : Cl} {as : List At} (hn : as.Nodup) (h : (c.map (·.1)).Sublist as) : (c.map (·.1)).Nodup := hn.sublist h

/-! ### families -/
section
variable {E : At → PyData} (O : AtOk E)
/-- the law's listing lists the least sets -/
theorem units_sets {as : List At} {cs : List Cl} (hn : as.Nodup) (ha : ∀ c ∈ cs, ∀ l ∈ c, l.1 ∈ as) : Mth.Units cs ((sets as).filter (isLeast cs)) := by
  refine ⟨fun u hu => ?_, fun u hu => ?_, fun S sc sl => ?_⟩
  · exact con_of_fst (sub_nodup hn (mem_sets.mp (List.mem_filter.mp hu).1))
  · exact isLeast_iff.mp (List.mem_filter.mp hu).2
  · let T : Cl := as.flatMap fun a => if (a, false) ∈ S then [(a, false)] else if (a, true) ∈ S then [(a, true)] else []
    have hT : ∀ l, l ∈ T ↔ l ∈ S := by
      intro l
      constructor
      · intro h
        obtain ⟨a, _, h⟩ := List.mem_flatMap.mp h
        split at h
        · rename_i z; rw [List.mem_singleton.mp h]; exact z
        · split at h
          · rename_i z; rw [List.mem_singleton.mp h]; exact z
          · cases h
      · intro h
        obtain ⟨c, hc, hlc⟩ := sl.mem h
        refine List.mem_flatMap.mpr ⟨l.1, ha c hc l hlc, ?_⟩
        obtain ⟨a, b⟩ := l
        cases b with
        | false =>
          show (a, false) ∈ (if (a, false) ∈ S then [(a, false)] else if (a, true) ∈ S then [(a, true)] else [] : Cl)
          rw [if_pos h]; exact List.mem_singleton.mpr rfl
        | true =>
          have nf : (a, false) ∉ S := sc _ h
          show (a, true) ∈ (if (a, false) ∈ S then [(a, false)] else if (a, true) ∈ S then [(a, true)] else [] : Cl)
          rw [if_neg nf, if_pos h]; exact List.mem_singleton.mpr rfl
    have sT : (T.map (·.1)).Sublist as := by
      have key : ∀ bs : List At, ((bs.flatMap fun a => if (a, false) ∈ S then [(a, false)] else if (a, true) ∈ S then [(a, true)] else [] : Cl).map (·.1)).Sublist bs := by
        intro bs
        induction bs with
        | nil => exact List.Sublist.refl _
        | cons b bs ih =>
          rw [List.flatMap_cons, List.map_append]
          refine List.Sublist.append (l₂ := [b]) ?_ ih
          split
          · exact List.Sublist.refl _
          · split
            · exact List.Sublist.refl _
            · exact List.nil_sublist _
      exact key as
    exact ⟨T, List.mem_filter.mpr ⟨mem_sets.mpr sT, isLeast_iff.mpr (least_mem (fun l => (hT l).symm) sl)⟩, hT⟩
theorem litsU_ord (E : At → PyData) (cs : List Cl) : Ord E (litsU E cs) := ord_sortU _
theorem mem_litsU {cs : List Cl} {l : Lit} : l ∈ litsU E cs ↔ ∃ c ∈ cs, l ∈ c := by
  unfold litsU
  rw [mem_sortU, List.mem_flatMap]
theorem mem_atomsU {cs : List Cl} {a : At} : a ∈ atomsU E cs ↔ ∃ c ∈ cs, ∃ l ∈ c, l.1 = a := by
  unfold atomsU
  rw [mem_sortU, List.mem_map]
  constructor
  · rintro ⟨l, hl, e⟩
    obtain ⟨c, hc, hlc⟩ := List.mem_flatMap.mp hl
    exact ⟨c, hc, l, hlc, e⟩
  · rintro ⟨c, hc, l, hlc, e⟩
    exact ⟨l, List.mem_flatMap.mpr ⟨c, hc, hlc⟩, e⟩
/-- the program's list, ahead of sorting -/
def rawU (E : At → PyData) (cs : List Cl) : List Cl := (foundN (litsU E cs) cs).map (unitCl (litsU E cs))
theorem rawU_units {cs : List Cl} (h : ∀ c ∈ cs, c.Nodup) : Mth.Units cs (rawU E cs) := (rep_found (litsU_ord E cs).n cs fun c hc => ⟨h c hc, fun l hl => mem_litsU.mpr ⟨c, hc, hl⟩⟩).U
theorem rawU_ord {cs : List Cl} {u : Cl} (h : u ∈ rawU E cs) : Ord E u := by
  obtain ⟨n, _, rfl⟩ := List.mem_map.mp h
  exact (litsU_ord E cs).filter _
theorem rawU_nd {cs : List Cl} (h : ∀ c ∈ cs, c.Nodup) : (rawU E cs).Nodup := by
  have R := rep_found (litsU_ord E cs).n cs fun c hc => ⟨h c hc, fun l hl => mem_litsU.mpr ⟨c, hc, hl⟩⟩
  have g := gd_found (ls := litsU E cs) cs
  refine List.pairwise_map.mpr (List.Pairwise.imp_of_mem (fun {u v} hu hv hne e => ?_) g.1)
  exact hne (unit_ext (litsU_ord E cs).n (R.lt u hu) (R.lt v hv) fun l => by rw [e])
include O in
/-- two lists of least sets hold the same -/
theorem perm_units {cs ds us vs : List Cl} (U : Mth.Units cs us) (V : Mth.Units ds vs) (nu : us.Nodup) (nv : vs.Nodup) (ou : ∀ u ∈ us, Ord E u) (ov : ∀ v ∈ vs, Ord E v) (h : ∀ S, Mth.Con S → (Mth.Least cs S ↔ Mth.Least ds S)) : us.Perm vs := by
  refine (List.perm_ext_iff_of_nodup nu nv).mpr fun x => ⟨fun hx => ?_, fun hx => ?_⟩
  · obtain ⟨v, hv, e⟩ := V.all x (U.con x hx) ((h x (U.con x hx)).mp (U.least x hx))
    rw [Ord.eq O (ou x hx) (ov v hv) fun l => (e l).symm]; exact hv
  · obtain ⟨v, hv, e⟩ := U.all x (V.con x hx) ((h x (V.con x hx)).mpr (V.least x hx))
    rw [Ord.eq O (ov x hx) (ou v hv) fun l => (e l).symm]; exact hv
theorem units_perm {cs us vs : List Cl} (U : Mth.Units cs us) (p : us.Perm vs) : Mth.Units cs vs := ⟨fun u hu => U.con u (p.mem_iff.mpr hu), fun u hu => U.least u (p.mem_iff.mpr hu), fun S h1 h2 => let ⟨u, hu, e⟩ := U.all S h1 h2; ⟨u, p.mem_iff.mp hu, e⟩⟩
theorem leastUnits_eq (E : At → PyData) (cs : List Cl) : leastUnits E cs = (rawU E cs).mergeSort (leOf (clD E)) := rfl
theorem lu_units {cs : List Cl} (h : ∀ c ∈ cs, c.Nodup) : Mth.Units cs (leastUnits E cs) := units_perm (rawU_units h) (List.mergeSort_perm _ _).symm
theorem lu_ord {cs : List Cl} {u : Cl} (h : u ∈ leastUnits E cs) : Ord E u := rawU_ord ((List.mergeSort_perm _ _).mem_iff.mp h)
theorem atoms_pw (E : At → PyData) (cs : List Cl) : (atomsU E cs).Pairwise fun a b => leOf E a b = true := sort_pwA _ _
include O in
theorem sets_ord {cs : List Cl} {c : Cl} (h : c ∈ sets (atomsU E cs)) : Ord E c := ord_atoms O (atoms_pw E cs) (atomsU_nd E cs) (mem_sets.mp h)
/-- what the law builds: clauses of different atoms -/
def Plain (cs : List Cl) : Prop := ∀ c ∈ cs, (c.map (·.1)).Nodup
theorem nd_fst {c : Cl} (h : (c.map (·.1)).Nodup) : c.Nodup := (List.pairwise_map.mp h).imp fun h e => h (by rw [e])
include O in
theorem P1 {cs : List Cl} (h : Plain cs) : leastUnits E cs = lawLeast E (sets (atomsU E cs)) cs := by
  have hn : ∀ c ∈ cs, c.Nodup := fun c hc => nd_fst (h c hc)
  rw [leastUnits_eq, lawLeast]
  refine perm_sortCl O (perm_units O (rawU_units hn) (units_sets (atomsU_nd E cs) fun c hc l hl => mem_atomsU.mpr ⟨c, hc, l, hl, rfl⟩) (rawU_nd hn) ((nd_sets (atomsU_nd E cs)).filter _) (fun u hu => rawU_ord hu) (fun v hv => sets_ord O (List.mem_filter.mp hv).1) fun S _ => Iff.rfl)
theorem worlds_ok {cs : List Cl} : Mth.Worlds (atomsU E cs) cs (worlds E cs) := by
  have vec : ∀ {w : Cl}, w ∈ worlds E cs → w.map (·.1) = atomsU E cs := fun {w} hw => mem_vectors.mp (List.mem_filter.mp hw).1
  refine ⟨fun w hw => con_of_fst (by rw [vec hw]; exact atomsU_nd E cs), fun w hw a ha => ?_, fun w hw => meetsAll_iff.mp (List.mem_filter.mp hw).2, fun p hp => ?_⟩
  · rw [← vec hw] at ha
    obtain ⟨⟨b, x⟩, hl, e⟩ := List.mem_map.mp ha
    have e' : b = a := e
    subst e'
    cases x
    · exact .inr hl
    · exact .inl hl
  · refine ⟨(atomsU E cs).map fun a => (a, p a), List.mem_filter.mpr ⟨mem_vectors.mpr (by rw [List.map_map]; exact List.map_id'' (fun _ => rfl) _), meetsAll_iff.mpr fun c hc => ?_⟩, fun l => ?_⟩
    · obtain ⟨l, hl, e⟩ := hp c hc
      exact ⟨l, hl, List.mem_map.mpr ⟨l.1, mem_atomsU.mpr ⟨c, hc, l, hl, rfl⟩, by rw [e]⟩⟩
    · rw [List.mem_map]
      constructor
      · rintro ⟨a, ha, rfl⟩; exact ⟨ha, rfl⟩
      · rintro ⟨h1, h2⟩; exact ⟨l.1, h1, by rw [h2]⟩
theorem lu_atoms {cs : List Cl} (h : ∀ c ∈ cs, c.Nodup) {u : Cl} (hu : u ∈ leastUnits E cs) {l : Lit} (hl : l ∈ u) : l.1 ∈ atomsU E cs := by
  obtain ⟨c, hc, hlc⟩ := ((lu_units h).least u hu).mem hl
  exact mem_atomsU.mpr ⟨c, hc, l, hlc, rfl⟩
theorem worlds_atoms {cs : List Cl} {w : Cl} (hw : w ∈ worlds E cs) {l : Lit} (hl : l ∈ w) : l.1 ∈ atomsU E cs := by
  rw [← mem_vectors.mp (List.mem_filter.mp hw).1]
  exact List.mem_map_of_mem hl
/-- the units' and the worlds' least sets -/
theorem least_uw {cs : List Cl} (h : Plain cs) {S : Cl} (hc : Mth.Con S) : Mth.Least (leastUnits E cs) S ↔ Mth.Least (worlds E cs) S := by
  have hn : ∀ c ∈ cs, c.Nodup := fun c hc => nd_fst (h c hc)
  have ha : ∀ c ∈ cs, ∀ l ∈ c, l.1 ∈ atomsU E cs := fun c hc l hl => mem_atomsU.mpr ⟨c, hc, l, hl, rfl⟩
  constructor
  · intro z
    have at_ : ∀ l ∈ S, l.1 ∈ atomsU E cs := fun l hl => let ⟨u, hu, hlu⟩ := z.mem hl; lu_atoms hn hu hlu
    exact z.congr hc fun T tc ts => Mth.units_worlds worlds_ok (lu_units hn) ha tc fun l hl => at_ l (ts l hl)
  · intro z
    have at_ : ∀ l ∈ S, l.1 ∈ atomsU E cs := fun l hl => let ⟨w, hw, hlw⟩ := z.mem hl; worlds_atoms hw hlw
    exact z.congr hc fun T tc ts => (Mth.units_worlds worlds_ok (lu_units hn) ha tc fun l hl => at_ l (ts l hl)).symm
include O in
theorem P2 {cs : List Cl} (h : Plain cs) : leastUnits E (leastUnits E cs) = lawLeast E (sets (atomsU E cs)) (worlds E cs) := by
  have hn : ∀ c ∈ leastUnits E cs, c.Nodup := fun c hc => (lu_ord hc).n
  rw [leastUnits_eq, lawLeast]
  exact perm_sortCl O (perm_units O (rawU_units hn) (units_sets (atomsU_nd E cs) fun w hw l hl => worlds_atoms hw hl) (rawU_nd hn) ((nd_sets (atomsU_nd E cs)).filter _) (fun u hu => rawU_ord hu) (fun v hv => sets_ord O (List.mem_filter.mp hv).1) fun S hc => least_uw h hc)
include O in
theorem P3 {cs : List Cl} (h : Plain cs) : leastUnits E (leastUnits E (leastUnits E cs)) = leastUnits E cs := by
  have hn : ∀ c ∈ cs, c.Nodup := fun c hc => nd_fst (h c hc)
  have hn1 : ∀ c ∈ leastUnits E cs, c.Nodup := fun c hc => (lu_ord hc).n
  have hn2 : ∀ c ∈ leastUnits E (leastUnits E cs), c.Nodup := fun c hc => (lu_ord hc).n
  have U := lu_units (E := E) hn
  have F := lu_units (E := E) hn1
  rw [leastUnits_eq, leastUnits_eq E cs]
  refine perm_sortCl O (perm_units O (rawU_units hn2) (rawU_units hn) (rawU_nd hn2) (rawU_nd hn) (fun u hu => rawU_ord hu) (fun u hu => rawU_ord hu) fun S hc => ?_)
  have pl : ∀ c ∈ cs, Mth.Con c := fun c hc => con_of_fst (h c hc)
  exact ⟨fun z => z.congr hc fun T tc _ => Mth.units_thrice pl U F tc, fun z => z.congr hc fun T tc _ => (Mth.units_thrice pl U F tc).symm⟩
end
end K5
end

section
set_option Elab.async false
set_option linter.all false
set_option maxRecDepth 100000
set_option maxHeartbeats 2000000
/-! M5: denied clauses, extensions, worlds. -/
namespace K5
open PySem DL NS

/-- a table as the law makes it -/
structure TbP (tb : Tb) : Prop where
  nd : (tb.map (·.1)).Nodup
  pos : ∀ p ∈ tb, 0 < p.1
  plain : Plain (tb.map (·.2))
section
variable {tb : Tb} (T : TbP tb)
theorem lookup_of (nd : (tb.map (·.1)).Nodup) {k : Int} {c : Cl} (h : (k, c) ∈ tb) : tb.lookup k = some c := by
  induction tb with
  | nil => cases h
  | cons p tb ih =>
    obtain ⟨k0, c0⟩ := p
    rw [List.map_cons, List.nodup_cons] at nd
    by_cases e : k = k0
    · subst e
      rcases List.mem_cons.mp h with z | z
      · rw [(Prod.mk.inj z).2]; simp [List.lookup]
      · exact absurd (List.mem_map.mpr ⟨_, z, rfl⟩) nd.1
    · rw [List.lookup_cons, beq_false_of_ne e]
      rcases List.mem_cons.mp h with z | z
      · exact absurd (Prod.mk.inj z).1 e
      · exact ih nd.2 z
theorem left_nil {c h : Cl} : (leftOver c h).length = 0 ↔ ∀ l ∈ c, neg l ∈ h := by
  unfold leftOver
  rw [List.length_eq_zero_iff, List.filter_eq_nil_iff]
  simp
include T in
theorem denied_iff {h : Cl} : denied tb h ≠ 0 ↔ ∃ p ∈ tb, ∀ l ∈ p.2, neg l ∈ h := by
  constructor
  · intro hd
    obtain ⟨c, h1, h2⟩ := denied_there hd
    refine ⟨_, h2, ?_⟩
    unfold denied at hd
    cases q : ((tb.map (·.1)).mergeSort (leOf PyData.int)).find? (isDenied tb h) with
    | none => rw [q] at hd; exact absurd rfl hd
    | some k =>
      have e : denied tb h = k := by unfold denied; rw [q]; rfl
      have := List.find?_some q
      unfold isDenied at this
      rw [e] at h1
      rw [h1] at this
      exact left_nil.mp (by simpa using this)
  · rintro ⟨⟨k, c⟩, hp, hc⟩
    unfold denied
    cases q : ((tb.map (·.1)).mergeSort (leOf PyData.int)).find? (isDenied tb h) with
    | none =>
      have := List.find?_eq_none.mp q k ((List.mem_mergeSort).mpr (List.mem_map.mpr ⟨_, hp, rfl⟩))
      refine absurd ?_ this
      unfold isDenied
      rw [lookup_of T.nd hp]
      simp [left_nil.mpr hc]
    | some k' =>
      have hm := (List.mem_mergeSort).mp (List.mem_of_find?_eq_some q)
      obtain ⟨p, hp', e⟩ := List.mem_map.mp hm
      have := T.pos p hp'
      show k' ≠ 0
      omega
include T in
theorem denied_mono {h h' : Cl} (s : ∀ l ∈ h, l ∈ h') (hd : denied tb h ≠ 0) : denied tb h' ≠ 0 := by
  obtain ⟨p, hp, hc⟩ := (denied_iff T).mp hd
  exact (denied_iff T).mpr ⟨p, hp, fun l hl => s _ (hc l hl)⟩
/-- all completions -/
def vec (atoms : List At) : Nat → Cl → List Cl
  | 0, h => [h]
  | n + 1, h => match atoms[h.length]? with
    | none => []
    | some a => vec atoms n (h ++ [(a, false)]) ++ vec atoms n (h ++ [(a, true)])
theorem vec_pre {atoms : List At} : ∀ (n : Nat) (h r : Cl), r ∈ vec atoms n h → ∃ t, r = h ++ t
  | 0, h, r, hr => ⟨[], by rw [List.mem_singleton.mp hr, List.append_nil]⟩
  | n + 1, h, r, hr => by
    unfold vec at hr
    split at hr
    · cases hr
    · rcases List.mem_append.mp hr with z | z <;> obtain ⟨t, e⟩ := vec_pre n _ _ z <;> exact ⟨_ :: t, by rw [e, List.append_assoc]; rfl⟩
include T in
theorem exts_vec {atoms : List At} : ∀ (n : Nat) (h : Cl), exts tb atoms n h = (vec atoms n h).filter fun r => decide (denied tb r = 0)
  | 0, h => by
    unfold exts vec
    by_cases hd : denied tb h = 0
    · rw [if_pos hd, List.filter_cons, if_pos (decide_eq_true hd), List.filter_nil]
    · rw [if_neg hd, List.filter_cons, if_neg (by simpa using hd), List.filter_nil]
  | n + 1, h => by
    unfold exts
    by_cases hd : denied tb h = 0
    · rw [if_pos hd, vec]
      cases atoms[h.length]? with
      | none => rfl
      | some a => dsimp only; rw [List.filter_append, exts_vec n, exts_vec n]
    · rw [if_neg hd]
      refine (List.filter_eq_nil_iff.mpr fun r hr => ?_).symm
      obtain ⟨t, rfl⟩ := vec_pre _ _ _ hr
      have := denied_mono T (h' := h ++ t) (fun l hl => List.mem_append_left _ hl) hd
      simpa using this
theorem fold_two_app (as : List At) : ∀ r1 r2 : List Cl, as.foldl (fun rows a => rows.flatMap (two a)) (r1 ++ r2) = as.foldl (fun rows a => rows.flatMap (two a)) r1 ++ as.foldl (fun rows a => rows.flatMap (two a)) r2 := by
  induction as with
  | nil => intro r1 r2; rfl
  | cons a as ih => intro r1 r2; rw [List.foldl_cons, List.flatMap_append, ih]; rfl
theorem vec_fold {atoms : List At} : ∀ (n : Nat) (h : Cl), h.length + n = atoms.length → vec atoms n h = (atoms.drop h.length).foldl (fun rows a => rows.flatMap (two a)) [h]
  | 0, h, hl => by
    rw [List.drop_eq_nil_of_le (by omega)]; rfl
  | n + 1, h, hl => by
    have hlt : h.length < atoms.length := by omega
    have l1 : ∀ x : Lit, (h ++ [x]).length = h.length + 1 := fun x => by rw [List.length_append]; rfl
    rw [vec, List.getElem?_eq_getElem hlt, List.drop_eq_getElem_cons hlt, List.foldl_cons]
    dsimp only
    rw [vec_fold n _ (by rw [l1]; omega), vec_fold n _ (by rw [l1]; omega), l1, l1, ← fold_two_app]
    rfl
theorem vec_vectors (as : List At) : vec as as.length [] = vectors as := vec_fold _ [] (by simp)
/-- a total row denies no clause just where it meets all -/
theorem total_meets {as : List At} {r : Cl} (hn : as.Nodup) (hr : r.map (·.1) = as) {l : Lit} (hl : l.1 ∈ as) : neg l ∈ r ↔ l ∉ r := by
  have hc : Mth.Con r := con_of_fst (by rw [hr]; exact hn)
  constructor
  · intro h1 h2; exact hc l h2 h1
  · intro h
    rw [← hr] at hl
    obtain ⟨m, hm, e⟩ := List.mem_map.mp hl
    rcases Mth.lit_cases e with z | z
    · exact absurd (z ▸ hm) h
    · rw [z] at hm; exact hm
include T in
theorem denied_total {as : List At} {r : Cl} (hn : as.Nodup) (hr : r.map (·.1) = as) (ha : ∀ p ∈ tb, ∀ l ∈ p.2, l.1 ∈ as) : denied tb r = 0 ↔ meetsAll (tb.map (·.2)) r = true := by
  rw [meetsAll_iff]
  constructor
  · intro h c hc
    obtain ⟨p, hp, rfl⟩ := List.mem_map.mp hc
    refine Classical.byContradiction fun z => ?_
    refine absurd h ((denied_iff T).mpr ⟨p, hp, fun l hl => ?_⟩)
    exact (total_meets hn hr (ha p hp l hl)).mpr fun q => z ⟨l, hl, q⟩
  · intro h
    refine Classical.byContradiction fun z => ?_
    obtain ⟨p, hp, hc⟩ := (denied_iff T).mp z
    obtain ⟨l, hl, q⟩ := h p.2 (List.mem_map_of_mem hp)
    exact (total_meets hn hr (ha p hp l hl)).mp (hc l hl) q
theorem tb_atoms {E : At → PyData} : ∀ p ∈ tb, ∀ l ∈ p.2, l.1 ∈ atomsU E (tb.map (·.2)) := fun p hp l hl => mem_atomsU.mpr ⟨p.2, List.mem_map_of_mem hp, l, hl, rfl⟩
include T in
theorem P4 (E : At → PyData) : exts tb (atomsU E (tb.map (·.2))) (atomsU E (tb.map (·.2))).length [] = worlds E (tb.map (·.2)) := by
  rw [exts_vec T, vec_vectors, worlds]
  refine List.filter_congr fun r hr => ?_
  have := denied_total T (atomsU_nd E (tb.map (·.2))) (mem_vectors.mp hr) tb_atoms
  rw [Bool.eq_iff_iff, decide_eq_true_eq, this]
/-- an assignment that holds all clauses -/
def Sat (tb : Tb) (p : At → Bool) : Prop := ∀ q ∈ tb, ∃ l ∈ q.2, p l.1 = l.2
include T in
theorem sat_free {p : At → Bool} {h : Cl} (s : Sat tb p) (hh : ∀ l ∈ h, p l.1 = l.2) : denied tb h = 0 := by
  refine Classical.byContradiction fun z => ?_
  obtain ⟨q, hq, hc⟩ := (denied_iff T).mp z
  obtain ⟨l, hl, e⟩ := s q hq
  have := hh _ (hc l hl)
  rw [show (neg l).1 = l.1 from rfl, e] at this
  exact absurd this (by show l.2 ≠ !l.2; cases l.2 <;> decide)
include T in
theorem exts_sat {atoms : List At} {p : At → Bool} (s : Sat tb p) : ∀ (n : Nat) (h : Cl), h.length + n = atoms.length → (∀ l ∈ h, p l.1 = l.2) → exts tb atoms n h ≠ []
  | 0, h, _, hh => by
    unfold exts
    rw [if_pos (sat_free T s hh)]
    simp
  | n + 1, h, hl, hh => by
    have hlt : h.length < atoms.length := by omega
    unfold exts
    rw [if_pos (sat_free T s hh), List.getElem?_eq_getElem hlt]
    dsimp only
    intro e
    obtain ⟨e1, e2⟩ := List.append_eq_nil_iff.mp e
    have step : ∀ b, p atoms[h.length] = b → exts tb atoms n (h ++ [(atoms[h.length], b)]) ≠ [] := fun b hb => exts_sat s n _ (by rw [List.length_append]; simp only [List.length_cons, List.length_nil]; omega) fun l hl' => by
      rcases List.mem_append.mp hl' with z | z
      · exact hh l z
      · rw [List.mem_singleton.mp z]; exact hb
    cases q : p atoms[h.length] with
    | false => exact step false q e1
    | true => exact step true q e2
theorem vec_fst {atoms : List At} : ∀ (n : Nat) (h r : Cl), h.length + n = atoms.length → h.map (·.1) = atoms.take h.length → r ∈ vec atoms n h → r.map (·.1) = atoms
  | 0, h, r, hl, hh, hr => by
    rw [List.mem_singleton.mp hr, hh, List.take_of_length_le (by omega)]
  | n + 1, h, r, hl, hh, hr => by
    have hlt : h.length < atoms.length := by omega
    rw [vec, List.getElem?_eq_getElem hlt] at hr
    have l1 : ∀ x : Lit, (h ++ [x]).length = h.length + 1 := fun x => by rw [List.length_append]; rfl
    have st : ∀ b, (h ++ [(atoms[h.length], b)]).map (·.1) = atoms.take (h ++ [(atoms[h.length], b)]).length := fun b => by
      rw [l1, List.map_append, hh, List.take_succ, List.getElem?_eq_getElem hlt]; rfl
    rcases List.mem_append.mp hr with z | z
    · exact vec_fst n _ _ (by rw [l1]; omega) (st _) z
    · exact vec_fst n _ _ (by rw [l1]; omega) (st _) z
include T in
/-- an extension is an assignment that holds all clauses -/
theorem exts_sound {atoms : List At} {n : Nat} {h r : Cl} (hn : atoms.Nodup) (ha : ∀ p ∈ tb, ∀ l ∈ p.2, l.1 ∈ atoms) (hl : h.length + n = atoms.length) (hh : h.map (·.1) = atoms.take h.length) (hr : r ∈ exts tb atoms n h) : ∃ p, Sat tb p ∧ ∀ l ∈ h, p l.1 = l.2 := by
  rw [exts_vec T] at hr
  obtain ⟨h1, h2⟩ := List.mem_filter.mp hr
  have hd : denied tb r = 0 := of_decide_eq_true h2
  have hf := vec_fst n h r hl hh h1
  have hc : Mth.Con r := con_of_fst (by rw [hf]; exact hn)
  have hp : ∀ l ∈ r, decide ((l.1, true) ∈ r) = l.2 := fun l hl => by
    obtain ⟨a, b⟩ := l
    cases b with
    | true => exact decide_eq_true hl
    | false => exact decide_eq_false fun z => hc _ z hl
  refine ⟨fun a => decide ((a, true) ∈ r), fun q hq => ?_, fun l hl' => ?_⟩
  · have := (denied_total T hn hf ha).mp hd
    obtain ⟨l, hl, z⟩ := meetsAll_iff.mp this q.2 (List.mem_map_of_mem hq)
    exact ⟨l, hl, hp l z⟩
  · obtain ⟨t, rfl⟩ := vec_pre _ _ _ h1
    exact hp l (List.mem_append_left _ hl')
end
end K5
end

section
set_option Elab.async false
set_option linter.all false
set_option maxRecDepth 100000
set_option maxHeartbeats 2000000
/-! M6: refutations. -/
namespace K5
open PySem DL NS

section
variable {E : At → PyData} {tb : Tb} {goal : Cl}
theorem mem_held {l : Lit} : l ∈ heldOf E goal ↔ ∃ m ∈ goal, neg m = l := by
  unfold heldOf
  rw [mem_sortU, List.mem_map]
theorem neg_neg (l : Lit) : neg (neg l) = l := by
  obtain ⟨a, b⟩ := l
  cases b <;> rfl
theorem held_con (h : Mth.Con goal) : Mth.Con (heldOf E goal) := by
  intro l hl hn
  obtain ⟨m, hm, rfl⟩ := mem_held.mp hl
  obtain ⟨k, hk, e⟩ := mem_held.mp hn
  have e1 : neg k = neg (neg m) := e
  have e2 : k = neg m := by rw [← neg_neg k, e1, neg_neg]
  refine h m hm ?_
  show neg m ∈ goal
  rw [← e2]; exact hk
theorem atomsOf_nd (h : Mth.Con goal) : (atomsOf E tb goal).Nodup := by
  unfold atomsOf
  refine List.nodup_append.mpr ⟨fst_of_con (held_con h) (sortU_nd _ _), (atomsU_nd _ _).filter _, fun x hx y hy e => ?_⟩
  subst e
  have := (List.mem_filter.mp hy).2
  simp only [Bool.not_eq_true', decide_eq_false_iff_not] at this
  exact this hx
theorem atomsOf_all {p : Int × Cl} (hp : p ∈ tb) {l : Lit} (hl : l ∈ p.2) : l.1 ∈ atomsOf E tb goal := by
  unfold atomsOf restOf
  by_cases z : l.1 ∈ (heldOf E goal).map (·.1)
  · exact List.mem_append_left _ z
  · exact List.mem_append_right _ (List.mem_filter.mpr ⟨tb_atoms p hp l hl, by simpa using z⟩)
theorem atomsOf_len : (heldOf E goal).length + (restOf E tb goal).length = (atomsOf E tb goal).length := by unfold atomsOf; rw [List.length_append, List.length_map]
theorem atomsOf_take : (heldOf E goal).map (·.1) = (atomsOf E tb goal).take (heldOf E goal).length := by
  unfold atomsOf
  rw [List.take_append_of_le_length (by rw [List.length_map]; exact Nat.le_refl _), List.take_of_length_le (by rw [List.length_map]; exact Nat.le_refl _)]
variable (T : TbP tb)
include T
theorem world_sat {w : Cl} (hw : w ∈ worlds E (tb.map (·.2))) : Sat tb (fun a => decide ((a, true) ∈ w)) ∧ ∀ l ∈ w, decide ((l.1, true) ∈ w) = l.2 := by
  have hc := worlds_ok.con w hw
  have hp : ∀ l ∈ w, decide ((l.1, true) ∈ w) = l.2 := fun l hl => by
    obtain ⟨a, b⟩ := l
    cases b with
    | true => exact decide_eq_true hl
    | false => exact decide_eq_false fun z => hc _ z hl
  refine ⟨fun q hq => ?_, hp⟩
  obtain ⟨l, hl, z⟩ := worlds_ok.hit w hw q.2 (List.mem_map_of_mem hq)
  exact ⟨l, hl, hp l z⟩
theorem ext_ne {w : Cl} (hw : w ∈ worlds E (tb.map (·.2))) (hn : ¬ Mth.Hit w goal) (ha : ∀ l ∈ goal, l.1 ∈ atomsU E (tb.map (·.2))) : extRows E tb goal ≠ [] := by
  obtain ⟨s, hp⟩ := world_sat T hw
  refine exts_sat T s _ _ atomsOf_len fun l hl => ?_
  obtain ⟨m, hm, rfl⟩ := mem_held.mp hl
  refine hp _ ((total_meets (atomsU_nd E (tb.map (·.2))) (mem_vectors.mp (List.mem_filter.mp hw).1) (ha m hm)).mpr fun q => hn ⟨m, q, hm⟩)
theorem ext_nil (hc : Mth.Con goal) (hh : Mth.HitAll (worlds E (tb.map (·.2))) goal) : extRows E tb goal = [] := by
  refine List.eq_nil_iff_forall_not_mem.mpr fun r hr => ?_
  obtain ⟨p, s, hp⟩ := exts_sound T (atomsOf_nd hc) (fun q hq l hl => atomsOf_all hq hl) atomsOf_len atomsOf_take hr
  obtain ⟨w, hw, e⟩ := worlds_ok.all p fun c hc => by
    obtain ⟨q, hq, rfl⟩ := List.mem_map.mp hc
    exact s q hq
  obtain ⟨l, h1, h2⟩ := hh w hw
  have a1 := ((e l).mp h1).2
  have a2 := hp _ (mem_held.mpr ⟨l, h2, rfl⟩)
  rw [show (neg l).1 = l.1 from rfl, a1] at a2
  exact absurd a2 (by show l.2 ≠ !l.2; cases l.2 <;> decide)
omit T in
theorem readRows_app : ∀ (r1 r2 : List Row) (f g : List Cl), readRows tb r1 f = some g → readRows tb (r1 ++ r2) f = readRows tb r2 g
  | [], r2, f, g, h => by cases h; rfl
  | r :: r1, r2, f, g, h => by
    rw [List.cons_append, readRows]
    rw [readRows] at h
    split at h
    · cases h
    · rename_i c e
      exact readRows_app r1 r2 _ _ h
omit T in
theorem mem_keep (a : At) : ∀ (c k : Cl) (l : Lit), l ∈ c.foldl (keepL a) k ↔ l ∈ k ∨ (l ∈ c ∧ l ≠ (a, false))
  | [], k, l => by simp
  | m :: c, k, l => by
    rw [List.foldl_cons, mem_keep a c]
    have e : l ∈ keepL a k m ↔ l ∈ k ∨ (l = m ∧ l ≠ (a, false)) := by
      unfold keepL
      by_cases h : m ≠ (a, false) ∧ m ∉ k
      · rw [if_pos h, List.mem_append, List.mem_singleton]
        exact ⟨fun z => z.elim .inl fun z => .inr ⟨z, z ▸ h.1⟩, fun z => z.elim .inl fun z => .inr z.1⟩
      · rw [if_neg h]
        refine ⟨.inl, fun z => z.elim id fun ⟨z1, z2⟩ => ?_⟩
        subst z1
        exact Classical.byContradiction fun q => h ⟨z2, q⟩
    rw [e, List.mem_cons]
    constructor
    · rintro ((h | ⟨h1, h2⟩) | ⟨h1, h2⟩)
      · exact .inl h
      · exact .inr ⟨.inl h1, h2⟩
      · exact .inr ⟨.inr h1, h2⟩
    · rintro (h | ⟨h1 | h1, h2⟩)
      · exact .inl (.inl h)
      · exact .inl (.inr ⟨h1, h2⟩)
      · exact .inr ⟨h1, h2⟩
omit T in
theorem mem_resolved {a : At} {c d : Cl} {l : Lit} : l ∈ resolvedL a c d ↔ (l ∈ c ∧ l ≠ (a, true)) ∨ (l ∈ d ∧ l ≠ (a, false)) := by
  unfold resolvedL
  rw [mem_keep, List.mem_filter]
  simp
omit T in
theorem mem_kept {a : At} {c d : Cl} {l : Lit} : l ∈ keptOf E a c d ↔ (l ∈ c ∧ l ≠ (a, true)) ∨ (l ∈ d ∧ l ≠ (a, false)) := by
  unfold keptOf
  rw [mem_sortU, List.mem_append, List.mem_filter, List.mem_filter]
  simp
theorem denied_clause {h : Cl} (hd : denied tb h ≠ 0) : ∃ c, tb.lookup (denied tb h) = some c ∧ (denied tb h, c) ∈ tb ∧ ∀ l ∈ c, neg l ∈ h := by
  obtain ⟨c, h1, h2⟩ := denied_there hd
  refine ⟨c, h1, h2, ?_⟩
  unfold denied at hd
  cases q : ((tb.map (·.1)).mergeSort (leOf PyData.int)).find? (isDenied tb h) with
  | none => rw [q] at hd; exact absurd rfl hd
  | some k =>
    have e : denied tb h = k := by unfold denied; rw [q]; rfl
    have := List.find?_some q
    unfold isDenied at this
    rw [e] at h1
    rw [h1] at this
    exact left_nil.mp (by simpa using this)
omit T in
structure FalsOk (tb : Tb) (h : Cl) (pre : List Cl) (rows : List Row) (c : Cl) : Prop where
  read : ∃ gs, readRows tb rows pre = some (pre ++ gs) ∧ gs.length = rows.length ∧ ∃ d, gs.getLast? = some d ∧ d.Nodup ∧ ∀ l, l ∈ d ↔ l ∈ c
  ng : ∀ l ∈ c, neg l ∈ h
  sat : ∀ p, Sat tb p → ∃ l ∈ c, p l.1 = l.2
omit T in
theorem at_last {pre gs more : List Cl} {d : Cl} (h : gs.getLast? = some d) : (pre ++ gs ++ more)[pre.length + gs.length - 1]? = some d := by
  have hl : 0 < gs.length := by
    cases gs with
    | nil => cases h
    | cons g gs => simp
  rw [List.getLast?_eq_getElem?] at h
  rw [List.append_assoc, List.getElem?_append_right (by omega), List.getElem?_append_left (by omega)]
  rw [← h]
  congr 1
  omega
theorem fals_good {atoms : List At} : ∀ (n : Nat) (h : Cl) (pre : List Cl), Ref tb atoms n h → FalsOk tb h pre (fals E tb atoms n h pre.length).1 (fals E tb atoms n h pre.length).2 := by
  have giv : ∀ (n : Nat) (h : Cl) (pre : List Cl), denied tb h ≠ 0 → FalsOk tb h pre (fals E tb atoms n h pre.length).1 (fals E tb atoms n h pre.length).2 := fun n h pre hd => by
    rw [fals_given hd]
    obtain ⟨c, h1, h2, h3⟩ := denied_clause T hd
    rw [h1]
    refine ⟨⟨[c], by rw [readRows, readRow, h1]; rfl, rfl, c, rfl, nd_fst (T.plain c (List.mem_map.mpr ⟨_, h2, rfl⟩)), fun l => Iff.rfl⟩, h3, fun p s => s _ h2⟩
  intro n
  induction n with
  | zero => intro h pre r; exact giv 0 h pre r
  | succ n ih =>
    intro h pre r
    by_cases hd : denied tb h ≠ 0
    · exact giv _ h pre hd
    rcases r with r | ⟨a, ha, r1, r2⟩
    · exact absurd r hd
    have L := ih (h ++ [(a, false)]) pre r1
    unfold fals
    rw [if_neg hd, ha]
    dsimp only
    generalize hp : fals E tb atoms n (h ++ [(a, false)]) pre.length = p at L
    obtain ⟨g1, q1, q2, d1, q3, q4, q5⟩ := L.read
    have ngL : ∀ l ∈ p.2, l ≠ (a, true) → neg l ∈ h := fun l hl hne => by
      rcases List.mem_append.mp (L.ng l hl) with z | z
      · exact z
      · exfalso
        have e := List.mem_singleton.mp z
        exact hne (by rw [← neg_neg l, e]; rfl)
    by_cases hT : (a, true) ∉ p.2
    · rw [if_pos hT]
      exact ⟨L.read, fun l hl => ngL l hl fun e => hT (e ▸ hl), L.sat⟩
    rw [if_neg hT]
    have hT' := Classical.not_not.mp hT
    have Hh := ih (h ++ [(a, true)]) (pre ++ g1) r2
    rw [List.length_append, q2] at Hh
    generalize hq : fals E tb atoms n (h ++ [(a, true)]) (pre.length + p.1.length) = q at Hh
    obtain ⟨g2, s1, s2, d2, s3, s4, s5⟩ := Hh.read
    have ngH : ∀ l ∈ q.2, l ≠ (a, false) → neg l ∈ h := fun l hl hne => by
      rcases List.mem_append.mp (Hh.ng l hl) with z | z
      · exact z
      · exfalso
        have e := List.mem_singleton.mp z
        exact hne (by rw [← neg_neg l, e]; rfl)
    have rd : readRows tb (p.1 ++ q.1) pre = some (pre ++ g1 ++ g2) := by rw [readRows_app _ _ _ _ q1, s1]
    have last_app : ∀ (x y : List Cl) (d : Cl), y.getLast? = some d → (x ++ y).getLast? = some d := fun x y d hy => by
      rw [List.getLast?_append, hy]; rfl
    by_cases hF : (a, false) ∉ q.2
    · rw [if_pos hF]
      exact ⟨⟨g1 ++ g2, by rw [rd, List.append_assoc], by rw [List.length_append, List.length_append, q2, s2], d2, last_app _ _ _ s3, s4, s5⟩, fun l hl => ngH l hl fun e => hF (e ▸ hl), Hh.sat⟩
    rw [if_neg hF]
    have hF' := Classical.not_not.mp hF
    have row : readRow tb (pre ++ g1 ++ g2) (.res (pre.length + p.1.length - 1) (pre.length + p.1.length + q.1.length - 1) a) = some (resolvedL a d1 d2) := by
      have i1 := at_last (pre := pre) (gs := g1) (more := g2) q3
      have i2 := at_last (pre := pre ++ g1) (gs := g2) (more := []) s3
      rw [List.append_nil, List.length_append] at i2
      rw [q2] at i1 i2
      rw [s2] at i2
      simp only [readRow]
      rw [i1, i2]
      dsimp only
      rw [if_pos ⟨(q5 _).mpr hT', (s5 _).mpr hF'⟩]
    refine ⟨⟨g1 ++ g2 ++ [resolvedL a d1 d2], ?_, ?_, resolvedL a d1 d2, last_app _ _ _ rfl, keep_nd a _ _ (q4.filter _), fun l => ?_⟩, fun l hl => ?_, fun f s => ?_⟩
    · rw [readRows_app _ _ _ _ rd, readRows, row]
      dsimp only
      rw [readRows]
      simp [List.append_assoc]
    · rw [List.length_append, List.length_append, List.length_append, List.length_append, q2, s2]; rfl
    · rw [mem_resolved, mem_kept, q5, s5]
    · rcases mem_kept.mp hl with ⟨h1, h2⟩ | ⟨h1, h2⟩
      · exact ngL l h1 h2
      · exact ngH l h1 h2
    · obtain ⟨l, h1, h2⟩ := L.sat f s
      by_cases e : l = (a, true)
      · subst e
        obtain ⟨m, m1, m2⟩ := Hh.sat f s
        refine ⟨m, mem_kept.mpr (.inr ⟨m1, fun z => ?_⟩), m2⟩
        subst z
        rw [show f (a, false).1 = f (a, true).1 from rfl, h2] at m2
        cases m2
      · exact ⟨l, mem_kept.mpr (.inl ⟨h1, e⟩), h2⟩
omit T in
theorem fals_up {atoms : List At} : ∀ (n : Nat) (h : Cl) (b : Nat), Ref tb atoms n h → fals E tb atoms (n + 1) h b = fals E tb atoms n h b
  | 0, h, b, r => by rw [fals_given r, fals_given r]
  | n + 1, h, b, r => by
    by_cases hd : denied tb h ≠ 0
    · rw [fals_given hd, fals_given hd]
    rcases r with r | ⟨a, ha, r1, r2⟩
    · exact absurd r hd
    rw [fals, if_neg hd, ha, fals, if_neg hd, ha]
    dsimp only
    rw [fals_up n _ b r1, fals_up n _ _ r2]
omit T in
theorem fals_mono {atoms : List At} {n m : Nat} {h : Cl} {b : Nat} (r : Ref tb atoms n h) (le : n ≤ m) : fals E tb atoms m h b = fals E tb atoms n h b := by
  induction le with
  | refl => rfl
  | step le ih => rw [fals_up _ _ _ (r.mono le), ih]
variable (O : AtOk E)
include O
theorem forced_ok (hg : goal ∈ leastUnits E (leastUnits E (tb.map (·.2)))) : Ord E goal ∧ Mth.Con goal ∧ Mth.Least (worlds E (tb.map (·.2))) goal ∧ ∀ l ∈ goal, l.1 ∈ atomsU E (tb.map (·.2)) := by
  have hn : ∀ c ∈ tb.map (·.2), c.Nodup := fun c hc => nd_fst (T.plain c hc)
  have hn1 : ∀ c ∈ leastUnits E (tb.map (·.2)), c.Nodup := fun c hc => (lu_ord hc).n
  have U := lu_units (E := E) hn1
  have hc := U.con goal hg
  have hl := U.least goal hg
  exact ⟨lu_ord hg, hc, (least_uw T.plain hc).mp hl, fun l hl' => let ⟨u, hu, hlu⟩ := hl.mem hl'; lu_atoms hn hu hlu⟩
theorem P5 (B : TbOk tb) (hg : goal ∈ leastUnits E (leastUnits E (tb.map (·.2)))) : extRows E tb goal = [] ∧ ∃ fs, readRows tb (refRows E tb goal) [] = some fs ∧ 1 ≤ (refRows E tb goal).length ∧ (refRows E tb goal).length ≤ 2 * 2 ^ (atomsU E (tb.map (·.2))).length ∧
    ∃ c, fs.getLast? = some c ∧ c.mergeSort (leOf (litD E)) = goal := by
  obtain ⟨og, hc, hl, ha⟩ := forced_ok T O hg
  have hx := ext_nil T hc hl.1
  have hr := ref_of hx
  have hr' : Ref tb (atomsOf E tb goal) (restOf E tb goal).length (heldOf E goal) := exts_ref _ _ atomsOf_len hx
  have G := fals_good (E := E) T 5 (heldOf E goal) [] hr
  obtain ⟨gs, g1, g2, d, g3, g4, g5⟩ := G.read
  refine ⟨hx, gs, g1, ?_, ?_, d, g3, ?_⟩
  · rw [show (refRows E tb goal).length = gs.length from g2.symm]
    cases gs with
    | nil => cases g3
    | cons g gs => simp
  · have e : refRows E tb goal = (fals E tb (atomsOf E tb goal) (restOf E tb goal).length (heldOf E goal) 0).1 := by
      unfold refRows; rw [fals_mono hr' (rest_len E tb goal)]
    have := (fals_len B (E := E) (atoms := atomsOf E tb goal) (restOf E tb goal).length (heldOf E goal) 0).2
    rw [e]
    have le : (restOf E tb goal).length ≤ (atomsU E (tb.map (·.2))).length := List.length_filter_le _ _
    have := Nat.pow_le_pow_right (n := 2) (by decide) (Nat.succ_le_succ le)
    rw [Nat.pow_succ] at this
    omega
  · refine Ord.eq O (ord_sort g4) og fun l => ?_
    rw [List.mem_mergeSort, g5]
    have sub : ∀ l ∈ (fals E tb (atomsOf E tb goal) 5 (heldOf E goal) ([] : List Cl).length).2, l ∈ goal := fun l hl' => by
      obtain ⟨m, hm, e⟩ := mem_held.mp (G.ng l hl')
      have : m = l := by rw [← neg_neg m, e, neg_neg]
      exact this ▸ hm
    refine ⟨sub l, hl.sub (fun w hw => ?_) sub l⟩
    obtain ⟨s, hp⟩ := world_sat T hw
    obtain ⟨m, hm, e⟩ := G.sat _ s
    refine ⟨m, ?_, hm⟩
    obtain ⟨a, b⟩ := m
    cases b with
    | true => exact of_decide_eq_true e
    | false =>
      have z := of_decide_eq_false e
      rcases worlds_ok.tot w hw a (ha _ (sub _ hm)) with y | y
      · exact absurd y z
      · exact y
theorem P6 (hg : goal ∈ leastUnits E (leastUnits E (tb.map (·.2)))) {l : Lit} (hl' : l ∈ goal) : extRows E tb (goal.filter fun m => !decide (m = l)) ≠ [] := by
  obtain ⟨og, hc, hl, ha⟩ := forced_ok T O hg
  have z := hl.2 l hl'
  have e : Mth.wo l goal = goal.filter fun m => !decide (m = l) := by
    unfold Mth.wo
    exact List.filter_congr fun m _ => by simp
  rw [e] at z
  have : ∃ w ∈ worlds E (tb.map (·.2)), ¬ Mth.Hit w (goal.filter fun m => !decide (m = l)) := Classical.byContradiction fun q => z fun w hw => Classical.byContradiction fun y => q ⟨w, hw, y⟩
  obtain ⟨w, hw, y⟩ := this
  exact ext_ne T hw y fun m hm => ha m (List.mem_filter.mp hm).1
omit O in
theorem P7 (hw : worlds E (tb.map (·.2)) ≠ []) : extRows E tb [] ≠ [] := by
  obtain ⟨w, hw⟩ := List.exists_mem_of_ne_nil _ hw
  exact ext_ne T hw (fun ⟨l, _, h⟩ => by cases h) fun l h => by cases h
end
end K5
end

section
set_option Elab.async false
set_option linter.all false
set_option maxRecDepth 100000
set_option maxHeartbeats 0
/-! H1: the head: facts by names, the run. -/
namespace K5
open PySem PySem.Spec PyProof.Rows L2 GenW Evl NS DL LL

abbrev R : PySem.W.OpenRow := PySem.W.OpenLaw.row PySem.Challenge.rw_onelooker_k55_whole_units_of_units
def dF (x : PySem.Str) (i : Nat) : He.DefD := ⟨(x, none), x, x, defArgs (top i), defBody (top i), defScope (top i), [], []⟩
def aEof : PySem.W.Frag → Addr := He.dflAt ("refutation_rows", none) 0
def dR : He.DefD := ⟨("refutation_rows", none), "refutation_rows", "refutation_rows", defArgs (top 22), defBody (top 22), defScope (top 22), [.adr aEof], []⟩
def fn : List He.DefD := [dF "negated" 4, dF "clause_of" 5, dF "negations" 6, dF "literal_bits" 8, dF "grown_sets" 9, dF "is_less" 10, dF "least_units" 11, dF "left_over" 13, dF "denied_label" 14, dF "clause_atoms" 16, dF "all_atoms" 18, dF "extensions" 19, dF "valuations" 20, dF "falsified" 21, dF "_law_state" 24, dF "_law_draw" 25, dF "_law_alike" 26, dF "_law_atom_row" 27, dF "_law_dict" 28, dF "_law_atoms_of" 29, dF "_law_vectors" 30, dF "_law_meets" 31, dF "_law_meets_all" 32, dF "_law_valuations" 33, dF "_law_resolved" 34, dF "_law_read_rows" 35, dF "_law_plain_clause" 36, dF "_law_sets" 37, dF "_law_least" 38, dF "_law_stands" 39, dF "_law_ends_in" 40, dF "law" 41, dR]
def fa : List He.Fa := [.glo "negated", .glo "clause_of", .glo "negations", .glo "literal_bits", .glo "grown_sets", .glo "is_less", .glo "least_units", .glo "left_over", .glo "denied_label", .glo "clause_atoms", .glo "all_atoms", .glo "extensions", .glo "valuations", .glo "falsified", .glo "_law_state", .glo "_law_draw", .glo "_law_alike", .glo "_law_atom_row", .glo "_law_dict", .glo "_law_atoms_of", .glo "_law_vectors", .glo "_law_meets", .glo "_law_meets_all", .glo "_law_valuations", .glo "_law_resolved", .glo "_law_read_rows", .glo "_law_plain_clause", .glo "_law_sets", .glo "_law_least", .glo "_law_stands", .glo "_law_ends_in", .glo "law", .glo "refutation_rows", .glo "Stands", .free "tuple", .free "sorted", .free "set", .free "sum", .free "list", .free "len", .free "int", .free "str", .free "bool", .free "isinstance", .free "range", .free "dict", .free "min", .free "any", .free "super"]
def looseN : List PySem.Str := [PySem.Str.ofString "LookerError", PySem.Str.ofString "Stands", PySem.Str.ofString "negated", PySem.Str.ofString "clause_of", PySem.Str.ofString "negations", PySem.Str.ofString "literal_bits", PySem.Str.ofString "grown_sets", PySem.Str.ofString "is_less", PySem.Str.ofString "least_units", PySem.Str.ofString "left_over", PySem.Str.ofString "denied_label", PySem.Str.ofString "clause_atoms", PySem.Str.ofString "all_atoms", PySem.Str.ofString "extensions", PySem.Str.ofString "valuations", PySem.Str.ofString "falsified", PySem.Str.ofString "refutation_rows", PySem.Str.ofString "_law_state", PySem.Str.ofString "_law_draw", PySem.Str.ofString "_law_alike", PySem.Str.ofString "_law_atom_row", PySem.Str.ofString "_law_dict", PySem.Str.ofString "_law_atoms_of", PySem.Str.ofString "_law_vectors", PySem.Str.ofString "_law_meets", PySem.Str.ofString "_law_meets_all", PySem.Str.ofString "_law_valuations", PySem.Str.ofString "_law_resolved", PySem.Str.ofString "_law_read_rows", PySem.Str.ofString "_law_plain_clause", PySem.Str.ofString "_law_sets", PySem.Str.ofString "_law_least", PySem.Str.ofString "_law_stands", PySem.Str.ofString "_law_ends_in"]
/-! ### the exception's class -/
def fIof (K : PySem.W.Frag) : Addr := He.ma K (He.ga K "Stands") "__init__"
abbrev IniT : Type := Option (PySem.Str × PySem.Str × Arguments × FuncBody × Scope × Addr × List PySem.Str × Addr)
def iniW (K : PySem.W.Frag) : IniT := match K.lookup (fIof K) with
  | some ⟨_, _, .func fd, _⟩ => some (fd.name, fd.qualname, fd.params, fd.body, fd.scope, fd.globals, fd.closure.map (·.1), fd.builtins)
  | _ => none
def iniV : IniT := some ("__init__", "Stands.__init__", defArgs initSt, .stmts (defBody initSt), defScope initSt, mainGlobals, ["__class__"], builtinsNs)
def fileB (K : PySem.W.Frag) (cd : Value) : Bool := match cd with
  | .ref c => (match K.lookup c with
    | some ⟨_, _, .fields vs, _⟩ => (match (vs[2]? : Option Value) with
      | some (.str file _) => (R.prog.main.file : PySem.Str) == file
      | _ => false)
    | _ => false)
  | _ => false
def cellB (K : PySem.W.Frag) (l : List (PySem.Str × Addr)) : Bool := match l with
  | (_, cc) :: _ => (match K.lookup cc with
    | some ⟨_, _, .cell (some (.ref D)), _⟩ => decide (D = He.ga K "Stands")
    | _ => false)
  | _ => false
def noneB : Value → Bool
  | .none => true
  | _ => false
def iniB (K : PySem.W.Frag) : Bool := match K.lookup (fIof K) with
  | some ⟨_, _, .func fd, _⟩ => noneB fd.defaults && (PySem.W.codeIn K fd.code "Stands.__init__" && (fileB K fd.code && cellB K fd.closure))
  | _ => false
def stB (K : PySem.W.Frag) : Bool :=
  PySem.W.excInitIn K (He.ga K "Stands") PySem.HandSPX.veTail "ValueError.__new__" && (He.eqO (PySem.W.findIn K (.ref (He.ga K "Stands")) "__init__") (some (some (.ref (fIof K)))) && (decide (PySem.W.typeIn K (.ref (fIof K)) = some (.type "function")) &&
  (decide (PySem.W.subIn K (.ref (He.ga K "Stands")) (.type "BaseException") = some true) && (decide (PySem.W.typeIn K (.ref (He.ga K "Stands")) = some (.type "type")) && (PySem.W.keepIn K (.ref (He.ga K "Stands")) &&
  (He.eqO (PySem.W.ks_superIn K (He.ga K "Stands") (He.ga K "Stands") "__init__") (some (some (.builtin "ValueError.__init__"))) && (decide (PySem.W.subIn K (.ref (He.ga K "Stands")) (.type "ValueError") = some true) &&
  (decide (PySem.W.mroIn K (He.ga K "Stands") (.ref (He.ga K "Stands")) = some true) && (decide (PySem.W.exmOne K (.ref (He.ga K "Stands")) (.ref (He.ga K "Stands")) = some true) && (He.eqO (PySem.W.nsIn K cStatics "thirdparty.any") (some none) && iniB K))))))))))
def empB (K : PySem.W.Frag) : Bool := match K.lookup (aEof K) with
  | some ⟨.type c, _, .seq its _, _⟩ => decide (c = "tuple") && (decide (its.size ≤ sizeLine) && He.relAll [] its.toList)
  | _ => false
/-! ### the Hook -/
abbrev AlX : Type := He.AlD × (IniT × Bool)
def obsX (K : PySem.W.Frag) : AlX := (He.obsD fa fn K, (iniW K, stB K && empB K))
def valX : AlX := (He.valD fn, (iniV, true))
def frX (g : Addr → Option Obj) : PySem.W.Frag := He.frG g (He.asD g 5 ++ [cStatics])
def hookX : PySem.W.Hook where
  α := AlX
  obs := fun s => obsX (frX s.heap.get?)
  val := fun _ => valX
  says := fun _ h => ∃ K : PySem.W.Frag, K.In h ∧ obsX K = valX
  of := fun _ _ e => ⟨_, He.frG_in, e⟩
  keeps := fun _ _ _ ⟨K, hK, c⟩ k => ⟨K, PySem.W.Frag.In.keeps hK k, c⟩
def obX (s : PySem.W.SharedT) : AlX := obsX (frX (HandSHeadRun.getT s))
theorem obX_eq (s : PySem.W.SharedT) : obX s = hookX.obs s.abs := by
  have e : HandSHeadRun.getT s = s.abs.heap.get? := funext (HandSHeadRun.getT_eq s)
  show obsX (frX (HandSHeadRun.getT s)) = obsX (frX s.abs.heap.get?)
  rw [e]
theorem runX (w : World) : HandSHeadRun.RunEq R (PySem.W.view R.prog [41]) hookX obX 20000 looseN w := by
  intro os
  kernel_rfl
end K5
end

section
set_option Elab.async false
set_option linter.all false
set_option maxRecDepth 100000
set_option maxHeartbeats 4000000
/-! W26: the law: terms. -/
namespace K5
open PySem PySem.Spec PyProof.Rows L2 GenW Evl NS DL LL

theorem execs_append {env : Env} (rest : List Stmt) : ∀ pre : List Stmt, execs (pre ++ rest) env = execs pre env >>= fun f => match f with
    | .next => execs rest env
    | f => pure f
  | [] => rfl
  | st :: pre => by
    show execs (st :: (pre ++ rest)) env = _
    rw [execs_cons, execs_cons, execs_append rest pre, bind_assoc]
    congr 1
    funext f
    cases f <;> rfl
theorem pssl_app {X : Cx} {xl : XL} {pre rest : List Stmt} {t u : TS} (h : ∀ L, PSs (X.wish (xl L)) pre t) (k : PSsL X xl rest u) : PSsL X xl (pre ++ rest) (fun D σ H => t (exD H { D with nx := fun σ' H' => u D σ' H' }) σ H) := by
  refine ⟨fun pins s σ H L D I lg ht => ?_⟩
  rw [execs_append]
  refine .bind (((pssl_q h).run pins s σ H L { D with nx := fun σ' H' => u D σ' H' } I lg ht).mono (fun f s' L' q => ?_) fun _ _ _ z => z)
  cases f with
  | next => obtain ⟨σ', H', I', l', q'⟩ := q; exact k.run pins s' σ' H' L' D I' l' q'
  | brk => exact .pure q
  | cont => exact .pure q
  | ret v => exact .pure q
abbrev rInt1 : List V → Hp → VK → Prop := fun xs H Q => (∃ i, xs = [.int i] ∧ Q (.int i) H) ∨ ∃ k, xs = [.bl k] ∧ Q (.int (if k then 1 else 0)) H
abbrev tDr (K : PySem.W.Frag) (m : Int) : TE := tCall (spDraw K) [] E0 (tCons (tVar 1) (tCons (tC (.int m)) tNil))
abbrev tAlk (K : PySem.W.Frag) (te1 te2 : TE) : TS := tIfS (tNot (tB (tCall (spAl K 7) [] E0 (tCons te1 (tCons te2 tNil))))) (tRet (tC (.bl false))) tNext
abbrev tLu (K : PySem.W.Frag) (te : TE) : TE := tCall (spD K rLeastUnits) [] E0 (tCons te tNil)
abbrev tLst1 (K : PySem.W.Frag) (te : TE) : TE := tCB (rListS K) (tCons te tNil)
abbrev tLe (K : PySem.W.Frag) (i j : Nat) : TE := tCall (spD K rLeast) [] E0 (tCons (tVar i) (tCons (tVar j) tNil))
abbrev tTurn (K : PySem.W.Frag) : TS := tDrop (tBM K "list" rAppend (tVar 3) (tCons (tLst (tCons (tOp (rI0 fun i j => .int (i + j)) (tC (.int 1)) (tOp (rI (fun _ j => 0 < j) fun i j => .int (i % j)) (tCB rInt1 (tCons (tOp (rI0 fun i j => .int (i + j)) (tVar 4) (tOp (rI CMul fun i j => .int (i * j)) (tC (.int 337)) (tVar 5))) tNil)) (tC (.int 997))))
  (tCons (tCall (spPlain K) [] E0 (tCons (tVar 1) (tCons (tVar 2) tNil))) tNil))) tNil))
abbrev tLQ (K : PySem.W.Frag) : TS :=
  tSeq (tAsg (tCall (spState K) [] E0 (tCons (tVar 0) tNil)) (gName 1))
  (tSeq (tAsg (tCall (spRow K) [] E0 (tCons (tVar 1) (tCons (tOp (rIx K) (tLst (tCons (tC (.int 3)) (tCons (tC (.int 2)) (tCons (tC (.int 4)) (tCons (tC (.int 3)) (tCons (tC (.int 4)) (tCons (tC (.int 2)) (tCons (tC (.int 5)) (tCons (tC (.int 1)) tNil))))))))) (tDr K 8)) tNil))) (gName 2))
  (tSeq (tAsg (tLst tNil) (gName 3))
  (tSeq (tAsg (tDr K 997) (gName 4))
  (tSeq (tFor (iRng1 (tCons (tOp (rIx K) (tLst (tCons (tC (.int 3)) (tCons (tC (.int 2)) (tCons (tC (.int 4)) (tCons (tC (.int 5)) (tCons (tC (.int 1)) (tCons (tC (.int 0)) tNil))))))) (tDr K 6)) tNil)) (gName 5) (tTurn K))
  (tSeq (tAsg (tLc (iList K (tVar 3)) (gName 15) tYes (tOp (rIx K) (tVar 15) (tC (.int 1))) [15]) (gName 6))
  (tSeq (tAsg (tCall (spD K rValuations) [] E0 (tCons (tVar 6) tNil)) (gName 7))
  (tSeq (tAsg (tCall (spD K rSets) [] E0 (tCons (tCall (spD K rAtomsOf) [] E0 (tCons (tVar 6) tNil)) tNil)) (gName 8))
  (tSeq (tAsg (tLu K (tLst1 K (tVar 6))) (gName 9))
  (tSeq (tAlk K (tVar 9) (tLe K 8 6))
  (tSeq (tAsg (tLu K (tLst1 K (tVar 9))) (gName 10))
  (tSeq (tAlk K (tVar 10) (tLe K 8 7))
  (tSeq (tAlk K (tLu K (tCB (rTupleS K) (tCons (tVar 10) tNil))) (tVar 9))
  (tAsg (tCall (spDict K) [] E0 (tCons (tVar 3) tNil)) (gName 11))))))))))))))
/-- what the law calls, its promises kept -/
structure Calls (P : Program) (w : World) (K : PySem.W.Frag) (mg : PySem.Str → Option Value) (base : Heap) (fSt fDr fAr fPc fVa fSe fAo fLu fAl fLe fDi : Addr) (fdSt fdDr fdAr fdPc fdVa fdSe fdAo fdLu fdAl fdLe fdDi : FuncData) : Prop where
  M : Bn mg
  FSt : FnP K "_law_state" 24 fSt fdSt
  gSt : mg "_law_state" = some (.ref fSt)
  GSt : FnOk P w K mg base CX0 1 fSt fdSt ["_law_script"] (spState K)
  FDr : FnP K "_law_draw" 25 fDr fdDr
  gDr : mg "_law_draw" = some (.ref fDr)
  GDr : FnOk P w K mg base CX0 1 fDr fdDr ["_law_state_here", "_law_many"] (spDraw K)
  FAr : FnP K "_law_atom_row" 27 fAr fdAr
  gAr : mg "_law_atom_row" = some (.ref fAr)
  GAr : FnOk P w K mg base CX0 2 fAr fdAr ["_law_state_here", "_law_count"] (spRow K)
  FPc : FnP K "_law_plain_clause" 36 fPc fdPc
  gPc : mg "_law_plain_clause" = some (.ref fPc)
  GPc : FnOk P w K mg base CX0 2 fPc fdPc ["_law_state_here", "_law_atoms"] (spPlain K)
  FVa : FnP K "_law_valuations" 33 fVa fdVa
  gVa : mg "_law_valuations" = some (.ref fVa)
  GVa : FnOk P w K mg base CX0 3 fVa fdVa ["_law_clauses"] (spD K rValuations)
  FSe : FnP K "_law_sets" 37 fSe fdSe
  gSe : mg "_law_sets" = some (.ref fSe)
  GSe : FnOk P w K mg base CX0 1 fSe fdSe ["_law_atoms"] (spD K rSets)
  FAo : FnP K "_law_atoms_of" 29 fAo fdAo
  gAo : mg "_law_atoms_of" = some (.ref fAo)
  GAo : FnOk P w K mg base CX0 1 fAo fdAo ["_law_clauses"] (spD K rAtomsOf)
  FLu : FnP K "least_units" 11 fLu fdLu
  gLu : mg "least_units" = some (.ref fLu)
  GLu : FnOk P w K mg base CX0 3 fLu fdLu ["clauses"] (spD K rLeastUnits)
  FAl : FnP K "_law_alike" 26 fAl fdAl
  gAl : mg "_law_alike" = some (.ref fAl)
  GAl : FnOk P w K mg base CX0 8 fAl fdAl ["_law_actual", "_law_due"] (spAl K 7)
  FLe : FnP K "_law_least" 38 fLe fdLe
  gLe : mg "_law_least" = some (.ref fLe)
  GLe : FnOk P w K mg base CX0 3 fLe fdLe ["_law_sets_here", "_law_others"] (spD K rLeast)
  FDi : FnP K "_law_dict" 28 fDi fdDi
  gDi : mg "_law_dict" = some (.ref fDi)
  GDi : FnOk P w K mg base CX0 1 fDi fdDi ["_law_rows"] (spDict K)
section
variable {P : Program} {w : World} {K : PySem.W.Frag} {mg : PySem.Str → Option Value} {base : Heap} {f fSt fDr fAr fPc fVa fSe fAo fLu fAl fLe fDi : Addr} {fdSt fdDr fdAr fdPc fdVa fdSe fdAo fdLu fdAl fdLe fdDi : FuncData}
abbrev nLaw : List PySem.Str := ["_law_script", "_law_state_here", "_law_atoms", "_law_rows", "_law_shift", "_law_k", "_law_clauses", "_law_worlds", "_law_sets_here", "_law_units", "_law_forced", "_law_table", "_law_start", "_law_goal", "_law_gone", "_law_row", "_law_literal"]
theorem scLaw : FnScope nLaw ["_law_script"] (defScope (top 41)) := ⟨rfl, rfl, rfl, by decide +kernel, rfl, by decide +kernel, by decide +kernel⟩
/-- the law, up to its table -/
theorem law_quiet (FF : Calls P w K mg base fSt fDr fAr fPc fVa fSe fAo fLu fAl fLe fDi fdSt fdDr fdAr fdPc fdVa fdSe fdAo fdLu fdAl fdLe fdDi) {cdv : Value} {A : Around} {outer : List Env} {s : Shared} {H : Hp} {E : XK} {k : Nat} (hk : 8 ≤ k) (hr : Room k (A.deeper (envOfC "law" (defScope (top 41)) s.heap.objs.size f cdv))) (L : Lg) :
    PSs ((cxOf (CX P w) P w K mg base nLaw "law" (defScope (top 41)) f cdv A outer s H E).wish (xlOf P w K mg base nLaw "law" (defScope (top 41)) f cdv A outer s H E L)) ((defBody (top 41)).take 14) (tLQ K) := by
  have hr : Room 8 (A.deeper (envOfC "law" (defScope (top 41)) s.heap.objs.size f cdv)) := hr.mono hk
  have bSt : Binds K fdSt ["_law_script"] [] := FF.FSt.bindsN fun _ _ _ _ _ _ us hl => match us, hl with | [_], _ => rfl
  have bDr : Binds K fdDr ["_law_state_here", "_law_many"] [] := FF.FDr.bindsN fun _ _ _ _ _ _ us hl => match us, hl with | [_, _], _ => rfl
  have bAr : Binds K fdAr ["_law_state_here", "_law_count"] [] := FF.FAr.bindsN fun _ _ _ _ _ _ us hl => match us, hl with | [_, _], _ => rfl
  have bPc : Binds K fdPc ["_law_state_here", "_law_atoms"] [] := FF.FPc.bindsN fun _ _ _ _ _ _ us hl => match us, hl with | [_, _], _ => rfl
  have bVa : Binds K fdVa ["_law_clauses"] [] := FF.FVa.bindsN fun _ _ _ _ _ _ us hl => match us, hl with | [_], _ => rfl
  have bSe : Binds K fdSe ["_law_atoms"] [] := FF.FSe.bindsN fun _ _ _ _ _ _ us hl => match us, hl with | [_], _ => rfl
  have bAo : Binds K fdAo ["_law_clauses"] [] := FF.FAo.bindsN fun _ _ _ _ _ _ us hl => match us, hl with | [_], _ => rfl
  have bLu : Binds K fdLu ["clauses"] [] := FF.FLu.bindsN fun _ _ _ _ _ _ us hl => match us, hl with | [_], _ => rfl
  have bAl : Binds K fdAl ["_law_actual", "_law_due"] [] := FF.FAl.bindsN fun _ _ _ _ _ _ us hl => match us, hl with | [_, _], _ => rfl
  have bLe : Binds K fdLe ["_law_sets_here", "_law_others"] [] := FF.FLe.bindsN fun _ _ _ _ _ _ us hl => match us, hl with | [_, _], _ => rfl
  have bDi : Binds K fdDi ["_law_rows"] [] := FF.FDi.bindsN fun _ _ _ _ _ _ us hl => match us, hl with | [_], _ => rfl
  have M := FF.M
  obtain ⟨_, FSt, gSt, GSt, FDr, gDr, GDr, FAr, gAr, GAr, FPc, gPc, GPc, FVa, gVa, GVa, FSe, gSe, GSe, FAo, gAo, GAo, FLu, gLu, GLu, FAl, gAl, GAl, FLe, gLe, GLe, FDi, gDi, GDi⟩ := FF
  exact (pss_cons (ps_set (i := 1) scLaw.nd rfl (Or.inl rfl) (pe_call GSt (hr.mono (by decide)) rfl gSt FSt.kp bSt .nil pass0 (pa_cons (pv 0) pa_nil)))
        (pss_cons (ps_set (i := 2) scLaw.nd rfl (Or.inl rfl) (pe_call GAr (hr.mono (by decide)) rfl gAr FAr.kp bAr .nil pass0 (pa_cons (pv 1) (pa_cons (pe_ix ix_seq (pe_lst (pa_cons pe_int (pa_cons pe_int (pa_cons pe_int (pa_cons pe_int (pa_cons pe_int (pa_cons pe_int (pa_cons pe_int (pa_cons pe_int pa_nil))))))))) (pe_call GDr (hr.mono (by decide)) rfl gDr FDr.kp bDr .nil pass0 (pa_cons (pv 1) (pa_cons pe_int pa_nil))) (fun _ _ => rfl)) pa_nil))))
        (pss_cons (ps_set (i := 3) scLaw.nd rfl (Or.inl rfl) (pe_lst pa_nil))
        (pss_cons (ps_set (i := 4) scLaw.nd rfl (Or.inl rfl) (pe_call GDr (hr.mono (by decide)) rfl gDr FDr.kp bDr .nil pass0 (pa_cons (pv 1) (pa_cons pe_int pa_nil))))
        (pss_cons (ps_for owns_xl rfl (pi_range1 rfl M.range (pa_cons (pe_ix ix_seq (pe_lst (pa_cons pe_int (pa_cons pe_int (pa_cons pe_int (pa_cons pe_int (pa_cons pe_int (pa_cons pe_int pa_nil))))))) (pe_call GDr (hr.mono (by decide)) rfl gDr FDr.kp bDr .nil pass0 (pa_cons (pv 1) (pa_cons pe_int pa_nil))) (fun _ _ => rfl)) pa_nil)) (pg_name (i := 5) scLaw.nd rfl (Or.inl rfl)) (pss_one (ps_expr (pe_bm PySem.F.plainAttrs_list PySem.F.slot_list_append PySem.F.type_list_append mt_append (pv 3) (pa_cons (pe_lst (pa_cons (pe_op op_add pe_int (pe_op op_mod (pe_callTy (T := "int") (r := rInt1) call_int1 rfl M.int (by decide +kernel) (pa_cons (pe_op op_add (pv 4) (pe_op op_mul pe_int (pv 5))) pa_nil)) pe_int)) (pa_cons (pe_call GPc (hr.mono (by decide)) rfl gPc FPc.kp bPc .nil pass0 (pa_cons (pv 1) (pa_cons (pv 2) pa_nil))) pa_nil))) pa_nil)))))
        (pss_cons (ps_setLc (i := 6) (own := [("_law_row", 15)]) (te := tOp (rIx K) (tVar 15) (tC (.int 1))) rfl scLaw.nd rfl rfl (sw_true rfl rfl rfl (by decide +kernel)) (pi_list (pv 3)) (blkOk_by (own := [("_law_row", 15)]) (N := nLaw) (sc := defScope (top 41)) (by decide +kernel)) (fun _ _ _ _ _ => pg_name (i := 15) scLaw.nd rfl (Or.inl rfl)) (fun _ _ _ _ _ => pts_nil) (fun _ _ _ _ _ => pe_ix (r := rIx K) ix_seq (pv 15) pe_int (fun _ _ => rfl)))
        (pss_cons (ps_set (i := 7) scLaw.nd rfl (Or.inl rfl) (pe_call GVa (hr.mono (by decide)) rfl gVa FVa.kp bVa .nil pass0 (pa_cons (pv 6) pa_nil)))
        (pss_cons (ps_set (i := 8) scLaw.nd rfl (Or.inl rfl) (pe_call GSe (hr.mono (by decide)) rfl gSe FSe.kp bSe .nil pass0 (pa_cons (pe_call GAo (hr.mono (by decide)) rfl gAo FAo.kp bAo .nil pass0 (pa_cons (pv 6) pa_nil)) pa_nil)))
        (pss_cons (ps_set (i := 9) scLaw.nd rfl (Or.inl rfl) (pe_call GLu (hr.mono (by decide)) rfl gLu FLu.kp bLu .nil pass0 (pa_cons (pe_callTy (T := "list") (r := rListS K) call_list_of rfl M.list (by decide +kernel) (pa_cons (pv 6) pa_nil)) pa_nil)))
        (pss_cons (ps_if (pt_not (pt_val (pe_call GAl (hr.mono (by decide)) rfl gAl FAl.kp bAl .nil pass0 (pa_cons (pv 9) (pa_cons (pe_call GLe (hr.mono (by decide)) rfl gLe FLe.kp bLe .nil pass0 (pa_cons (pv 8) (pa_cons (pv 6) pa_nil))) pa_nil))))) (pss_one (ps_ret pe_bl)) pss_nil)
        (pss_cons (ps_set (i := 10) scLaw.nd rfl (Or.inl rfl) (pe_call GLu (hr.mono (by decide)) rfl gLu FLu.kp bLu .nil pass0 (pa_cons (pe_callTy (T := "list") (r := rListS K) call_list_of rfl M.list (by decide +kernel) (pa_cons (pv 9) pa_nil)) pa_nil)))
        (pss_cons (ps_if (pt_not (pt_val (pe_call GAl (hr.mono (by decide)) rfl gAl FAl.kp bAl .nil pass0 (pa_cons (pv 10) (pa_cons (pe_call GLe (hr.mono (by decide)) rfl gLe FLe.kp bLe .nil pass0 (pa_cons (pv 8) (pa_cons (pv 7) pa_nil))) pa_nil))))) (pss_one (ps_ret pe_bl)) pss_nil)
        (pss_cons (ps_if (pt_not (pt_val (pe_call GAl (hr.mono (by decide)) rfl gAl FAl.kp bAl .nil pass0 (pa_cons (pe_call GLu (hr.mono (by decide)) rfl gLu FLu.kp bLu .nil pass0 (pa_cons (pe_callTy (T := "tuple") (r := rTupleS K) call_tuple_of rfl M.tuple (by decide +kernel) (pa_cons (pv 10) pa_nil)) pa_nil)) (pa_cons (pv 9) pa_nil))))) (pss_one (ps_ret pe_bl)) pss_nil)
        (pss_one (ps_set (i := 11) scLaw.nd rfl (Or.inl rfl) (pe_call GDi (hr.mono (by decide)) rfl gDi FDi.kp bDi .nil pass0 (pa_cons (pv 3) pa_nil)))))))))))))))))
end
end K5
end

section
set_option Elab.async false
set_option linter.all false
set_option maxRecDepth 100000
set_option maxHeartbeats 4000000
/-! W27: the law up to its table, read. -/
namespace K5
open PySem PySem.Spec PyProof.Rows L2 GenW Evl NS DL LL

theorem DW.trans {l sc : Addr} {B0 H0 B H B1 H1 : Hp} (d : DW l sc B0 H0 B H) (e : DW l sc B H B1 H1) : DW l sc B0 H0 B1 H1 := ⟨d.f.trans e.f, e.nb, e.st, d.s0⟩
theorem ml_fl {K : PySem.W.Frag} {l p : Addr} {B H B1 H1 : Hp} {ds : List PyData} (m : ML K B H p ds) (f : Fl l B H B1 H1) (hpl : p ≠ l) : ML K B1 H1 p ds := by
  obtain ⟨nb, xs, h1, h2⟩ := m
  exact ⟨f.n p (some_ne h1) nb, xs, f.h _ _ hpl h1, dpAll_ex _ _ f.b h2⟩
def lab (sf : Int) (k : Nat) : Int := 1 + (sf + 337 * (k : Int)) % 997
theorem lab_pos (sf : Int) (k : Nat) : 0 < lab sf k := by unfold lab; omega
theorem lab_inj {sf : Int} {i j : Nat} (hi : i < 5) (hj : j < 5) (e : lab sf i = lab sf j) : i = j := by unfold lab at e; omega
theorem lab_nd (sf : Int) {n : Nat} (h : n ≤ 5) : ((List.range n).map (lab sf)).Nodup := by
  refine List.pairwise_map.mpr (List.Pairwise.imp_of_mem (fun {i j} hi hj hne e => hne ?_) (List.nodup_range (n := n)))
  exact lab_inj (by have := List.mem_range.mp hi; omega) (by have := List.mem_range.mp hj; omega) e
theorem al_cls {E : At → PyData} (h : ∀ a, alN 4 (E a) = true) {cs : List Cl} (h1 : cs.length ≤ 40000) (h2 : ∀ c ∈ cs, c.length ≤ 40000) : alN 7 (.list (cs.map (clD E))) = true := by
  have lt : ∀ l : Lit, alN 5 (litD E l) = true := fun l => by
    show (decide ([E l.1, PyData.bool l.2].length ≤ 40000) && [E l.1, PyData.bool l.2].all (alN 4)) = true
    rw [List.all_cons, List.all_cons, h l.1]; rfl
  have cl : ∀ c ∈ cs, alN 6 (clD E c) = true := fun c hc => by
    show (decide ((c.map (litD E)).length ≤ 40000) && (c.map (litD E)).all (alN 5)) = true
    rw [List.length_map, decide_eq_true (h2 c hc), Bool.true_and, List.all_eq_true]
    intro d hd
    obtain ⟨l, _, rfl⟩ := List.mem_map.mp hd
    exact lt l
  show (decide ((cs.map (clD E)).length ≤ 40000) && (cs.map (clD E)).all (alN 6)) = true
  rw [List.length_map, decide_eq_true h1, Bool.true_and, List.all_eq_true]
  intro d hd
  obtain ⟨c, hc, rfl⟩ := List.mem_map.mp hd
  exact cl c hc
theorem lu_len {E : At → PyData} {cs : List Cl} : (leastUnits E cs).length ≤ 1024 := by
  have := (gd_found (ls := litsU E cs) cs).len (lit_len (litsU_ord E cs).n)
  rw [leastUnits_eq, List.length_mergeSort]
  unfold rawU
  rw [List.length_map]; exact this
theorem lu_cl {E : At → PyData} {cs : List Cl} {c : Cl} (h : c ∈ leastUnits E cs) : c.length ≤ 10 := lit_len (lu_ord h).n
theorem sets_one {as : List At} (h : as.Nodup) : ((sets as).filter List.isEmpty).length ≤ 1 := by
  have nd := (nd_sets h).filter List.isEmpty
  have all : ∀ c ∈ (sets as).filter List.isEmpty, c = [] := fun c hc => List.isEmpty_iff.mp (List.mem_filter.mp hc).2
  match (sets as).filter List.isEmpty, nd, all with
  | [], _, _ => simp
  | [_], _, _ => simp
  | a :: b :: r, nd, all =>
    exfalso
    have nd' : (a :: b :: r).Nodup := nd
    rw [List.nodup_cons] at nd'
    exact nd'.1 (by rw [all a List.mem_cons_self, ← all b (List.mem_cons_of_mem _ List.mem_cons_self)]; exact List.mem_cons_self)
section
variable {K : PySem.W.Frag} {σ : L2.St} {B : Hp} {te1 te2 : TE} {d : PyData}
theorem et_alike (h1 : ED K te1 σ B d) (h2 : ED K te2 σ B d) (ha : alN 7 d = true) : EvT (tNot (tB (tCall (spAl K 7) [] E0 (tCons te1 (tCons te2 tNil))))) σ B false := fun H1 e1 Q q =>
  h1 H1 e1 _ fun v B2 H2 f hv => h2.mono f.b H2 f.i _ fun u B3 H3 g hu => ⟨B3, d, v, u, g.i, rfl, dp_ex _ v g.b hv, hu, ha, fun H4 e4 => ⟨true, rfl, q H4 ((f.h.trans g.h).trans e4)⟩⟩
end
/-- what stands behind the table -/
structure LawSt (K : PySem.W.Frag) (E : At → PyData) (tb : Tb) (l sc : Addr) (B H : Hp) (wv fv tv : V) : Prop where
  O : AtOk E
  al : ∀ a, alN 4 (E a) = true
  T : TbP tb
  C : TbOk tb
  few : tb.length ≤ 5
  flat : ((tb.map (·.2)).flatMap fun c => c).length < 64
  e : Ex B H
  nb : B l = none
  st : StOk H l sc
  w : Dp K B wv (.list ((worlds E (tb.map (·.2))).map (clD E)))
  f : Dp K B fv (.list ((leastUnits E (leastUnits E (tb.map (·.2)))).map (clD E)))
  t : DI K B tv (tbD E tb)
theorem law_reads {K : PySem.W.Frag} {D : Ends} {H : Hp} {a : Addr} {ns : List Int} (hS : SqL K H a (ns.map V.int))
    (k : ∀ E tb l sc B H' wv fv tv x2 x3 x4 x5 x6 x8 x9, LawSt K E tb l sc B H' wv fv tv → D.nx [some (.ref a), some (.ref l), x2, x3, x4, x5, x6, some wv, x8, x9, some fv, some tv, none, none, none, none, none] H') : tLQ K D (L2.start nLaw [.ref a]) H := by
  refine ⟨_, rfl, a, ns, rfl, hS, fun l sc H1 hl hsc e1 hSt => ?_⟩
  dsimp only [gName]
  have d1 : DW l sc H H1 H H1 := DW.start e1 hl hSt
  -- atoms
  refine ⟨_, rfl, e_pick d1 rfl (ns := [3, 2, 4, 3, 4, 2, 5, 1]) (ea_cons ev_c (ea_cons ev_c (ea_cons ev_c (ea_cons ev_c (ea_cons ev_c (ea_cons ev_c (ea_cons ev_c (ea_cons ev_c ea_nil)))))))) rfl (by decide) (by decide) fun n H2 hn d2 x2 => ?_⟩
  have hn3 : 1 ≤ n ∧ n ≤ 5 := by revert n; decide
  obtain ⟨m, rfl, hm1, hm5⟩ : ∃ m : Nat, n = (m : Int) ∧ 1 ≤ m ∧ m ≤ 5 := ⟨n.toNat, by omega, by omega, by omega⟩
  refine ⟨H, l, sc, m, d2.f.i, rfl, d2.nb, d2.st, hm5, fun st sh av B3 H3 d3' hav => ?_⟩
  have d3 := d2.trans d3'
  have O := atomE_ok st sh
  have hal := atomE_al st sh
  generalize atomE st.val sh.val = E at O hal hav
  dsimp only [gName]
  -- rows
  refine ⟨Nat.zero_le _, fun p hp => ?_⟩
  have hpl : p ≠ l := fun z => d3.st.ne (z ▸ hp)
  have hp0 : H1 p = none := by
    cases hq : H1 p with
    | none => rfl
    | some o => rw [d3.f.h p o hpl hq] at hp; cases hp
  have d4 : DW l sc H H1 B3 (upd H3 p (.lst [])) := d3.up (Ex.new hp)
  have m4 : ML K B3 (upd H3 p (.lst [])) p (([] : Tb).map (pairD E)) := ⟨fresh_back d3.f.i hp, [], upd_same, .nil⟩
  generalize upd H3 p (.lst []) = H4 at d4 m4
  dsimp only [gName]
  -- shift
  refine e_draw d4 rfl (m := 997) ev_c (by decide) fun sf H5 s0 s1 d5 x5 => ?_
  have m5 := ml_drawn m4 x5 hpl
  dsimp only [gName]
  -- the loop
  refine e_pick d5 rfl (ns := [3, 2, 4, 5, 1, 0]) (ea_cons ev_c (ea_cons ev_c (ea_cons ev_c (ea_cons ev_c (ea_cons ev_c (ea_cons ev_c ea_nil)))))) rfl (by decide) (by decide) fun n2 H6 hn2 d6 x6 => ?_
  have hn25 : 0 ≤ n2 ∧ n2 ≤ 5 := by revert n2; decide
  have m6 := ml_drawn m5 x6 hpl
  refine ⟨n2, rfl, by omega, by omega, for_range (lo := 0) (n := n2.toNat) (fun i σ' H' => ∃ B' tb, DW l sc H H1 B' H' ∧ Ex B3 B' ∧ ML K B' H' p (List.map (pairD E) tb) ∧ tb.map (·.1) = (List.range i).map (lab sf) ∧ (∀ q ∈ tb, (q.2.map (·.1)).Nodup ∧ q.2.length ≤ 3) ∧
      ∃ y, σ' = [some (.ref a), some (.ref l), some av, some (.ref p), some (.int sf), y, none, none, none, none, none, none, none, none, none, none, none])
    ⟨B3, [], d6, Ex.refl _, m6, rfl, by simp, _, rfl⟩ ?_ ?_⟩
  · rintro i σ' H7 hi ⟨B7, tb, d7, e37, m7, hlb, hcl, y, rfl⟩
    dsimp only [gName]
    have htl : tb.length = i := by have := congrArg List.length hlb; simpa using this
    obtain ⟨xs7, hxs7, _⟩ := m7.ex
    refine ⟨_, rfl, .inl ⟨rfl, xs7, sq_of hxs7⟩, ?_⟩
    have lb : ED K (tOp (rI0 fun i j => .int (i + j)) (tC (.int 1)) (tOp (rI (fun _ j => 0 < j) fun i j => .int (i % j)) (tCB rInt1 (tCons (tOp (rI0 fun i j => .int (i + j)) (tVar 4) (tOp (rI CMul fun i j => .int (i * j)) (tC (.int 337)) (tVar 5))) tNil)) (tC (.int 997))))
        [some (.ref a), some (.ref l), some av, some (.ref p), some (.int sf), some (.int (0 + (i : Int))), none, none, none, none, none, none, none, none, none, none, none] B7 (.int (lab sf i)) := by
      refine ED.is (ed_op ed_int (ed_op (ed_cb (eda_1 (ed_op (ed_var (i := 4) rfl (.int _)) (ed_op ed_int (ed_var (i := 5) rfl (.int _)) (rd_I (C := CMul) (g := fun i j => i * j) (.inl ⟨by decide, by decide⟩))) (rd_I0 (g := fun i j => i + j)))) rc_int1) ed_int (rd_I (C := fun _ j => 0 < j) (g := fun i j => i % j) (by decide))) (rd_I0 (g := fun i j => i + j))) ?_
      congr 1
      show 1 + (sf + 337 * (0 + (i : Int))) % 997 = lab sf i
      unfold lab; rw [Int.zero_add]
    refine lb H7 d7.f.i _ fun lv B8 H8 f8 hlv => ?_
    obtain rfl := hlv.intI
    have d8 := d7.step f8
    have m8 := m7.step f8
    refine ⟨_, rfl, _, rfl, B8, E, ats m, l, sc, av, d8.f.i, O, rfl, d8.nb, d8.st, dp_ex _ av (e37.trans f8.b) hav, fun z => ?_, by rw [ats_len hm5]; omega, fun c r B9 H9 hnd hat hlen d9' hr => ?_⟩
    · have := ats_len hm5; rw [z] at this; simp at this; omega
    have d9 := d8.trans d9'
    have m9 := ml_fl m8 d9'.f hpl
    refine ⟨sz_of (by show 2 ≤ _; omega), fun q hq => ?_⟩
    have f10 := Fz.new (o := .lst [.int (lab sf i), r]) d9.f.i hq
    have d10 := d9.step f10
    obtain ⟨n10, xs10, h101, h102⟩ := m9.step f10
    have hs3 : (c.mergeSort (leOf (litD E))).length ≤ 3 := by rw [List.length_mergeSort]; exact hlen
    refine ⟨p, xs10, .ref q, rfl, rfl, h101, sz_lt (by rw [h102.length, List.length_map]; omega), ?_⟩
    have g11 : Fl p _ _ _ (upd _ p (.lst (xs10 ++ [.ref q]))) := ⟨Ex.refl _, fun b o hb q => by rw [upd_ne hb]; exact q, Ex.mut d10.f.i n10, fun _ _ h => h, fun _ => by rw [upd_same]; simp⟩
    refine ⟨_, tb ++ [(lab sf i, c.mergeSort (leOf (litD E)))], d10.app g11 hp0 hpl, ((e37.trans f8.b).trans d9'.f.b).trans f10.b, ⟨n10, _, upd_same, ?_⟩, ?_, ?_, _, rfl⟩
    · rw [List.map_append]
      exact h102.append (.one (.lst (sq_of upd_same) (.cons (.int _) (.one (dp_ex _ r f10.b hr)))))
    · rw [List.map_append, hlb, List.range_succ, List.map_append]; rfl
    · intro q' hq'
      rcases List.mem_append.mp hq' with z | z
      · exact hcl q' z
      · rw [List.mem_singleton.mp z]
        exact ⟨(((List.mergeSort_perm c _).map (·.1)).nodup_iff).mpr hnd, hs3⟩
  · rintro σ' H7 ⟨B7, tb, d7, e37, m7, hlb, hcl, y, rfl⟩
    obtain ⟨Bx, dx, ex, hx⟩ := d7.close m7 hp0 hpl
    have htl : tb.length = n2.toNat := by have := congrArg List.length hlb; simpa using this
    have few : tb.length ≤ 5 := by omega
    have T : TbP tb := ⟨by rw [hlb]; exact lab_nd sf (by omega), fun q hq => by
      have : q.1 ∈ tb.map (·.1) := List.mem_map_of_mem hq
      rw [hlb] at this
      obtain ⟨j, _, e⟩ := List.mem_map.mp this
      rw [← e]; exact lab_pos sf j, fun c hc => by
      obtain ⟨q, hq, rfl⟩ := List.mem_map.mp hc
      exact (hcl q hq).1⟩
    have C : TbOk tb := ⟨by omega, fun q hq => by have := (hcl q hq).2; omega, T.pos⟩
    have flat : ((tb.map (·.2)).flatMap fun c => c).length < 64 := by
      have : ∀ t : Tb, (∀ q ∈ t, q.2.length ≤ 3) → ((t.map (·.2)).flatMap fun c => c).length ≤ 3 * t.length := by
        intro t
        induction t with
        | nil => intro _; simp
        | cons q t ih =>
          intro h
          rw [List.map_cons, List.flatMap_cons, List.length_append, List.length_cons]
          have := h q List.mem_cons_self
          have := ih fun q' hq' => h q' (List.mem_cons_of_mem _ hq')
          omega
      have := this tb fun q hq => (hcl q hq).2
      omega
    have ndc : ∀ c ∈ tb.map (·.2), c.Nodup := fun c hc => nd_fst (T.plain c hc)
    have hcl10 : ∀ c ∈ tb.map (·.2), c.length ≤ 1000 := fun c hc => by have := lit_len (ndc c hc); omega
    have hw5 := growAll_len two_ok.1 two_ok.2 (atomsU_len E (tb.map (·.2)))
    have hs5 := growAll_len three_ok.1 three_ok.2 (atomsU_len E (tb.map (·.2)))
    dsimp only
    -- clauses
    refine q_asgD (K := K) (B := Bx) (d := .list ((tb.map (·.2)).map (clD E))) (ED.is (ed_lcY (pairD E) tb (fun q => clD E q.2) (id_list (ed_var (i := 3) rfl hx)) (by omega) (fun y => rfl) fun i q y B1 e1 hi hy => ed_op (ed_var rfl hy) ed_int (rd_ixL atI_1)) (by rw [List.map_map]; rfl)) dx.f.i fun cv B11 H11 f11 hcv => ?_
    have d11 := dx.step f11
    have hx11 := dp_ex _ _ f11.b hx
    -- worlds
    refine q_asgD (K := K) (ed_call0 (R := rValuations) (eda_1 (ed_var (i := 6) (v := cv) rfl hcv)) ⟨E, tb.map (·.2), O, by omega, rfl, rfl⟩) d11.f.i fun wv B12 H12 f12 hwv => ?_
    have d12 := d11.step f12
    have hcv12 := dp_ex _ cv f12.b hcv
    -- sets
    refine q_asgD (K := K) (ed_call0 (R := rSets) (eda_1 (ed_call0 (R := rAtomsOf) (eda_1 (ed_var (i := 6) (v := cv) rfl hcv12)) ⟨E, tb.map (·.2), O, by omega, rfl, rfl⟩)) ⟨E, atomsU E (tb.map (·.2)), O, atomsU_len _ _, rfl, rfl⟩) d12.f.i fun sv B13 H13 f13 hsv => ?_
    have d13 := d12.step f13
    have hcv13 := dp_ex _ cv f13.b hcv12
    have hwv13 := dp_ex _ wv f13.b hwv
    -- units
    refine q_asgD (K := K) (ed_call0 (R := rLeastUnits) (eda_1 (ed_cb (eda_1 (ed_var (i := 6) (v := cv) rfl hcv13)) rc_list)) ⟨E, tb.map (·.2), _, O, hcl10, rfl, .inl rfl, rfl⟩) d13.f.i fun uv B14 H14 f14 huv => ?_
    have d14 := d13.step f14
    have hcv14 := dp_ex _ cv f14.b hcv13
    have hwv14 := dp_ex _ wv f14.b hwv13
    have hsv14 := dp_ex _ sv f14.b hsv
    have hlu := fun c (hc : c ∈ leastUnits E (tb.map (·.2))) => lu_cl hc
    have hlu2 := fun c (hc : c ∈ leastUnits E (leastUnits E (tb.map (·.2)))) => lu_cl hc
    have lul := lu_len (E := E) (cs := tb.map (·.2))
    have lul2 := lu_len (E := E) (cs := leastUnits E (tb.map (·.2)))
    have ssl : (sets (atomsU E (tb.map (·.2)))).length ≤ 1000 := by have := hs5.1; unfold sets; omega
    have ssr : ∀ r ∈ sets (atomsU E (tb.map (·.2))), r.length ≤ 1000 := fun r hr => by have := hs5.2 r hr; omega
    have sse := sets_one (atomsU_nd E (tb.map (·.2)))
    refine s_ifD (B := B14) (b := false) d14.f.i (et_alike (K := K) (ed_var (i := 9) (v := uv) rfl huv) (ED.is (ed_call0 (R := rLeast) (eda_2 (ed_var (i := 8) (v := sv) rfl hsv14) (ed_var (i := 6) (v := cv) rfl hcv14)) ⟨E, sets (atomsU E (tb.map (·.2))), tb.map (·.2), O, ssl, ssr, sse, rfl, rfl⟩) (by rw [P1 O T.plain])) (al_cls hal (by omega) fun c hc => by have := hlu c hc; omega)) (fun ht => by cases ht) fun _ H15 e15 => ?_
    have d15 := d14.up e15
    -- forced
    refine q_asgD (K := K) (ed_call0 (R := rLeastUnits) (eda_1 (ed_cb (eda_1 (ed_var (i := 9) (v := uv) rfl huv)) rc_list)) ⟨E, leastUnits E (tb.map (·.2)), _, O, fun c hc => by have := hlu c hc; omega, rfl, .inl rfl, rfl⟩) d15.f.i fun fv B16 H16 f16 hfv => ?_
    have d16 := d15.step f16
    have hwv16 := dp_ex _ wv f16.b hwv14
    have hsv16 := dp_ex _ sv f16.b hsv14
    have huv16 := dp_ex _ uv f16.b huv
    refine s_ifD (B := B16) (b := false) d16.f.i (et_alike (K := K) (ed_var (i := 10) (v := fv) rfl hfv) (ED.is (ed_call0 (R := rLeast) (eda_2 (ed_var (i := 8) (v := sv) rfl hsv16) (ed_var (i := 7) (v := wv) rfl hwv16)) ⟨E, sets (atomsU E (tb.map (·.2))), worlds E (tb.map (·.2)), O, ssl, ssr, sse, rfl, rfl⟩) (by rw [P2 O T.plain])) (al_cls hal (by omega) fun c hc => by have := hlu2 c hc; omega)) (fun ht => by cases ht) fun _ H17 e17 => ?_
    have d17 := d16.up e17
    -- the units again
    have hcl2 : ∀ c ∈ leastUnits E (leastUnits E (tb.map (·.2))), c.length ≤ 1000 := fun c hc => by have := hlu2 c hc; omega
    have hcl1 : ∀ c ∈ leastUnits E (tb.map (·.2)), c.length ≤ 40000 := fun c hc => by have := hlu c hc; omega
    have p3 := P3 (E := E) O T.plain
    have again : ED K (tLu K (tCB (rTupleS K) (tCons (tVar 10) tNil))) [some (.ref a), some (.ref l), some av, some (.ref p), some (.int sf), y, some cv, some wv, some sv, some uv, some fv, none, none, none, none, none, none] B16 (.list ((leastUnits E (tb.map (·.2))).map (clD E))) := by
      generalize leastUnits E (leastUnits E (tb.map (·.2))) = F at hfv hcl2 p3
      rw [← p3]
      exact ed_call0 (R := rLeastUnits) (eda_1 (ed_cb (eda_1 (ed_var (i := 10) (v := fv) rfl hfv)) rc_tuple)) ⟨E, F, _, O, hcl2, rfl, .inr rfl, rfl⟩
    refine s_ifD (B := B16) (b := false) d17.f.i (et_alike (K := K) again (ed_var (i := 9) (v := uv) rfl huv16) (al_cls hal (Nat.le_trans lul (by decide)) hcl1)) (fun ht => by cases ht) fun _ H18 e18 => ?_
    have d18 := d17.up e18
    -- the table
    have exx : Ex Bx B16 := (((f11.b.trans f12.b).trans f13.b).trans f14.b).trans f16.b
    refine ⟨_, rfl, B16, E, tb, .ref p, d18.f.i, O, rfl, dp_ex _ _ exx hx, T.nd, by omega, fun tv B19 H19 f19 htv => ?_⟩
    have d19 := d18.step f19
    exact k E tb l sc B19 H19 wv fv tv _ _ _ _ _ _ _ ⟨O, hal, T, C, few, flat, d19.f.i, d19.nb, d19.st, dp_ex _ wv f19.b hwv16, dp_ex _ fv f19.b hfv, htv⟩
end K5
end

section
set_option Elab.async false
set_option linter.all false
set_option maxRecDepth 100000
set_option maxHeartbeats 4000000
/-! W28: the law. -/
namespace K5
open PySem PySem.Spec PyProof.Rows L2 GenW Evl NS DL LL

/-- the base without what is known to change -/
def noX (B : Hp) : Hp := fun b => match B b with
  | some (.ext _) => none
  | o => o
theorem noX_env (B : Hp) : EnvH B (noX B) := fun b o h n => by
  unfold noX
  rw [h]
  cases o with
  | ext φ => exact absurd rfl (n φ)
  | _ => rfl
theorem noX_some {B : Hp} {b : Addr} {o : HO} (h : noX B b = some o) : B b = some o ∧ ∀ φ, o ≠ .ext φ := by
  unfold noX at h
  split at h
  · cases h
  · rename_i hne
    refine ⟨h, fun φ e => hne φ ?_⟩
    rw [h, e]
theorem noX_ex {B H H' : Hp} (e : Ex B H) (v : EnvH H H') : Ex (noX B) H' := fun b o h => v b o (e b o (noX_some h).1) (noX_some h).2
theorem noX_step {B H H' : Hp} (e : Ex (noX B) H) (v : EnvH H H') : Ex (noX B) H' := fun b o h => v b o (e b o h) (noX_some h).2
theorem noX_none {B : Hp} {b : Addr} (h : B b = none) : noX B b = none := by unfold noX; rw [h]
theorem StOk.env {H H' : Hp} {l sc : Addr} (h : StOk H l sc) (e : EnvH H H') : StOk H' l sc := let ⟨ns, a, b, c, d, h1, h2, r⟩ := h; ⟨ns, a, b, c, d, e _ _ h1 nofun, e _ _ h2 nofun, r⟩
def spLaw (K : PySem.W.Frag) : Sp := fun vs H Q _ => ∃ (a : Addr) (ns : List Int), vs = [.ref a] ∧ Only H ∧ SqL K H a (ns.map V.int) ∧ ∀ H', Q (.bl true) H'
abbrev rMin2 : List V → Hp → VK → Prop := fun xs H Q => ∃ i j, xs = [.int i, .int j] ∧ Q (.int (if j < i then j else i)) H
theorem rc_min2 {K : PySem.W.Frag} {i j : Int} : RDC K rMin2 [.int i, .int j] (.int (if j < i then j else i)) := fun B H a vs hv Q q => by
  obtain ⟨v, u, rfl, h1, h2⟩ := dpAll_2 hv
  obtain rfl := h1.intI
  obtain rfl := h2.intI
  exact ⟨_, _, rfl, q _ B H (.refl a) (.int _)⟩
/-- for name in range(N), loud: the quiet rule's word serves, as the iterator and the store change nothing -/
theorem l_rng {K : PySem.W.Frag} {ta : TA} {j : Nat} {tb u : TS} {N : Int} {σ : L2.St} {B H : Hp} {D : Ends} (h : EDA K ta σ B [.int N]) (a : Ex B H) (h1 : -(2 ^ 62) ≤ N) (h2 : N < 2 ^ 62) (Pv : Nat → L2.St → Hp → Prop) (h0 : ∀ H1, Ex H H1 → Pv 0 σ H1)
    (hs : ∀ i σ H, i < N.toNat → Pv i σ H → tb { D with nx := Pv (i + 1), ct := Pv (i + 1), bk := fun σ' H' => u D σ' H' } (σ.set j (some (.int (0 + i)))) H) (hd : ∀ σ H, Pv N.toNat σ H → u D σ H) : tThenL (tForL (iRng1 ta) (gName j) tb) u D σ H :=
  h H a _ fun vs B6 H6 f6 hvs => by
    obtain ⟨nv, rfl, hnv⟩ := dpAll_1 hvs
    obtain rfl := hnv.intI
    obtain ⟨W, w0, turn⟩ := for_range (lo := 0) (n := N.toNat) (g := gName j) (tb := tb) (D := { D with nx := fun σ' H' => u D σ' H' }) Pv (h0 H6 f6.h) hs hd
    exact ⟨N, rfl, h1, h2, ExX.of f6.h, W, w0, fun i m σ H w => (turn i m σ H w).imp id fun ⟨go, M, hM, step⟩ => ⟨go, M, hM, fun x H' y => ⟨by rw [y.1]; exact ExX.refl _, ExX.refl _, step x H' y⟩⟩⟩
section
variable {K : PySem.W.Frag} {E : At → PyData} {tb : Tb} {l sc : Addr} {B H : Hp} {wv fv tv : V} (Z : LawSt K E tb l sc B H wv fv tv)
include Z
theorem LawSt.fl : (leastUnits E (leastUnits E (tb.map (·.2)))).length ≤ 1024 := lu_len
theorem LawSt.fc (c : Cl) (h : c ∈ leastUnits E (leastUnits E (tb.map (·.2)))) : c.length ≤ 10 := lu_cl h
theorem LawSt.p4 : exts tb (atomsU E (tb.map (·.2))) (atomsU E (tb.map (·.2))).length [] = worlds E (tb.map (·.2)) := P4 Z.T E
theorem LawSt.p5 (g : Cl) (hg : g ∈ leastUnits E (leastUnits E (tb.map (·.2)))) : extRows E tb g = [] ∧ ∃ fs, readRows tb (refRows E tb g) [] = some fs ∧ 1 ≤ (refRows E tb g).length ∧ (refRows E tb g).length ≤ 2 * 2 ^ (atomsU E (tb.map (·.2))).length ∧
    ∃ c, fs.getLast? = some c ∧ c.mergeSort (leOf (litD E)) = g := P5 (E := E) (tb := tb) (goal := g) Z.T Z.O Z.C hg
theorem LawSt.p6 (g : Cl) (hg : g ∈ leastUnits E (leastUnits E (tb.map (·.2)))) (l : Lit) (hl : l ∈ g) : extRows E tb (g.filter fun m => !decide (m = l)) ≠ [] := P6 (E := E) (tb := tb) (goal := g) Z.T Z.O hg hl
theorem LawSt.p7 (h : worlds E (tb.map (·.2)) ≠ []) : extRows E tb [] ≠ [] := P7 (E := E) (tb := tb) Z.T h
theorem LawSt.w5 : (worlds E (tb.map (·.2))).length ≤ 243 ∧ ∀ r ∈ worlds E (tb.map (·.2)), r.length ≤ 5 := by
  have h := growAll_len two_ok.1 two_ok.2 (atomsU_len E (tb.map (·.2)))
  exact ⟨Nat.le_trans (List.length_filter_le _ _) h.1, fun r hr => h.2 r (List.mem_filter.mp hr).1⟩
end
section
variable {P : Program} {w : World} {K : PySem.W.Frag} {mg : PySem.Str → Option Value} {base : Heap} {f fSt fDr fAr fPc fVa fSe fAo fLu fAl fLe fDi fVs fEi fSd : Addr} {fd fdSt fdDr fdAr fdPc fdVa fdSe fdAo fdLu fdAl fdLe fdDi fdVs fdEi fdSd : FuncData}
theorem ok_law (FF : Calls P w K mg base fSt fDr fAr fPc fVa fSe fAo fLu fAl fLe fDi fdSt fdDr fdAr fdPc fdVa fdSe fdAo fdLu fdAl fdLe fdDi) (F : FnP K "law" 41 f fd)
    (FVs : FnP K "valuations" 20 fVs fdVs) (gVs : mg "valuations" = some (.ref fVs)) (GVs : GFnL P w K mg base 25 fVs fdVs ["clauses"] (spVals K))
    (FEi : FnP K "_law_ends_in" 40 fEi fdEi) (gEi : mg "_law_ends_in" = some (.ref fEi)) (GEi : FnL P w K mg base 26 fEi fdEi ["_law_table", "_law_goal"] (spEnds K))
    (FSd : FnP K "_law_stands" 39 fSd fdSd) (gSd : mg "_law_stands" = some (.ref fSd)) (GSd : FnL P w K mg base 26 fSd fdSd ["_law_table", "_law_goal"] (spStands K)) :
    FnL P w K mg base 29 f fd ["_law_script"] (spLaw K) := by
  have M := FF.M
  have bAl : Binds K fdAl ["_law_actual", "_law_due"] [] := FF.FAl.bindsN fun _ _ _ _ _ _ us hl => match us, hl with | [_, _], _ => rfl
  have bDr : Binds K fdDr ["_law_state_here", "_law_many"] [] := FF.FDr.bindsN fun _ _ _ _ _ _ us hl => match us, hl with | [_, _], _ => rfl
  have bVs : Binds K fdVs ["clauses"] [] := FVs.bindsN fun _ _ _ _ _ _ us hl => match us, hl with | [_], _ => rfl
  have bEi : Binds K fdEi ["_law_table", "_law_goal"] [] := FEi.bindsN fun _ _ _ _ _ _ us hl => match us, hl with | [_, _], _ => rfl
  have bSd : Binds K fdSd ["_law_table", "_law_goal"] [] := FSd.bindsN fun _ _ _ _ _ _ us hl => match us, hl with | [_, _], _ => rfl
  obtain ⟨oc, od, dV, kV, doc, pm, an, cdv, ct, osl, rfl, lk, hcd, _, _⟩ := F.ex
  have split : defBody (top 41) = (defBody (top 41)).take 14 ++ (defBody (top 41)).drop 14 := (List.take_append_drop 14 _).symm
  refine fnL_of (k := 28) lk hcd scLaw (fun vs H Q X hsp => ?_) fun A outer s H vs Q X hr hsp => ?_
  · obtain ⟨_, _, rfl, _⟩ := hsp
    rfl
  · rw [split]
    refine ⟨_, pssl_app (t := tLQ K) (fun L => law_quiet FF (by decide) hr L)
      (show PSsL _ _ ((defBody (top 41)).drop 14) _ from
      pssl_cons (psl_if (ptl_not (ptl_val (pel_callQ (x := "_law_alike") FF.GAl (hr.mono (by decide)) (fun L => pass0) (by exact rfl) FF.gAl FF.FAl.kp bAl .nil
          (pal_cons (pel_list (x := "valuations") (t := tCons (tCB rDictDi (tCons (tVar 11) tNil)) tNil) GVs hr (by exact rfl) gVs FVs.kp bVs (fun L => pa_cons (pe_callTy (T := "dict") (r := rDictDi) call_dictD rfl M.dict (by decide +kernel) (pa_cons (pv 11) pa_nil)) pa_nil) (by exact rfl) M.list) (pal_q (ta := tCons (tVar 7) tNil) fun L => pa_cons (pv 7) pa_nil)))))
          (pssl_one (psl_q (t := tRet (tC (.bl false))) fun L => ps_ret pe_bl)) pssl_nil)
      (pssl_cons (psl_q (t := tAsg (tDr K 60) (gName 12)) fun L => ps_set (i := 12) scLaw.nd rfl (Or.inl rfl) (pe_call FF.GDr (hr.mono (by decide)) rfl FF.gDr FF.FDr.kp bDr .nil pass0 (pa_cons (pv 1) (pa_cons pe_int pa_nil))))
      (pssl_cons (psl_for (wi := iRng1 (tCons (tCB rMin2 (tCons (tC (.int 3)) (tCons (tCB (rLenS K) (tCons (tVar 10) tNil)) tNil))) tNil)) (g := gName 5) (fun L => owns_xl) rfl (fun L => pi_range1 rfl M.range (pa_cons (pe_callB (r := rMin2) (call_min2 rfl) rfl M.min (by decide +kernel) (pa_cons pe_int (pa_cons (pe_callB (r := rLenS K) call_len_seq rfl M.len boot_len (pa_cons (pv 10) pa_nil)) pa_nil))) pa_nil)) (fun L => pg_name (i := 5) scLaw.nd rfl (Or.inl rfl))
        (pssl_cons (psl_q (t := tAsg (tOp (rIx K) (tVar 10) (tOp (rI (fun _ j => 0 < j) fun i j => .int (i % j)) (tCB rInt1 (tCons (tOp (rI0 fun i j => .int (i + j)) (tVar 12) (tVar 5)) tNil)) (tCB (rLenS K) (tCons (tVar 10) tNil)))) (gName 13)) fun L => ps_set (i := 13) scLaw.nd rfl (Or.inl rfl) (pe_ix (r := rIx K) ix_seq (pv 10) (pe_op op_mod (pe_callTy (T := "int") (r := rInt1) call_int1 rfl M.int (by decide +kernel) (pa_cons (pe_op op_add (pv 12) (pv 5)) pa_nil)) (pe_callB (r := rLenS K) call_len_seq rfl M.len boot_len (pa_cons (pv 10) pa_nil))) (fun _ _ => rfl)))
        (pssl_cons (psl_if (ptl_not (ptl_val (pel_call (x := "_law_ends_in") (E := fun _ _ _ => False) GEi (hr.mono (by decide)) passesL_none (by exact rfl) gEi FEi.kp bEi .nil (pal_q (ta := tCons (tVar 11) (tCons (tVar 13) tNil)) fun L => pa_cons (pv 11) (pa_cons (pv 13) pa_nil)))))
            (pssl_one (psl_q (t := tRet (tC (.bl false))) fun L => ps_ret pe_bl)) pssl_nil)
        (pssl_one (psl_if (ptl_q (t := tTest (tOp (rI0 fun i j => .bl (decide (j < i))) (tCB (rLenS K) (tCons (tVar 13) tNil)) (tC (.int 0)))) fun L => pt_cmpR op_gt (pe_callB (r := rLenS K) call_len_seq rfl M.len boot_len (pa_cons (pv 13) pa_nil)) pe_int (nomark _))
          (pssl_cons (psl_q (t := tAsg (tOp (rIx K) (tVar 13) (tOp (rI (fun _ j => 0 < j) fun i j => .int (i % j)) (tCB rInt1 (tCons (tVar 12) tNil)) (tCB (rLenS K) (tCons (tVar 13) tNil)))) (gName 14)) fun L => ps_set (i := 14) scLaw.nd rfl (Or.inr rfl) (pe_ix (r := rIx K) ix_seq (pv 13) (pe_op op_mod (pe_callTy (T := "int") (r := rInt1) call_int1 rfl M.int (by decide +kernel) (pa_cons (pv 12) pa_nil)) (pe_callB (r := rLenS K) call_len_seq rfl M.len boot_len (pa_cons (pv 13) pa_nil))) (fun _ _ => rfl)))
          (pssl_one (psl_if (ptl_not (ptl_val (pel_call (x := "_law_stands") (E := fun _ _ _ => False) GSd (hr.mono (by decide)) passesL_none (by exact rfl) gSd FSd.kp bSd .nil
              (pal_q (ta := tCons (tVar 11) (tCons (tCB (rTupleS K) (tCons (tLc (iTup K (tVar 13)) (gName 16) (tTest (tOp (rNeD K) (tVar 16) (tVar 14))) (tVar 16) [16]) tNil)) tNil)) fun L => pa_cons (pv 11) (pa_cons (pe_callTy (T := "tuple") (r := rTupleS K) call_tuple_of rfl M.tuple (by decide +kernel) (pa_cons (pe_lc (own := [("_law_literal", 16)]) rfl scLaw.nd (pi_tup (pv 13)) (blkOk_by (own := [("_law_literal", 16)]) (N := nLaw) (sc := defScope (top 41)) (by decide +kernel)) (fun _ _ _ _ _ => pg_name (i := 16) scLaw.nd rfl (Or.inl rfl))
                (fun _ _ _ _ _ => pts_one (pt_cmpR (r := rNeD K) (op_neD hr.units) (pv 16) (pv 14) (nomark _))) (fun _ _ _ _ _ => pv 16)) pa_nil)) pa_nil)))))
              (pssl_one (psl_q (t := tRet (tC (.bl false))) fun L => ps_ret pe_bl)) pssl_nil))) pssl_nil)))))
      (pssl_one (psl_ret (pel_or (pel_q (t := tOp rEq (tCB (rLenS K) (tCons (tVar 7) tNil)) (tC (.int 0))) fun L => pe_cmpR op_eq (pe_callB (r := rLenS K) call_len_seq rfl M.len boot_len (pa_cons (pv 7) pa_nil)) pe_int (nomark _))
          (pel_call (x := "_law_stands") (E := fun _ _ _ => False) GSd (hr.mono (by decide)) passesL_none (by exact rfl) gSd FSd.kp bSd .nil (pal_q (ta := tCons (tVar 11) (tCons (tTup tNil) tNil)) fun L => pa_cons (pv 11) (pa_cons (pe_tup pa_nil) pa_nil))))))))), ?_⟩
    obtain ⟨a, ns, rfl, hO, hS, q⟩ := hsp
    refine law_reads hS fun E tb l sc B H1 wv fv tv x2 x3 x4 x5 x6 x8 x9 Z => ⟨fun b φ hb => ?_, ?_⟩
    · rcases hO b with z | ⟨o, xs, z⟩ <;> rw [z] at hb <;> cases hb
    have hFl := Z.fl
    have hFc := Z.fc
    have p5 := Z.p5
    have p6 := Z.p6
    have p7 := Z.p7
    have p4 := Z.p4
    have hw5 := Z.w5
    have nde : ∀ p ∈ tb, p.2.Nodup := fun p hp => nd_fst (Z.T.plain _ (List.mem_map_of_mem hp))
    have Zw := Z.w
    have Zf := Z.f
    generalize worlds E (tb.map (·.2)) = WS at Zw hw5 p4 p7
    generalize leastUnits E (leastUnits E (tb.map (·.2))) = F at Zf hFl hFc p5 p6
    have Bt : DI K (noX B) tv (tbD E tb) := di_env (noX_env B) Z.t
    have Bw : Dp K (noX B) wv (.list (WS.map (clD E))) := dp_env (noX_env B) Zw
    have Bf : Dp K (noX B) fv (.list (F.map (clD E))) := dp_env (noX_env B) Zf
    have nb : noX B l = none := noX_none Z.nb
    -- valuations
    refine ei_dict (K := K) (i := 11) rfl Z.t H1 Z.e _ fun dv B2 H2 f2 hd => ⟨_, ⟨E, tb, dv, Z.O, rfl, hd.ex f2.i, by have := Z.few; omega, fun p hp => by have := Z.C.len p hp; omega, Z.flat, rfl⟩, ExX.of f2.h, ?_, fun S H3 xs e3 hS3 hxs => ?_⟩
    · rw [p4, List.length_map]; omega
    have e13 : EnvH H1 H3 := (EnvH.of f2.h).trans e3
    rw [p4] at hxs
    refine ⟨_, rfl, ExX.refl _, H3, .list (WS.map (clD E)), .ref S, wv, Ex.refl _, rfl, .lst (sq_of hS3) hxs, dp_ex _ wv (noX_ex Z.e e13) Bw, al_cls Z.al (by omega) fun c hc => by have := hw5.2 c hc; omega, fun H4 e4 => ⟨ExX.of e4, true, rfl, ?_⟩⟩
    have e14 : EnvH H1 H4 := e13.trans (EnvH.of e4)
    have b4 : Ex (noX B) H4 := noX_ex Z.e e14
    have st4 : StOk H4 l sc := Z.st.env e14
    dsimp only
    rw [if_neg (by simp)]
    -- the draw
    refine ⟨_, rfl, l, sc, 60, rfl, st4, by decide, fun r H5 r0 r1 xl5 st5 => ?_⟩
    have hl4 : ∀ φ, H4 l ≠ some (.ext φ) := fun φ z => by obtain ⟨_, _, _, _, _, h1, _⟩ := st4; rw [h1] at z; cases z
    have b5 : Ex (noX B) H5 := fun b o h => xl5 b o (fun z => by rw [z, nb] at h; cases h) (b4 b o h)
    refine ⟨fun b φ h => xl5 b _ (fun z => hl4 φ (z ▸ h)) h, ?_⟩
    dsimp only [gName]
    -- the loop
    have hlF : ∀ {σ : L2.St}, σ[10]? = some (some fv) → ED K (tCB (rLenS K) (tCons (tVar 10) tNil)) σ (noX B) (.int (F.length : Nat)) := fun {σ} h => ED.is (ed_cb (eda_1 (ed_var (i := 10) (v := fv) h Bf)) rc_len) (by rw [List.length_map])
    obtain ⟨N, eN, hN0, hN1, hN3⟩ : ∃ N : Int, (if ((F.length : Nat) : Int) < 3 then ((F.length : Nat) : Int) else 3) = N ∧ 0 ≤ N ∧ N ≤ (F.length : Nat) ∧ N ≤ 3 := ⟨_, rfl, by split <;> omega, by split <;> omega, by split <;> omega⟩
    refine l_rng (K := K) (B := noX B) (N := N) (eda_1 (ED.is (ed_cb (eda_2 ed_int (hlF rfl)) (rc_min2 (i := 3))) (by rw [eN]))) b5 (by omega) (by omega) (fun i σ' H' => Ex (noX B) H' ∧ ∃ y g1 g2, σ' = [some (.ref a), some (.ref l), x2, x3, x4, y, x6, some wv, x8, x9, some fv, some tv, some (.int r), g1, g2, none, none])
      (fun H6 e6 => ⟨b5.trans e6, _, _, _, rfl⟩) ?_ ?_
    · rintro i σ' H7 hi ⟨b7, y, g1, g2, rfl⟩
      have hlen : 0 < F.length := by omega
      have hm : ((r + (0 + (i : Int))) % (F.length : Nat)).toNat < F.length := by
        have h1 := Int.emod_nonneg (r + (0 + (i : Int))) (by omega : ((F.length : Nat) : Int) ≠ 0)
        have h2 := Int.emod_lt_of_pos (r + (0 + (i : Int))) (by omega : (0 : Int) < (F.length : Nat))
        omega
      have hgF : F[((r + (0 + (i : Int))) % (F.length : Nat)).toNat] ∈ F := List.getElem_mem hm
      have hat : atI (F.map (clD E)) ((r + (0 + (i : Int))) % (F.length : Nat)) = some (clD E F[((r + (0 + (i : Int))) % (F.length : Nat)).toNat]) := by
        have h1 := Int.emod_nonneg (r + (0 + (i : Int))) (by omega : ((F.length : Nat) : Int) ≠ 0)
        have e : (r + (0 + (i : Int))) % (F.length : Nat) = ((((r + (0 + (i : Int))) % (F.length : Nat)).toNat : Nat) : Int) := by omega
        have z : atI (F.map (clD E)) ((((r + (0 + (i : Int))) % (F.length : Nat)).toNat : Nat) : Int) = some (clD E F[((r + (0 + (i : Int))) % (F.length : Nat)).toNat]) := atI_nat (by rw [List.getElem?_map, List.getElem?_eq_getElem hm]; rfl)
        rwa [← e] at z
      generalize F[((r + (0 + (i : Int))) % (F.length : Nat)).toNat] = g at hgF hat
      refine l_asg (K := K) (B := noX B) (d := clD E g) (ed_op (ed_var (i := 10) (v := fv) rfl Bf) (ed_op (ed_cb (eda_1 (ed_op (ed_var (i := 12) rfl (.int _)) (ed_var (i := 5) rfl (.int _)) (rd_I0 (g := fun i j => i + j)))) rc_int1) (hlF rfl) (rd_I (C := fun _ j => 0 < j) (g := fun i j => i % j) (by omega))) (rd_ixL hat)) b7 fun gv B8 H8 f8 hgv => ?_
      have b8 := b7.trans f8.h
      have gl := hFc g hgF
      obtain ⟨q1, fs, q2, q3, q4, q5⟩ := p5 g hgF
      refine ⟨_, rfl, _, rfl, ExX.refl _, E, tb, g, fs, tv, gv, Z.O, rfl, Bt.ex b8, dp_ex _ gv f8.i hgv, Z.C, nde, Z.flat, by omega, q1, q2, q3, q4, q5, fun H9 e9 => ⟨true, rfl, ?_⟩⟩
      have b9 := noX_step b8 e9
      have hg9 : Dp K H9 gv (clD E g) := dp_env e9 (dp_ex _ gv f8.i hgv)
      dsimp only
      rw [if_neg (by simp)]
      have hlg : ∀ {σ : L2.St} {B' : Hp}, Ex H9 B' → σ[13]? = some (some gv) → ED K (tCB (rLenS K) (tCons (tVar 13) tNil)) σ B' (.int (g.length : Nat)) := fun {σ B'} e h => ED.is (ed_cb (eda_1 (ed_var (i := 13) (v := gv) h (dp_ex _ gv e hg9))) rc_lenT) (by rw [List.length_map])
      refine (et_d (K := K) (ed_op (hlg (Ex.refl _) rfl) ed_int (rd_I0b (g := fun i j => decide (j < i))))) H9 (Ex.refl _) _ fun H10 e10 => ⟨ExX.of e10, ?_⟩
      have b10 := b9.trans e10
      by_cases hg0 : g = []
      · subst hg0
        dsimp only
        rw [if_neg (by simp)]
        exact ⟨b10, _, _, _, rfl⟩
      dsimp only
      have hgp : 0 < g.length := List.length_pos_iff.mpr hg0
      rw [if_pos (by simp; omega)]
      have hm2 : (r % (g.length : Nat)).toNat < g.length := by
        have h1 := Int.emod_nonneg r (by omega : ((g.length : Nat) : Int) ≠ 0)
        have h2 := Int.emod_lt_of_pos r (by omega : (0 : Int) < (g.length : Nat))
        omega
      have hxg : g[(r % (g.length : Nat)).toNat] ∈ g := List.getElem_mem hm2
      have hat2 : atI (g.map (litD E)) (r % (g.length : Nat)) = some (litD E g[(r % (g.length : Nat)).toNat]) := by
        have h1 := Int.emod_nonneg r (by omega : ((g.length : Nat) : Int) ≠ 0)
        have e : r % (g.length : Nat) = (((r % (g.length : Nat)).toNat : Nat) : Int) := by omega
        have z : atI (g.map (litD E)) (((r % (g.length : Nat)).toNat : Nat) : Int) = some (litD E g[(r % (g.length : Nat)).toNat]) := atI_nat (by rw [List.getElem?_map, List.getElem?_eq_getElem hm2]; rfl)
        rwa [← e] at z
      generalize g[(r % (g.length : Nat)).toNat] = x at hxg hat2
      refine l_asg (K := K) (B := H9) (d := litD E x) (ed_op (ed_var (i := 13) (v := gv) rfl hg9) (ed_op (ed_cb (eda_1 (ed_var (i := 12) rfl (.int _))) rc_int1) (hlg (Ex.refl _) rfl) (rd_I (C := fun _ j => 0 < j) (g := fun i j => i % j) (by omega))) (rd_ixT hat2)) e10 fun xv B11 H11 f11 hxv => ?_
      have b11 := b10.trans f11.h
      have hg11 := dp_ex _ gv f11.b hg9
      refine ⟨_, rfl, (ed_cb (eda_1 (ed_lc (K := K) (B := B11) (litD E) g (fun m => !decide (m = x)) (litD E) (id_tup (ed_var (i := 13) (v := gv) rfl hg11)) (by omega) (fun y => rfl)
        (fun j m y B5 e5 hj hy => et_d (K := K) (ED.is (ed_op (ed_var (i := 16) (v := y) rfl hy) (ed_var (i := 14) (v := xv) rfl (dp_ex _ xv e5 hxv)) (rd_ne (shaped_lit Z.O m) (shaped_lit Z.O x))) (by rw [eqv_lit Z.O]))) (fun j m y B5 e5 hj hy _ => ed_var rfl hy))) rc_tuple) H11 f11.i _ fun uv B12 H12 f12 huv => ?_⟩
      have b12 := b11.trans f12.h
      refine ⟨ExX.of f12.h, E, tb, g.filter (fun m => !decide (m = x)), tv, uv, Z.O, rfl, Bt.ex b12, dp_ex _ uv f12.i huv, Z.C, Z.flat, by have := List.length_filter_le (fun m => !decide (m = x)) g; omega, p6 g hgF x hxg, fun H13 e13 => ⟨true, rfl, ?_⟩⟩
      dsimp only
      rw [if_neg (by simp)]
      exact ⟨noX_step b12 e13, _, _, _, rfl⟩
    · rintro σ' H7 ⟨b7, y, g1, g2, rfl⟩
      refine (ev_op (ev_int (K := K) (ED.is (ed_cb (eda_1 (ed_var (i := 7) (v := wv) rfl Bw)) rc_len) (by rw [List.length_map]))) ev_c (rv_eq rfl)) H7 b7 _ fun H8 e8 => ⟨ExX.of e8, _, rfl, ?_⟩
      by_cases hw : WS = []
      · subst hw
        rw [if_pos (by simp)]
        exact q _
      · rw [if_neg (fun z => hw (List.length_eq_zero_iff.mp (by have := V.int.inj (of_decide_eq_true z); omega)))]
        refine ⟨_, rfl, (ed_tup (K := K) (B := H8) eda_nil (by decide)) H8 (Ex.refl _) _ fun uv B9 H9 f9 huv => ⟨ExX.of f9.h, E, tb, [], tv, uv, Z.O, rfl, Bt.ex ((b7.trans e8).trans f9.h), dp_ex _ uv f9.i huv, Z.C, Z.flat, by decide, p7 hw, fun H' e' => q H'⟩⟩
end
end K5
end

section
set_option Elab.async false
set_option linter.all false
set_option maxRecDepth 100000
set_option maxHeartbeats 4000000
/-! W29: the facts by names, joined with the walks. Printed by gen_W29.py. -/
namespace K5
open PySem PySem.Spec PyProof.Rows L2 GenW Evl NS DL LL

theorem noneB_ok {v : Value} (h : noneB v = true) : v = .none := by cases v <;> first | rfl | cases h
theorem fileB_ok {K : PySem.W.Frag} {cd : Value} (h : fileB K cd = true) : ∃ (cda : Addr) (ccl : Value) (cdd : Option Addr) (vs : Array Value) (ccs : Array (Option Value)) (file : PySem.Str) (tf : Tok), cd = .ref cda ∧ K.lookup cda = some ⟨ccl, cdd, .fields vs, ccs⟩ ∧ vs[2]? = some (.str file tf) ∧ ((R.prog.main.file : PySem.Str) == file) = true := by
  unfold fileB at h
  split at h
  · rename_i c
    split at h
    · rename_i ccl cdd vs ccs q
      split at h
      · rename_i file tf q2
        exact ⟨c, ccl, cdd, vs, ccs, file, tf, rfl, q, q2, h⟩
      · cases h
    · cases h
  · cases h
theorem cellB_ok {K : PySem.W.Frag} {x : PySem.Str} {cc : Addr} (h : cellB K [(x, cc)] = true) : ∃ (cl : Value) (cld : Option Addr) (csl : Array (Option Value)), K.lookup cc = some ⟨cl, cld, .cell (some (.ref (He.ga K "Stands"))), csl⟩ := by
  unfold cellB at h
  dsimp only at h
  split at h
  · rename_i cl cld D csl q
    have e := of_decide_eq_true h
    exact ⟨cl, cld, csl, by rw [q, e]⟩
  · cases h
theorem stands_of {K : PySem.W.Frag} (c2 : iniW K = iniV) (hs : stB K = true) : StandsK R.prog K (He.ga K "Stands") (fIof K) := by
  unfold stB at hs
  simp only [Bool.and_eq_true, decide_eq_true_eq] at hs
  obtain ⟨h1, h2, h3, h4, h5, h6, h7, h8, h9, h10, h11, h12⟩ := hs
  refine ⟨h1, He.eqO_ok h2, h3, h4, h5, h6, He.eqO_ok h7, h8, h9, h10, He.eqO_ok h11, ?_, by decide +kernel⟩
  unfold iniB at h12
  unfold iniW at c2
  cases q : K.lookup (fIof K) with
  | none => rw [q] at h12; cases h12
  | some ob =>
    obtain ⟨oc, od, dt, osl⟩ := ob
    rw [q] at h12 c2
    cases dt with
    | func fd =>
      obtain ⟨n1, n2, n3, n4, n5, n6, n7, n8, n9, n10, n11, n12, n13, n14, n15⟩ := fd
      have e2 : (some (n1, n2, n3, n4, n5, n6, n7.map (·.1), n15) : IniT) = (some ("__init__", "Stands.__init__", defArgs initSt, .stmts (defBody initSt), defScope initSt, mainGlobals, ["__class__"], builtinsNs) : IniT) := c2
      simp only [Option.some.injEq, Prod.mk.injEq] at e2
      obtain ⟨k1, k2, k3, k4, k5, k6, k7, k8⟩ := e2
      subst k1 k2 k3 k4 k5 k6 k8
      have c3 : (noneB n8 && (PySem.W.codeIn K n13 "Stands.__init__" && (fileB K n13 && cellB K n7))) = true := h12
      simp only [Bool.and_eq_true] at c3
      obtain ⟨d1, d2, d3, d4⟩ := c3
      obtain rfl := noneB_ok d1
      obtain ⟨cda, ccl, cdd, vs, ccs, file, tf, rfl, f1, f2, f3⟩ := fileB_ok d3
      match n7, k7, d4, q with
      | [(x, cc)], k7, d4, q =>
        obtain rfl : x = "__class__" := by simpa using k7
        obtain ⟨cl, cld, csl, f4⟩ := cellB_ok d4
        exact ⟨oc, ccl, cl, od, cdd, cld, n12, osl, ccs, csl, n9, n10, n11, n14, cda, cc, "Stands.__init__", vs, file, tf, rfl, d2, f1, f2, f3, f4⟩
      | [], k7, _, _ => cases k7
      | _ :: _ :: _, k7, _, _ => simp at k7
    | _ => cases h12
theorem emp_of {K : PySem.W.Frag} (h : empB K = true) (H : Hp) : SqT K H (aEof K) [] := by
  unfold empB at h
  split at h
  · rename_i c od its n osl q
    simp only [Bool.and_eq_true, decide_eq_true_eq] at h
    obtain ⟨h1, h2, h3⟩ := h
    subst h1
    exact .inr ⟨_, its, n, q, rfl, rfl, h2, He.relAll_ok h3⟩
  · cases h
theorem obsX_ok {K : PySem.W.Frag} (c : obsX K = valX) : He.SaysD fa fn K ∧ iniW K = iniV ∧ stB K = true ∧ empB K = true := by
  have c1 : He.obsD fa fn K = He.valD fn := congrArg Prod.fst c
  have c2 : iniW K = iniV := congrArg (fun z => z.2.1) c
  have c3 : (stB K && empB K) = true := congrArg (fun z => z.2.2) c
  rw [Bool.and_eq_true] at c3
  exact ⟨c1, c2, c3.1, c3.2⟩

section
variable {K : PySem.W.Frag} {h : Heap} {mg : PySem.Str → Option Value}
theorem f_4 (c : He.SaysD fa fn K) : ∃ fd, FnP K "negated" 4 (He.ga K "negated") fd := c.def_ 0 (d := dF "negated" 4) rfl
theorem g_4 (X : K.In h) (G : h.Ns mainGlobals mg) (c : He.SaysD fa fn K) : mg "negated" = some (.ref (He.ga K "negated")) := He.glo_ok X G (c.fact 0 (f := .glo "negated") rfl)
theorem f_5 (c : He.SaysD fa fn K) : ∃ fd, FnP K "clause_of" 5 (He.ga K "clause_of") fd := c.def_ 1 (d := dF "clause_of" 5) rfl
theorem g_5 (X : K.In h) (G : h.Ns mainGlobals mg) (c : He.SaysD fa fn K) : mg "clause_of" = some (.ref (He.ga K "clause_of")) := He.glo_ok X G (c.fact 1 (f := .glo "clause_of") rfl)
theorem f_6 (c : He.SaysD fa fn K) : ∃ fd, FnP K "negations" 6 (He.ga K "negations") fd := c.def_ 2 (d := dF "negations" 6) rfl
theorem g_6 (X : K.In h) (G : h.Ns mainGlobals mg) (c : He.SaysD fa fn K) : mg "negations" = some (.ref (He.ga K "negations")) := He.glo_ok X G (c.fact 2 (f := .glo "negations") rfl)
theorem f_8 (c : He.SaysD fa fn K) : ∃ fd, FnP K "literal_bits" 8 (He.ga K "literal_bits") fd := c.def_ 3 (d := dF "literal_bits" 8) rfl
theorem g_8 (X : K.In h) (G : h.Ns mainGlobals mg) (c : He.SaysD fa fn K) : mg "literal_bits" = some (.ref (He.ga K "literal_bits")) := He.glo_ok X G (c.fact 3 (f := .glo "literal_bits") rfl)
theorem f_9 (c : He.SaysD fa fn K) : ∃ fd, FnP K "grown_sets" 9 (He.ga K "grown_sets") fd := c.def_ 4 (d := dF "grown_sets" 9) rfl
theorem g_9 (X : K.In h) (G : h.Ns mainGlobals mg) (c : He.SaysD fa fn K) : mg "grown_sets" = some (.ref (He.ga K "grown_sets")) := He.glo_ok X G (c.fact 4 (f := .glo "grown_sets") rfl)
theorem f_10 (c : He.SaysD fa fn K) : ∃ fd, FnP K "is_less" 10 (He.ga K "is_less") fd := c.def_ 5 (d := dF "is_less" 10) rfl
theorem g_10 (X : K.In h) (G : h.Ns mainGlobals mg) (c : He.SaysD fa fn K) : mg "is_less" = some (.ref (He.ga K "is_less")) := He.glo_ok X G (c.fact 5 (f := .glo "is_less") rfl)
theorem f_11 (c : He.SaysD fa fn K) : ∃ fd, FnP K "least_units" 11 (He.ga K "least_units") fd := c.def_ 6 (d := dF "least_units" 11) rfl
theorem g_11 (X : K.In h) (G : h.Ns mainGlobals mg) (c : He.SaysD fa fn K) : mg "least_units" = some (.ref (He.ga K "least_units")) := He.glo_ok X G (c.fact 6 (f := .glo "least_units") rfl)
theorem f_13 (c : He.SaysD fa fn K) : ∃ fd, FnP K "left_over" 13 (He.ga K "left_over") fd := c.def_ 7 (d := dF "left_over" 13) rfl
theorem g_13 (X : K.In h) (G : h.Ns mainGlobals mg) (c : He.SaysD fa fn K) : mg "left_over" = some (.ref (He.ga K "left_over")) := He.glo_ok X G (c.fact 7 (f := .glo "left_over") rfl)
theorem f_14 (c : He.SaysD fa fn K) : ∃ fd, FnP K "denied_label" 14 (He.ga K "denied_label") fd := c.def_ 8 (d := dF "denied_label" 14) rfl
theorem g_14 (X : K.In h) (G : h.Ns mainGlobals mg) (c : He.SaysD fa fn K) : mg "denied_label" = some (.ref (He.ga K "denied_label")) := He.glo_ok X G (c.fact 8 (f := .glo "denied_label") rfl)
theorem f_16 (c : He.SaysD fa fn K) : ∃ fd, FnP K "clause_atoms" 16 (He.ga K "clause_atoms") fd := c.def_ 9 (d := dF "clause_atoms" 16) rfl
theorem g_16 (X : K.In h) (G : h.Ns mainGlobals mg) (c : He.SaysD fa fn K) : mg "clause_atoms" = some (.ref (He.ga K "clause_atoms")) := He.glo_ok X G (c.fact 9 (f := .glo "clause_atoms") rfl)
theorem f_18 (c : He.SaysD fa fn K) : ∃ fd, FnP K "all_atoms" 18 (He.ga K "all_atoms") fd := c.def_ 10 (d := dF "all_atoms" 18) rfl
theorem g_18 (X : K.In h) (G : h.Ns mainGlobals mg) (c : He.SaysD fa fn K) : mg "all_atoms" = some (.ref (He.ga K "all_atoms")) := He.glo_ok X G (c.fact 10 (f := .glo "all_atoms") rfl)
theorem f_19 (c : He.SaysD fa fn K) : ∃ fd, FnP K "extensions" 19 (He.ga K "extensions") fd := c.def_ 11 (d := dF "extensions" 19) rfl
theorem g_19 (X : K.In h) (G : h.Ns mainGlobals mg) (c : He.SaysD fa fn K) : mg "extensions" = some (.ref (He.ga K "extensions")) := He.glo_ok X G (c.fact 11 (f := .glo "extensions") rfl)
theorem f_20 (c : He.SaysD fa fn K) : ∃ fd, FnP K "valuations" 20 (He.ga K "valuations") fd := c.def_ 12 (d := dF "valuations" 20) rfl
theorem g_20 (X : K.In h) (G : h.Ns mainGlobals mg) (c : He.SaysD fa fn K) : mg "valuations" = some (.ref (He.ga K "valuations")) := He.glo_ok X G (c.fact 12 (f := .glo "valuations") rfl)
theorem f_21 (c : He.SaysD fa fn K) : ∃ fd, FnP K "falsified" 21 (He.ga K "falsified") fd := c.def_ 13 (d := dF "falsified" 21) rfl
theorem g_21 (X : K.In h) (G : h.Ns mainGlobals mg) (c : He.SaysD fa fn K) : mg "falsified" = some (.ref (He.ga K "falsified")) := He.glo_ok X G (c.fact 13 (f := .glo "falsified") rfl)
theorem f_24 (c : He.SaysD fa fn K) : ∃ fd, FnP K "_law_state" 24 (He.ga K "_law_state") fd := c.def_ 14 (d := dF "_law_state" 24) rfl
theorem g_24 (X : K.In h) (G : h.Ns mainGlobals mg) (c : He.SaysD fa fn K) : mg "_law_state" = some (.ref (He.ga K "_law_state")) := He.glo_ok X G (c.fact 14 (f := .glo "_law_state") rfl)
theorem f_25 (c : He.SaysD fa fn K) : ∃ fd, FnP K "_law_draw" 25 (He.ga K "_law_draw") fd := c.def_ 15 (d := dF "_law_draw" 25) rfl
theorem g_25 (X : K.In h) (G : h.Ns mainGlobals mg) (c : He.SaysD fa fn K) : mg "_law_draw" = some (.ref (He.ga K "_law_draw")) := He.glo_ok X G (c.fact 15 (f := .glo "_law_draw") rfl)
theorem f_26 (c : He.SaysD fa fn K) : ∃ fd, FnP K "_law_alike" 26 (He.ga K "_law_alike") fd := c.def_ 16 (d := dF "_law_alike" 26) rfl
theorem g_26 (X : K.In h) (G : h.Ns mainGlobals mg) (c : He.SaysD fa fn K) : mg "_law_alike" = some (.ref (He.ga K "_law_alike")) := He.glo_ok X G (c.fact 16 (f := .glo "_law_alike") rfl)
theorem f_27 (c : He.SaysD fa fn K) : ∃ fd, FnP K "_law_atom_row" 27 (He.ga K "_law_atom_row") fd := c.def_ 17 (d := dF "_law_atom_row" 27) rfl
theorem g_27 (X : K.In h) (G : h.Ns mainGlobals mg) (c : He.SaysD fa fn K) : mg "_law_atom_row" = some (.ref (He.ga K "_law_atom_row")) := He.glo_ok X G (c.fact 17 (f := .glo "_law_atom_row") rfl)
theorem f_28 (c : He.SaysD fa fn K) : ∃ fd, FnP K "_law_dict" 28 (He.ga K "_law_dict") fd := c.def_ 18 (d := dF "_law_dict" 28) rfl
theorem g_28 (X : K.In h) (G : h.Ns mainGlobals mg) (c : He.SaysD fa fn K) : mg "_law_dict" = some (.ref (He.ga K "_law_dict")) := He.glo_ok X G (c.fact 18 (f := .glo "_law_dict") rfl)
theorem f_29 (c : He.SaysD fa fn K) : ∃ fd, FnP K "_law_atoms_of" 29 (He.ga K "_law_atoms_of") fd := c.def_ 19 (d := dF "_law_atoms_of" 29) rfl
theorem g_29 (X : K.In h) (G : h.Ns mainGlobals mg) (c : He.SaysD fa fn K) : mg "_law_atoms_of" = some (.ref (He.ga K "_law_atoms_of")) := He.glo_ok X G (c.fact 19 (f := .glo "_law_atoms_of") rfl)
theorem f_30 (c : He.SaysD fa fn K) : ∃ fd, FnP K "_law_vectors" 30 (He.ga K "_law_vectors") fd := c.def_ 20 (d := dF "_law_vectors" 30) rfl
theorem g_30 (X : K.In h) (G : h.Ns mainGlobals mg) (c : He.SaysD fa fn K) : mg "_law_vectors" = some (.ref (He.ga K "_law_vectors")) := He.glo_ok X G (c.fact 20 (f := .glo "_law_vectors") rfl)
theorem f_31 (c : He.SaysD fa fn K) : ∃ fd, FnP K "_law_meets" 31 (He.ga K "_law_meets") fd := c.def_ 21 (d := dF "_law_meets" 31) rfl
theorem g_31 (X : K.In h) (G : h.Ns mainGlobals mg) (c : He.SaysD fa fn K) : mg "_law_meets" = some (.ref (He.ga K "_law_meets")) := He.glo_ok X G (c.fact 21 (f := .glo "_law_meets") rfl)
theorem f_32 (c : He.SaysD fa fn K) : ∃ fd, FnP K "_law_meets_all" 32 (He.ga K "_law_meets_all") fd := c.def_ 22 (d := dF "_law_meets_all" 32) rfl
theorem g_32 (X : K.In h) (G : h.Ns mainGlobals mg) (c : He.SaysD fa fn K) : mg "_law_meets_all" = some (.ref (He.ga K "_law_meets_all")) := He.glo_ok X G (c.fact 22 (f := .glo "_law_meets_all") rfl)
theorem f_33 (c : He.SaysD fa fn K) : ∃ fd, FnP K "_law_valuations" 33 (He.ga K "_law_valuations") fd := c.def_ 23 (d := dF "_law_valuations" 33) rfl
theorem g_33 (X : K.In h) (G : h.Ns mainGlobals mg) (c : He.SaysD fa fn K) : mg "_law_valuations" = some (.ref (He.ga K "_law_valuations")) := He.glo_ok X G (c.fact 23 (f := .glo "_law_valuations") rfl)
theorem f_34 (c : He.SaysD fa fn K) : ∃ fd, FnP K "_law_resolved" 34 (He.ga K "_law_resolved") fd := c.def_ 24 (d := dF "_law_resolved" 34) rfl
theorem g_34 (X : K.In h) (G : h.Ns mainGlobals mg) (c : He.SaysD fa fn K) : mg "_law_resolved" = some (.ref (He.ga K "_law_resolved")) := He.glo_ok X G (c.fact 24 (f := .glo "_law_resolved") rfl)
theorem f_35 (c : He.SaysD fa fn K) : ∃ fd, FnP K "_law_read_rows" 35 (He.ga K "_law_read_rows") fd := c.def_ 25 (d := dF "_law_read_rows" 35) rfl
theorem g_35 (X : K.In h) (G : h.Ns mainGlobals mg) (c : He.SaysD fa fn K) : mg "_law_read_rows" = some (.ref (He.ga K "_law_read_rows")) := He.glo_ok X G (c.fact 25 (f := .glo "_law_read_rows") rfl)
theorem f_36 (c : He.SaysD fa fn K) : ∃ fd, FnP K "_law_plain_clause" 36 (He.ga K "_law_plain_clause") fd := c.def_ 26 (d := dF "_law_plain_clause" 36) rfl
theorem g_36 (X : K.In h) (G : h.Ns mainGlobals mg) (c : He.SaysD fa fn K) : mg "_law_plain_clause" = some (.ref (He.ga K "_law_plain_clause")) := He.glo_ok X G (c.fact 26 (f := .glo "_law_plain_clause") rfl)
theorem f_37 (c : He.SaysD fa fn K) : ∃ fd, FnP K "_law_sets" 37 (He.ga K "_law_sets") fd := c.def_ 27 (d := dF "_law_sets" 37) rfl
theorem g_37 (X : K.In h) (G : h.Ns mainGlobals mg) (c : He.SaysD fa fn K) : mg "_law_sets" = some (.ref (He.ga K "_law_sets")) := He.glo_ok X G (c.fact 27 (f := .glo "_law_sets") rfl)
theorem f_38 (c : He.SaysD fa fn K) : ∃ fd, FnP K "_law_least" 38 (He.ga K "_law_least") fd := c.def_ 28 (d := dF "_law_least" 38) rfl
theorem g_38 (X : K.In h) (G : h.Ns mainGlobals mg) (c : He.SaysD fa fn K) : mg "_law_least" = some (.ref (He.ga K "_law_least")) := He.glo_ok X G (c.fact 28 (f := .glo "_law_least") rfl)
theorem f_39 (c : He.SaysD fa fn K) : ∃ fd, FnP K "_law_stands" 39 (He.ga K "_law_stands") fd := c.def_ 29 (d := dF "_law_stands" 39) rfl
theorem g_39 (X : K.In h) (G : h.Ns mainGlobals mg) (c : He.SaysD fa fn K) : mg "_law_stands" = some (.ref (He.ga K "_law_stands")) := He.glo_ok X G (c.fact 29 (f := .glo "_law_stands") rfl)
theorem f_40 (c : He.SaysD fa fn K) : ∃ fd, FnP K "_law_ends_in" 40 (He.ga K "_law_ends_in") fd := c.def_ 30 (d := dF "_law_ends_in" 40) rfl
theorem g_40 (X : K.In h) (G : h.Ns mainGlobals mg) (c : He.SaysD fa fn K) : mg "_law_ends_in" = some (.ref (He.ga K "_law_ends_in")) := He.glo_ok X G (c.fact 30 (f := .glo "_law_ends_in") rfl)
theorem f_41 (c : He.SaysD fa fn K) : ∃ fd, FnP K "law" 41 (He.ga K "law") fd := c.def_ 31 (d := dF "law" 41) rfl
theorem g_41 (X : K.In h) (G : h.Ns mainGlobals mg) (c : He.SaysD fa fn K) : mg "law" = some (.ref (He.ga K "law")) := He.glo_ok X G (c.fact 31 (f := .glo "law") rfl)
theorem f_22 (c : He.SaysD fa fn K) : ∃ fd, FnR K (aEof K) (He.ga K "refutation_rows") fd := c.def_ 32 (d := dR) rfl
theorem g_22 (X : K.In h) (G : h.Ns mainGlobals mg) (c : He.SaysD fa fn K) : mg "refutation_rows" = some (.ref (He.ga K "refutation_rows")) := He.glo_ok X G (c.fact 32 (f := .glo "refutation_rows") rfl)
theorem g_2 (X : K.In h) (G : h.Ns mainGlobals mg) (c : He.SaysD fa fn K) : mg "Stands" = some (.ref (He.ga K "Stands")) := He.glo_ok X G (c.fact 33 (f := .glo "Stands") rfl)
theorem bn_of (X : K.In h) (G : h.Ns mainGlobals mg) (c : He.SaysD fa fn K) : Bn mg := ⟨He.free_ok X G (c.fact 34 (f := .free "tuple") rfl), He.free_ok X G (c.fact 35 (f := .free "sorted") rfl), He.free_ok X G (c.fact 36 (f := .free "set") rfl), He.free_ok X G (c.fact 37 (f := .free "sum") rfl), He.free_ok X G (c.fact 38 (f := .free "list") rfl), He.free_ok X G (c.fact 39 (f := .free "len") rfl), He.free_ok X G (c.fact 40 (f := .free "int") rfl), He.free_ok X G (c.fact 41 (f := .free "str") rfl), He.free_ok X G (c.fact 42 (f := .free "bool") rfl), He.free_ok X G (c.fact 43 (f := .free "isinstance") rfl), He.free_ok X G (c.fact 44 (f := .free "range") rfl), He.free_ok X G (c.fact 45 (f := .free "dict") rfl), He.free_ok X G (c.fact 46 (f := .free "min") rfl), He.free_ok X G (c.fact 47 (f := .free "any") rfl), He.free_ok X G (c.fact 48 (f := .free "super") rfl)⟩
end
theorem facts {w : World} {K : PySem.W.Frag} {h : Heap} {mg : PySem.Str → Option Value} {f : Addr} (X : K.In h) (G : h.Ns mainGlobals mg) (hfa : mg ("law" : PySem.Str) = some (.ref f)) (cx : obsX K = valX) :
    ∃ fd : FuncData, (∀ (s : Shared) (v : Value), BindsTo s fd ⟨[v], []⟩ [("_law_script", v)]) ∧ ∀ base : Heap, K.In base → base.Ns mainGlobals mg → FnL R.prog w K mg base 29 f fd ["_law_script"] (spLaw K) := by
  obtain ⟨c, ci, cs, ce⟩ := obsX_ok cx
  have TS := stands_of ci cs
  have hE := emp_of ce
  have M := bn_of X G c
  obtain ⟨fd4, F4⟩ := f_4 c
  have G4 := g_4 X G c
  obtain ⟨fd5, F5⟩ := f_5 c
  have G5 := g_5 X G c
  obtain ⟨fd6, F6⟩ := f_6 c
  have G6 := g_6 X G c
  obtain ⟨fd8, F8⟩ := f_8 c
  have G8 := g_8 X G c
  obtain ⟨fd9, F9⟩ := f_9 c
  have G9 := g_9 X G c
  obtain ⟨fd10, F10⟩ := f_10 c
  have G10 := g_10 X G c
  obtain ⟨fd11, F11⟩ := f_11 c
  have G11 := g_11 X G c
  obtain ⟨fd13, F13⟩ := f_13 c
  have G13 := g_13 X G c
  obtain ⟨fd14, F14⟩ := f_14 c
  have G14 := g_14 X G c
  obtain ⟨fd16, F16⟩ := f_16 c
  have G16 := g_16 X G c
  obtain ⟨fd18, F18⟩ := f_18 c
  have G18 := g_18 X G c
  obtain ⟨fd19, F19⟩ := f_19 c
  have G19 := g_19 X G c
  obtain ⟨fd20, F20⟩ := f_20 c
  have G20 := g_20 X G c
  obtain ⟨fd21, F21⟩ := f_21 c
  have G21 := g_21 X G c
  obtain ⟨fd24, F24⟩ := f_24 c
  have G24 := g_24 X G c
  obtain ⟨fd25, F25⟩ := f_25 c
  have G25 := g_25 X G c
  obtain ⟨fd26, F26⟩ := f_26 c
  have G26 := g_26 X G c
  obtain ⟨fd27, F27⟩ := f_27 c
  have G27 := g_27 X G c
  obtain ⟨fd28, F28⟩ := f_28 c
  have G28 := g_28 X G c
  obtain ⟨fd29, F29⟩ := f_29 c
  have G29 := g_29 X G c
  obtain ⟨fd30, F30⟩ := f_30 c
  have G30 := g_30 X G c
  obtain ⟨fd31, F31⟩ := f_31 c
  have G31 := g_31 X G c
  obtain ⟨fd32, F32⟩ := f_32 c
  have G32 := g_32 X G c
  obtain ⟨fd33, F33⟩ := f_33 c
  have G33 := g_33 X G c
  obtain ⟨fd34, F34⟩ := f_34 c
  have G34 := g_34 X G c
  obtain ⟨fd35, F35⟩ := f_35 c
  have G35 := g_35 X G c
  obtain ⟨fd36, F36⟩ := f_36 c
  have G36 := g_36 X G c
  obtain ⟨fd37, F37⟩ := f_37 c
  have G37 := g_37 X G c
  obtain ⟨fd38, F38⟩ := f_38 c
  have G38 := g_38 X G c
  obtain ⟨fd39, F39⟩ := f_39 c
  have G39 := g_39 X G c
  obtain ⟨fd40, F40⟩ := f_40 c
  have G40 := g_40 X G c
  obtain ⟨fd41, F41⟩ := f_41 c
  have G41 := g_41 X G c
  obtain ⟨fd22, F22⟩ := f_22 c
  have G22 := g_22 X G c
  have G2 := g_2 X G c
  cases hfa.symm.trans G41
  refine ⟨fd41, fun s v => FunD.bindsA (ps := ["_law_script"]) F41 (fun _ _ _ _ _ _ us hl => match us, hl with | [_], _ => rfl) s [v] rfl, fun base _ _ => ?_⟩
  have GR : FnL R.prog w K mg base 25 _ fd22 ["clauses", "goal"] (spRefut K (He.ga K "Stands")) := ok_refut M F22 TS G2 F6 G6 F19 G19 F18 G18 F16 G16 F21 G21 F5 G5 F14 G14 F13 G13 F4 G4
  exact ok_law ⟨M, F24, G24, ok_state M F24, F25, G25, ok_draw M F25, F27, G27, ok_row M F27 F25 G25, F36, G36, ok_plain M F36 F25 G25, F33, G33, ok_valuations M F33 F29 G29 F30 G30 F32 G32 F31 G31, F37, G37, ok_sets M F37, F29, G29, ok_atomsOf M F29,
      F11, G11, ok_leastUnits M F11 F8 G8 F9 G9 F10 G10 F4 G4, F26, G26, ok_alike M F26 G26 7, F38, G38, ok_least M F38 F32 G32 F31 G31, F28, G28, ok_dict F28⟩ F41
    F20 G20 (ok_vals M F20 F19 G19 F18 G18 F16 G16 F14 G14 F13 G13 F4 G4)
    F40 G40 (ok_ends M F40 F22 G22 GR hE F29 G29 F35 G35 F34 G34)
    F39 G39 (ok_stands M F39 F22 G22 GR TS G2)
end K5
end

set_option Elab.async false
set_option linter.all false
set_option maxRecDepth 100000
set_option maxHeartbeats 0
/-! W30: the law's end. -/
namespace K5
open PySem PySem.Spec PyProof.Rows L2 GenW Evl NS DL LL PySem.W
theorem walk_k {l : PySem.W.OpenLaw} {n k : Nat} {q : Program} {loose : List PySem.Str} {XP : (PySem.Str → Option Value) → Heap → Prop} {YP : World → Heap → Prop} {d : DefRec} {x : PySem.Str}
    (hn : l.most = some n) (hn2 : n ≤ sizeLine) (hdf : d.params.defaults = []) (hr : Room k callerA)
    (F : ∀ (w : World) (mg : PySem.Str → Option Value) (fa : Addr) (h : Heap), YP w h → h.Ns mainGlobals mg → mg d.name = some (.ref fa) →
      ∃ (K : PySem.W.Frag) (fd : FuncData) (sp : Sp), K.In h ∧ (∀ (s : Shared) (u : Value), BindsTo s fd ⟨[u], []⟩ [(x, u)]) ∧
        (∀ (H : Hp) (a : Addr) (ns : List Int), ns.length ≤ n → Only H → SqL K H a (ns.map V.int) → sp [.ref a] H (fun v _ => v = .bl true) fun _ _ _ => False) ∧
        ∀ base : Heap, K.In base → base.Ns mainGlobals mg → FnL l.prog w K mg base k fa fd [x] sp) :
    WalkL q loose XP YP l.row.toRowW d [] :=
  attach_callL hn hdf fun w s₀ s₁ mg mb fa o pm cd doc a vs ns G Y ho hd hcd hmg hobj hints hlen hg => by
    obtain ⟨K, fd, sp, KX, hb, hsp, hF⟩ := F w mg fa _ Y G.T.g hmg
    exact law_callL KX G.T.g G.T.b G.T.builtins G.T.nolimit hg hobj hints (Nat.le_trans hlen hn2) hr hF hb (fun H hO hS => hsp H a ns hlen hO hS)
end K5
open PySem PySem.W PySem.Calls PyProof.Rows
theorem PySem.Challenge.cw_onelooker_k55_whole_units_of_units_holds : PySem.Challenge.rw_onelooker_k55_whole_units_of_units.Holds := by
  w_on; o_law
  refine LL.head_anyL (r := OpenLaw.row PySem.Challenge.rw_onelooker_k55_whole_units_of_units) (q := view (OpenLaw.row PySem.Challenge.rw_onelooker_k55_whole_units_of_units).prog [41]) (H := K5.hookX) (ob := K5.obX) (M := 20000) (loose := K5.looseN) (d := HandSHeadRun.topDef (OpenLaw.row PySem.Challenge.rw_onelooker_k55_whole_units_of_units).prog 41) (kwd := []) K5.obX_eq
    (by kernel_rfl) (fun s => by kernel_rfl) K5.runX (by kernel_rfl) (by kernel_rfl) (by kernel_rfl) (by rfl) (by first | assumption | decide +kernel) (by decide +kernel) ⟨rfl, rfl, rfl, rfl, rfl, by decide +kernel⟩ ?hw ?hc
  case hw => w_witness2
  case hc =>
    refine K5.walk_k (l := PySem.Challenge.rw_onelooker_k55_whole_units_of_units) (n := 63) (k := 29) (x := "_law_script") rfl (by decide) (by kernel_rfl) ⟨rfl, by decide, by decide⟩ ?F
    intro w mg fa h Y G hmg0
    obtain ⟨K, KX, c⟩ := Y
    have hmg : mg ("law" : PySem.Str) = some (.ref fa) := by
      have e : (HandSHeadRun.topDef (OpenLaw.row PySem.Challenge.rw_onelooker_k55_whole_units_of_units).prog 41).name = ("law" : PySem.Str) := by kernel_rfl
      rw [← e]
      exact hmg0
    obtain ⟨fd, hb, hF⟩ := K5.facts (w := w) KX G hmg c
    exact ⟨K, fd, K5.spLaw K, KX, hb, fun H a ns hl hO hS => ⟨a, ns, rfl, hO, hS, fun _ => rfl⟩, hF⟩
