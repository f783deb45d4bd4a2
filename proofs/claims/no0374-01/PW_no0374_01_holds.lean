import PyProof.Rows.All
import Wide.All
import OpenK.AllK
import Wide.FinOn
import PySem.Challenge.RW_no0374_01
open PySem PySem.W PyProof.Rows
set_option Elab.async false
set_option maxRecDepth 100000
set_option linter.unusedVariables false
set_option linter.all false
namespace Mine
-- Core
section
abbrev Loc := List (Str × Value)
/-- what a run of the law stands on -/
structure Cx where
  prog : Program
  w : World
  K : Frag
  base : Heap
  os : OsState
  mg : Str → Option Value
  mb : Str → Option Value
structure TopOk (C : Cx) : Prop where
  g : C.base.Ns mainGlobals C.mg
  b : C.base.Ns builtinsNs C.mb
  nolimit : C.base.NoLimit
  k : C.K.In C.base
  builtins : ∀ x : Str, x ≠ "__name__" → C.mb x = bootBuiltins x
structure Room (A : Around) (outer : List Env) (k : Nat) : Prop where
  frames : A.frames = some outer
  depth : A.depth + k ≤ 900
  units : A.units + 10 * k ≤ 9000
  handled : A.handled = none
structure St (C : Cx) (outer : List Env) (s : Shared) : Prop where
  gens : s.gens = #[]
  os : s.os = C.os
  stays : C.base.StaysIn s.heap
  frames : s.heap.FunFrames C.base outer
/-- the frame at hand: its environment, the functions' frames (its own and those below), the class of its locals -/
structure Fc where
  env : Env
  frames : List Env
  lc : String
  hg : env.globals = mainGlobals
  hb : env.builtins = builtinsNs
abbrev Fc.L (c : Fc) : Addr := c.env.locals
abbrev fnEnv (qual : Str) (scope : Scope) (f : Addr) (cd : Value) (L : Addr) : Env := envOf qual scope L f cd
abbrev Fc.fn (qual : Str) (scope : Scope) (f : Addr) (cd : Value) (L : Addr) (below : List Env) : Fc := ⟨envOf qual scope L f cd, envOf qual scope L f cd :: below, "frame", rfl, rfl⟩
/-- the locals are these -/
structure Ns (c : Fc) (h : Heap) (m : Loc) : Prop where
  ns : ∃ m', h.Ns c.L m' ∧ ∀ x v, m.lookup x = some v → m' x = some v
  cls : ∃ o, h.get? c.L = some o ∧ o.cls = .type c.lc
/-- all that are no frames and no records stay, up to slots -/
def Le (h h' : Heap) : Prop := ∀ b o, h.get? b = some o → (∀ vs, o.data ≠ .fields vs) → o.cls ≠ .type "frame" → ∃ sl, h'.get? b = some { o with slots := sl }
/-- records of a built-in type that are no tracebacks (iterators) -/
def Rec (o : Obj) : Prop := (∃ vs, o.data = .fields vs) ∧ ∃ T, o.cls = .type T ∧ T ≠ "traceback"
/-- dicts other than L stay up to slots, such records as they are -/
structure PD (L : Addr) (h h' : Heap) : Prop where
  d : ∀ b o, b ≠ L → h.get? b = some o → (∃ es n, o.data = .dict es n) → ∃ sl, h'.get? b = some { o with slots := sl }
  r : ∀ b o, b ≠ L → h.get? b = some o → Rec o → h'.get? b = some o
/-- all objects stay as they are -/
def Keep (h h' : Heap) : Prop := ∀ b o, h.get? b = some o → h'.get? b = some o
theorem Le.refl (h : Heap) : Le h h := fun _ o e _ _ => ⟨o.slots, e⟩
theorem Le.trans {h₁ h₂ h₃ : Heap} (x : Le h₁ h₂) (y : Le h₂ h₃) : Le h₁ h₃ := fun b o e hn hc =>
  let ⟨_, e₁⟩ := x b o e hn hc; let ⟨sl, e₂⟩ := y b _ e₁ hn hc; ⟨sl, e₂⟩
theorem Keep.le {h h' : Heap} (x : Keep h h') : Le h h' := fun b o e _ _ => ⟨o.slots, x b o e⟩
theorem Keep.pd {h h' : Heap} (x : Keep h h') (L : Addr) : PD L h h' := ⟨fun b o _ e _ => ⟨o.slots, x b o e⟩, fun b o _ e _ => x b o e⟩
theorem Keep.refl (h : Heap) : Keep h h := fun _ _ e => e
theorem Keep.trans {h₁ h₂ h₃ : Heap} (x : Keep h₁ h₂) (y : Keep h₂ h₃) : Keep h₁ h₃ := fun b o e => y b o (x b o e)
theorem Keep.push (h : Heap) (o : Obj) : Keep h (h.push o) := fun _ _ e => Heap.get?_push_of_some _ e
theorem PD.refl (L : Addr) (h : Heap) : PD L h h := ⟨fun _ o _ e _ => ⟨o.slots, e⟩, fun _ _ _ e _ => e⟩
theorem PD.trans {L : Addr} {h₁ h₂ h₃ : Heap} (x : PD L h₁ h₂) (y : PD L h₂ h₃) : PD L h₁ h₃ :=
  ⟨fun b o hb e hd => let ⟨_, e₁⟩ := x.d b o hb e hd; let ⟨sl, e₂⟩ := y.d b _ hb e₁ hd; ⟨sl, e₂⟩, fun b o hb e hr => y.r b o hb (x.r b o hb e hr) hr⟩
theorem PD.ns {L a : Addr} {h h' : Heap} {m : Str → Option Value} (x : PD L h h') (hn : h.Ns a m) (ha : a ≠ L) : h'.Ns a m := by
  obtain ⟨o, es, ep, ho, hd, r⟩ := hn
  obtain ⟨sl, e⟩ := x.d a o ha ho ⟨_, _, hd⟩
  exact ⟨_, es, ep, e, hd, r⟩
theorem PD.sameBut {L : Addr} {h h' : Heap} (x : Heap.SameBut L h h') : PD L h h' := ⟨fun b o hb e _ => ⟨o.slots, (x.2 b hb).trans e⟩, fun b o hb e _ => (x.2 b hb).trans e⟩
theorem St.toks {C : Cx} {outer : List Env} {s : Shared} (x : St C outer s) (tk : Nat) : St C outer { s with toks := tk } := ⟨x.gens, x.os, x.stays, x.frames⟩
theorem St.keep {C : Cx} {outer : List Env} {s : Shared} (x : St C outer s) {h' : Heap} (k : Keep s.heap h') (tk : Nat) : St C outer { s with heap := h', toks := tk } :=
  ⟨x.gens, x.os, fun b o e => k b o (x.stays b o e), x.frames.of_keeps fun b o e _ => ⟨o, k b o e, rfl⟩⟩
theorem St.at {C : Cx} {outer : List Env} {s s' : Shared} (x : St C outer s) (k : Keep s.heap s'.heap) (hg : s'.gens = s.gens) (ho : s'.os = s.os) : St C outer s' :=
  ⟨hg.trans x.gens, ho.trans x.os, fun b o e => k b o (x.stays b o e), x.frames.of_keeps fun b o e _ => ⟨o, k b o e, rfl⟩⟩
theorem St.tail {C : Cx} {e : Env} {outer : List Env} {s : Shared} (x : St C (e :: outer) s) : St C outer s := ⟨x.gens, x.os, x.stays, x.frames.2.2⟩
variable {C : Cx} {c : Fc} {k : Nat} {m : Loc} {h : Heap} {X : Addr → Heap → Prop}
/-- the judgement of a tree run in a frame -/
def W (C : Cx) (c : Fc) (k : Nat) (m : Loc) {α : Type} (t : Sem α) (h : Heap) (Q : α → Heap → Prop) (X : Addr → Heap → Prop) : Prop :=
  ∀ A s, Room A c.frames k → St C c.frames s → s.heap = h → Ns c h m →
    wpAny (model C.prog C.w) A t (fun a s' => St C c.frames s' ∧ PD c.L h s'.heap ∧ Ns c s'.heap m ∧ Q a s'.heap)
      (fun e s' => St C c.frames s' ∧ PD c.L h s'.heap ∧ Ns c s'.heap m ∧ ∃ a, e = .ref a ∧ X a s'.heap) s
/-- the judgement of a statement -/
def S (C : Cx) (c : Fc) (k : Nat) (m : Loc) (t : Sem Flow) (h : Heap) (N : Loc → Heap → Prop) (R : Value → Heap → Prop) (X : Loc → Addr → Heap → Prop) : Prop :=
  ∀ A s, Room A c.frames k → St C c.frames s → s.heap = h → Ns c h m →
    wpAny (model C.prog C.w) A t (fun fl s' => St C c.frames s' ∧ PD c.L h s'.heap ∧ ∃ m', Ns c s'.heap m' ∧ (match fl with | .next => N m' s'.heap | .ret v => R v s'.heap | _ => False))
      (fun e s' => St C c.frames s' ∧ PD c.L h s'.heap ∧ ∃ m', Ns c s'.heap m' ∧ ∃ a, e = .ref a ∧ X m' a s'.heap) s
theorem W.mono {α : Type} {t : Sem α} {Q Q' : α → Heap → Prop} {X' : Addr → Heap → Prop} (x : W C c k m t h Q X) (hQ : ∀ a h', Q a h' → Q' a h') (hX : ∀ a h', X a h' → X' a h') : W C c k m t h Q' X' :=
  fun A s hA hs hh hn => wpAny_mono (x A s hA hs hh hn) (fun a s' q => ⟨q.1, q.2.1, q.2.2.1, hQ _ _ q.2.2.2⟩) (fun e s' q => let ⟨q1, q2, q3, a, ea, q4⟩ := q; ⟨q1, q2, q3, a, ea, hX _ _ q4⟩)
theorem W.pure {α : Type} {a : α} {Q : α → Heap → Prop} (x : Q a h) : W C c k m (pure a) h Q X :=
  fun A s hA hs hh hn => wpAny_pure ⟨hs, hh ▸ PD.refl _ _, hh ▸ hn, hh ▸ x⟩
theorem W.bind {α β : Type} {t : Sem α} {f : α → Sem β} {Q : β → Heap → Prop} (x : W C c k m t h (fun a h' => W C c k m (f a) h' Q X) X) : W C c k m (t >>= f) h Q X :=
  fun A s hA hs hh hn => wpAny_bind (wpAny_mono (x A s hA hs hh hn) (fun a s' q => wpAny_mono (q.2.2.2 A s' hA q.1 rfl q.2.2.1)
    (fun b s'' r => ⟨r.1, q.2.1.trans r.2.1, r.2.2⟩) (fun e s'' r => ⟨r.1, q.2.1.trans r.2.1, r.2.2⟩)) fun _ _ q => q)
theorem W.of_eq {α : Type} {t t' : Sem α} {Q : α → Heap → Prop} (e : t = t') (x : W C c k m t' h Q X) : W C c k m t h Q X := e ▸ x
theorem W.room {α : Type} {t : Sem α} {Q : α → Heap → Prop} {k' : Nat} (x : W C c k' m t h Q X) (hk : k' ≤ k) : W C c k m t h Q X :=
  fun A s hA hs hh hn => x A s ⟨hA.frames, by have := hA.depth; omega, by have := hA.units; omega, hA.handled⟩ hs hh hn
theorem Ns.keep {h' : Heap} (x : Ns c h m) (hk : Keep h h') : Ns c h' m := ⟨let ⟨m', e, q⟩ := x.ns; ⟨m', e.keeps hk, q⟩, let ⟨o, e, q⟩ := x.cls; ⟨o, hk _ _ e, q⟩⟩
/-- all that one knows is known -/
def Sub (m m' : Loc) : Prop := ∀ x v, m'.lookup x = some v → m.lookup x = some v
theorem Sub.refl (m : Loc) : Sub m m := fun _ _ e => e
theorem Sub.trans {m₁ m₂ m₃ : Loc} (x : Sub m₁ m₂) (y : Sub m₂ m₃) : Sub m₁ m₃ := fun a b e => x a b (y a b e)
theorem Sub.nil : Sub m [] := fun _ _ e => by cases e
theorem Sub.cons {x : Str} {v : Value} {r : Loc} (e : m.lookup x = some v) (s : Sub m r) : Sub m ((x, v) :: r) := fun y w q => by
  rw [List.lookup_cons] at q
  cases hy : y == x with
  | true => rw [hy] at q; cases q; rw [eq_of_beq hy]; exact e
  | false => rw [hy] at q; exact s y w q
theorem lk0 {x : Str} {v : Value} {r : Loc} : ((x, v) :: r).lookup x = some v := by rw [List.lookup_cons, beq_self_eq_true]
theorem lkS {x y : Str} {v w : Value} {r : Loc} (hne : (x == y) = false) (e : r.lookup x = some v) : ((y, w) :: r).lookup x = some v := by rw [List.lookup_cons, hne]; exact e
theorem Ns.sub {m' : Loc} (x : Ns c h m) (s : Sub m m') : Ns c h m' := ⟨let ⟨f, e, q⟩ := x.ns; ⟨f, e, fun y v z => q y v (s y v z)⟩, x.cls⟩
/-- a rule that leaves the heap as it is -/
theorem W.same {α : Type} {t : Sem α} {v : Tok → α} {Q : α → Heap → Prop} (hq : ∀ tk, Q (v tk) h)
    (hr : ∀ A s (E : Value → Shared → Prop) (Q' : α → Shared → Prop), Room A c.frames k → s.heap = h → (∀ tk tk', Q' (v tk) { s with toks := tk' }) → wpAny (model C.prog C.w) A t Q' E s) : W C c k m t h Q X :=
  fun A s hA hs hh hn => hr A s _ _ hA hh fun tk tk' => ⟨hs.toks tk', hh ▸ PD.refl _ _, hh ▸ hn, hh ▸ hq tk⟩
/-- a rule that makes new objects alone -/
theorem W.grow {α : Type} {t : Sem α} {P : α → Heap → Prop} {Q : α → Heap → Prop} (hq : ∀ v h', Keep h h' → P v h' → Q v h')
    (hr : ∀ A s (E : Value → Shared → Prop) (Q' : α → Shared → Prop), Room A c.frames k → s.heap = h → (∀ v h' tk', Keep s.heap h' → P v h' → Q' v { s with heap := h', toks := tk' }) → wpAny (model C.prog C.w) A t Q' E s) : W C c k m t h Q X :=
  fun A s hA hs hh hn => hr A s _ _ hA hh fun v h' tk' hk hp => ⟨hs.keep hk tk', hh ▸ hk.pd _, hn.keep (hh ▸ hk), hq v h' (hh ▸ hk) hp⟩
section
variable {α β γ δ : Type}
abbrev wpA (C : Cx) {α : Type} (A : Around) (t : Sem α) (Q : α → Shared → Prop) (E : Value → Shared → Prop) (s : Shared) : Prop := wpAny (model C.prog C.w) A t Q E s
theorem W.seq {t : Sem β} {t₁ : Sem α} {f : α → Sem β} {Q : β → Heap → Prop}
    (x : W C c k m t₁ h (fun a h₁ => W C c k m (f a) h₁ Q X) X)
    (r : ∀ A E s (Q' : β → Shared → Prop), wpA C A t₁ (fun a s₁ => wpA C A (f a) Q' E s₁) E s → wpA C A t Q' E s) : W C c k m t h Q X :=
  fun A s hA hs hh hn => r A _ s _ (wpAny_mono (x A s hA hs hh hn) (fun a s' q => wpAny_mono (q.2.2.2 A s' hA q.1 rfl q.2.2.1)
    (fun b s'' r => ⟨r.1, q.2.1.trans r.2.1, r.2.2⟩) (fun e s'' r => ⟨r.1, q.2.1.trans r.2.1, r.2.2⟩)) fun _ _ q => q)
theorem W.seq2 {t : Sem γ} {t₁ : Sem α} {t₂ : α → Sem β} {f : α → β → Sem γ} {Q : γ → Heap → Prop}
    (x : W C c k m t₁ h (fun a h₁ => W C c k m (t₂ a) h₁ (fun b h₂ => W C c k m (f a b) h₂ Q X) X) X)
    (r : ∀ A E s (Q' : γ → Shared → Prop), wpA C A t₁ (fun a s₁ => wpA C A (t₂ a) (fun b s₂ => wpA C A (f a b) Q' E s₂) E s₁) E s → wpA C A t Q' E s) : W C c k m t h Q X :=
  fun A s hA hs hh hn => r A _ s _ (wpAny_mono (x A s hA hs hh hn) (fun a s' q => wpAny_mono (q.2.2.2 A s' hA q.1 rfl q.2.2.1)
    (fun b s'' q2 => wpAny_mono (q2.2.2.2 A s'' hA q2.1 rfl q2.2.2.1)
      (fun b s'' r => ⟨r.1, (q.2.1.trans q2.2.1).trans r.2.1, r.2.2⟩) (fun e s'' r => ⟨r.1, (q.2.1.trans q2.2.1).trans r.2.1, r.2.2⟩)) (fun e s'' r => ⟨r.1, q.2.1.trans r.2.1, r.2.2⟩)) fun _ _ q => q)
theorem W.seq3 {t : Sem δ} {t₁ : Sem α} {t₂ : α → Sem β} {t₃ : α → β → Sem γ} {f : α → β → γ → Sem δ} {Q : δ → Heap → Prop}
    (x : W C c k m t₁ h (fun a h₁ => W C c k m (t₂ a) h₁ (fun b h₂ => W C c k m (t₃ a b) h₂ (fun d h₃ => W C c k m (f a b d) h₃ Q X) X) X) X)
    (r : ∀ A E s (Q' : δ → Shared → Prop), wpA C A t₁ (fun a s₁ => wpA C A (t₂ a) (fun b s₂ => wpA C A (t₃ a b) (fun d s₃ => wpA C A (f a b d) Q' E s₃) E s₂) E s₁) E s → wpA C A t Q' E s) : W C c k m t h Q X :=
  fun A s hA hs hh hn => r A _ s _ (wpAny_mono (x A s hA hs hh hn) (fun a s' q => wpAny_mono (q.2.2.2 A s' hA q.1 rfl q.2.2.1)
    (fun b s'' q2 => wpAny_mono (q2.2.2.2 A s'' hA q2.1 rfl q2.2.2.1)
      (fun b s'' q3 => wpAny_mono (q3.2.2.2 A s'' hA q3.1 rfl q3.2.2.1)
        (fun b s'' r => ⟨r.1, ((q.2.1.trans q2.2.1).trans q3.2.1).trans r.2.1, r.2.2⟩) (fun e s'' r => ⟨r.1, ((q.2.1.trans q2.2.1).trans q3.2.1).trans r.2.1, r.2.2⟩))
      (fun e s'' r => ⟨r.1, (q.2.1.trans q2.2.1).trans r.2.1, r.2.2⟩)) (fun e s'' r => ⟨r.1, q.2.1.trans r.2.1, r.2.2⟩)) fun _ _ q => q)
/-- a test, then one of two -/
theorem W.branch {t : Sem β} {t₁ : Sem Bool} {f g : Sem β} {Q : β → Heap → Prop}
    (x : W C c k m t₁ h (fun b h₁ => (b = true → W C c k m f h₁ Q X) ∧ (b = false → W C c k m g h₁ Q X)) X)
    (r : ∀ A E s (Q' : β → Shared → Prop), wpA C A t₁ (fun b s₁ => if b then wpA C A f Q' E s₁ else wpA C A g Q' E s₁) E s → wpA C A t Q' E s) : W C c k m t h Q X :=
  fun A s hA hs hh hn => r A _ s _ (wpAny_mono (x A s hA hs hh hn) (fun b s' q => by
    cases b with
    | true =>
      rw [if_pos rfl]
      exact wpAny_mono (q.2.2.2.1 rfl A s' hA q.1 rfl q.2.2.1) (fun b s'' r => ⟨r.1, q.2.1.trans r.2.1, r.2.2⟩) (fun e s'' r => ⟨r.1, q.2.1.trans r.2.1, r.2.2⟩)
    | false =>
      rw [if_neg (by decide)]
      exact wpAny_mono (q.2.2.2.2 rfl A s' hA q.1 rfl q.2.2.1) (fun b s'' r => ⟨r.1, q.2.1.trans r.2.1, r.2.2⟩) (fun e s'' r => ⟨r.1, q.2.1.trans r.2.1, r.2.2⟩)) fun _ _ q => q)
/-- a test, then a tree or an answer -/
theorem W.branchV {t : Sem β} {t₁ : Sem Bool} {f : Sem β} {v : β} {Q : β → Heap → Prop} (w : Bool)
    (x : W C c k m t₁ h (fun b h₁ => (b = w → W C c k m f h₁ Q X) ∧ (b = !w → Q v h₁)) X)
    (r : ∀ A E s (Q' : β → Shared → Prop), wpA C A t₁ (fun b s₁ => if b = w then wpA C A f Q' E s₁ else Q' v s₁) E s → wpA C A t Q' E s) : W C c k m t h Q X :=
  fun A s hA hs hh hn => r A _ s _ (wpAny_mono (x A s hA hs hh hn) (fun b s' q => by
    by_cases hb : b = w
    · rw [if_pos hb]
      exact wpAny_mono (q.2.2.2.1 hb A s' hA q.1 rfl q.2.2.1) (fun b s'' r => ⟨r.1, q.2.1.trans r.2.1, r.2.2⟩) (fun e s'' r => ⟨r.1, q.2.1.trans r.2.1, r.2.2⟩)
    · rw [if_neg hb]
      exact ⟨q.1, q.2.1, q.2.2.1, q.2.2.2.2 (by clear q; cases b <;> cases w <;> first | rfl | exact absurd rfl hb)⟩) fun _ _ q => q)
/-- one tree, a test, then a tree or an answer -/
theorem W.seq2B {t : Sem γ} {t₁ : Sem α} {t₂ : α → Sem Bool} {f : α → Sem γ} {v : α → γ} {Q : γ → Heap → Prop} (w : Bool)
    (x : W C c k m t₁ h (fun a h₁ => W C c k m (t₂ a) h₁ (fun b h₂ => (b = w → W C c k m (f a) h₂ Q X) ∧ (b = !w → Q (v a) h₂)) X) X)
    (r : ∀ A E s (Q' : γ → Shared → Prop), wpA C A t₁ (fun a s₁ => wpA C A (t₂ a) (fun b s₂ => if b = w then wpA C A (f a) Q' E s₂ else Q' (v a) s₂) E s₁) E s → wpA C A t Q' E s) : W C c k m t h Q X :=
  fun A s hA hs hh hn => r A _ s _ (wpAny_mono (x A s hA hs hh hn) (fun a s' q => wpAny_mono (q.2.2.2 A s' hA q.1 rfl q.2.2.1)
    (fun b s'' q2 => by
      by_cases hb : b = w
      · rw [if_pos hb]
        exact wpAny_mono (q2.2.2.2.1 hb A s'' hA q2.1 rfl q2.2.2.1) (fun b s'' r => ⟨r.1, (q.2.1.trans q2.2.1).trans r.2.1, r.2.2⟩) (fun e s'' r => ⟨r.1, (q.2.1.trans q2.2.1).trans r.2.1, r.2.2⟩)
      · rw [if_neg hb]
        exact ⟨q2.1, q.2.1.trans q2.2.1, q2.2.2.1, q2.2.2.2.2 (by clear q q2; cases b <;> cases w <;> first | rfl | exact absurd rfl hb)⟩) (fun e s'' r => ⟨r.1, q.2.1.trans r.2.1, r.2.2⟩)) fun _ _ q => q)
/-- two trees, a test, then a tree or an answer -/
theorem W.seq3B {t : Sem γ} {t₁ : Sem α} {t₂ : α → Sem β} {t₃ : α → β → Sem Bool} {f : α → β → Sem γ} {v : α → β → γ} {Q : γ → Heap → Prop} (w : Bool)
    (x : W C c k m t₁ h (fun a h₁ => W C c k m (t₂ a) h₁ (fun d h₁ => W C c k m (t₃ a d) h₁ (fun b h₂ => (b = w → W C c k m (f a d) h₂ Q X) ∧ (b = !w → Q (v a d) h₂)) X) X) X)
    (r : ∀ A E s (Q' : γ → Shared → Prop), wpA C A t₁ (fun a s₁ => wpA C A (t₂ a) (fun d s₁ => wpA C A (t₃ a d) (fun b s₂ => if b = w then wpA C A (f a d) Q' E s₂ else Q' (v a d) s₂) E s₁) E s₁) E s → wpA C A t Q' E s) : W C c k m t h Q X :=
  fun A s hA hs hh hn => r A _ s _ (wpAny_mono (x A s hA hs hh hn) (fun a s' q => wpAny_mono (q.2.2.2 A s' hA q.1 rfl q.2.2.1) (fun d s' q1 => wpAny_mono (q1.2.2.2 A s' hA q1.1 rfl q1.2.2.1)
    (fun b s'' q2 => by
      by_cases hb : b = w
      · rw [if_pos hb]
        exact wpAny_mono (q2.2.2.2.1 hb A s'' hA q2.1 rfl q2.2.2.1) (fun b s'' r => ⟨r.1, ((q.2.1.trans q1.2.1).trans q2.2.1).trans r.2.1, r.2.2⟩) (fun e s'' r => ⟨r.1, ((q.2.1.trans q1.2.1).trans q2.2.1).trans r.2.1, r.2.2⟩)
      · rw [if_neg hb]
        exact ⟨q2.1, (q.2.1.trans q1.2.1).trans q2.2.1, q2.2.2.1, q2.2.2.2.2 (by clear q q1 q2; cases b <;> cases w <;> first | rfl | exact absurd rfl hb)⟩) (fun e s'' r => ⟨r.1, (q.2.1.trans q1.2.1).trans r.2.1, r.2.2⟩)) (fun e s'' r => ⟨r.1, q.2.1.trans r.2.1, r.2.2⟩)) fun _ _ q => q)
end
end
-- Ev
section
variable {C : Cx} {c : Fc} {k : Nat} {m : Loc} {h : Heap} {X : Addr → Heap → Prop}
theorem St.nsg {outer : List Env} {s : Shared} (T : TopOk C) (x : St C outer s) : s.heap.Ns mainGlobals C.mg := T.g.keeps x.stays
theorem St.nsb {outer : List Env} {s : Shared} (T : TopOk C) (x : St C outer s) : s.heap.Ns builtinsNs C.mb := T.b.keeps x.stays
theorem St.kin {outer : List Env} {s : Shared} (T : TopOk C) (x : St C outer s) : C.K.In s.heap := T.k.keeps x.stays
theorem St.nolimit {outer : List Env} {s : Shared} (T : TopOk C) (x : St C outer s) : s.heap.NoLimit := T.nolimit.keeps x.stays
section
variable {Q : Value → Heap → Prop} {x : Str} {pos : Pos} {v : Value}
-- names and constants
theorem w_name (hv : m.lookup x = some v) (q : Q v h) (hk : c.env.scope.kind = .function) (hl : c.env.kindOf x = some .local) (hd : (x == ("__debug__" : Str)) = false) :
    W C c k m (eval (.Name x pos) c.env) h Q X :=
  fun A s hA hs hh hn => by
    subst hh
    obtain ⟨m', e, q'⟩ := id hn.ns
    exact wpAny_Name (wpAny_loadName_local hk hl e (q' _ _ hv) ⟨hs, PD.refl _ _, hn, q⟩) hd
theorem w_global (T : TopOk C) (hg : C.mg x = some v) (q : Q v h) (hk : c.env.scope.kind = .function) (hx : c.env.kindOf x = some .globalImplicit) (hd : (x == ("__debug__" : Str)) = false) :
    W C c k m (eval (.Name x pos) c.env) h Q X :=
  fun A s hA hs hh hn => by
    subst hh
    exact Calls.Name_function_global hk hx (Calls.loadGlobal_global (env := c.env) (by rw [c.hg]; exact hs.nsg T) hg ⟨hs, PD.refl _ _, hn, q⟩) hd
theorem w_builtin (T : TopOk C) (hg : C.mg x = none) (hb : bootBuiltins x = some v) (q : Q v h) (hk : c.env.scope.kind = .function) (hx : c.env.kindOf x = some .globalImplicit) (hd : (x == ("__debug__" : Str)) = false) (hn : x ≠ "__name__") :
    W C c k m (eval (.Name x pos) c.env) h Q X :=
  fun A s hA hs hh hns => by
    subst hh
    exact Calls.Name_function_global hk hx (Calls.loadGlobal_builtin (env := c.env) (by rw [c.hg]; exact hs.nsg T) hg (by rw [c.hb]; exact hs.nsb T) ((T.builtins x hn).trans hb) ⟨hs, PD.refl _ _, hns, q⟩) hd
theorem w_int {i : Int} {kd : Nat} {env : Env} (q : ∀ t, Q (.int i t) h) : W C c k m (eval (.Constant (.int i) kd pos) env) h Q X :=
  W.same q fun A s E Q' hA hh r => wpAny_Constant_int (r _ _)
theorem w_str {i : Str} {kd : Nat} {env : Env} (q : ∀ t, Q (.str i t) h) : W C c k m (eval (.Constant (.str i) kd pos) env) h Q X :=
  W.same q fun A s E Q' hA hh r => wpAny_Constant_str (r _ _)
theorem w_bytes {i : List UInt8} {kd : Nat} {env : Env} (q : ∀ t, Q (.bytes i.toArray t) h) : W C c k m (eval (.Constant (.bytes i) kd pos) env) h Q X :=
  W.same q fun A s E Q' hA hh r => Constant_bytes (r _ _)
theorem w_bool {b : Bool} {kd : Nat} {env : Env} (q : Q (.bool b) h) : W C c k m (eval (.Constant (.bool b) kd pos) env) h Q X :=
  W.same (v := fun _ => .bool b) (fun _ => q) fun A s E Q' hA hh r => wpAny_Constant_bool (r 0 _)
theorem w_none {kd : Nat} {env : Env} (q : Q .none h) : W C c k m (eval (.Constant .none kd pos) env) h Q X :=
  W.same (v := fun _ => .none) (fun _ => q) fun A s E Q' hA hh r => wpAny_Constant_none (r 0 _)
-- the shapes
theorem w_binop {l r : Expr} {op : Operator} {env : Env} (x : W C c k m (eval l env) h (fun a h₁ => W C c k m (eval r env) h₁ (fun b h₂ => W C c k m (binaryOp op a b) h₂ Q X) X) X) :
    W C c k m (eval (.BinOp l op r pos) env) h Q X := W.seq2 x fun _ _ _ _ r => wpAny_BinOp r
theorem w_unop {l : Expr} {op : UnaryOp} {env : Env} (x : W C c k m (eval l env) h (fun a h₁ => W C c k m (unaryOp op a) h₁ Q X) X) :
    W C c k m (eval (.UnaryOp op l pos) env) h Q X := W.seq x fun _ _ _ _ r => wpAny_UnaryOp r
theorem w_cmp {l r : Expr} {op : CmpOp} {env : Env} (x : W C c k m (eval l env) h (fun a h₁ => W C c k m (eval r env) h₁ (fun b h₂ => W C c k m (compareOp op a b) h₂ Q X) X) X) (hm : behindInMarks op r = false) :
    W C c k m (eval (.Compare l [op] [r] pos) env) h Q X := W.seq2 x fun _ _ _ _ r => wpAny_Compare1 r hm
theorem w_ifexp {t b o : Expr} {env : Env} (x : W C c k m (isTrue t env (eval t env)) h (fun z h₁ => (z = true → W C c k m (eval b env) h₁ Q X) ∧ (z = false → W C c k m (eval o env) h₁ Q X)) X) :
    W C c k m (eval (.IfExp t b o pos) env) h Q X := W.branch x fun _ _ _ _ r => wpAny_IfExp r
theorem w_tuple {es : List Expr} {kd : Nat} {env : Env} (x : W C c k m (spliced (backTo pos (starEach es env))) h (fun vs h₁ => W C c k m (newTuple vs) h₁ Q X) X) :
    W C c k m (eval (.Tuple es kd pos) env) h Q X := W.seq x fun _ _ _ _ r => Tuple_ r
theorem w_list {es : List Expr} {env : Env} (x : W C c k m (spliced (backTo pos (starEach es env))) h (fun vs h₁ => W C c k m (newList vs) h₁ Q X) X) :
    W C c k m (eval (.List es pos) env) h Q X := W.seq x fun _ _ _ _ r => List_ r
theorem w_args_nil {env : Env} {Q : List Value → Heap → Prop} (q : Q [] h) : W C c k m (spliced (backTo pos (starEach [] env))) h Q X :=
  W.same (v := fun _ => []) (fun _ => q) fun A s E Q' hA hh r => PyProof.Rows.args_nil (r 0 _)
theorem w_args_cons {e : Expr} {rest : List Expr} {env : Env} {Q : List Value → Heap → Prop}
    (x : W C c k m (eval e env) h (fun v h₁ => W C c k m (spliced (backTo pos (starEach rest env))) h₁ (fun vs h₂ => Q (v :: vs) h₂) X) X)
    (he : starEach (e :: rest) env = (false, eval e env) :: starEach rest env) : W C c k m (spliced (backTo pos (starEach (e :: rest) env))) h Q X :=
  fun A s hA hs hh hn => PyProof.Rows.args_cons (wpAny_mono (x A s hA hs hh hn) (fun v s₁ q => wpAny_mono (q.2.2.2 A s₁ hA q.1 rfl q.2.2.1)
    (fun vs s₂ r => ⟨r.1, q.2.1.trans r.2.1, r.2.2⟩) (fun e s'' r => ⟨r.1, q.2.1.trans r.2.1, r.2.2⟩)) fun _ _ q => q) he
theorem w_newTuple {vs : List Value} (hz : vs.length ≤ sizeLine) (q : ∀ a h', Keep h h' → h.get? a = .none → h'.IsTuple a vs.toArray → Q (.ref a) h') : W C c k m (newTuple vs) h Q X :=
  W.grow (P := fun v h' => ∃ a, v = .ref a ∧ h.get? a = .none ∧ h'.IsTuple a vs.toArray) (fun v h' kp ⟨a, e, p1, p2⟩ => e ▸ q a h' kp p1 p2) fun A s E Q' hA hh r => by
    subst hh
    exact wpAny_newObj_type (r _ _ _ (Keep.push _ _) ⟨_, rfl, Heap.get?_none_of_le (Nat.le_refl _), _, Heap.get?_push_size _ rfl, rfl, _, rfl⟩) (by show vs.toArray.size ≤ sizeLine; rw [List.size_toArray]; exact hz)
theorem w_newList {vs : List Value} (hz : vs.length ≤ sizeLine) (q : ∀ a h', Keep h h' → h.get? a = .none → h'.IsList a vs.toArray → Q (.ref a) h') : W C c k m (newList vs) h Q X :=
  W.grow (P := fun v h' => ∃ a, v = .ref a ∧ h.get? a = .none ∧ h'.IsList a vs.toArray) (fun v h' kp ⟨a, e, p1, p2⟩ => e ▸ q a h' kp p1 p2) fun A s E Q' hA hh r => by
    subst hh
    exact wpAny_newObj_type (r _ _ _ (Keep.push _ _) ⟨_, rfl, Heap.get?_none_of_le (Nat.le_refl _), _, Heap.get?_push_size _ rfl, rfl, _, rfl⟩) (by show vs.toArray.size ≤ sizeLine; rw [List.size_toArray]; exact hz)
-- subscripts
theorem w_sub {a b : Expr} {env : Env} (x : W C c k m (eval a env) h (fun o h₁ => W C c k m (eval b env) h₁ (fun i h₂ => W C c k m (subscriptTail a b o i) h₂ Q X) X) X) :
    W C c k m (eval (.Subscript a b pos) env) h Q X := W.seq2 x fun _ _ _ _ r => Subscript_ r
theorem subscripted_eq (slice : Expr) (o i : Value) : ∃ ops, subscripted slice false o i = operate ops (getItem o i) := by
  unfold subscripted; split <;> first | exact ⟨_, rfl⟩ | contradiction
theorem w_tail {a b : Expr} {o i : Value} {T id : String} (hT : ∀ s : Shared, s.heap = h → s.TypeIs o T) (hl : typeLookup (.type T) "__getitem__" = Pure.pure (some (.builtin id))) (x : W C c k m (getItem o i) h Q X) :
    W C c k m (subscriptTail a b o i) h Q X := fun A s hA hs hh hn =>
  let ⟨_, e⟩ := subscripted_eq b o i
  tail_any (hT s hh) hl (x A s hA hs hh hn) e
theorem w_slice {l u : Option Expr} {env : Env} (x : W C c k m (evalPart l env) h (fun lv h₁ => W C c k m (evalPart u env) h₁ (fun uv h₂ => ∀ a h', Keep h₂ h' → h'.IsSliceOf a lv uv .none → Q (.ref a) h') X) X) :
    W C c k m (eval (.Slice l u .none pos) env) h Q X := fun A s hA hs hh hn =>
  wpAny_Slice (wpAny_mono (x A s hA hs hh hn) (fun lv s₁ q => wpAny_mono (q.2.2.2 A s₁ hA q.1 rfl q.2.2.1)
    (fun uv s₂ r => wpAny_evalPart_none ⟨r.1.at (s' := { s₂ with heap := s₂.heap.push _ }) (Keep.push _ _) rfl rfl, q.2.1.trans (r.2.1.trans ((Keep.push _ _).pd _)), r.2.2.1.keep (Keep.push _ _), r.2.2.2 _ _ (Keep.push _ _) (Heap.IsSliceOf.new _ _ _ _)⟩)
    (fun e s'' r => ⟨r.1, q.2.1.trans r.2.1, r.2.2⟩)) fun _ _ q => q)
theorem w_part_some {e : Expr} {env : Env} (x : W C c k m (eval e env) h Q X) : W C c k m (evalPart (some e) env) h Q X := x
theorem w_part_none {env : Env} (q : Q .none h) : W C c k m (evalPart .none env) h Q X := W.pure q
-- tests
section
variable {Q : Bool → Heap → Prop}
theorem w_truthy_bool {b : Bool} (q : Q b h) : W C c k m (truthy (.bool b)) h Q X :=
  W.same (v := fun _ => b) (fun _ => q) fun A s E Q' hA hh r => wpAny_truthy_bool (r 0 _)
theorem w_tcmp {l r : Expr} {op : CmpOp} {env : Env} {whole : Sem Value} (x : W C c k m (eval l env) h (fun a h₁ => W C c k m (eval r env) h₁ (fun b h₂ => W C c k m (compareOp op a b) h₂ (fun z h₃ => W C c k m (truthy z) h₃ Q X) X) X) X) (hm : behindInMarks op r = false) :
    W C c k m (isTrue (.Compare l [op] [r] pos) env whole) h Q X := W.seq3 x fun _ _ _ _ r => wpAny_isTrue_Compare1 r hm
theorem w_tval {e : Expr} {env : Env} {whole : Sem Value} (x : W C c k m whole h (fun a h₁ => W C c k m (truthy a) h₁ Q X) X) (he : isTrue e env whole = (do let v ← whole; standAt e.pos; holding [v] (truthy v))) :
    W C c k m (isTrue e env whole) h Q X := W.seq x fun _ _ _ _ r => wpAny_isTrue_value r he
theorem w_tnot {l : Expr} {env : Env} (x : W C c k m (isTrue l env (eval l env)) h (fun b h₁ => Q (!b) h₁) X) : W C c k m (isTrue (.UnaryOp .Not l pos) env (eval (.UnaryOp .Not l pos) env)) h Q X :=
  fun A s hA hs hh hn => wpAny_isTrue_Not (x A s hA hs hh hn)
theorem w_tand_nil {env : Env} {whole : Sem Value} (q : Q true h) : W C c k m (isTrue (.BoolOp .And [] pos) env whole) h Q X :=
  W.same (v := fun _ => true) (fun _ => q) fun A s E Q' hA hh r => isTrue_and_nil (r 0 _)
theorem w_tor_nil {env : Env} {whole : Sem Value} (q : Q false h) : W C c k m (isTrue (.BoolOp .Or [] pos) env whole) h Q X :=
  W.same (v := fun _ => false) (fun _ => q) fun A s E Q' hA hh r => isTrue_or_nil (r 0 _)
theorem w_tand {e : Expr} {rest : List Expr} {env : Env} {whole : Sem Value}
    (x : W C c k m (isTrue e env (eval e env)) h (fun b h₁ => (b = true → W C c k m (isTrue (.BoolOp .And rest pos) env whole) h₁ Q X) ∧ (b = !true → Q false h₁)) X) :
    W C c k m (isTrue (.BoolOp .And (e :: rest) pos) env whole) h Q X := W.branchV true x fun A E s Q' r => isTrue_and (wpAny_mono r (fun b s₁ q => q) fun _ _ q => q)
theorem w_tor {e : Expr} {rest : List Expr} {env : Env} {whole : Sem Value}
    (x : W C c k m (isTrue e env (eval e env)) h (fun b h₁ => (b = false → W C c k m (isTrue (.BoolOp .Or rest pos) env whole) h₁ Q X) ∧ (b = !false → Q true h₁)) X) :
    W C c k m (isTrue (.BoolOp .Or (e :: rest) pos) env whole) h Q X := W.branchV false x fun A E s Q' r => isTrue_or (wpAny_mono r (fun b s₁ q => by cases b <;> simpa using q) fun _ _ q => q)
theorem w_tchain {l r₁ r₂ : Expr} {op₁ op₂ : CmpOp} {env : Env} {whole : Sem Value}
    (x : W C c k m (eval l env) h (fun a h₁ => W C c k m (testChain pos a [op₁, op₂] [eval r₁ env, eval r₂ env]) h₁ Q X) X)
    (hm : lastMarks [op₁, op₂] [r₁, r₂] = false) : W C c k m (isTrue (.Compare l [op₁, op₂] [r₁, r₂] pos) env whole) h Q X :=
  W.seq x fun _ _ _ _ r => isTrue_chain r hm
theorem w_test_link {a : Value} {op op' : CmpOp} {ops : List CmpOp} {r r' : Sem Value} {rs : List (Sem Value)}
    (x : W C c k m r h (fun b h₁ => W C c k m (compareOp op a b) h₁ (fun z h₂ => W C c k m (truthy z) h₂ (fun t h₃ => (t = true → W C c k m (testChain pos b (op' :: ops) (r' :: rs)) h₃ Q X) ∧ (t = !true → Q false h₃)) X) X) X) :
    W C c k m (testChain pos a (op :: op' :: ops) (r :: r' :: rs)) h Q X := W.seq3B true x fun _ _ _ _ r => PyProof.Rows.test_link r
theorem w_test_last {a : Value} {op : CmpOp} {r : Sem Value}
    (x : W C c k m r h (fun b h₁ => W C c k m (compareOp op a b) h₁ (fun z h₂ => W C c k m (truthy z) h₂ Q X) X) X) : W C c k m (testChain pos a [op] [r]) h Q X := W.seq2 x fun _ _ _ _ r => PyProof.Rows.test_last r
end
theorem w_vchain {l r₁ r₂ : Expr} {op₁ op₂ : CmpOp} {env : Env}
    (x : W C c k m (eval l env) h (fun a h₁ => W C c k m (compareChain pos a [op₁, op₂] [eval r₁ env, eval r₂ env]) h₁ Q X) X)
    (hm : lastMarks [op₁, op₂] [r₁, r₂] = false) : W C c k m (eval (.Compare l [op₁, op₂] [r₁, r₂] pos) env) h Q X :=
  W.seq x fun _ _ _ _ r => Compare_chain r hm
theorem w_chain_link {a : Value} {op op' : CmpOp} {ops : List CmpOp} {r r' : Sem Value} {rs : List (Sem Value)}
    (x : W C c k m r h (fun b h₁ => W C c k m (compareOp op a b) h₁ (fun z h₂ => W C c k m (truthy z) h₂ (fun t h₃ => (t = true → W C c k m (compareChain pos b (op' :: ops) (r' :: rs)) h₃ Q X) ∧ (t = !true → Q z h₃)) X) X) X) :
    W C c k m (compareChain pos a (op :: op' :: ops) (r :: r' :: rs)) h Q X := W.seq3B (v := fun _ z => z) true x fun _ _ _ _ r => PyProof.Rows.chain_link r
theorem w_chain_last {a : Value} {op : CmpOp} {r : Sem Value}
    (x : W C c k m r h (fun b h₁ => W C c k m (compareOp op a b) h₁ Q X) X) : W C c k m (compareChain pos a [op] [r]) h Q X := W.seq x fun _ _ _ _ r => PyProof.Rows.chain_last r
theorem w_bool1 {op : BoolOp} {e : Expr} {env : Env} (x : W C c k m (eval e env) h Q X) : W C c k m (eval (.BoolOp op [e] pos) env) h Q X :=
  fun A s hA hs hh hn => BoolOp_one (x A s hA hs hh hn)
theorem w_and {e₁ e₂ : Expr} {rest : List Expr} {env : Env}
    (x : W C c k m (eval e₁ env) h (fun v h₁ => W C c k m (truthy v) h₁ (fun b h₂ => (b = true → W C c k m (eval (.BoolOp .And (e₂ :: rest) pos) env) h₂ Q X) ∧ (b = !true → Q v h₂)) X) X) :
    W C c k m (eval (.BoolOp .And (e₁ :: e₂ :: rest) pos) env) h Q X := W.seq2B (v := fun v => v) true x fun _ _ _ _ r => BoolOp_and r
theorem w_or {e₁ e₂ : Expr} {rest : List Expr} {env : Env}
    (x : W C c k m (eval e₁ env) h (fun v h₁ => W C c k m (truthy v) h₁ (fun b h₂ => (b = false → W C c k m (eval (.BoolOp .Or (e₂ :: rest) pos) env) h₂ Q X) ∧ (b = !false → Q v h₂)) X) X) :
    W C c k m (eval (.BoolOp .Or (e₁ :: e₂ :: rest) pos) env) h Q X := W.seq2B (v := fun v => v) false x fun _ _ _ _ r => BoolOp_or (wpAny_mono r (fun v s₁ q => wpAny_mono q (fun b s₂ q => by cases b <;> simpa using q) fun _ _ q => q) fun _ _ q => q)
-- calls
theorem w_call {x : Str} {p : Pos} {args : List Expr} {env : Env} (y : W C c k m (eval (.Name x p) env) h (fun f h₁ => W C c k m (callWith pos f [] (backTo pos (starEach args env)) []) h₁ Q X) X) :
    W C c k m (eval (.Call (.Name x p) args [] pos) env) h Q X := W.seq y fun _ _ _ _ r => wpAny_Call_NameR r
theorem w_cwB {id : String} {first : List Value} {e : Expr} {rest : List Expr} {env : Env} (x : W C c k m (spliced (backTo pos (starEach (e :: rest) env))) h (fun vs h₁ => W C c k m (PySem.call (.builtin id) (first ++ vs)) h₁ Q X) X)
    (he : starEach (e :: rest) env = (false, eval e env) :: starEach rest env) (hp : (backTo pos (starEach rest env)).any (·.1) = false) :
    W C c k m (callWith pos (.builtin id) first (backTo pos (starEach (e :: rest) env)) []) h Q X := W.seq x fun _ _ _ _ r => by
  rw [he] at r ⊢
  exact Calls.callWith_builtin (by show (false || (backTo pos (starEach rest env)).any (·.1)) = false; rw [hp]; rfl) (Calls.evalArgs_plain r)
theorem w_cwT {T : String} {first : List Value} {e : Expr} {rest : List Expr} {env : Env} (x : W C c k m (spliced (backTo pos (starEach (e :: rest) env))) h (fun vs h₁ => W C c k m (PySem.call (.type T) (first ++ vs)) h₁ Q X) X)
    (he : starEach (e :: rest) env = (false, eval e env) :: starEach rest env) (hp : (backTo pos (starEach rest env)).any (·.1) = false) :
    W C c k m (callWith pos (.type T) first (backTo pos (starEach (e :: rest) env)) []) h Q X := W.seq x fun _ _ _ _ r => by
  rw [he] at r ⊢
  exact PyProof.Rows.callWith_type (by show (false || (backTo pos (starEach rest env)).any (·.1)) = false; rw [hp]; rfl) (Calls.evalArgs_plain r)
theorem w_cwF {f : Value} {first : List Value} {e : Expr} {rest : List Expr} {env : Env} (T : TopOk C) (hk : keepIn C.K f = true) (x : W C c k m (spliced (backTo pos (starEach (e :: rest) env))) h (fun vs h₁ => W C c k m (PySem.call f (first ++ vs)) h₁ Q X) X)
    (he : starEach (e :: rest) env = (false, eval e env) :: starEach rest env) (hp : (backTo pos (starEach rest env)).any (·.1) = false) :
    W C c k m (callWith pos f first (backTo pos (starEach (e :: rest) env)) []) h Q X := fun A s hA hs hh hn =>
  callWith_K (hs.kin T) hk (wpAny_mono (x A s hA hs hh hn) (fun v s₁ q => ⟨q.1.kin T, wpAny_mono (q.2.2.2 A s₁ hA q.1 rfl q.2.2.1)
    (fun vs s₂ r => ⟨r.1, q.2.1.trans r.2.1, r.2.2⟩) (fun e s'' r => ⟨r.1, q.2.1.trans r.2.1, r.2.2⟩)⟩) fun _ _ q => q) he hp
theorem w_cwF0 {f : Value} {first : List Value} {env : Env} (T : TopOk C) (hk : keepIn C.K f = true) (x : W C c k m (PySem.call f (first ++ [])) h Q X) :
    W C c k m (callWith pos f first (backTo pos (starEach [] env)) []) h Q X := fun A s hA hs hh hn => callWith_K0 (hs.kin T) hk (x A s hA hs hh hn)
/-- a method of a built-in type, by arguments -/
theorem w_meth {o : Expr} {name : Str} {apos : Pos} {args : List Expr} {env : Env} {T id : String}
    (hbase : attributeBase o name env (eval o env) = eval o env)
    (hfew : ((backTo pos (starEach args env)).all (fun x => !x.1) && (backToKw pos (keywordEach [] env)).all (fun x => x.1.isSome)
      && decide (args.length + ([] : List Keyword).length + (if ([] : List Keyword).isEmpty then 0 else 1) < 30)) = true)
    (hline : (apos.endLine == pos.line) = true) (pa : PlainAttrs T) (slot : Slot T name id) (hty : typeOf (.builtin id) = Pure.pure (.type "method_descriptor"))
    (x : W C c k m (eval o env) h (fun ov h₁ => (∀ s : Shared, s.heap = h₁ → s.TypeIs ov T) ∧ (∀ a, ov = .ref a → ∃ ob, h₁.get? a = some ob ∧ ob.dict = .none) ∧
      W C c k m (callWith pos (.builtin id) [ov] (backTo pos (starEach args env)) []) h₁ Q X) X) :
    W C c k m (eval (.Call (.Attribute o name apos) args [] pos) env) h Q X := fun A s hA hs hh hn =>
  wpAny_Call_method hbase hfew hline pa slot hty (wpAny_mono (x A s hA hs hh hn) (fun v s₁ q => ⟨q.2.2.2.1 s₁ rfl, q.2.2.2.2.1, wpAny_mono (q.2.2.2.2.2 A s₁ hA q.1 rfl q.2.2.1)
    (fun vs s₂ r => ⟨r.1, q.2.1.trans r.2.1, r.2.2⟩) (fun e s'' r => ⟨r.1, q.2.1.trans r.2.1, r.2.2⟩)⟩) fun _ _ q => q)
/-- a method of bytes or a str -/
theorem w_methV {o : Expr} {name : Str} {apos : Pos} {args : List Expr} {env : Env} {T id : String} {P : Value → Prop} (hP : ∀ v, P v → (∀ s : Shared, s.TypeIs v T) ∧ ∀ a, v ≠ .ref a)
    (hbase : attributeBase o name env (eval o env) = eval o env)
    (hfew : ((backTo pos (starEach args env)).all (fun x => !x.1) && (backToKw pos (keywordEach [] env)).all (fun x => x.1.isSome)
      && decide (args.length + ([] : List Keyword).length + (if ([] : List Keyword).isEmpty then 0 else 1) < 30)) = true)
    (hline : (apos.endLine == pos.line) = true) (pa : PlainAttrs T) (slot : Slot T name id) (hty : typeOf (.builtin id) = Pure.pure (.type "method_descriptor"))
    (x : W C c k m (eval o env) h (fun ov h₁ => P ov ∧ W C c k m (callWith pos (.builtin id) [ov] (backTo pos (starEach args env)) []) h₁ Q X) X) :
    W C c k m (eval (.Call (.Attribute o name apos) args [] pos) env) h Q X :=
  w_meth hbase hfew hline pa slot hty (x.mono (fun v h' q => ⟨fun s _ => (hP v q.1).1 s, fun a e => absurd e ((hP v q.1).2 a), q.2⟩) fun _ _ q => q)
end
end
-- Fn
section
variable {C : Cx} {c : Fc} {k : Nat} {m : Loc} {h : Heap} {X : Addr → Heap → Prop}
theorem putName_cls (name : Str) (hs : Int) (key v : Value) (o : Obj) : (Obj.putName name hs key v o).cls = o.cls := by
  obtain ⟨c, d, dt, sl⟩ := o
  cases dt <;> first | rfl | (simp only [Obj.putName]; split <;> rfl)
theorem putName_free (name : Str) (hs : Int) (key v : Value) (o : Obj) (h : o.isFreed = false) : (Obj.putName name hs key v o).isFreed = false := by
  obtain ⟨c, d, dt, sl⟩ := o
  cases dt <;> first | rfl | exact h | (simp only [Obj.putName]; split <;> rfl)
theorem nsSet_wp (M : Model) (Γ : Ctx) (E : Value → Pos → Shared → Prop) (p : Pos) (s : Shared) {a : Addr} {m : Str → Option Value} (hn : s.heap.Ns a m) (name : Str) (v : Value) :
    ∃ hs, ∀ Q : Unit → Pos → Shared → Prop, Sem.wp M Γ (nsSet a name v) Q E p s ↔ Q () p { s with heap := s.heap.update a (Obj.putName name hs (.str name s.toks) v), toks := s.toks + 1 } := by
  obtain ⟨o, es, ep, ho, hd, hk, hm⟩ := hn
  refine ⟨if name.cps.isEmpty then 0 else reduceHash (M.w.params.strHash name.cps), fun Q => ?_⟩
  simp only [nsSet, strHash, Sem.wp_bind', Sem.wp_cmd_ask, Sem.wp_pure', Sem.wp_cmd_mkText]
  rw [Sem.wp_loadPart_of M Γ E p { s with toks := s.toks + 1 } (o := o) _ ho]
  have hany : es.any (·.refKey) = false := by
    rw [Array.any_eq_false']; intro e he; obtain ⟨n, t, h⟩ := hk e he; simp [DictEntry.refKey, h]
  simp only [hd, aRefKeyMayBeTheName_eq, aRefKeyMayBeTheNameByArray, hany, Bool.and_false, Bool.false_eq_true, if_false, Sem.wp_cmd_updatePart]
  constructor
  · exact fun x => x.2
  · exact fun x => ⟨by rw [ho]; rfl, x⟩
theorem wpAny_nsSetC {M : Model} {A : Around} {E : Value → Shared → Prop} {s : Shared} {a : Addr} {m : Str → Option Value} {name : Str} {v cl : Value} {Q : Unit → Shared → Prop} (hn : s.heap.Ns a m) (hc : ∃ o, s.heap.get? a = some o ∧ o.cls = cl)
    (hQ : ∀ h', h'.Ns a (fun x => if x = name then some v else m x) → (∃ o, h'.get? a = some o ∧ o.cls = cl) → Heap.SameBut a s.heap h' → Q () { s with heap := h', toks := s.toks + 1 }) :
    wpAny M A (nsSet a name v) Q E s := fun Γ p _ => by
  obtain ⟨hs, e⟩ := nsSet_wp M Γ (fun e _ s' => E e s') p s hn name v
  rw [e]
  have z := (e (fun _ _ s' => s'.heap.Ns a (fun x => if x = name then some v else m x) ∧ Heap.SameBut a s.heap s'.heap)).mp
    (Sem.wp_nsSet M Γ _ p s hn name v _ fun h' x y => ⟨x, y⟩)
  obtain ⟨o, ho, hcl⟩ := hc
  refine hQ _ z.1 ⟨_, Heap.get?_update_self _ ho (putName_free _ _ _ _ _ (Heap.get?_some_iff.mp ho).2), (putName_cls _ _ _ _ _).trans hcl⟩ z.2
theorem wpAny_storeC {M : Model} {A : Around} {E : Value → Shared → Prop} {s : Shared} {env : Env} {m : Str → Option Value} {name : Str} {v cl : Value} {Q : Unit → Shared → Prop} (hl : env.kindOf name = some .local) (hn : s.heap.Ns env.locals m) (hc : ∃ o, s.heap.get? env.locals = some o ∧ o.cls = cl)
    (hQ : ∀ h', h'.Ns env.locals (fun x => if x = name then some v else m x) → (∃ o, h'.get? env.locals = some o ∧ o.cls = cl) → Heap.SameBut env.locals s.heap h' → Q () { s with heap := h', toks := s.toks + 1 })
    (hp : (env.scope.kind == .class || (env.scope.kind == .module && env.locals != env.globals)) = false) : wpAny M A (storeName env name v) Q E s := by
  rw [storeName_local hl hp]; exact wpAny_nsSetC hn hc hQ
theorem wpAny_forNs {M : Model} {A : Around} {E : Value → Shared → Prop} {a : Addr} {cl : Value} (f : (Str × Value) → PUnit → Sem (ForInStep PUnit)) : ∀ (l done : List (Str × Value)) (s : Shared) (Q : PUnit → Shared → Prop),
    (∀ x ∈ l, ∀ u, f x u = (do nsSet a x.1 x.2; pure (.yield ⟨⟩))) → s.heap.Ns a (fun x => done.reverse.lookup x) → (∃ o, s.heap.get? a = some o ∧ o.cls = cl) →
    (∀ h' tk, h'.Ns a (fun x => (done ++ l).reverse.lookup x) → (∃ o, h'.get? a = some o ∧ o.cls = cl) → Heap.SameBut a s.heap h' → Q ⟨⟩ { s with heap := h', toks := tk }) → wpAny M A (forIn l ⟨⟩ f) Q E s
  | [], done, s, Q, hf, hn, hc, hQ => by
    rw [List.forIn_nil]
    exact wpAny_pure (hQ s.heap s.toks (by simpa using hn) hc (.refl ..))
  | (x, v) :: l, done, s, Q, hf, hn, hc, hQ => by
    rw [List.forIn_cons, hf _ (.head _)]
    refine wpAny_bind (wpAny_bind (wpAny_nsSetC hn hc fun h₁ hn₁ hc₁ hs₁ => wpAny_pure (wpAny_forNs f l (done ++ [(x, v)]) _ _ (fun y hy => hf y (.tail _ hy)) ?_ hc₁ fun h' tk hn' hc' hs' => ?_)))
    · rw [lookup_reverse_snoc]; exact hn₁
    · rw [List.append_assoc] at hn'
      exact hQ h' tk hn' hc' (hs₁.trans hs')
theorem wpAny_newEnvC {M : Model} {A : Around} {E : Value → Shared → Prop} {s : Shared} {scope : Scope} {binds : List (Str × Value)} {qual : Str} {f : Addr} {code : Value} {Q : Env → Shared → Prop}
    (hc : ∀ x ∈ scope.names, x.2 ≠ .cell) (hl : ∀ x ∈ binds, scope.names.lookup x.1 = some .local) (hk : scope.kind = .function)
    (hQ : ∀ h' tk, h'.Ns s.heap.objs.size (fun x => binds.reverse.lookup x) → (∃ o, h'.get? s.heap.objs.size = some o ∧ o.cls = .type "frame") → Keep s.heap h' →
      Q (envOf qual scope s.heap.objs.size f code) { s with heap := h', toks := tk }) :
    wpAny M A (newFunctionEnv scope mainGlobals [] binds (qual ++ ".<locals>.") (some f) code none builtinsNs) Q E s := by
  simp only [newFunctionEnv, Option.isSome_none, Bool.false_eq_true, if_false]
  refine wpAny_bind (wpAny_alloc ?_)
  rw [forIn_yield_id [] (fun x hx c => by
    obtain ⟨name, kind⟩ := x
    have : (kind == NameKind.cell) = false := by simpa using hc _ hx
    simp only [this, Bool.false_eq_true, if_false])]
  refine wpAny_bind (wpAny_pure (wpAny_bind ?_))
  refine wpAny_forNs _ binds [] _ _ (fun x hx _ => ?_) (Heap.Ns.new ..) ⟨_, Heap.get?_push_size _ rfl, rfl⟩ fun h' tk hn' hc' hs' => ?_
  · obtain ⟨x, v⟩ := x
    show (do storeName (envOf qual scope s.heap.objs.size f code) x v; pure (ForInStep.yield PUnit.unit) : Sem (ForInStep PUnit)) = _
    rw [storeName_local (env := envOf qual scope s.heap.objs.size f code) (hl _ hx) (by show (scope.kind == .class || (scope.kind == .module && _)) = false; rw [hk]; rfl) v]
    rfl
  refine wpAny_pure (hQ h' tk (by simpa using hn') hc' fun b o eb => (hs'.2 b (Nat.ne_of_lt (Heap.lt_size eb))).trans (Heap.get?_push_of_some _ eb))
def FnAt (C : Cx) (f : Addr) (qual : Str) (params : Arguments) (body : List Stmt) (scope : Scope) (dV kV : Value) : Prop :=
  ∃ oc od osl name doc pm an cdv ct, C.K.lookup f = some ⟨oc, od, .func (fnOf name qual params body scope dV kV doc pm an cdv ct), osl⟩ ∧ codeIn C.K cdv qual = true
theorem w_fn (T : TopOk C) {f : Addr} {qual : Str} {params : Arguments} {body : List Stmt} {scope : Scope} {dV kV : Value} (hf : FnAt C f qual params body scope dV kV) {args : List Value} {binds : List (Str × Value)} {Q : Value → Heap → Prop}
    (hb : ∀ s name doc pm an cdv ct, C.K.In s.heap → BindsTo s (fnOf name qual params body scope dV kV doc pm an cdv ct) ⟨args, []⟩ binds)
    (hloc : ∀ y ∈ binds, scope.names.lookup y.1 = some .local) (hcell : ∀ x ∈ scope.names, x.2 ≠ .cell) (hco : scope.isCoroutine = false) (hgen : scope.isGenerator = false) (hk : scope.kind = .function) {l : Loc} (hlb : l = binds.reverse)
    (x : ∀ cd L h₁, Keep h h₁ → h.get? L = none → S C (Fc.fn qual scope f cd L c.frames) k l (execs body (Fc.fn qual scope f cd L c.frames).env) h₁ (fun _ h' => Q .none h') Q (fun _ _ _ => False)) :
    W C c (k + 1) m (PySem.call (.ref f) args []) h Q X := fun A s hA hs hh hn => by
  subst hh
  obtain ⟨oc, od, osl, name, doc, pm, an, cdv, ct, ho, hcd⟩ := hf
  have hK := hs.kin T
  refine wpAny_call (codeAny_call_function (by have := hA.depth; have : recursionLimit = 1000 := rfl; omega) (hK _ _ ho) rfl hco hgen rfl (codeRec_of hK hcd) ?_)
  refine hb s name doc pm an cdv ct hK _ _ _ _ ?_
  refine wpAny_newEnvC hcell hloc hk fun h₁ tk hns hcls kp => ⟨(hs.nolimit T).keeps kp, ?_⟩
  have hL : s.heap.get? s.heap.objs.size = none := Heap.get?_none_of_le (Nat.le_refl _)
  have ne : ∀ b o, s.heap.get? b = some o → b ≠ s.heap.objs.size := fun b o e q => by rw [q, hL] at e; cases e
  have hbase : C.base.get? s.heap.objs.size = none := by
    cases q : C.base.get? s.heap.objs.size with
    | none => rfl
    | some o => exact absurd rfl (ne _ _ (hs.stays _ _ q))
  refine codeAny_func (wpAny_mono (x cdv s.heap.objs.size h₁ kp hL (A.deeper (envOf qual scope s.heap.objs.size f cdv)) _ ⟨by rw [Around.frames_deeper hA.frames], ?_, ?_, ?_⟩ ⟨hs.gens, hs.os, fun b o e => kp b o (hs.stays b o e), ?_⟩ rfl ⟨⟨_, hns, fun x v e => by rw [hlb] at e; exact e⟩, hcls⟩) ?_ ?_)
  · have := hA.depth
    show A.depth + 1 + k ≤ 900
    omega
  · have := hA.units
    show A.units + 3 + 10 * k ≤ 9000
    omega
  · exact hA.handled
  · obtain ⟨oL, es, ep, e1, e2, _⟩ := hns
    exact ⟨by show scope.kind ≠ .module; rw [hk]; decide, ⟨_, oL, rfl, hbase, e1, fun vs q => by rw [e2] at q; cases q⟩, hs.frames.of_keeps fun b o e _ => ⟨o, kp b o e, rfl⟩⟩
  · rintro fl s' ⟨q1, q2, m', q3, q4⟩
    have pd : PD c.L s.heap s'.heap := ⟨fun b o _ e hd => q2.d b o (ne b o e) (kp b o e) hd, fun b o _ e hd => q2.r b o (ne b o e) (kp b o e) hd⟩
    have hn' : Ns c s'.heap m := by
      obtain ⟨mf, hnf, hmf⟩ := hn.ns
      obtain ⟨o, es, ep, e, ed, _⟩ := id hnf
      obtain ⟨o', e', ec⟩ := hn.cls
      cases e.symm.trans e'
      obtain ⟨sl, e2⟩ := q2.d _ _ (ne _ _ e) (kp _ _ e) ⟨_, _, ed⟩
      exact ⟨⟨mf, q2.ns (hnf.keeps kp) (ne _ _ e), hmf⟩, _, e2, ec⟩
    cases fl with
    | next => exact ⟨q1.tail, pd, hn', q4⟩
    | ret v => exact ⟨q1.tail, pd, hn', q4⟩
    | brk => exact q4.elim
    | cont => exact q4.elim
  · rintro e s' ⟨_, _, _, _, _, _, q⟩
    exact q.elim
-- statements
section
variable {N : Loc → Heap → Prop} {R : Value → Heap → Prop} {Y : Loc → Addr → Heap → Prop} {env : Env}
theorem s_nil {m' : Loc} (u : Sub m m') (x : N m' h) : S C c k m (execs [] env) h N R Y := fun A s hA hs hh hn => wpAny_execs_nil ⟨hs, hh ▸ PD.refl _ _, m', hh ▸ hn.sub u, hh ▸ x⟩
theorem s_cons {st : Stmt} {rest : List Stmt} (x : S C c k m (exec st env) h (fun m₁ h₁ => S C c k m₁ (execs rest env) h₁ N R Y) R Y) : S C c k m (execs (st :: rest) env) h N R Y :=
  fun A s hA hs hh hn => wpAny_execs_cons (wpAny_mono (x A s hA hs hh hn) (fun fl s' q => by
    obtain ⟨q1, q2, m', q3, q4⟩ := q
    cases fl with
    | next => exact wpAny_mono (q4 A s' hA q1 rfl q3) (fun _ _ r => ⟨r.1, q2.trans r.2.1, r.2.2⟩) (fun _ _ r => ⟨r.1, q2.trans r.2.1, r.2.2⟩)
    | ret v => exact ⟨q1, q2, m', q3, q4⟩
    | brk => exact q4.elim
    | cont => exact q4.elim) fun _ _ q => q)
theorem s_body {body : List Stmt} {st : Stmt} {rest : List Stmt} (e : body = st :: rest) (x : S C c k m (execs (st :: rest) env) h N R Y) : S C c k m (execs body env) h N R Y := e ▸ x
theorem s_mono {t : Sem Flow} {N' : Loc → Heap → Prop} {R' : Value → Heap → Prop} (x : S C c k m t h N R Y) (hN : ∀ m' h', N m' h' → N' m' h') (hR : ∀ v h', R v h' → R' v h') : S C c k m t h N' R' Y :=
  fun A s hA hs hh hn => wpAny_mono (x A s hA hs hh hn) (fun fl s' q => by
    obtain ⟨q1, q2, m', q3, q4⟩ := q
    cases fl with
    | next => exact ⟨q1, q2, m', q3, hN _ _ q4⟩
    | ret v => exact ⟨q1, q2, m', q3, hR _ _ q4⟩
    | brk => exact q4.elim
    | cont => exact q4.elim) fun _ _ q => q
/-- an expression first -/
theorem s_ofW {α : Type} {t : Sem α} {t' : Sem Flow} {f : α → Sem Flow} (x : W C c k m t h (fun a h₁ => S C c k m (f a) h₁ N R Y) (fun a h' => Y m a h'))
    (r : ∀ A E s (Q' : Flow → Shared → Prop), wpA C A t (fun a s₁ => wpA C A (f a) Q' E s₁) E s → wpA C A t' Q' E s) : S C c k m t' h N R Y :=
  fun A s hA hs hh hn => r A _ s _ (wpAny_mono (x A s hA hs hh hn) (fun a s' q => wpAny_mono (q.2.2.2 A s' hA q.1 rfl q.2.2.1)
    (fun b s'' r => ⟨r.1, q.2.1.trans r.2.1, r.2.2⟩) (fun e s'' r => ⟨r.1, q.2.1.trans r.2.1, r.2.2⟩)) fun e s' q => ⟨q.1, q.2.1, m, q.2.2.1, q.2.2.2⟩)
theorem s_ret {e : Expr} {pos : Pos} (x : W C c k m (eval e env) h R (fun a h' => Y m a h')) : S C c k m (exec (.Return (some e) pos) env) h N R Y :=
  fun A s hA hs hh hn => wpAny_Return_some (wpAny_mono (x A s hA hs hh hn) (fun v s' q => ⟨q.1, q.2.1, m, q.2.2.1, q.2.2.2⟩) fun e s' q => ⟨q.1, q.2.1, m, q.2.2.1, q.2.2.2⟩)
theorem PD.le {L : Addr} {h h' : Heap} (hs : Heap.SameBut L h h') (hf : ∃ o, h.get? L = some o ∧ o.cls = .type "frame") : Le h h' := fun b o e hn hc => by
  obtain ⟨oL, e1, e2⟩ := hf
  have : b ≠ L := fun q => by rw [q, e1] at e; cases e; exact hc e2
  exact ⟨o.slots, (hs.2 b this).trans e⟩
theorem funFrames_of {h h' base : Heap} (k : ∀ b o, h.get? b = some o → (∀ vs, o.data ≠ .fields vs) → ∃ o', h'.get? b = some o' ∧ ∀ vs, o'.data ≠ .fields vs) : ∀ {l : List Env}, h.FunFrames base l → h'.FunFrames base l
  | [], _ => trivial
  | env :: rest, ⟨hk, ⟨L, o, hf, hn, ho, hd⟩, hr⟩ => ⟨hk, let ⟨o', e1, e2⟩ := k L o ho hd; ⟨L, o', hf, hn, e1, e2⟩, funFrames_of k hr⟩
theorem St.store {s : Shared} {h' : Heap} {L : Addr} {frames : List Env} (hs : St C frames s) (hb : C.base.get? L = none) (hsb : Heap.SameBut L s.heap h') (hd : ∃ o, h'.get? L = some o ∧ ∀ vs, o.data ≠ .fields vs) (tk : Nat) :
    St C frames { s with heap := h', toks := tk } :=
  ⟨hs.gens, hs.os, fun b o e => (hsb.2 b fun z => by rw [z, hb] at e; cases e).trans (hs.stays b o e), funFrames_of (fun b o e hnf => by
    by_cases hb : b = L
    · subst hb; exact hd
    · exact ⟨o, (hsb.2 b hb).trans e, hnf⟩) hs.frames⟩
theorem Ns.le {h' : Heap} (hsb : Heap.SameBut c.L h h') (x : Ns c h m) (hl : c.lc = "frame") : Le h h' := fun b o e hn hc => by
  obtain ⟨oL, e1, e2⟩ := x.cls
  have : b ≠ c.L := fun q => by rw [q, e1] at e; cases e; exact hc (by rw [e2, hl])
  exact ⟨o.slots, (hsb.2 b this).trans e⟩
theorem St.fresh {s : Shared} {qual : Str} {scope : Scope} {f : Addr} {cd : Value} {L : Addr} {below : List Env} (x : St C (Fc.fn qual scope f cd L below).frames s) : C.base.get? L = none := by
  obtain ⟨_, ⟨_, _, e, n, _⟩, _⟩ := x.frames
  cases e; exact n
/-- the frame's own locals are no part of the top -/
structure Live (C : Cx) (c : Fc) : Prop where
  kind : c.env.scope.kind = .function
  lc : c.lc = "frame"
  new : ∀ s, St C c.frames s → C.base.get? c.L = none
theorem Live.fn {qual : Str} {scope : Scope} {f : Addr} {cd : Value} {L : Addr} {below : List Env} (hk : scope.kind = .function) : Live C (Fc.fn qual scope f cd L below) := ⟨hk, rfl, fun s x => x.fresh⟩
theorem Live.class {c : Fc} (l : Live C c) : (c.env.scope.kind == .class || (c.env.scope.kind == .module && c.env.locals != c.env.globals)) = false := by rw [l.kind]; rfl
theorem w_store {x : Str} {v : Value} {A : Around} {s : Shared} {E : Value → Shared → Prop} {Q : Unit → Shared → Prop} (l : Live C c) (hs : St C c.frames s) (hn : Ns c s.heap m) (hl : c.env.kindOf x = some .local)
    (q : ∀ s', St C c.frames s' → PD c.L s.heap s'.heap → Ns c s'.heap ((x, v) :: m) → Le s.heap s'.heap → Q () s') : wpA C A (storeName c.env x v) Q E s :=
  let ⟨m', e, q'⟩ := hn.ns
  wpAny_storeC hl e hn.cls (fun h' hn' hc' hsb => q _ (hs.store (l.new _ hs) hsb (by obtain ⟨o, es, ep, e, d, _⟩ := hn'; exact ⟨o, e, fun vs z => by rw [d] at z; cases z⟩) _) (PD.sameBut hsb)
    ⟨⟨_, hn', fun y w z => by
      rw [List.lookup_cons] at z
      cases hy : y == x with
      | true => rw [hy] at z; rw [if_pos (eq_of_beq hy)]; exact z
      | false => rw [hy] at z; rw [if_neg (fun e => by rw [e, beq_self_eq_true] at hy; cases hy)]; exact q' _ _ z⟩, hc'⟩ (hn.le hsb l.lc)) l.class
theorem s_assign {x : Str} {value : Expr} {px pos : Pos} (l : Live C c) (hl : c.env.kindOf x = some .local) (hs : swapsWith value (some (.Name x px)) pos.line c.env = pure false)
    (y : W C c k m (eval value c.env) h (fun v h₁ => ∀ h₂, Le h₁ h₂ → N ((x, v) :: m) h₂) (fun a h' => Y m a h')) : S C c k m (exec (.Assign [.Name x px] value pos) c.env) h N R Y :=
  fun A s hA hss hh hn => wpAny_Assign_Name (wpAny_mono (y A s hA hss hh hn) (fun v s₁ q => w_store l q.1 q.2.2.1 hl fun s' q1 q2 q3 q4 => ⟨q1, q.2.1.trans q2, _, q3, q.2.2.2 _ q4⟩)
    fun e s' q => ⟨q.1, q.2.1, m, q.2.2.1, q.2.2.2⟩) hs
theorem s_expr {e : Expr} {pos : Pos} (hi : interactive env = false) (hs : swapsWith e none pos.line env = pure false) (y : W C c k m (eval e env) h (fun _ h₁ => N m h₁) (fun a h' => Y m a h')) :
    S C c k m (exec (.Expr e pos) env) h N R Y :=
  fun A s hA hss hh hn => wpAny_Expr_any (wpAny_mono (y A s hA hss hh hn) (fun v s₁ q => ⟨q.1, q.2.1, m, q.2.2.1, q.2.2.2⟩) fun e s' q => ⟨q.1, q.2.1, m, q.2.2.1, q.2.2.2⟩) hi hs
theorem s_if {t : Expr} {b o : List Stmt} {pos : Pos} (y : W C c k m (isTrue t env (eval t env)) h (fun z h₁ => (z = true → S C c k m (execs b env) h₁ N R Y) ∧ (z = false → S C c k m (execs o env) h₁ N R Y)) (fun a h' => Y m a h')) :
    S C c k m (exec (.If t b o pos) env) h N R Y :=
  fun A s hA hss hh hn => wpAny_If (wpAny_mono (y A s hA hss hh hn) (fun z s₁ q => by
    cases z with
    | true => rw [if_pos rfl]; exact wpAny_mono (q.2.2.2.1 rfl A s₁ hA q.1 rfl q.2.2.1) (fun b s'' r => ⟨r.1, q.2.1.trans r.2.1, r.2.2⟩) (fun e s'' r => ⟨r.1, q.2.1.trans r.2.1, r.2.2⟩)
    | false => rw [if_neg (by decide)]; exact wpAny_mono (q.2.2.2.2 rfl A s₁ hA q.1 rfl q.2.2.1) (fun b s'' r => ⟨r.1, q.2.1.trans r.2.1, r.2.2⟩) (fun e s'' r => ⟨r.1, q.2.1.trans r.2.1, r.2.2⟩))
    fun e s' q => ⟨q.1, q.2.1, m, q.2.2.1, q.2.2.2⟩)
/-- a while by an invariant and a measure; no exception leaves it -/
theorem s_while {t : Expr} {b : List Stmt} {pos : Pos} {m₀ : Loc} (u : Sub m m₀) (I : Nat → Loc → Heap → Prop)
    (turn : ∀ n m₁ h₁, I n m₁ h₁ → W C c k m₁ (isTrue t env (eval t env)) h₁ (fun z h₂ =>
      (z = true → S C c k m₁ (execs b env) h₂ (fun m₂ h₃ => ∃ n' m₃, n' < n ∧ Sub m₂ m₃ ∧ I n' m₃ h₃) R (fun _ _ _ => False)) ∧ (z = false → N m₁ h₂)) (fun _ _ => False))
    (n : Nat) (h0 : I n m₀ h) : S C c k m (exec (.While t b [] pos) env) h N R Y :=
  fun A s hA hss hh hn => wpAny_While (codeAny_whileLoop (fun n s' => St C c.frames s' ∧ PD c.L h s'.heap ∧ ∃ m', Ns c s'.heap m' ∧ I n m' s'.heap) (by
    rintro n s' ⟨q1, q2, m', q3, q4⟩
    refine wpAny_mono (turn n m' s'.heap q4 A s' hA q1 rfl q3) (fun z s₁ q => ?_) (fun e s₁ q => by obtain ⟨_, _, _, _, _, q⟩ := q; exact q.elim)
    cases z with
    | true =>
      rw [if_pos rfl]
      refine wpAny_mono (q.2.2.2.1 rfl A s₁ hA q.1 rfl q.2.2.1) (fun fl s₂ r => ?_) (fun e s₁ q => by obtain ⟨_, _, _, _, _, _, q⟩ := q; exact q.elim)
      obtain ⟨r1, r2, m₂, r3, r4⟩ := r
      cases fl with
      | next => obtain ⟨n', m₃, hn', u', r4⟩ := r4; exact ⟨n', hn', r1, (q2.trans q.2.1).trans r2, m₃, r3.sub u', r4⟩
      | ret v => exact ⟨r1, (q2.trans q.2.1).trans r2, m₂, r3, r4⟩
      | brk => exact r4.elim
      | cont => exact r4.elim
    | false =>
      rw [if_neg (by decide)]
      exact wpAny_execs_nil ⟨q.1, q2.trans q.2.1, m', q.2.2.1, q.2.2.2.2 rfl⟩) n ⟨hss, hh ▸ PD.refl _ _, m₀, by rw [hh]; exact hn.sub u, by rw [hh]; exact h0⟩)
end
end
-- Prim
section
open Builtin
variable {C : Cx} {c : Fc} {k : Nat} {m : Loc} {h : Heap} {X : Addr → Heap → Prop} {Q : Value → Heap → Prop}
-- ints
section
variable {a b : Int} {t u : Tok}
theorem p_add (q : ∀ t, Q (.int (a + b) t) h) : W C c k m (binaryOp .Add (.int a t) (.int b u)) h Q X := W.same q fun A s E Q' hA hh r => PyProof.Rows.add_int (r _ _)
theorem p_sub (q : ∀ t, Q (.int (a - b) t) h) : W C c k m (binaryOp .Sub (.int a t) (.int b u)) h Q X := W.same q fun A s E Q' hA hh r => PyProof.Rows.sub_int (r _ _)
theorem p_mul (hm : IntMulOk a b) (q : ∀ t, Q (.int (a * b) t) h) : W C c k m (binaryOp .Mult (.int a t) (.int b u)) h Q X := W.same q fun A s E Q' hA hh r => PyProof.Rows.mul_int (r _ _) hm
theorem p_mod (hb : b ≠ 0) (q : ∀ t, Q (.int (a.fmod b) t) h) : W C c k m (binaryOp .Mod (.int a t) (.int b u)) h Q X := W.same q fun A s E Q' hA hh r => PyProof.Rows.mod_int hb (r _ _)
theorem p_lt (q : Q (.bool (decide (a < b))) h) : W C c k m (compareOp .Lt (.int a t) (.int b u)) h Q X := W.same (v := fun _ => .bool (decide (a < b))) (fun _ => q) fun A s E Q' hA hh r => PyProof.Rows.lt_int (r 0 _)
theorem p_le (q : Q (.bool (decide (a ≤ b))) h) : W C c k m (compareOp .LtE (.int a t) (.int b u)) h Q X := W.same (v := fun _ => .bool (decide (a ≤ b))) (fun _ => q) fun A s E Q' hA hh r => PyProof.Rows.le_int (r 0 _)
theorem p_gt (q : Q (.bool (decide (a > b))) h) : W C c k m (compareOp .Gt (.int a t) (.int b u)) h Q X := W.same (v := fun _ => .bool (decide (a > b))) (fun _ => q) fun A s E Q' hA hh r => PyProof.Rows.gt_int (r 0 _)
theorem p_ge (q : Q (.bool (decide (a ≥ b))) h) : W C c k m (compareOp .GtE (.int a t) (.int b u)) h Q X := W.same (v := fun _ => .bool (decide (a ≥ b))) (fun _ => q) fun A s E Q' hA hh r => PyProof.Rows.ge_int (r 0 _)
theorem p_eq (q : Q (.bool (a == b)) h) : W C c k m (compareOp .Eq (.int a t) (.int b u)) h Q X := W.same (v := fun _ => .bool (a == b)) (fun _ => q) fun A s E Q' hA hh r => PyProof.Rows.eq_int (r 0 _)
theorem p_ne (q : Q (.bool (a != b)) h) : W C c k m (compareOp .NotEq (.int a t) (.int b u)) h Q X := W.same (v := fun _ => .bool (a != b)) (fun _ => q) fun A s E Q' hA hh r => PyProof.Rows.ne_int (r 0 _)
end
-- bytes
section
variable {d e : List UInt8} {t u : Tok} {i : Int}
theorem p_len (hz : d.length ≤ 1099511627776) (q : ∀ t, Q (.int d.length t) h) : W C c k m (call (.builtin "len") [.bytes d.toArray t]) h Q X :=
  W.same (v := fun t => .int d.length t) q fun A s E Q' hA hh r => len_bytes (by simpa using hz) (by simpa using r _ _)
theorem p_item (h0 : 0 ≤ i) (h1 : i < d.length) (hz : d.length ≤ 1099511627776) (q : ∀ t, Q (.int (d.getD i.toNat 0).toNat t) h) : W C c k m (getItem (.bytes d.toArray t) (.int i u)) h Q X :=
  W.same q fun A s E Q' hA hh r => getItem_bytes hz h0 h1 (r _ _)
theorem p_addB (hz : d.length + e.length ≤ 16777216) (q : ∀ t, Q (.bytes (d ++ e).toArray t) h) : W C c k m (binaryOp .Add (.bytes d.toArray t) (.bytes e.toArray u)) h Q X :=
  W.same q fun A s E Q' hA hh r => KBy.add_bytes (by simpa using hz) (fun t' k => by rw [List.append_toArray]; exact r _ _)
theorem p_eqB (q : Q (.bool (d == e)) h) : W C c k m (compareOp .Eq (.bytes d.toArray t) (.bytes e.toArray u)) h Q X :=
  W.same (v := fun _ => .bool (d == e)) (fun _ => q) fun A s E Q' hA hh r => eq_bytes (r 0 _)
theorem p_neB (q : Q (.bool (d != e)) h) : W C c k m (compareOp .NotEq (.bytes d.toArray t) (.bytes e.toArray u)) h Q X :=
  W.same (v := fun _ => .bool (d != e)) (fun _ => q) fun A s E Q' hA hh r => ne_bytes (r 0 _)
/-- a cut -/
def cutB (d : List UInt8) (lo hi : Option Int) : List UInt8 := (d.drop (lo.elim 0 (clipAt d.length))).take (hi.elim d.length (clipAt d.length) - lo.elim 0 (clipAt d.length))
theorem cutB_eq (d : List UInt8) (lo hi : Option Int) : KBy.picked d.toArray lo hi = (cutB d lo hi).toArray := by
  rw [KBc.picked_eq]; simp [cutB]
theorem p_cutB {a : Addr} {l r : Value} {lo hi : Option Int} (hs : h.IsSliceOf a l r .none) (pl : IsPart l lo) (pr : IsPart r hi) (hz : d.length ≤ 16777216) (q : ∀ t, Q (.bytes (cutB d lo hi).toArray t) h) : W C c k m (getItem (.bytes d.toArray t) (.ref a)) h Q X :=
  W.same q fun A s E Q' hA hh r => getItem_meets (typeIs_bytes _ _ _) (by decide) FB.slot_bytes_getitem FB.entry_bytes_getitem (FB.args_bytes_getitem_2 _ _) (KBc.meets_slice2 _ t _ pl pr)
    ⟨hh ▸ hs, Nat.le_trans (KBc.size_picked_le _ lo hi) (by rw [sizeLine_eq]; simpa using hz), fun t' k => by rw [cutB_eq]; exact r _ _⟩
end
theorem w_tailB {x y : Expr} {d : Array UInt8} {t : Tok} {i : Value} (z : W C c k m (getItem (.bytes d t) i) h Q X) : W C c k m (subscriptTail x y (.bytes d t) i) h Q X :=
  w_tail (T := "bytes") (id := "bytes.__getitem__") (fun s _ => typeIs_bytes s d t) FB.slot_bytes_getitem.lookup z
def IsB (v : Value) : Prop := ∃ d t, v = .bytes d t
def IsS (v : Value) : Prop := ∃ d t, v = .str d t
theorem isB_mk {d : Array UInt8} {t : Tok} : IsB (.bytes d t) := ⟨_, _, rfl⟩
theorem isS_mk {d : Str} {t : Tok} : IsS (.str d t) := ⟨_, _, rfl⟩
theorem isB_type : ∀ v, IsB v → (∀ s : Shared, s.TypeIs v "bytes") ∧ ∀ a, v ≠ .ref a := by
  rintro _ ⟨d, t, rfl⟩
  exact ⟨fun s => typeIs_bytes s d t, fun a e => by cases e⟩
theorem isS_type : ∀ v, IsS v → (∀ s : Shared, s.TypeIs v "str") ∧ ∀ a, v ≠ .ref a := by
  rintro _ ⟨d, t, rfl⟩
  exact ⟨fun s => rfl, fun a e => by cases e⟩
-- bytes.find
theorem slot_find : Slot "bytes" "find" "bytes.find" :=
  .of (owner := "bytes") (n := "find") (by rw [typeLookup_type, builtinLookup_eq_fast]; kernel_rfl) (by decide +kernel) (by decide +kernel) (by decide +kernel)
    (by first | exact .inl (by decide +kernel) | exact .inr (by decide +kernel)) (by rw [isSubtype_type]; kernel_rfl)
theorem type_find : typeOf (.builtin "bytes.find") = pure (.type "method_descriptor") := by show builtinType _ = _; rw [builtinType_eq_fast]; kernel_rfl
theorem entry_find : entryFor table "bytes.find" = some Builtin.«bytes.find» := entryFor_of_tree (by kernel_rfl)
theorem args_find (a b c d : Value) : argsOk "bytes.find" ⟨[a, b, c, d], []⟩ := by
  unfold argsOk; rw [signature?_of (id := "bytes.find") (n := ['d', 'n', 'i', 'f']) (o := ['s', 'e', 't', 'y', 'b']) (by kernel_rfl) FB.owner_bytes]; kernel_rfl
/-- the first place of a byte in a window, or -1 -/
def fnd (d : List UInt8) (x : UInt8) (a b : Int) : Int :=
  match (if Min.min (d.length : Int) b - a < 1 then none else some (a.toNat, (Min.min (d.length : Int) b).toNat)).bind fun (lo, hi) => Bytes.find? d.toArray #[x] lo hi with
  | some i => i
  | none => -1
theorem look_index : typeLookup (.type "int") "__index__" = pure (some (.builtin "int.__index__")) := by rw [typeLookup_type, builtinLookup_eq_fast]; kernel_rfl
theorem bound_eq {i : Int} {t : Tok} : Bytes.bound? (some (.int i t)) = pure (some i) := by
  unfold Bytes.bound?
  have e : specialOf (.int i t) "__index__" = typeLookup (.type "int") "__index__" := rfl
  show (specialOf (.int i t) "__index__" >>= _) = _
  rw [e, look_index]
  rfl
theorem search_eq {d : List UInt8} {x : UInt8} {a b : Int} {t u t1 t2 : Tok} : Bytes.searchArgs .bytes "find" ⟨[.bytes d.toArray t, .bytes #[x] u, .int a t1, .int b t2], []⟩ =
    pure (d.toArray, #[x], if (Bytes.window d.length (some a) (some b)).2 - (Bytes.window d.length (some a) (some b)).1 < 1 then none else some ((Bytes.window d.length (some a) (some b)).1.toNat, (Bytes.window d.length (some a) (some b)).2.toNat)) := by
  have e1 : ∀ id, selfAndSome id "find" 1 3 ⟨[.bytes d.toArray t, .bytes #[x] u, .int a t1, .int b t2], []⟩ = pure (.bytes d.toArray t, [.bytes #[x] u, .int a t1, .int b t2]) := fun id => by kernel_rfl
  have e2 : Bytes.payload (.bytes d.toArray t) = pure d.toArray := rfl
  unfold Bytes.searchArgs
  simp only [e1, pure_bind]
  show (Bytes.bound? (some (.int a t1)) >>= fun _ => Bytes.bound? (some (.int b t2)) >>= _) = _
  simp only [bound_eq, pure_bind, List.headD_cons, KBy.buffer_eq, e2]
  simp only [List.size_toArray, List.length_cons, List.length_nil]
  rfl
theorem window_eq {n : Nat} {a b : Int} (ha : 0 ≤ a) (hb : 0 ≤ b) : Bytes.window n (some a) (some b) = (a, Min.min (n : Int) b) := by
  unfold Bytes.window
  have h1 : ¬ a < 0 := by omega
  have h2 : ¬ b < 0 := by omega
  simp [h1, h2]
theorem gives_find {d : List UInt8} {x : UInt8} {a b : Int} {t u t1 t2 : Tok} (ha : 0 ≤ a) (hb : 0 ≤ b) : Gives (Builtin.«bytes.find» ⟨[.bytes d.toArray t, .bytes #[x] u, .int a t1, .int b t2], []⟩) (.int (fnd d x a b)) := by
  refine .of_wp fun M A E s Q hq => ?_
  unfold Builtin.«bytes.find» Bytes.searchM
  rw [search_eq]
  refine wpAny_bind (wpAny_pure ?_)
  rw [window_eq ha hb]
  unfold fnd at hq
  show wpAny M A (match (if Min.min (d.length : Int) b - a < 1 then none else some (a.toNat, (Min.min (d.length : Int) b).toNat)).bind fun (lo, hi) => Bytes.find? d.toArray #[x] lo hi with
  | some i => retInt i
  | none => _) _ E s
  revert hq
  generalize (if Min.min (d.length : Int) b - a < 1 then none else some (a.toNat, (Min.min (d.length : Int) b).toNat)).bind (fun (x_1 : Nat × Nat) => Bytes.find? d.toArray #[x] x_1.1 x_1.2) = w
  intro hq
  cases w with
  | some i => exact wpAny_bind (wpAny_mkInt (wpAny_pure ⟨_, rfl, hq⟩))
  | none => exact wpAny_bind (wpAny_rule (wpAny_bind (wpAny_mkInt (wpAny_pure ⟨_, rfl, hq⟩))))
theorem p_find {d : List UInt8} {x : UInt8} {a b : Int} {t u t1 t2 : Tok} (ha : 0 ≤ a) (hb : 0 ≤ b) (q : ∀ t, Q (.int (fnd d x a b) t) h) : W C c k m (call (.builtin "bytes.find") [.bytes d.toArray t, .bytes #[x] u, .int a t1, .int b t2]) h Q X :=
  W.same q fun A s E Q' hA hh r => call_gives slot_find (typeIs_bytes _ _ _) entry_find (args_find _ _ _ _) (gives_find ha hb) (r _ _)
end
-- Loop
section
variable {C : Cx} {c : Fc} {k : Nat} {m : Loc} {h : Heap} {X : Addr → Heap → Prop}
/-- an iterator at I: n items, P the i-th; G: what its source must stay -/
structure It (C : Cx) (I : Addr) (n : Nat) (P : Nat → Value → Prop) (G : Heap → Prop) (St : Nat → Heap → Prop) : Prop where
  item : ∀ i A (s : Shared) (Q : Option Value → Shared → Prop) E, A.handled = none → i < n → St i s.heap → G s.heap →
    (∀ v h' tk, P i v → St (i + 1) h' → Heap.ExtBut I s.heap h' → Q (some v) { s with heap := h', toks := tk }) → wpAny (model C.prog C.w) A (pyNext (.ref I)) Q E s
  done : ∀ A (s : Shared) (Q : Option Value → Shared → Prop) E, A.handled = none → St n s.heap → G s.heap → (∀ h' tk, Heap.ExtBut I s.heap h' → Q none { s with heap := h', toks := tk }) → wpAny (model C.prog C.w) A (pyNext (.ref I)) Q E s
  isRec : ∀ i h, St i h → ∃ o, h.get? I = some o ∧ Rec o
  same : ∀ i h h', St i h → (∀ o, h.get? I = some o → h'.get? I = some o) → St i h'
  gle : ∀ h h', Le h h' → G h → G h'
  self : ∀ i A (s : Shared) (Q : Value → Shared → Prop) E, A.handled = none → St i s.heap → Q (.ref I) s → wpAny (model C.prog C.w) A (pyIter (.ref I)) Q E s
theorem noRec {h : Heap} {I : Addr} {o o' : Obj} (e : h.get? I = some o) (hr : Rec o) (e' : h.get? I = some o') (hn : ∀ vs, o'.data ≠ .fields vs) : False := by
  rw [e] at e'; cases e'
  obtain ⟨⟨vs, hv⟩, _⟩ := hr
  exact hn vs hv
/-- the iterator's own step is none of the others' -/
theorem St.iter {s : Shared} {h' : Heap} {I : Addr} {frames : List Env} (hs : St C frames s) (hb : C.base.get? I = none) (hx : Heap.ExtBut I s.heap h') (hd : ∃ o, s.heap.get? I = some o ∧ Rec o) (tk : Nat) : St C frames { s with heap := h', toks := tk } :=
  ⟨hs.gens, hs.os, fun b o e => hx b o (fun z => by rw [z, hb] at e; cases e) (hs.stays b o e), funFrames_of (fun b o e hnf => by
    obtain ⟨oI, eI, hr⟩ := hd
    exact ⟨o, hx b o (fun z => by subst z; exact noRec eI hr e hnf) e, hnf⟩) hs.frames⟩
theorem le_iter {h h' : Heap} {I : Addr} (hx : Heap.ExtBut I h h') (hd : ∃ o, h.get? I = some o ∧ Rec o) : Le h h' := fun b o e hn _ => by
  obtain ⟨oI, eI, hr⟩ := hd
  exact ⟨o.slots, hx b o (fun z => by subst z; exact noRec eI hr e hn) e⟩
theorem ns_iter {h h' : Heap} {I : Addr} (hx : Heap.ExtBut I h h') (hd : ∃ o, h.get? I = some o ∧ Rec o) (hn : Ns c h m) : Ns c h' m := by
  obtain ⟨f, hf, hq⟩ := hn.ns
  obtain ⟨oL, e1, e2⟩ := hn.cls
  have ne : c.L ≠ I := fun z => by
    obtain ⟨o, es, ep, e, d, _⟩ := hf
    obtain ⟨oI, eI, hr⟩ := hd
    rw [← z] at eI
    exact noRec eI hr e fun vs q => by rw [d] at q; cases q
  exact ⟨⟨f, hf.extBut hx ne, hq⟩, oL, hx _ _ ne e1, e2⟩
/-- how a loop stands to its start: what was there ahead of the iterator is kept -/
structure PI (L I : Addr) (h₀ h : Heap) : Prop where
  d : ∀ b o, b ≠ L → b ≠ I → h₀.get? b = some o → (∃ es n, o.data = .dict es n) → ∃ sl, h.get? b = some { o with slots := sl }
  r : ∀ b o, b ≠ L → b ≠ I → h₀.get? b = some o → Rec o → h.get? b = some o
theorem PI.pd {L I : Addr} {h₀ h h' : Heap} (x : PI L I h₀ h) (y : PD L h h') : PI L I h₀ h' :=
  ⟨fun b o hb hi e hd => let ⟨_, e₁⟩ := x.d b o hb hi e hd; let ⟨sl, e₂⟩ := y.d b _ hb e₁ hd; ⟨sl, e₂⟩, fun b o hb hi e hr => y.r b o hb (x.r b o hb hi e hr) hr⟩
theorem PI.ext {L I : Addr} {h₀ h h' : Heap} (x : PI L I h₀ h) (y : Heap.ExtBut I h h') : PI L I h₀ h' :=
  ⟨fun b o hb hi e hd => let ⟨sl, e₁⟩ := x.d b o hb hi e hd; ⟨sl, y b _ hi e₁⟩, fun b o hb hi e hr => y b _ hi (x.r b o hb hi e hr)⟩
theorem PD.it {L : Addr} {h h' : Heap} (x : PD L h h') {I : Addr} (hL : I ≠ L) (hd : ∃ o, h.get? I = some o ∧ Rec o) : ∀ o, h.get? I = some o → h'.get? I = some o := fun o e => by
  obtain ⟨oI, eI, hr⟩ := hd
  rw [e] at eI; cases eI
  exact x.r I o hL e hr
section
variable {N : Loc → Heap → Prop} {R : Value → Heap → Prop} {Y : Loc → Addr → Heap → Prop}
theorem s_for {x : Str} {px pos : Pos} {iter : Expr} {body : List Stmt} (l : Live C c) (hl : c.env.kindOf x = some .local) (hs : ∀ x, foldedSetIterable iter c.env x = pure x) (Inv : Nat → Loc → Heap → Prop)
    (y : W C c k m (eval iter c.env) h (fun v h₁ => W C c k m (pyIter v) h₁ (fun it h₂ => ∃ I n P G St m₀, it = .ref I ∧ h₁.get? I = none ∧ It C I n P G St ∧ St 0 h₂ ∧ G h₂ ∧ Sub m m₀ ∧ Inv 0 m₀ h₂ ∧
        (∀ i v m₁ h₃, i < n → P i v → G h₃ → Inv i m₁ h₃ → ∀ h₄, Le h₃ h₄ → G h₄ → S C c k ((x, v) :: m₁) (execs body c.env) h₄ (fun m₅ h₅ => G h₅ ∧ ∃ m₆, Sub m₅ m₆ ∧ Inv (i + 1) m₆ h₅) R (fun _ _ _ => False)) ∧
        (∀ m₁ h₃, Inv n m₁ h₃ → ∀ h₄, Le h₃ h₄ → N m₁ h₄)) (fun a h' => Y m a h')) (fun a h' => Y m a h')) : S C c k m (exec (.For (.Name x px) iter body [] pos) c.env) h N R Y :=
  fun A s hA hss hh hn => wpAny_For (wpAny_mono (y A s hA hss hh hn) (fun v s₁ q => wpAny_mono (q.2.2.2 A s₁ hA q.1 rfl q.2.2.1) (fun it s₂ q2 => by
    obtain ⟨w1, w2, w3, I, n, P, G, St', m₀, rfl, hI, W, st0, g0, u0, i0, turn, fin⟩ := q2
    have hIL : I ≠ c.L := fun z => by
      obtain ⟨o, e, _⟩ := q.2.2.1.cls
      rw [← z, hI] at e; cases e
    have hIb : C.base.get? I = none := by
      cases e : C.base.get? I with
      | none => rfl
      | some o => have := q.1.stays _ _ e; rw [hI] at this; cases this
    refine codeAny_forLoop (fun kk s' => ∃ i m', kk = n + 1 - i ∧ i ≤ n ∧ St C c.frames s' ∧ PI c.L I s₁.heap s'.heap ∧ Ns c s'.heap m' ∧ Inv i m' s'.heap ∧ St' i s'.heap ∧ G s'.heap) ?_ (n + 1)
      ⟨0, m₀, rfl, Nat.zero_le _, w1, ⟨fun b o hb _ e hd => w2.d b o hb e hd, fun b o hb _ e hd => w2.r b o hb e hd⟩, w3.sub u0, i0, st0, g0⟩
    rintro kk s' ⟨i, m', rfl, hi, a1, a2, a3, a4, a5, a6⟩
    by_cases hlt : i < n
    · refine W.item i A s' _ _ hA.handled hlt a5 a6 fun v h₃ tk hP st1 hsb => ?_
      have hr := W.isRec i _ a5
      have le1 := le_iter hsb hr
      refine wpAny_assign_Name (w_store l (a1.iter hIb hsb hr tk) (ns_iter hsb hr a3) hl fun s₄ b1 b2 b3 b4 => ?_)
      have st2 := W.same _ _ s₄.heap st1 (b2.it hIL (W.isRec _ _ st1))
      refine wpAny_mono (turn i v m' _ hlt hP a6 a4 s₄.heap (le1.trans b4) (W.gle _ _ (le1.trans b4) a6) A s₄ hA b1 rfl b3) (fun fl s₅ r => ?_) (fun e s₅ r => by obtain ⟨_, _, _, _, _, _, r⟩ := r; exact r.elim)
      obtain ⟨r1, r2, m₅, r3, r4⟩ := r
      have pi : PI c.L I s₁.heap s₅.heap := ((a2.ext hsb).pd b2).pd r2
      cases fl with
      | next =>
        obtain ⟨g5, m₆, u, iv⟩ := r4
        exact ⟨n + 1 - (i + 1), by omega, i + 1, m₆, rfl, hlt, r1, pi, r3.sub u, iv, W.same _ _ _ st2 (r2.it hIL (W.isRec _ _ st2)), g5⟩
      | ret v => exact ⟨r1, q.2.1.trans ⟨fun b o hb e hd => pi.d b o hb (fun z => by rw [z, hI] at e; cases e) e hd, fun b o hb e hd => pi.r b o hb (fun z => by rw [z, hI] at e; cases e) e hd⟩, m₅, r3, r4⟩
      | brk => exact r4.elim
      | cont => exact r4.elim
    · have hin : i = n := by omega
      subst hin
      refine W.done A s' _ _ hA.handled a5 a6 fun h₃ tk hx => wpAny_execs_nil ?_
      have hr := W.isRec i _ a5
      have pi := a2.ext hx
      exact ⟨a1.iter hIb hx hr tk, q.2.1.trans ⟨fun b o hb e hd => pi.d b o hb (fun z => by rw [z, hI] at e; cases e) e hd, fun b o hb e hd => pi.r b o hb (fun z => by rw [z, hI] at e; cases e) e hd⟩, m', ns_iter hx hr a3, fin m' _ a4 h₃ (le_iter hx hr)⟩)
    (fun e s₂ r => ⟨r.1, q.2.1.trans r.2.1, m, r.2.2.1, r.2.2.2⟩)) fun e s₂ r => ⟨r.1, r.2.1, m, r.2.2.1, r.2.2.2⟩) hs
end
section
variable {Q : Value → Heap → Prop}
theorem it_bytes (d : List UInt8) (t : Tok) (I : Addr) : It C I d.length (fun i v => ∃ b u, d[i]? = some b ∧ v = .int (b.toNat : Int) u) (fun _ => True) (fun i h => KBw.IsBytesIter h I d.toArray t i) where
  item := fun i A s Q E hh hi st _ q => (KBw.walks (prog := C.prog) (w := C.w) hh I d.toArray t).item i s Q E (by simpa using hi) st fun v h' tk hp st' hk => q v h' tk (by obtain ⟨b, u, e1, e2⟩ := hp; exact ⟨b, u, by simpa using e1, e2⟩) st' fun b o hb e => hk b o (by simpa using hb) e
  done := fun A s Q E hh st _ q => (KBw.walks (prog := C.prog) (w := C.w) hh I d.toArray t).done s Q E (by simpa using st) fun h' tk hk => q h' tk fun b o hb e => hk b o (by simpa using hb) e
  isRec := fun i h st => by obtain ⟨o, e, e1, e2⟩ := st; exact ⟨o, e, ⟨_, e2⟩, _, e1, by decide⟩
  same := fun i h h' st k => by obtain ⟨o, e, r⟩ := st; exact ⟨o, k o e, r⟩
  gle := fun _ _ _ _ => trivial
  self := fun i A s Q E hh st q => (KBw.walks (prog := C.prog) (w := C.w) hh I d.toArray t).self i s Q E st q
theorem w_iterB {d : List UInt8} {t : Tok} (q : ∀ I h' St, Keep h h' → h.get? I = none → It C I d.length (fun i v => ∃ b u, d[i]? = some b ∧ v = .int (b.toNat : Int) u) (fun _ => True) St → St 0 h' → Q (.ref I) h') : W C c k m (pyIter (.bytes d.toArray t)) h Q X :=
  W.grow (P := fun v h' => ∃ I, v = .ref I ∧ h.get? I = none ∧ KBw.IsBytesIter h' I d.toArray t 0) (fun v h' kp ⟨I, e, p1, p2⟩ => e ▸ q I h' _ kp p1 (it_bytes d t I) p2) fun A s E Q' hA hh r => by
    subst hh
    exact KBw.pyIter_bytes (r _ _ _ (Keep.push _ _) ⟨_, rfl, Heap.get?_none_of_le (Nat.le_refl _), _, Heap.get?_push_size _ rfl, rfl, rfl⟩)
theorem le_isList {h h' : Heap} {l : Addr} {items : Array Value} (le : Le h h') (x : h.IsList l items) : h'.IsList l items := by
  obtain ⟨o, e, e1, n, e2⟩ := x
  obtain ⟨sl, e'⟩ := le l o e (fun vs q => by rw [e2] at q; cases q) (by rw [e1]; decide)
  exact ⟨_, e', e1, n, e2⟩
theorem le_isTuple {h h' : Heap} {l : Addr} {items : Array Value} (le : Le h h') (x : h.IsTuple l items) : h'.IsTuple l items := by
  obtain ⟨o, e, e1, n, e2⟩ := x
  obtain ⟨sl, e'⟩ := le l o e (fun vs q => by rw [e2] at q; cases q) (by rw [e1]; decide)
  exact ⟨_, e', e1, n, e2⟩
theorem it_list (l I : Addr) (items : List Value) : It C I items.length (fun i v => items[i]? = some v) (fun h => h.IsList l items.toArray) (fun i h => h.IsListIter I l i) where
  item := fun i A s Q E hh hi st g q => wpAny_pyNext_list_item st g (by simpa using List.getElem?_eq_getElem hi) fun h' st' hk => q _ h' s.toks (List.getElem?_eq_getElem hi) st' hk.extBut
  done := fun A s Q E hh st g q => wpAny_pyNext_list_end hh st g (by simp) fun h' hk => q h' s.toks hk
  isRec := fun i h st => by obtain ⟨o, e, e1, e2⟩ := st; exact ⟨o, e, ⟨_, e2⟩, _, e1, by decide⟩
  same := fun i h h' st k => by obtain ⟨o, e, r⟩ := st; exact ⟨o, k o e, r⟩
  gle := fun _ _ le g => le_isList le g
  self := fun i A s Q E hh st q => wpAny_pyIter_listiter st q
theorem w_iterL {l : Addr} {items : List Value} (hl : h.IsList l items.toArray) (q : ∀ I h' St, Keep h h' → h.get? I = none → It C I items.length (fun i v => items[i]? = some v) (fun h => h.IsList l items.toArray) St → St 0 h' → h'.IsList l items.toArray → Q (.ref I) h') : W C c k m (pyIter (.ref l)) h Q X :=
  W.grow (P := fun v h' => ∃ I, v = .ref I ∧ h.get? I = none ∧ h'.IsListIter I l 0) (fun v h' kp ⟨I, e, p1, p2⟩ => e ▸ q I h' _ kp p1 (it_list l I items) p2 (le_isList kp.le hl)) fun A s E Q' hA hh r => by
    subst hh
    exact wpAny_pyIter_list hl (r _ _ _ (Keep.push _ _) ⟨_, rfl, Heap.get?_none_of_le (Nat.le_refl _), _, Heap.get?_push_size _ rfl, rfl, rfl⟩)
end
end
-- Comp
section
variable {C : Cx} {c : Fc} {k : Nat} {m : Loc} {h : Heap} {X : Addr → Heap → Prop}
theorem Le.ext {h₀ h h' : Heap} {a : Addr} (x : Le h₀ h) (y : Heap.ExtBut a h h') (n : h₀.get? a = none) : Le h₀ h' := fun b o e hn hc =>
  let ⟨sl, e₁⟩ := x b o e hn hc
  ⟨sl, y b _ (fun z => by rw [z, n] at e; cases e) e₁⟩
theorem PD.ext {L : Addr} {h₀ h h' : Heap} {a : Addr} (x : PD L h₀ h) (y : Heap.ExtBut a h h') (n : h₀.get? a = none) : PD L h₀ h' :=
  ⟨fun b o hb e hd => let ⟨sl, e₁⟩ := x.d b o hb e hd; ⟨sl, y b _ (fun z => by rw [z, n] at e; cases e) e₁⟩, fun b o hb e hr => y b _ (fun z => by rw [z, n] at e; cases e) (x.r b o hb e hr)⟩
theorem PD.pd {L L' : Addr} {h₀ h h' : Heap} (x : PD L h₀ h) (y : PD L' h h') (n : h₀.get? L' = none) : PD L h₀ h' :=
  ⟨fun b o hb e hd => let ⟨_, e₁⟩ := x.d b o hb e hd; let ⟨sl, e₂⟩ := y.d b _ (fun z => by rw [z, n] at e; cases e) e₁ hd; ⟨sl, e₂⟩, fun b o hb e hr => y.r b _ (fun z => by rw [z, n] at e; cases e) (x.r b o hb e hr) hr⟩
theorem Ns.ext {h' : Heap} {a : Addr} (x : Ns c h m) (y : Heap.ExtBut a h h') (ne : c.L ≠ a) : Ns c h' m := by
  obtain ⟨f, hf, hq⟩ := x.ns
  obtain ⟨oL, e1, e2⟩ := x.cls
  exact ⟨⟨f, hf.extBut y ne, hq⟩, oL, y _ _ ne e1, e2⟩
theorem Ns.pd {h' : Heap} {L' : Addr} (x : Ns c h m) (y : PD L' h h') (ne : c.L ≠ L') : Ns c h' m := by
  obtain ⟨f, hf, hq⟩ := x.ns
  obtain ⟨oL, e1, e2⟩ := x.cls
  obtain ⟨o, es, ep, e, d, r⟩ := hf
  cases e.symm.trans e1
  obtain ⟨sl, e'⟩ := y.d _ _ ne e ⟨_, _, d⟩
  exact ⟨⟨f, ⟨_, es, ep, e', d, r⟩, hq⟩, _, e', e2⟩
/-- the frame of a comprehension -/
abbrev Fc.comp (c : Fc) (scope : Scope) (L : Addr) : Fc :=
  ⟨{ scope := scope, locals := L, globals := c.env.globals, cells := [], qual := c.env.qual, func := none, code := c.env.code, frame := c.env.frame, builtins := c.env.builtins }, c.frames, "dict", c.hg, c.hb⟩
/-- what a comprehension has made of the first items -/
inductive Res (P : Nat → Value → Prop) (pf : Nat → Bool) (F : Nat → Value → Value → Prop) : Nat → List Value → Prop
  | nil : Res P pf F 0 []
  | skip {i : Nat} {ys : List Value} {v : Value} : Res P pf F i ys → P i v → pf i = false → Res P pf F (i + 1) ys
  | take {i : Nat} {ys : List Value} {v w : Value} : Res P pf F i ys → P i v → pf i = true → F i v w → Res P pf F (i + 1) (ys ++ [w])
theorem Res.length_le {P : Nat → Value → Prop} {pf : Nat → Bool} {F : Nat → Value → Value → Prop} {n : Nat} {ys : List Value} (r : Res P pf F n ys) : ys.length ≤ n := by
  induction r with
  | nil => exact Nat.le_refl _
  | skip _ _ _ ih => exact Nat.le_succ_of_le ih
  | take _ _ _ _ ih => rw [List.length_append]; exact Nat.succ_le_succ ih
def tst (ifs : List Expr) (env : Env) : Sem Bool := forIn ifs true fun c r => if r = true then do let ok ← isTrue c env (eval c env); pure (ForInStep.yield ok) else pure (ForInStep.yield r)
theorem w_tst0 {env : Env} {Q : Bool → Heap → Prop} (q : Q true h) : W C c k m (tst [] env) h Q X := W.pure q
theorem w_tst1 {e : Expr} {env : Env} {Q : Bool → Heap → Prop} (x : W C c k m (isTrue e env (eval e env)) h Q X) : W C c k m (tst [e] env) h Q X := fun A s hA hs hh hn => by
  unfold tst
  rw [List.forIn_cons]
  rw [if_pos rfl]
  refine wpAny_bind (wpAny_bind (wpAny_mono (x A s hA hs hh hn) (fun b s' q => wpAny_pure ?_) fun _ _ q => q))
  show wpAny _ _ (forIn [] b _) _ _ s'
  rw [List.forIn_nil]
  exact wpAny_pure q
theorem newEnvComp {M : Model} {A : Around} {E : Value → Shared → Prop} {s : Shared} {scope : Scope} {env : Env} {Q : Env → Shared → Prop} (hc : ∀ x ∈ scope.names, x.2 ≠ .cell)
    (q : Q { scope := scope, locals := s.heap.objs.size, globals := env.globals, cells := [], qual := env.qual, func := none, code := env.code, frame := env.frame, builtins := env.builtins } { s with heap := s.heap.push { cls := .type "dict", data := .dict #[] } }) :
    wpAny M A (newFunctionEnv scope env.globals [] [] env.qual none .none (some env)) Q E s := by
  simp only [newFunctionEnv, Option.isSome_some, if_true]
  refine wpAny_bind (wpAny_alloc ?_)
  rw [forIn_yield_id [] (fun x hx c => by
    obtain ⟨name, kind⟩ := x
    have : (kind == NameKind.cell) = false := by simpa using hc _ hx
    simp only [this, Bool.false_eq_true, if_false])]
  exact wpAny_bind (wpAny_pure (wpAny_bind (wpAny_pure (wpAny_pure q))))
theorem funFrames_ext {base h₀ h h' : Heap} {a : Addr} (hx : Heap.ExtBut a h h') (n : h₀.get? a = none) : ∀ {l : List Env}, h₀.FunFrames base l → h.FunFrames base l → h'.FunFrames base l
  | [], _, _ => trivial
  | env :: rest, ⟨_, ⟨L₀, o₀, hf₀, _, ho₀, _⟩, hr₀⟩, ⟨hk, ⟨L, o, hf, hn, ho, hd⟩, hr⟩ => ⟨hk, ⟨L, o, hf, hn, hx _ _ (fun z => by rw [hf] at hf₀; cases hf₀; rw [z, n] at ho₀; cases ho₀) ho, hd⟩, funFrames_ext hx n hr₀ hr⟩
theorem St.upd {s : Shared} {h' : Heap} {a : Addr} {frames : List Env} (hs : St C frames s) (hb : C.base.get? a = none) (hsb : Heap.SameBut a s.heap h') (hd : ∃ o, h'.get? a = some o ∧ ∀ vs, o.data ≠ .fields vs) (tk : Nat) :
    St C frames { s with heap := h', toks := tk } := hs.store hb hsb hd tk
theorem comp_loop {elt iter : Expr} {x : Str} {px pos : Pos} {ifs : List Expr} {scope : Scope} {I D L' : Addr} {n : Nat} {P : Nat → Value → Prop} {G : Heap → Prop} {St' : Nat → Heap → Prop} {A : Around} {R : Result → Shared → Prop} {h₁ h₂ : Heap} (pf : Nat → Bool) (F : Nat → Value → Value → Prop)
    (W : It C I n P G St') (hA : Room A c.frames k) (hz : n ≤ sizeLine) (hkind : scope.kind = .function) (hx : scope.names.lookup x = some .local)
    (nI1 : h₁.get? I = none) (nD : h₂.get? D = none) (nD1 : h₁.get? D = none) (nL : h₂.get? L' = none) (nL1 : h₁.get? L' = none) (bI : C.base.get? I = none) (bD : C.base.get? D = none) (bL : C.base.get? L' = none)
    (hDI : D ≠ I) (hLI : L' ≠ I) (hLD : L' ≠ D) (cL : c.L ≠ L') (cD : c.L ≠ D) (cI : c.L ≠ I)
    (turn : ∀ i v h₄, i < n → P i v → Le h₂ h₄ → G h₄ → Mine.W C (c.comp scope L') k [(x, v)] (tst ifs (c.comp scope L').env) h₄ (fun b h₅ => Le h₄ h₅ ∧ b = pf i ∧
          (b = true → Mine.W C (c.comp scope L') k [(x, v)] (eval elt (c.comp scope L').env) h₅ (fun w h₆ => Le h₅ h₆ ∧ F i v w) (fun _ _ => False))) (fun _ _ => False))
    (hR : ∀ s' ys, St C c.frames s' → PD c.L h₁ s'.heap → Ns c s'.heap m → (∃ mf, s'.heap.Ns L' mf) → Le h₂ s'.heap → Res P pf F n ys → s'.heap.IsList D ys.toArray → R (.ok .next) s')
    (s' : Shared) (a1 : St C c.frames s') (a2 : PD c.L h₁ s'.heap) (a3 : Ns c s'.heap m) (a4 : ∃ mf, s'.heap.Ns L' mf) (a5 : ∃ o, s'.heap.get? L' = some o ∧ o.cls = .type "dict") (a6 : Le h₂ s'.heap) (a7 : s'.heap.IsList D #[]) (a8 : St' 0 s'.heap) (g2 : G h₂) :
    codeAny (model C.prog C.w) A (.compLoop (.ListComp elt [⟨.Name x px, iter, ifs, 0⟩] scope pos) 0 (.ref I) (.ref D) (c.comp scope L').env) R s' := by
  refine codeAny_compLoop_tests (fun kk s' => ∃ i ys, kk = n + 1 - i ∧ i ≤ n ∧ St C c.frames s' ∧ PD c.L h₁ s'.heap ∧ Ns c s'.heap m ∧ (∃ mf, s'.heap.Ns L' mf) ∧ (∃ o, s'.heap.get? L' = some o ∧ o.cls = .type "dict") ∧ Le h₂ s'.heap ∧
    Res P pf F i ys ∧ s'.heap.IsList D ys.toArray ∧ St' i s'.heap) ?_ (n + 1) ⟨0, [], rfl, Nat.zero_le _, a1, a2, a3, a4, a5, a6, .nil, a7, a8⟩
  clear a1 a2 a3 a4 a5 a6 a7 a8 s'
  rintro kk s' ⟨i, ys, rfl, hi, a1, a2, a3, ⟨mf, a4⟩, ⟨oL, a5, a5'⟩, a6, ar, a7, a8⟩
  have rI := W.isRec _ _ a8
  by_cases hlt : i < n
  · refine W.item i A s' _ _ hA.handled hlt a8 (W.gle _ _ a6 g2) fun v h₃ tk hP st1 hx1 => ?_
    have le1 := le_iter hx1 rI
    refine wpAny_assign_Name (wpAny_storeC (env := (c.comp scope L').env) hx (a4.extBut hx1 hLI) ⟨oL, hx1 _ _ hLI a5, a5'⟩ (fun h₄ hn4 hc4 hs4 => ?_) (by show (scope.kind == .class || (scope.kind == .module && _)) = false; rw [hkind]; rfl))
    have hs4 : Heap.SameBut L' h₃ h₄ := hs4
    have hn4 : h₄.Ns L' _ := hn4
    have b1 : St C c.frames { s' with heap := h₄, toks := tk + 1 } := (a1.iter bI hx1 rI tk).upd bL hs4 (by obtain ⟨o, es, ep, e, d, _⟩ := hn4; exact ⟨o, e, fun vs z => by rw [d] at z; cases z⟩) _
    have b2 : PD c.L h₁ h₄ := (a2.ext hx1 nI1).ext hs4.extBut nL1
    have b3 : Ns c h₄ m := (a3.ext hx1 cI).ext hs4.extBut cL
    have b6 : Le h₂ h₄ := (a6.trans le1).ext hs4.extBut nL
    have b7 : h₄.IsList D ys.toArray := by
      obtain ⟨o, e, r⟩ := a7
      exact ⟨o, hs4.extBut _ _ hLD.symm (hx1 _ _ hDI e), r⟩
    have b8 := W.same _ _ h₄ st1 fun o e => hs4.extBut _ _ hLI.symm e
    have b9 : G h₄ := W.gle _ _ b6 g2
    refine wpAny_mono (turn i v h₄ hlt hP b6 b9 A { s' with heap := h₄, toks := tk + 1 } hA b1 rfl ⟨⟨_, hn4, fun y w z => by
      rw [List.lookup_cons] at z
      cases hy : y == x with
      | true => rw [hy] at z; rw [if_pos (eq_of_beq hy)]; exact z
      | false => rw [hy] at z; cases z⟩, hc4⟩) (fun b s₅ q => ?_) (fun e s₅ q => by obtain ⟨_, _, _, _, _, q⟩ := q; exact q.elim)
    obtain ⟨q1, q2, q3, le5, hb, q4⟩ := q
    have c2 : PD c.L h₁ s₅.heap := b2.pd q2 nL1
    have c3 : Ns c s₅.heap m := b3.pd q2 cL
    have c7 := le_isList le5 b7
    have c8 := W.same _ _ s₅.heap b8 (q2.it hLI.symm (W.isRec _ _ b8))
    by_cases hbt : b = true
    · rw [if_pos hbt]
      refine wpAny_mono (q4 hbt A s₅ hA q1 rfl q3) (fun w s₆ r => ?_) (fun e s₅ q => by obtain ⟨_, _, _, _, _, q⟩ := q; exact q.elim)
      obtain ⟨r1, r2, r3, le6, hF⟩ := r
      have d7 := le_isList le6 c7
      have hyz : ys.toArray.size ≤ sizeLine := by rw [List.size_toArray]; exact Nat.le_trans ar.length_le (Nat.le_trans hi hz)
      refine wpAny_list_append d7 (fun h₇ hl7 hs7 => ?_) hyz
      have e1 : St C c.frames { s₆ with heap := h₇ } := r1.upd bD hs7 (by obtain ⟨o, e, _, n, d⟩ := hl7; exact ⟨o, e, fun vs z => by rw [d] at z; cases z⟩) _
      obtain ⟨mf6, hmf6, _⟩ := r3.ns
      obtain ⟨o6, ho6, hc6⟩ := r3.cls
      refine ⟨n + 1 - (i + 1), by omega, i + 1, ys ++ [w], rfl, hlt, e1, (c2.pd r2 nL1).ext hs7.extBut nD1, (c3.pd r2 cL).ext hs7.extBut cD, ⟨_, Heap.Ns.extBut hmf6 hs7.extBut hLD⟩, ⟨o6, hs7.extBut _ _ hLD ho6, hc6⟩,
        ((b6.trans le5).trans le6).ext hs7.extBut nD, .take ar hP (hb ▸ hbt) hF, by simpa using hl7, ?_⟩
      · exact W.same _ _ _ c8 fun o e => hs7.extBut _ _ hDI.symm (r2.it hLI.symm (W.isRec _ _ c8) o e)
    · rw [if_neg hbt]
      obtain ⟨mf6, hmf6, _⟩ := q3.ns
      exact ⟨n + 1 - (i + 1), by omega, i + 1, ys, rfl, hlt, q1, c2, c3, ⟨_, hmf6⟩, q3.cls, b6.trans le5, .skip ar hP (by rw [← hb]; simpa using hbt), c7, c8⟩
  · have hin : i = n := by omega
    subst hin
    refine W.done A s' _ _ hA.handled a8 (W.gle _ _ a6 g2) fun h₃ tk hx1 => ?_
    refine hR { s' with heap := h₃, toks := tk } ys (a1.iter bI hx1 rI tk) (a2.ext hx1 nI1) (a3.ext hx1 cI) ⟨_, a4.extBut hx1 hLI⟩ (a6.trans (le_iter hx1 rI)) ar ?_
    obtain ⟨o, e, r⟩ := a7
    exact ⟨o, hx1 _ _ hDI e, r⟩
theorem w_comp {elt iter : Expr} {x : Str} {px pos : Pos} {ifs : List Expr} {scope : Scope} {Q : Value → Heap → Prop} (pf : Nat → Bool) (F : Nat → Value → Value → Prop)
    (hfree : ∀ x ∈ scope.names, x.2 ≠ .free) (hkind : scope.kind = .function) (hnames : ∀ x ∈ scope.names, x.2 = .local → scope.names.lookup x.1 = some .local) (hcell : ∀ x ∈ scope.names, x.2 ≠ .cell) (hx : scope.names.lookup x = some .local)
    (hs : ∀ x, foldedSetIterable iter c.env x = Pure.pure x)
    (y : W C c k m (eval iter c.env) h (fun v h₁ => W C c k m (pyIter v) h₁ (fun it h₂ => ∃ I n P G St, it = .ref I ∧ Keep h₁ h₂ ∧ h₁.get? I = none ∧ It C I n P G St ∧ St 0 h₂ ∧ G h₂ ∧ n ≤ sizeLine ∧
        (∀ L i v h₄, i < n → P i v → Le h₂ h₄ → G h₄ → W C (c.comp scope L) k [(x, v)] (tst ifs (c.comp scope L).env) h₄ (fun b h₅ => Le h₄ h₅ ∧ b = pf i ∧
          (b = true → W C (c.comp scope L) k [(x, v)] (eval elt (c.comp scope L).env) h₅ (fun w h₆ => Le h₅ h₆ ∧ F i v w) (fun _ _ => False))) (fun _ _ => False)) ∧
        (∀ D ys h₆, Le h₂ h₆ → h₂.get? D = none → Res P pf F n ys → h₆.IsList D ys.toArray → Q (.ref D) h₆)) X) X) :
    W C c k m (eval (.ListComp elt [⟨.Name x px, iter, ifs, 0⟩] scope pos) c.env) h Q X := fun A s hA hss hh hn => by
  refine wpAny_ListComp hfree hkind hnames (wpAny_mono (y A s hA hss hh hn) (fun v s₁ q => wpAny_mono (q.2.2.2 A s₁ hA q.1 rfl q.2.2.1) (fun it s₂ q2 => ?_) (fun e s₂ r => ⟨r.1, q.2.1.trans r.2.1, r.2.2⟩)) fun _ _ r => r) hs
  obtain ⟨w1, w2, w3, I, n, P, G, St', rfl, kp12, hI, W, st0, g0, hz, turn, fin⟩ := q2
  have rI := W.isRec _ _ st0
  have lI : I < s₂.heap.objs.size := by obtain ⟨o, e, _⟩ := rI; exact Heap.lt_size e
  have lL2 : c.L < s₂.heap.objs.size := by obtain ⟨o, e, _⟩ := w3.cls; exact Heap.lt_size e
  have hLI : c.L ≠ I := fun z => by obtain ⟨o, e, _⟩ := q.2.2.1.cls; rw [z, hI] at e; cases e
  have n2 : ∀ a, s₂.heap.get? a = none → C.base.get? a = none := fun a ha => by
    cases e : C.base.get? a with
    | none => rfl
    | some o => have := w1.stays _ _ e; rw [ha] at this; cases this
  have bI : C.base.get? I = none := by
    cases e : C.base.get? I with
    | none => rfl
    | some o => have := q.1.stays _ _ e; rw [hI] at this; cases this
  refine wpAny_newObj_type ?_ (by show (#[] : Array Value).size ≤ sizeLine; exact Nat.zero_le _)
  refine newEnvComp hcell ?_
  obtain ⟨D, hD⟩ : ∃ D, D = s₂.heap.objs.size := ⟨_, rfl⟩
  obtain ⟨h3, hh3⟩ : ∃ h3, h3 = s₂.heap.push { cls := .type "list", dict := none, data := .seq #[] } := ⟨_, rfl⟩
  obtain ⟨L', hL'⟩ : ∃ L', L' = h3.objs.size := ⟨_, rfl⟩
  obtain ⟨h4, hh4⟩ : ∃ h4, h4 = h3.push { cls := .type "dict", data := .dict #[] } := ⟨_, rfl⟩
  have sz3 : h3.objs.size = s₂.heap.objs.size + 1 := by rw [hh3]; exact Heap.size_push ..
  have kp3 : Keep s₂.heap h3 := by rw [hh3]; exact Keep.push _ _
  have kp4 : Keep h3 h4 := by rw [hh4]; exact Keep.push _ _
  have eD : h3.get? D = some { cls := .type "list", data := .seq #[] } := by rw [hh3, hD]; exact Heap.get?_push_size _ rfl
  have eL : h4.get? L' = some { cls := .type "dict", data := .dict #[] } := by rw [hh4, hL']; exact Heap.get?_push_size _ rfl
  have nsL : h4.Ns L' (fun _ => none) := by rw [hh4, hL']; exact Heap.Ns.new ..
  rw [← hD, ← hh3]
  show codeAny _ _ (.compStart _ 0 (.ref I) (.ref D) (c.comp scope h3.objs.size).env) _ { s₂ with heap := h3.push _ }
  rw [← hL', ← hh4]
  have kp := kp3.trans kp4
  have fD : s₂.heap.get? D = none := Heap.get?_none_of_le (by omega)
  have fL : s₂.heap.get? L' = none := Heap.get?_none_of_le (by omega)
  have f1 : ∀ a, s₂.heap.get? a = none → ∀ T, (∃ o, s₂.heap.get? T = some o) → T ≠ a := fun a ha T ⟨o, e⟩ z => by rw [z, ha] at e; cases e
  have st4 : St C c.frames { s₂ with heap := h4 } := w1.at (s' := { s₂ with heap := h4 }) kp rfl rfl
  have n1 : ∀ a, s₂.heap.objs.size ≤ a → s₁.heap.get? a = none := fun a ha => by
    cases e : s₁.heap.get? a with
    | none => rfl
    | some o => exact absurd (Heap.lt_size (kp12 _ _ e)) (Nat.not_lt.mpr ha)
  have lI := ltN lI
  have lL2 := ltN lL2
  have hDI : D ≠ I := neN (by omega)
  have hLI' : L' ≠ I := neN (by omega)
  have hLD : L' ≠ D := neN (by omega)
  have hcL : c.L ≠ L' := neN (by omega)
  have hcD : c.L ≠ D := neN (by omega)
  have nD1 : s₁.heap.get? D = none := n1 _ (Nat.le_of_eq hD.symm)
  have nL1 : s₁.heap.get? L' = none := n1 _ (by omega)
  have key : ∀ R : Result → Shared → Prop, (∀ s' ys, St C c.frames s' → PD c.L s₁.heap s'.heap → Ns c s'.heap m → (∃ mf, s'.heap.Ns L' mf) → Le s₂.heap s'.heap → Res P pf F n ys → s'.heap.IsList D ys.toArray → R (.ok .next) s') →
      codeAny (model C.prog C.w) A (.compLoop (.ListComp elt [⟨.Name x px, iter, ifs, 0⟩] scope pos) 0 (.ref I) (.ref D) (c.comp scope L').env) R { s₂ with heap := h4 } := fun R hR =>
    comp_loop pf F W hA hz hkind hx hI fD nD1 fL nL1 bI (n2 _ fD) (n2 _ fL) hDI hLI' hLD hcL hcD hLI (turn L') hR _ st4
      ⟨fun b o hb e hd => by obtain ⟨sl, e'⟩ := w2.d b o hb e hd; exact ⟨sl, kp _ _ e'⟩, fun b o hb e hr => kp _ _ (w2.r b o hb e hr)⟩ (w3.keep kp) ⟨_, nsL⟩ ⟨_, eL, rfl⟩ kp.le ⟨_, kp4 _ _ eD, rfl, _, rfl⟩ (W.same _ _ h4 st0 fun o e => kp _ _ e) g0
  refine codeAny_compStart_list (key _ ?_) (W.self _ _ _ _ _ hA.handled (W.same _ _ h4 st0 fun o e => kp _ _ e) (key _ ?_))
  all_goals
    intro s' ys b1 b2 b3 b4 b5 b6 b7
    obtain ⟨mf, b4⟩ := b4
    refine ⟨mf, b4, fun h' hs' => ?_⟩
    have hs' : Heap.SameBut L' s'.heap h' := hs'
    obtain ⟨oD, e7, r7⟩ := b7
    refine ⟨?_, q.2.1.trans (b2.ext hs'.extBut nL1), b3.ext hs'.extBut hcL, fin D ys h' (b5.ext hs'.extBut fL) fD b6 ⟨oD, hs'.extBut _ _ hLD.symm e7, r7⟩⟩
    exact ⟨b1.gens, b1.os, fun b o e => hs'.extBut _ _ (fun z => by rw [z, n2 _ fL] at e; cases e) (b1.stays b o e), funFrames_ext hs'.extBut fL w1.frames b1.frames⟩
end
-- Pure1
section
open Builtin
theorem find_shift {α : Type} (q : α → Bool) : ∀ (l : List α) (lo : Nat) (p : Nat → Bool), (∀ i (hi : i < l.length), p (i + lo) = q l[i]) → ((List.range l.length).map (· + lo)).find? p = (l.findIdx? q).map (· + lo)
  | [], lo, p, _ => rfl
  | a :: l, lo, p, h => by
    rw [List.length_cons, List.range_succ_eq_map, List.map_cons, List.find?_cons, List.findIdx?_cons]
    have h0 := h 0 (by simp)
    simp only [Nat.zero_add, List.getElem_cons_zero] at h0 ⊢
    rw [h0]
    cases hq : q a with
    | true => simp
    | false =>
      have ih := find_shift q l (lo + 1) p fun i hi => by
        have := h (i + 1) (by simp; omega)
        simp only [List.getElem_cons_succ] at this
        rw [← this]; congr 1; omega
      simp only [Bool.false_eq_true, if_false, Option.map_map]
      have e : ((fun x => x + lo) ∘ Nat.succ) = fun x => x + (lo + 1) := by funext x; simp [Function.comp]; omega
      rw [List.map_map, e, ih]
theorem fnd_eq (d : List UInt8) (x : UInt8) (a b : Nat) : fnd d x a b = match ((d.take b).drop a).findIdx? (· == x) with | some i => ((a + i : Nat) : Int) | none => -1 := by
  unfold fnd
  have hmin : Min.min (d.length : Int) (b : Int) = ((Min.min d.length b : Nat) : Int) := by omega
  rw [hmin]
  have hlen : ((d.take b).drop a).length = Min.min d.length b - a := by simp; omega
  by_cases hlt : ((Min.min d.length b : Nat) : Int) - (a : Int) < 1
  · rw [if_pos hlt]
    have : (d.take b).drop a = [] := List.eq_nil_of_length_eq_zero (by rw [hlen]; omega)
    rw [this]; rfl
  · rw [if_neg hlt]
    simp only [Option.bind_some, Int.toNat_natCast]
    have key := find_shift (· == x) ((d.take b).drop a) a (fun i => d.toArray.extract i (i + 1) == #[x]) (fun i hi => by
      have hi2 : i + a < d.length := by rw [hlen] at hi; omega
      have e1 : d.toArray.extract (i + a) (i + a + 1) = #[d[i + a]] := by
        apply Array.ext'
        rw [Array.toList_extract]
        simp only [List.extract_eq_drop_take']
        have : i + a + 1 - (i + a) = 1 := by omega
        rw [List.drop_take, this, List.drop_eq_getElem_cons hi2]
        rfl
      rw [e1]
      have e2 : ((d.take b).drop a)[i] = d[i + a] := by simp [List.getElem_drop, List.getElem_take, Nat.add_comm]
      rw [e2]
      by_cases hx : d[i + a] = x
      · rw [hx]; simp
      · have h1 : (#[d[i + a]] == #[x]) = false := by simpa using hx
        have h2 : (d[i + a] == x) = false := by simpa using hx
        rw [h1, h2])
    unfold Bytes.find?
    have e3 : Min.min d.length b + 1 - (a + (#[x] : Array UInt8).size) = ((d.take b).drop a).length := by rw [hlen]; simp
    rw [e3]
    have e4 : (fun i => d.toArray.extract i (i + (#[x] : Array UInt8).size) == #[x]) = (fun i => d.toArray.extract i (i + 1) == #[x]) := rfl
    rw [e4, key]
    cases ((d.take b).drop a).findIdx? (· == x) with
    | none => rfl
    | some i => show (((i + a : Nat)) : Int) = ((a + i : Nat) : Int); omega
end
-- Prog
section
def topS : List Stmt := PySem.Challenge.pw_no0374_01.main.body
def bodyOf : Option Stmt → List Stmt
  | some (.FunctionDef _ _ b _ _ _ _ _ _ _) => b
  | some (.ClassDef _ _ _ b _ _ _ _ _ _ _) => b
  | _ => []
def argsOf : Option Stmt → Arguments
  | some (.FunctionDef _ a _ _ _ _ _ _ _ _) => a
  | _ => default
def scopeOf : Option Stmt → Scope
  | some (.FunctionDef _ _ _ _ _ _ s _ _ _) => s
  | _ => default
def B (i : Nat) : List Stmt := bodyOf topS[i]?
def PA (i : Nat) : Arguments := argsOf topS[i]?
def SC (i : Nat) : Scope := scopeOf topS[i]?
/-- a method: the class's statement, the method's -/
def BM (i j : Nat) : List Stmt := bodyOf (B i)[j]?
def PM (i j : Nat) : Arguments := argsOf (B i)[j]?
def SM (i j : Nat) : Scope := scopeOf (B i)[j]?
structure FieldOk (C : Cx) : Prop where
  makes : makesIn C.K 103 = true
  init : findIn C.K (.ref 103) "__init__" = some (some (.ref 88))
  initT : typeIn C.K (.ref 88) = some (.type "function")
  sa : findIn C.K (.ref 103) "__setattr__" = some (some (.builtin "object.__setattr__"))
  over : plainOver C.K 103 = true
  takeN : takerIn C.K 103 "name" = some none
  takeR : takerIn C.K 103 "raw" = some none
  dict : hasDictIn C.K 103 = true
  ga : plainGet C.K 103 "name" = true
  fn : findIn C.K (.ref 103) "name" = some none
  fr : findIn C.K (.ref 103) "raw" = some none
  word : findIn C.K (.ref 103) "word" = some (some (.ref 93))
  wordT : typeIn C.K (.ref 93) = some (.type "function")
  f88 : FnAt C 88 "Field.__init__" (PM 9 0) (BM 9 0) (SM 9 0) .none .none
  f93 : FnAt C 93 "Field.word" (PM 9 1) (BM 9 1) (SM 9 1) .none .none
  keepWord : keepIn C.K (.ref 93) = true
structure FaultOk (C : Cx) : Prop where
  obj : ∃ nm q N bs sn sub col dd k0 k1 k2 k3 k5, C.K.lookup 59 = some (excClassObj nm q 59 N bs [.ref 46, .type "Exception", .type "BaseException", .type "object"] true sn sub false col dd k0 k1 k2 k3 k5 "Exception.__new__")
  init : findIn C.K (.ref 59) "__init__" = some (some (.ref 36))
  initT : typeIn C.K (.ref 36) = some (.type "function")
  sa : findIn C.K (.ref 59) "__setattr__" = some (some (.builtin "object.__setattr__"))
  what : findIn C.K (.ref 59) "what" = some none
  at_ : findIn C.K (.ref 59) "at" = some none
  call : specialIn C.K (.ref 59) "__call__" = some (some (.builtin "type.__call__"))
  typ : instIn C.K (.ref 59) (.type "type") = some true
  dflt : ∃ o n tk, C.K.lookup 29 = some o ∧ o.data = .seq #[.int (-1) tk] n
  excInit : findCls C.K (.type "Exception") (.type "type") "__init__" = some (.val (.builtin "Exception.__init__"))
  f36 : FnAt C 36 "PostError.__init__" (PM 2 0) (BM 2 0) (SM 2 0) (.ref 29) .none
structure Tops (C : Cx) : Prop extends TopOk C where
  field : FieldOk C
  fault : FaultOk C
  f_lower_code : (C.mg "lower_code" = some (.ref 68) ∧ keepIn C.K (.ref 68) = true) ∧ FnAt C 68 "lower_code" (PA 5) (B 5) (SC 5) .none .none
  f_lower_text : (C.mg "lower_text" = some (.ref 73) ∧ keepIn C.K (.ref 73) = true) ∧ FnAt C 73 "lower_text" (PA 6) (B 6) (SC 6) .none .none
  f_line_at : (C.mg "line_at" = some (.ref 114) ∧ keepIn C.K (.ref 114) = true) ∧ FnAt C 114 "line_at" (PA 10) (B 10) (SC 10) .none .none
  f_is_name : (C.mg "is_name" = some (.ref 121) ∧ keepIn C.K (.ref 121) = true) ∧ FnAt C 121 "is_name" (PA 11) (B 11) (SC 11) .none .none
  f_colon_in : (C.mg "colon_in" = some (.ref 128) ∧ keepIn C.K (.ref 128) = true) ∧ FnAt C 128 "colon_in" (PA 12) (B 12) (SC 12) .none .none
  f_read_spans : (C.mg "read_spans" = some (.ref 136) ∧ keepIn C.K (.ref 136) = true) ∧ FnAt C 136 "read_spans" (PA 13) (B 13) (SC 13) (.ref 129) .none
  f_read_fields : (C.mg "read_fields" = some (.ref 142) ∧ keepIn C.K (.ref 142) = true) ∧ FnAt C 142 "read_fields" (PA 14) (B 14) (SC 14) (.ref 137) .none
  f_rows_of : (C.mg "rows_of" = some (.ref 149) ∧ keepIn C.K (.ref 149) = true) ∧ FnAt C 149 "rows_of" (PA 15) (B 15) (SC 15) .none .none
  f_unfolded : (C.mg "unfolded" = some (.ref 156) ∧ keepIn C.K (.ref 156) = true) ∧ FnAt C 156 "unfolded" (PA 16) (B 16) (SC 16) .none .none
  f_first_body : (C.mg "first_body" = some (.ref 163) ∧ keepIn C.K (.ref 163) = true) ∧ FnAt C 163 "first_body" (PA 17) (B 17) (SC 17) .none .none
  f_is_atom_code : (C.mg "is_atom_code" = some (.ref 171) ∧ keepIn C.K (.ref 171) = true) ∧ FnAt C 171 "is_atom_code" (PA 22) (B 22) (SC 22) .none .none
  f_line_end : (C.mg "line_end" = some (.ref 178) ∧ keepIn C.K (.ref 178) = true) ∧ FnAt C 178 "line_end" (PA 23) (B 23) (SC 23) .none .none
  f_inside_at : (C.mg "inside_at" = some (.ref 185) ∧ keepIn C.K (.ref 185) = true) ∧ FnAt C 185 "inside_at" (PA 24) (B 24) (SC 24) .none .none
  f_closed_at : (C.mg "closed_at" = some (.ref 192) ∧ keepIn C.K (.ref 192) = true) ∧ FnAt C 192 "closed_at" (PA 25) (B 25) (SC 25) .none .none
  f_escaped_octets : (C.mg "escaped_octets" = some (.ref 206) ∧ keepIn C.K (.ref 206) = true) ∧ FnAt C 206 "escaped_octets" (PA 27) (B 27) (SC 27) .none .none
  f_is_run_code : (C.mg "is_run_code" = some (.ref 213) ∧ keepIn C.K (.ref 213) = true) ∧ FnAt C 213 "is_run_code" (PA 32) (B 32) (SC 32) .none .none
  f_is_run : (C.mg "is_run" = some (.ref 218) ∧ keepIn C.K (.ref 218) = true) ∧ FnAt C 218 "is_run" (PA 33) (B 33) (SC 33) .none .none
  f_run_at : (C.mg "run_at" = some (.ref 225) ∧ keepIn C.K (.ref 225) = true) ∧ FnAt C 225 "run_at" (PA 34) (B 34) (SC 34) .none .none
  f_check_plain : (C.mg "check_plain" = some (.ref 232) ∧ keepIn C.K (.ref 232) = true) ∧ FnAt C 232 "check_plain" (PA 35) (B 35) (SC 35) .none .none
  f_id_at : (C.mg "id_at" = some (.ref 237) ∧ keepIn C.K (.ref 237) = true) ∧ FnAt C 237 "id_at" (PA 36) (B 36) (SC 36) .none .none
  f_read_ids : (C.mg "read_ids" = some (.ref 251) ∧ keepIn C.K (.ref 251) = true) ∧ FnAt C 251 "read_ids" (PA 38) (B 38) (SC 38) .none .none
  f_sides_of : (C.mg "sides_of" = some (.ref 256) ∧ keepIn C.K (.ref 256) = true) ∧ FnAt C 256 "sides_of" (PA 39) (B 39) (SC 39) .none .none
  f_id_octets : (C.mg "id_octets" = some (.ref 263) ∧ keepIn C.K (.ref 263) = true) ∧ FnAt C 263 "id_octets" (PA 40) (B 40) (SC 40) .none .none
  f_write_ids : (C.mg "write_ids" = some (.ref 268) ∧ keepIn C.K (.ref 268) = true) ∧ FnAt C 268 "write_ids" (PA 41) (B 41) (SC 41) .none .none
  f_ids_in : (C.mg "ids_in" = some (.ref 275) ∧ keepIn C.K (.ref 275) = true) ∧ FnAt C 275 "ids_in" (PA 42) (B 42) (SC 42) .none .none
  f_thread_ids : (C.mg "thread_ids" = some (.ref 282) ∧ keepIn C.K (.ref 282) = true) ∧ FnAt C 282 "thread_ids" (PA 43) (B 43) (SC 43) .none .none
  f_law_pot : (C.mg "_law_pot" = some (.ref 287) ∧ keepIn C.K (.ref 287) = true) ∧ FnAt C 287 "_law_pot" (PA 45) (B 45) (SC 45) .none .none
  f_law_draw : (C.mg "_law_draw" = some (.ref 294) ∧ keepIn C.K (.ref 294) = true) ∧ FnAt C 294 "_law_draw" (PA 46) (B 46) (SC 46) .none .none
  f_law_names : (C.mg "_law_names" = some (.ref 301) ∧ keepIn C.K (.ref 301) = true) ∧ FnAt C 301 "_law_names" (PA 47) (B 47) (SC 47) .none .none
  f_law_ids : (C.mg "_law_ids" = some (.ref 308) ∧ keepIn C.K (.ref 308) = true) ∧ FnAt C 308 "_law_ids" (PA 48) (B 48) (SC 48) .none .none
  f_law_field : (C.mg "_law_field" = some (.ref 313) ∧ keepIn C.K (.ref 313) = true) ∧ FnAt C 313 "_law_field" (PA 49) (B 49) (SC 49) .none .none
  f_law_first : (C.mg "_law_first" = some (.ref 320) ∧ keepIn C.K (.ref 320) = true) ∧ FnAt C 320 "_law_first" (PA 50) (B 50) (SC 50) .none .none
  c_WHITE : C.mg "WHITE" = some (.ref 74)
  c_ATOM_SIGNS : C.mg "ATOM_SIGNS" = some (.bytes #[33, 35, 36, 37, 38, 39, 42, 43, 45, 47, 61, 63, 94, 95, 96, 123, 124, 125, 126] 403)
  c_NEVER_ESCAPED : C.mg "NEVER_ESCAPED" = some (.ref 164)
  c_QUOTE : C.mg "QUOTE" = some (.int 34 472)
  c_BRACKET : C.mg "BRACKET" = some (.int 40 474)
  c_LESS : C.mg "LESS" = some (.int 60 476)
  c_Field : C.mg "Field" = some (.ref 103)
  c_WordFault : C.mg "WordFault" = some (.ref 59)
  c_PostError : C.mg "PostError" = some (.ref 46)
  white : ∃ t u, C.base.IsTuple 74 #[.int 32 t, .int 9 u]
  dfl_spans : ∃ o n t u, C.K.lookup 129 = some o ∧ o.data = .seq #[.int 0 t, .int (-1) u] n
  dfl_fields : ∃ o n t u, C.K.lookup 137 = some o ∧ o.data = .seq #[.int 0 t, .int (-1) u] n
  never : ∃ t u v, C.base.IsTuple 164 #[.int 0 t, .int 10 u, .int 13 v]
  keepField : keepIn C.K (.ref 103) = true
  keepFault : keepIn C.K (.ref 59) = true
  b_len : C.mg "len" = none
  b_range : C.mg "range" = none
  b_ord : C.mg "ord" = none
  b_chr : C.mg "chr" = none
  b_int : C.mg "int" = none
  b_abs : C.mg "abs" = none
  b_list : C.mg "list" = none
  b_bytes : C.mg "bytes" = none
  b_Exception : C.mg "Exception" = none
section
variable {C : Cx} {c : Fc} {k : Nat} {m : Loc} {h : Heap} {X : Addr → Heap → Prop} {Q : Value → Heap → Prop} {pos : Pos}
theorem g_lower_code (T : Tops C) (q : Q (.ref 68) h) (hk : c.env.scope.kind = .function) (hx : c.env.kindOf "lower_code" = some .globalImplicit) : W C c k m (eval (.Name "lower_code" pos) c.env) h Q X := w_global T.toTopOk T.f_lower_code.1.1 q hk hx (by decide)
theorem g_lower_text (T : Tops C) (q : Q (.ref 73) h) (hk : c.env.scope.kind = .function) (hx : c.env.kindOf "lower_text" = some .globalImplicit) : W C c k m (eval (.Name "lower_text" pos) c.env) h Q X := w_global T.toTopOk T.f_lower_text.1.1 q hk hx (by decide)
theorem g_line_at (T : Tops C) (q : Q (.ref 114) h) (hk : c.env.scope.kind = .function) (hx : c.env.kindOf "line_at" = some .globalImplicit) : W C c k m (eval (.Name "line_at" pos) c.env) h Q X := w_global T.toTopOk T.f_line_at.1.1 q hk hx (by decide)
theorem g_is_name (T : Tops C) (q : Q (.ref 121) h) (hk : c.env.scope.kind = .function) (hx : c.env.kindOf "is_name" = some .globalImplicit) : W C c k m (eval (.Name "is_name" pos) c.env) h Q X := w_global T.toTopOk T.f_is_name.1.1 q hk hx (by decide)
theorem g_colon_in (T : Tops C) (q : Q (.ref 128) h) (hk : c.env.scope.kind = .function) (hx : c.env.kindOf "colon_in" = some .globalImplicit) : W C c k m (eval (.Name "colon_in" pos) c.env) h Q X := w_global T.toTopOk T.f_colon_in.1.1 q hk hx (by decide)
theorem g_read_spans (T : Tops C) (q : Q (.ref 136) h) (hk : c.env.scope.kind = .function) (hx : c.env.kindOf "read_spans" = some .globalImplicit) : W C c k m (eval (.Name "read_spans" pos) c.env) h Q X := w_global T.toTopOk T.f_read_spans.1.1 q hk hx (by decide)
theorem g_read_fields (T : Tops C) (q : Q (.ref 142) h) (hk : c.env.scope.kind = .function) (hx : c.env.kindOf "read_fields" = some .globalImplicit) : W C c k m (eval (.Name "read_fields" pos) c.env) h Q X := w_global T.toTopOk T.f_read_fields.1.1 q hk hx (by decide)
theorem g_rows_of (T : Tops C) (q : Q (.ref 149) h) (hk : c.env.scope.kind = .function) (hx : c.env.kindOf "rows_of" = some .globalImplicit) : W C c k m (eval (.Name "rows_of" pos) c.env) h Q X := w_global T.toTopOk T.f_rows_of.1.1 q hk hx (by decide)
theorem g_unfolded (T : Tops C) (q : Q (.ref 156) h) (hk : c.env.scope.kind = .function) (hx : c.env.kindOf "unfolded" = some .globalImplicit) : W C c k m (eval (.Name "unfolded" pos) c.env) h Q X := w_global T.toTopOk T.f_unfolded.1.1 q hk hx (by decide)
theorem g_first_body (T : Tops C) (q : Q (.ref 163) h) (hk : c.env.scope.kind = .function) (hx : c.env.kindOf "first_body" = some .globalImplicit) : W C c k m (eval (.Name "first_body" pos) c.env) h Q X := w_global T.toTopOk T.f_first_body.1.1 q hk hx (by decide)
theorem g_is_atom_code (T : Tops C) (q : Q (.ref 171) h) (hk : c.env.scope.kind = .function) (hx : c.env.kindOf "is_atom_code" = some .globalImplicit) : W C c k m (eval (.Name "is_atom_code" pos) c.env) h Q X := w_global T.toTopOk T.f_is_atom_code.1.1 q hk hx (by decide)
theorem g_line_end (T : Tops C) (q : Q (.ref 178) h) (hk : c.env.scope.kind = .function) (hx : c.env.kindOf "line_end" = some .globalImplicit) : W C c k m (eval (.Name "line_end" pos) c.env) h Q X := w_global T.toTopOk T.f_line_end.1.1 q hk hx (by decide)
theorem g_inside_at (T : Tops C) (q : Q (.ref 185) h) (hk : c.env.scope.kind = .function) (hx : c.env.kindOf "inside_at" = some .globalImplicit) : W C c k m (eval (.Name "inside_at" pos) c.env) h Q X := w_global T.toTopOk T.f_inside_at.1.1 q hk hx (by decide)
theorem g_closed_at (T : Tops C) (q : Q (.ref 192) h) (hk : c.env.scope.kind = .function) (hx : c.env.kindOf "closed_at" = some .globalImplicit) : W C c k m (eval (.Name "closed_at" pos) c.env) h Q X := w_global T.toTopOk T.f_closed_at.1.1 q hk hx (by decide)
theorem g_escaped_octets (T : Tops C) (q : Q (.ref 206) h) (hk : c.env.scope.kind = .function) (hx : c.env.kindOf "escaped_octets" = some .globalImplicit) : W C c k m (eval (.Name "escaped_octets" pos) c.env) h Q X := w_global T.toTopOk T.f_escaped_octets.1.1 q hk hx (by decide)
theorem g_is_run_code (T : Tops C) (q : Q (.ref 213) h) (hk : c.env.scope.kind = .function) (hx : c.env.kindOf "is_run_code" = some .globalImplicit) : W C c k m (eval (.Name "is_run_code" pos) c.env) h Q X := w_global T.toTopOk T.f_is_run_code.1.1 q hk hx (by decide)
theorem g_is_run (T : Tops C) (q : Q (.ref 218) h) (hk : c.env.scope.kind = .function) (hx : c.env.kindOf "is_run" = some .globalImplicit) : W C c k m (eval (.Name "is_run" pos) c.env) h Q X := w_global T.toTopOk T.f_is_run.1.1 q hk hx (by decide)
theorem g_run_at (T : Tops C) (q : Q (.ref 225) h) (hk : c.env.scope.kind = .function) (hx : c.env.kindOf "run_at" = some .globalImplicit) : W C c k m (eval (.Name "run_at" pos) c.env) h Q X := w_global T.toTopOk T.f_run_at.1.1 q hk hx (by decide)
theorem g_check_plain (T : Tops C) (q : Q (.ref 232) h) (hk : c.env.scope.kind = .function) (hx : c.env.kindOf "check_plain" = some .globalImplicit) : W C c k m (eval (.Name "check_plain" pos) c.env) h Q X := w_global T.toTopOk T.f_check_plain.1.1 q hk hx (by decide)
theorem g_id_at (T : Tops C) (q : Q (.ref 237) h) (hk : c.env.scope.kind = .function) (hx : c.env.kindOf "id_at" = some .globalImplicit) : W C c k m (eval (.Name "id_at" pos) c.env) h Q X := w_global T.toTopOk T.f_id_at.1.1 q hk hx (by decide)
theorem g_read_ids (T : Tops C) (q : Q (.ref 251) h) (hk : c.env.scope.kind = .function) (hx : c.env.kindOf "read_ids" = some .globalImplicit) : W C c k m (eval (.Name "read_ids" pos) c.env) h Q X := w_global T.toTopOk T.f_read_ids.1.1 q hk hx (by decide)
theorem g_sides_of (T : Tops C) (q : Q (.ref 256) h) (hk : c.env.scope.kind = .function) (hx : c.env.kindOf "sides_of" = some .globalImplicit) : W C c k m (eval (.Name "sides_of" pos) c.env) h Q X := w_global T.toTopOk T.f_sides_of.1.1 q hk hx (by decide)
theorem g_id_octets (T : Tops C) (q : Q (.ref 263) h) (hk : c.env.scope.kind = .function) (hx : c.env.kindOf "id_octets" = some .globalImplicit) : W C c k m (eval (.Name "id_octets" pos) c.env) h Q X := w_global T.toTopOk T.f_id_octets.1.1 q hk hx (by decide)
theorem g_write_ids (T : Tops C) (q : Q (.ref 268) h) (hk : c.env.scope.kind = .function) (hx : c.env.kindOf "write_ids" = some .globalImplicit) : W C c k m (eval (.Name "write_ids" pos) c.env) h Q X := w_global T.toTopOk T.f_write_ids.1.1 q hk hx (by decide)
theorem g_ids_in (T : Tops C) (q : Q (.ref 275) h) (hk : c.env.scope.kind = .function) (hx : c.env.kindOf "ids_in" = some .globalImplicit) : W C c k m (eval (.Name "ids_in" pos) c.env) h Q X := w_global T.toTopOk T.f_ids_in.1.1 q hk hx (by decide)
theorem g_thread_ids (T : Tops C) (q : Q (.ref 282) h) (hk : c.env.scope.kind = .function) (hx : c.env.kindOf "thread_ids" = some .globalImplicit) : W C c k m (eval (.Name "thread_ids" pos) c.env) h Q X := w_global T.toTopOk T.f_thread_ids.1.1 q hk hx (by decide)
theorem g_law_pot (T : Tops C) (q : Q (.ref 287) h) (hk : c.env.scope.kind = .function) (hx : c.env.kindOf "_law_pot" = some .globalImplicit) : W C c k m (eval (.Name "_law_pot" pos) c.env) h Q X := w_global T.toTopOk T.f_law_pot.1.1 q hk hx (by decide)
theorem g_law_draw (T : Tops C) (q : Q (.ref 294) h) (hk : c.env.scope.kind = .function) (hx : c.env.kindOf "_law_draw" = some .globalImplicit) : W C c k m (eval (.Name "_law_draw" pos) c.env) h Q X := w_global T.toTopOk T.f_law_draw.1.1 q hk hx (by decide)
theorem g_law_names (T : Tops C) (q : Q (.ref 301) h) (hk : c.env.scope.kind = .function) (hx : c.env.kindOf "_law_names" = some .globalImplicit) : W C c k m (eval (.Name "_law_names" pos) c.env) h Q X := w_global T.toTopOk T.f_law_names.1.1 q hk hx (by decide)
theorem g_law_ids (T : Tops C) (q : Q (.ref 308) h) (hk : c.env.scope.kind = .function) (hx : c.env.kindOf "_law_ids" = some .globalImplicit) : W C c k m (eval (.Name "_law_ids" pos) c.env) h Q X := w_global T.toTopOk T.f_law_ids.1.1 q hk hx (by decide)
theorem g_law_field (T : Tops C) (q : Q (.ref 313) h) (hk : c.env.scope.kind = .function) (hx : c.env.kindOf "_law_field" = some .globalImplicit) : W C c k m (eval (.Name "_law_field" pos) c.env) h Q X := w_global T.toTopOk T.f_law_field.1.1 q hk hx (by decide)
theorem g_law_first (T : Tops C) (q : Q (.ref 320) h) (hk : c.env.scope.kind = .function) (hx : c.env.kindOf "_law_first" = some .globalImplicit) : W C c k m (eval (.Name "_law_first" pos) c.env) h Q X := w_global T.toTopOk T.f_law_first.1.1 q hk hx (by decide)
theorem g_WHITE (T : Tops C) (q : Q (.ref 74) h) (hk : c.env.scope.kind = .function) (hx : c.env.kindOf "WHITE" = some .globalImplicit) : W C c k m (eval (.Name "WHITE" pos) c.env) h Q X := w_global T.toTopOk T.c_WHITE q hk hx (by decide)
theorem g_ATOM_SIGNS (T : Tops C) (q : Q (.bytes #[33, 35, 36, 37, 38, 39, 42, 43, 45, 47, 61, 63, 94, 95, 96, 123, 124, 125, 126] 403) h) (hk : c.env.scope.kind = .function) (hx : c.env.kindOf "ATOM_SIGNS" = some .globalImplicit) : W C c k m (eval (.Name "ATOM_SIGNS" pos) c.env) h Q X := w_global T.toTopOk T.c_ATOM_SIGNS q hk hx (by decide)
theorem g_NEVER_ESCAPED (T : Tops C) (q : Q (.ref 164) h) (hk : c.env.scope.kind = .function) (hx : c.env.kindOf "NEVER_ESCAPED" = some .globalImplicit) : W C c k m (eval (.Name "NEVER_ESCAPED" pos) c.env) h Q X := w_global T.toTopOk T.c_NEVER_ESCAPED q hk hx (by decide)
theorem g_QUOTE (T : Tops C) (q : Q (.int 34 472) h) (hk : c.env.scope.kind = .function) (hx : c.env.kindOf "QUOTE" = some .globalImplicit) : W C c k m (eval (.Name "QUOTE" pos) c.env) h Q X := w_global T.toTopOk T.c_QUOTE q hk hx (by decide)
theorem g_BRACKET (T : Tops C) (q : Q (.int 40 474) h) (hk : c.env.scope.kind = .function) (hx : c.env.kindOf "BRACKET" = some .globalImplicit) : W C c k m (eval (.Name "BRACKET" pos) c.env) h Q X := w_global T.toTopOk T.c_BRACKET q hk hx (by decide)
theorem g_LESS (T : Tops C) (q : Q (.int 60 476) h) (hk : c.env.scope.kind = .function) (hx : c.env.kindOf "LESS" = some .globalImplicit) : W C c k m (eval (.Name "LESS" pos) c.env) h Q X := w_global T.toTopOk T.c_LESS q hk hx (by decide)
theorem g_Field (T : Tops C) (q : Q (.ref 103) h) (hk : c.env.scope.kind = .function) (hx : c.env.kindOf "Field" = some .globalImplicit) : W C c k m (eval (.Name "Field" pos) c.env) h Q X := w_global T.toTopOk T.c_Field q hk hx (by decide)
theorem g_WordFault (T : Tops C) (q : Q (.ref 59) h) (hk : c.env.scope.kind = .function) (hx : c.env.kindOf "WordFault" = some .globalImplicit) : W C c k m (eval (.Name "WordFault" pos) c.env) h Q X := w_global T.toTopOk T.c_WordFault q hk hx (by decide)
theorem g_PostError (T : Tops C) (q : Q (.ref 46) h) (hk : c.env.scope.kind = .function) (hx : c.env.kindOf "PostError" = some .globalImplicit) : W C c k m (eval (.Name "PostError" pos) c.env) h Q X := w_global T.toTopOk T.c_PostError q hk hx (by decide)
theorem g_len (T : Tops C) (q : Q (.builtin "len") h) (hk : c.env.scope.kind = .function) (hx : c.env.kindOf "len" = some .globalImplicit) : W C c k m (eval (.Name "len" pos) c.env) h Q X := w_builtin T.toTopOk T.b_len PyProof.Rows.Boot.«len» q hk hx (by decide) (by decide)
theorem g_range (T : Tops C) (q : Q (.type "range") h) (hk : c.env.scope.kind = .function) (hx : c.env.kindOf "range" = some .globalImplicit) : W C c k m (eval (.Name "range" pos) c.env) h Q X := w_builtin T.toTopOk T.b_range PyProof.Rows.Boot.«range» q hk hx (by decide) (by decide)
theorem g_ord (T : Tops C) (q : Q (.builtin "ord") h) (hk : c.env.scope.kind = .function) (hx : c.env.kindOf "ord" = some .globalImplicit) : W C c k m (eval (.Name "ord" pos) c.env) h Q X := w_builtin T.toTopOk T.b_ord PyProof.Rows.Boot.«ord» q hk hx (by decide) (by decide)
theorem g_chr (T : Tops C) (q : Q (.builtin "chr") h) (hk : c.env.scope.kind = .function) (hx : c.env.kindOf "chr" = some .globalImplicit) : W C c k m (eval (.Name "chr" pos) c.env) h Q X := w_builtin T.toTopOk T.b_chr PyProof.Rows.Boot.«chr» q hk hx (by decide) (by decide)
theorem g_int (T : Tops C) (q : Q (.type "int") h) (hk : c.env.scope.kind = .function) (hx : c.env.kindOf "int" = some .globalImplicit) : W C c k m (eval (.Name "int" pos) c.env) h Q X := w_builtin T.toTopOk T.b_int PyProof.Rows.Boot.«int» q hk hx (by decide) (by decide)
theorem g_abs (T : Tops C) (q : Q (.builtin "abs") h) (hk : c.env.scope.kind = .function) (hx : c.env.kindOf "abs" = some .globalImplicit) : W C c k m (eval (.Name "abs" pos) c.env) h Q X := w_builtin T.toTopOk T.b_abs PyProof.Rows.Boot.«abs» q hk hx (by decide) (by decide)
theorem g_list (T : Tops C) (q : Q (.type "list") h) (hk : c.env.scope.kind = .function) (hx : c.env.kindOf "list" = some .globalImplicit) : W C c k m (eval (.Name "list" pos) c.env) h Q X := w_builtin T.toTopOk T.b_list PyProof.Rows.Boot.«list» q hk hx (by decide) (by decide)
theorem g_bytes (T : Tops C) (q : Q (.type "bytes") h) (hk : c.env.scope.kind = .function) (hx : c.env.kindOf "bytes" = some .globalImplicit) : W C c k m (eval (.Name "bytes" pos) c.env) h Q X := w_builtin T.toTopOk T.b_bytes PyProof.Rows.Boot.«bytes» q hk hx (by decide) (by decide)
theorem g_Exception (T : Tops C) (q : Q (.type "Exception") h) (hk : c.env.scope.kind = .function) (hx : c.env.kindOf "Exception" = some .globalImplicit) : W C c k m (eval (.Name "Exception" pos) c.env) h Q X := w_builtin T.toTopOk T.b_Exception PyProof.Rows.Boot.«Exception» q hk hx (by decide) (by decide)
theorem gc_lower_code (T : Tops C) {p : Pos} {e : Expr} {rest : List Expr} (x : W C c k m (spliced (backTo pos (starEach (e :: rest) c.env))) h (fun vs h₁ => W C c k m (PySem.call (.ref 68) vs) h₁ Q X) X) (hk : c.env.scope.kind = .function) (hx : c.env.kindOf "lower_code" = some .globalImplicit) (he : starEach (e :: rest) c.env = (false, eval e c.env) :: starEach rest c.env) (hp : (backTo pos (starEach rest c.env)).any (·.1) = false) : W C c k m (eval (.Call (.Name "lower_code" p) (e :: rest) [] pos) c.env) h Q X := w_call (g_lower_code T (w_cwF T.toTopOk T.f_lower_code.1.2 x he hp) hk hx)
theorem gc_lower_text (T : Tops C) {p : Pos} {e : Expr} {rest : List Expr} (x : W C c k m (spliced (backTo pos (starEach (e :: rest) c.env))) h (fun vs h₁ => W C c k m (PySem.call (.ref 73) vs) h₁ Q X) X) (hk : c.env.scope.kind = .function) (hx : c.env.kindOf "lower_text" = some .globalImplicit) (he : starEach (e :: rest) c.env = (false, eval e c.env) :: starEach rest c.env) (hp : (backTo pos (starEach rest c.env)).any (·.1) = false) : W C c k m (eval (.Call (.Name "lower_text" p) (e :: rest) [] pos) c.env) h Q X := w_call (g_lower_text T (w_cwF T.toTopOk T.f_lower_text.1.2 x he hp) hk hx)
theorem gc_line_at (T : Tops C) {p : Pos} {e : Expr} {rest : List Expr} (x : W C c k m (spliced (backTo pos (starEach (e :: rest) c.env))) h (fun vs h₁ => W C c k m (PySem.call (.ref 114) vs) h₁ Q X) X) (hk : c.env.scope.kind = .function) (hx : c.env.kindOf "line_at" = some .globalImplicit) (he : starEach (e :: rest) c.env = (false, eval e c.env) :: starEach rest c.env) (hp : (backTo pos (starEach rest c.env)).any (·.1) = false) : W C c k m (eval (.Call (.Name "line_at" p) (e :: rest) [] pos) c.env) h Q X := w_call (g_line_at T (w_cwF T.toTopOk T.f_line_at.1.2 x he hp) hk hx)
theorem gc_is_name (T : Tops C) {p : Pos} {e : Expr} {rest : List Expr} (x : W C c k m (spliced (backTo pos (starEach (e :: rest) c.env))) h (fun vs h₁ => W C c k m (PySem.call (.ref 121) vs) h₁ Q X) X) (hk : c.env.scope.kind = .function) (hx : c.env.kindOf "is_name" = some .globalImplicit) (he : starEach (e :: rest) c.env = (false, eval e c.env) :: starEach rest c.env) (hp : (backTo pos (starEach rest c.env)).any (·.1) = false) : W C c k m (eval (.Call (.Name "is_name" p) (e :: rest) [] pos) c.env) h Q X := w_call (g_is_name T (w_cwF T.toTopOk T.f_is_name.1.2 x he hp) hk hx)
theorem gc_colon_in (T : Tops C) {p : Pos} {e : Expr} {rest : List Expr} (x : W C c k m (spliced (backTo pos (starEach (e :: rest) c.env))) h (fun vs h₁ => W C c k m (PySem.call (.ref 128) vs) h₁ Q X) X) (hk : c.env.scope.kind = .function) (hx : c.env.kindOf "colon_in" = some .globalImplicit) (he : starEach (e :: rest) c.env = (false, eval e c.env) :: starEach rest c.env) (hp : (backTo pos (starEach rest c.env)).any (·.1) = false) : W C c k m (eval (.Call (.Name "colon_in" p) (e :: rest) [] pos) c.env) h Q X := w_call (g_colon_in T (w_cwF T.toTopOk T.f_colon_in.1.2 x he hp) hk hx)
theorem gc_read_spans (T : Tops C) {p : Pos} {e : Expr} {rest : List Expr} (x : W C c k m (spliced (backTo pos (starEach (e :: rest) c.env))) h (fun vs h₁ => W C c k m (PySem.call (.ref 136) vs) h₁ Q X) X) (hk : c.env.scope.kind = .function) (hx : c.env.kindOf "read_spans" = some .globalImplicit) (he : starEach (e :: rest) c.env = (false, eval e c.env) :: starEach rest c.env) (hp : (backTo pos (starEach rest c.env)).any (·.1) = false) : W C c k m (eval (.Call (.Name "read_spans" p) (e :: rest) [] pos) c.env) h Q X := w_call (g_read_spans T (w_cwF T.toTopOk T.f_read_spans.1.2 x he hp) hk hx)
theorem gc_read_fields (T : Tops C) {p : Pos} {e : Expr} {rest : List Expr} (x : W C c k m (spliced (backTo pos (starEach (e :: rest) c.env))) h (fun vs h₁ => W C c k m (PySem.call (.ref 142) vs) h₁ Q X) X) (hk : c.env.scope.kind = .function) (hx : c.env.kindOf "read_fields" = some .globalImplicit) (he : starEach (e :: rest) c.env = (false, eval e c.env) :: starEach rest c.env) (hp : (backTo pos (starEach rest c.env)).any (·.1) = false) : W C c k m (eval (.Call (.Name "read_fields" p) (e :: rest) [] pos) c.env) h Q X := w_call (g_read_fields T (w_cwF T.toTopOk T.f_read_fields.1.2 x he hp) hk hx)
theorem gc_rows_of (T : Tops C) {p : Pos} {e : Expr} {rest : List Expr} (x : W C c k m (spliced (backTo pos (starEach (e :: rest) c.env))) h (fun vs h₁ => W C c k m (PySem.call (.ref 149) vs) h₁ Q X) X) (hk : c.env.scope.kind = .function) (hx : c.env.kindOf "rows_of" = some .globalImplicit) (he : starEach (e :: rest) c.env = (false, eval e c.env) :: starEach rest c.env) (hp : (backTo pos (starEach rest c.env)).any (·.1) = false) : W C c k m (eval (.Call (.Name "rows_of" p) (e :: rest) [] pos) c.env) h Q X := w_call (g_rows_of T (w_cwF T.toTopOk T.f_rows_of.1.2 x he hp) hk hx)
theorem gc_unfolded (T : Tops C) {p : Pos} {e : Expr} {rest : List Expr} (x : W C c k m (spliced (backTo pos (starEach (e :: rest) c.env))) h (fun vs h₁ => W C c k m (PySem.call (.ref 156) vs) h₁ Q X) X) (hk : c.env.scope.kind = .function) (hx : c.env.kindOf "unfolded" = some .globalImplicit) (he : starEach (e :: rest) c.env = (false, eval e c.env) :: starEach rest c.env) (hp : (backTo pos (starEach rest c.env)).any (·.1) = false) : W C c k m (eval (.Call (.Name "unfolded" p) (e :: rest) [] pos) c.env) h Q X := w_call (g_unfolded T (w_cwF T.toTopOk T.f_unfolded.1.2 x he hp) hk hx)
theorem gc_first_body (T : Tops C) {p : Pos} {e : Expr} {rest : List Expr} (x : W C c k m (spliced (backTo pos (starEach (e :: rest) c.env))) h (fun vs h₁ => W C c k m (PySem.call (.ref 163) vs) h₁ Q X) X) (hk : c.env.scope.kind = .function) (hx : c.env.kindOf "first_body" = some .globalImplicit) (he : starEach (e :: rest) c.env = (false, eval e c.env) :: starEach rest c.env) (hp : (backTo pos (starEach rest c.env)).any (·.1) = false) : W C c k m (eval (.Call (.Name "first_body" p) (e :: rest) [] pos) c.env) h Q X := w_call (g_first_body T (w_cwF T.toTopOk T.f_first_body.1.2 x he hp) hk hx)
theorem gc_is_atom_code (T : Tops C) {p : Pos} {e : Expr} {rest : List Expr} (x : W C c k m (spliced (backTo pos (starEach (e :: rest) c.env))) h (fun vs h₁ => W C c k m (PySem.call (.ref 171) vs) h₁ Q X) X) (hk : c.env.scope.kind = .function) (hx : c.env.kindOf "is_atom_code" = some .globalImplicit) (he : starEach (e :: rest) c.env = (false, eval e c.env) :: starEach rest c.env) (hp : (backTo pos (starEach rest c.env)).any (·.1) = false) : W C c k m (eval (.Call (.Name "is_atom_code" p) (e :: rest) [] pos) c.env) h Q X := w_call (g_is_atom_code T (w_cwF T.toTopOk T.f_is_atom_code.1.2 x he hp) hk hx)
theorem gc_line_end (T : Tops C) {p : Pos} {e : Expr} {rest : List Expr} (x : W C c k m (spliced (backTo pos (starEach (e :: rest) c.env))) h (fun vs h₁ => W C c k m (PySem.call (.ref 178) vs) h₁ Q X) X) (hk : c.env.scope.kind = .function) (hx : c.env.kindOf "line_end" = some .globalImplicit) (he : starEach (e :: rest) c.env = (false, eval e c.env) :: starEach rest c.env) (hp : (backTo pos (starEach rest c.env)).any (·.1) = false) : W C c k m (eval (.Call (.Name "line_end" p) (e :: rest) [] pos) c.env) h Q X := w_call (g_line_end T (w_cwF T.toTopOk T.f_line_end.1.2 x he hp) hk hx)
theorem gc_inside_at (T : Tops C) {p : Pos} {e : Expr} {rest : List Expr} (x : W C c k m (spliced (backTo pos (starEach (e :: rest) c.env))) h (fun vs h₁ => W C c k m (PySem.call (.ref 185) vs) h₁ Q X) X) (hk : c.env.scope.kind = .function) (hx : c.env.kindOf "inside_at" = some .globalImplicit) (he : starEach (e :: rest) c.env = (false, eval e c.env) :: starEach rest c.env) (hp : (backTo pos (starEach rest c.env)).any (·.1) = false) : W C c k m (eval (.Call (.Name "inside_at" p) (e :: rest) [] pos) c.env) h Q X := w_call (g_inside_at T (w_cwF T.toTopOk T.f_inside_at.1.2 x he hp) hk hx)
theorem gc_closed_at (T : Tops C) {p : Pos} {e : Expr} {rest : List Expr} (x : W C c k m (spliced (backTo pos (starEach (e :: rest) c.env))) h (fun vs h₁ => W C c k m (PySem.call (.ref 192) vs) h₁ Q X) X) (hk : c.env.scope.kind = .function) (hx : c.env.kindOf "closed_at" = some .globalImplicit) (he : starEach (e :: rest) c.env = (false, eval e c.env) :: starEach rest c.env) (hp : (backTo pos (starEach rest c.env)).any (·.1) = false) : W C c k m (eval (.Call (.Name "closed_at" p) (e :: rest) [] pos) c.env) h Q X := w_call (g_closed_at T (w_cwF T.toTopOk T.f_closed_at.1.2 x he hp) hk hx)
theorem gc_escaped_octets (T : Tops C) {p : Pos} {e : Expr} {rest : List Expr} (x : W C c k m (spliced (backTo pos (starEach (e :: rest) c.env))) h (fun vs h₁ => W C c k m (PySem.call (.ref 206) vs) h₁ Q X) X) (hk : c.env.scope.kind = .function) (hx : c.env.kindOf "escaped_octets" = some .globalImplicit) (he : starEach (e :: rest) c.env = (false, eval e c.env) :: starEach rest c.env) (hp : (backTo pos (starEach rest c.env)).any (·.1) = false) : W C c k m (eval (.Call (.Name "escaped_octets" p) (e :: rest) [] pos) c.env) h Q X := w_call (g_escaped_octets T (w_cwF T.toTopOk T.f_escaped_octets.1.2 x he hp) hk hx)
theorem gc_is_run_code (T : Tops C) {p : Pos} {e : Expr} {rest : List Expr} (x : W C c k m (spliced (backTo pos (starEach (e :: rest) c.env))) h (fun vs h₁ => W C c k m (PySem.call (.ref 213) vs) h₁ Q X) X) (hk : c.env.scope.kind = .function) (hx : c.env.kindOf "is_run_code" = some .globalImplicit) (he : starEach (e :: rest) c.env = (false, eval e c.env) :: starEach rest c.env) (hp : (backTo pos (starEach rest c.env)).any (·.1) = false) : W C c k m (eval (.Call (.Name "is_run_code" p) (e :: rest) [] pos) c.env) h Q X := w_call (g_is_run_code T (w_cwF T.toTopOk T.f_is_run_code.1.2 x he hp) hk hx)
theorem gc_is_run (T : Tops C) {p : Pos} {e : Expr} {rest : List Expr} (x : W C c k m (spliced (backTo pos (starEach (e :: rest) c.env))) h (fun vs h₁ => W C c k m (PySem.call (.ref 218) vs) h₁ Q X) X) (hk : c.env.scope.kind = .function) (hx : c.env.kindOf "is_run" = some .globalImplicit) (he : starEach (e :: rest) c.env = (false, eval e c.env) :: starEach rest c.env) (hp : (backTo pos (starEach rest c.env)).any (·.1) = false) : W C c k m (eval (.Call (.Name "is_run" p) (e :: rest) [] pos) c.env) h Q X := w_call (g_is_run T (w_cwF T.toTopOk T.f_is_run.1.2 x he hp) hk hx)
theorem gc_run_at (T : Tops C) {p : Pos} {e : Expr} {rest : List Expr} (x : W C c k m (spliced (backTo pos (starEach (e :: rest) c.env))) h (fun vs h₁ => W C c k m (PySem.call (.ref 225) vs) h₁ Q X) X) (hk : c.env.scope.kind = .function) (hx : c.env.kindOf "run_at" = some .globalImplicit) (he : starEach (e :: rest) c.env = (false, eval e c.env) :: starEach rest c.env) (hp : (backTo pos (starEach rest c.env)).any (·.1) = false) : W C c k m (eval (.Call (.Name "run_at" p) (e :: rest) [] pos) c.env) h Q X := w_call (g_run_at T (w_cwF T.toTopOk T.f_run_at.1.2 x he hp) hk hx)
theorem gc_check_plain (T : Tops C) {p : Pos} {e : Expr} {rest : List Expr} (x : W C c k m (spliced (backTo pos (starEach (e :: rest) c.env))) h (fun vs h₁ => W C c k m (PySem.call (.ref 232) vs) h₁ Q X) X) (hk : c.env.scope.kind = .function) (hx : c.env.kindOf "check_plain" = some .globalImplicit) (he : starEach (e :: rest) c.env = (false, eval e c.env) :: starEach rest c.env) (hp : (backTo pos (starEach rest c.env)).any (·.1) = false) : W C c k m (eval (.Call (.Name "check_plain" p) (e :: rest) [] pos) c.env) h Q X := w_call (g_check_plain T (w_cwF T.toTopOk T.f_check_plain.1.2 x he hp) hk hx)
theorem gc_id_at (T : Tops C) {p : Pos} {e : Expr} {rest : List Expr} (x : W C c k m (spliced (backTo pos (starEach (e :: rest) c.env))) h (fun vs h₁ => W C c k m (PySem.call (.ref 237) vs) h₁ Q X) X) (hk : c.env.scope.kind = .function) (hx : c.env.kindOf "id_at" = some .globalImplicit) (he : starEach (e :: rest) c.env = (false, eval e c.env) :: starEach rest c.env) (hp : (backTo pos (starEach rest c.env)).any (·.1) = false) : W C c k m (eval (.Call (.Name "id_at" p) (e :: rest) [] pos) c.env) h Q X := w_call (g_id_at T (w_cwF T.toTopOk T.f_id_at.1.2 x he hp) hk hx)
theorem gc_read_ids (T : Tops C) {p : Pos} {e : Expr} {rest : List Expr} (x : W C c k m (spliced (backTo pos (starEach (e :: rest) c.env))) h (fun vs h₁ => W C c k m (PySem.call (.ref 251) vs) h₁ Q X) X) (hk : c.env.scope.kind = .function) (hx : c.env.kindOf "read_ids" = some .globalImplicit) (he : starEach (e :: rest) c.env = (false, eval e c.env) :: starEach rest c.env) (hp : (backTo pos (starEach rest c.env)).any (·.1) = false) : W C c k m (eval (.Call (.Name "read_ids" p) (e :: rest) [] pos) c.env) h Q X := w_call (g_read_ids T (w_cwF T.toTopOk T.f_read_ids.1.2 x he hp) hk hx)
theorem gc_sides_of (T : Tops C) {p : Pos} {e : Expr} {rest : List Expr} (x : W C c k m (spliced (backTo pos (starEach (e :: rest) c.env))) h (fun vs h₁ => W C c k m (PySem.call (.ref 256) vs) h₁ Q X) X) (hk : c.env.scope.kind = .function) (hx : c.env.kindOf "sides_of" = some .globalImplicit) (he : starEach (e :: rest) c.env = (false, eval e c.env) :: starEach rest c.env) (hp : (backTo pos (starEach rest c.env)).any (·.1) = false) : W C c k m (eval (.Call (.Name "sides_of" p) (e :: rest) [] pos) c.env) h Q X := w_call (g_sides_of T (w_cwF T.toTopOk T.f_sides_of.1.2 x he hp) hk hx)
theorem gc_id_octets (T : Tops C) {p : Pos} {e : Expr} {rest : List Expr} (x : W C c k m (spliced (backTo pos (starEach (e :: rest) c.env))) h (fun vs h₁ => W C c k m (PySem.call (.ref 263) vs) h₁ Q X) X) (hk : c.env.scope.kind = .function) (hx : c.env.kindOf "id_octets" = some .globalImplicit) (he : starEach (e :: rest) c.env = (false, eval e c.env) :: starEach rest c.env) (hp : (backTo pos (starEach rest c.env)).any (·.1) = false) : W C c k m (eval (.Call (.Name "id_octets" p) (e :: rest) [] pos) c.env) h Q X := w_call (g_id_octets T (w_cwF T.toTopOk T.f_id_octets.1.2 x he hp) hk hx)
theorem gc_write_ids (T : Tops C) {p : Pos} {e : Expr} {rest : List Expr} (x : W C c k m (spliced (backTo pos (starEach (e :: rest) c.env))) h (fun vs h₁ => W C c k m (PySem.call (.ref 268) vs) h₁ Q X) X) (hk : c.env.scope.kind = .function) (hx : c.env.kindOf "write_ids" = some .globalImplicit) (he : starEach (e :: rest) c.env = (false, eval e c.env) :: starEach rest c.env) (hp : (backTo pos (starEach rest c.env)).any (·.1) = false) : W C c k m (eval (.Call (.Name "write_ids" p) (e :: rest) [] pos) c.env) h Q X := w_call (g_write_ids T (w_cwF T.toTopOk T.f_write_ids.1.2 x he hp) hk hx)
theorem gc_ids_in (T : Tops C) {p : Pos} {e : Expr} {rest : List Expr} (x : W C c k m (spliced (backTo pos (starEach (e :: rest) c.env))) h (fun vs h₁ => W C c k m (PySem.call (.ref 275) vs) h₁ Q X) X) (hk : c.env.scope.kind = .function) (hx : c.env.kindOf "ids_in" = some .globalImplicit) (he : starEach (e :: rest) c.env = (false, eval e c.env) :: starEach rest c.env) (hp : (backTo pos (starEach rest c.env)).any (·.1) = false) : W C c k m (eval (.Call (.Name "ids_in" p) (e :: rest) [] pos) c.env) h Q X := w_call (g_ids_in T (w_cwF T.toTopOk T.f_ids_in.1.2 x he hp) hk hx)
theorem gc_thread_ids (T : Tops C) {p : Pos} {e : Expr} {rest : List Expr} (x : W C c k m (spliced (backTo pos (starEach (e :: rest) c.env))) h (fun vs h₁ => W C c k m (PySem.call (.ref 282) vs) h₁ Q X) X) (hk : c.env.scope.kind = .function) (hx : c.env.kindOf "thread_ids" = some .globalImplicit) (he : starEach (e :: rest) c.env = (false, eval e c.env) :: starEach rest c.env) (hp : (backTo pos (starEach rest c.env)).any (·.1) = false) : W C c k m (eval (.Call (.Name "thread_ids" p) (e :: rest) [] pos) c.env) h Q X := w_call (g_thread_ids T (w_cwF T.toTopOk T.f_thread_ids.1.2 x he hp) hk hx)
theorem gc_law_pot (T : Tops C) {p : Pos} {e : Expr} {rest : List Expr} (x : W C c k m (spliced (backTo pos (starEach (e :: rest) c.env))) h (fun vs h₁ => W C c k m (PySem.call (.ref 287) vs) h₁ Q X) X) (hk : c.env.scope.kind = .function) (hx : c.env.kindOf "_law_pot" = some .globalImplicit) (he : starEach (e :: rest) c.env = (false, eval e c.env) :: starEach rest c.env) (hp : (backTo pos (starEach rest c.env)).any (·.1) = false) : W C c k m (eval (.Call (.Name "_law_pot" p) (e :: rest) [] pos) c.env) h Q X := w_call (g_law_pot T (w_cwF T.toTopOk T.f_law_pot.1.2 x he hp) hk hx)
theorem gc_law_draw (T : Tops C) {p : Pos} {e : Expr} {rest : List Expr} (x : W C c k m (spliced (backTo pos (starEach (e :: rest) c.env))) h (fun vs h₁ => W C c k m (PySem.call (.ref 294) vs) h₁ Q X) X) (hk : c.env.scope.kind = .function) (hx : c.env.kindOf "_law_draw" = some .globalImplicit) (he : starEach (e :: rest) c.env = (false, eval e c.env) :: starEach rest c.env) (hp : (backTo pos (starEach rest c.env)).any (·.1) = false) : W C c k m (eval (.Call (.Name "_law_draw" p) (e :: rest) [] pos) c.env) h Q X := w_call (g_law_draw T (w_cwF T.toTopOk T.f_law_draw.1.2 x he hp) hk hx)
theorem gc_law_names (T : Tops C) {p : Pos} (x : W C c k m (PySem.call (.ref 301) []) h Q X) (hk : c.env.scope.kind = .function) (hx : c.env.kindOf "_law_names" = some .globalImplicit) : W C c k m (eval (.Call (.Name "_law_names" p) [] [] pos) c.env) h Q X := w_call (g_law_names T (w_cwF0 T.toTopOk T.f_law_names.1.2 x) hk hx)
theorem gc_law_ids (T : Tops C) {p : Pos} (x : W C c k m (PySem.call (.ref 308) []) h Q X) (hk : c.env.scope.kind = .function) (hx : c.env.kindOf "_law_ids" = some .globalImplicit) : W C c k m (eval (.Call (.Name "_law_ids" p) [] [] pos) c.env) h Q X := w_call (g_law_ids T (w_cwF0 T.toTopOk T.f_law_ids.1.2 x) hk hx)
theorem gc_law_field (T : Tops C) {p : Pos} {e : Expr} {rest : List Expr} (x : W C c k m (spliced (backTo pos (starEach (e :: rest) c.env))) h (fun vs h₁ => W C c k m (PySem.call (.ref 313) vs) h₁ Q X) X) (hk : c.env.scope.kind = .function) (hx : c.env.kindOf "_law_field" = some .globalImplicit) (he : starEach (e :: rest) c.env = (false, eval e c.env) :: starEach rest c.env) (hp : (backTo pos (starEach rest c.env)).any (·.1) = false) : W C c k m (eval (.Call (.Name "_law_field" p) (e :: rest) [] pos) c.env) h Q X := w_call (g_law_field T (w_cwF T.toTopOk T.f_law_field.1.2 x he hp) hk hx)
theorem gc_law_first (T : Tops C) {p : Pos} {e : Expr} {rest : List Expr} (x : W C c k m (spliced (backTo pos (starEach (e :: rest) c.env))) h (fun vs h₁ => W C c k m (PySem.call (.ref 320) vs) h₁ Q X) X) (hk : c.env.scope.kind = .function) (hx : c.env.kindOf "_law_first" = some .globalImplicit) (he : starEach (e :: rest) c.env = (false, eval e c.env) :: starEach rest c.env) (hp : (backTo pos (starEach rest c.env)).any (·.1) = false) : W C c k m (eval (.Call (.Name "_law_first" p) (e :: rest) [] pos) c.env) h Q X := w_call (g_law_first T (w_cwF T.toTopOk T.f_law_first.1.2 x he hp) hk hx)
theorem gc_Field (T : Tops C) {p : Pos} {e : Expr} {rest : List Expr} (x : W C c k m (spliced (backTo pos (starEach (e :: rest) c.env))) h (fun vs h₁ => W C c k m (PySem.call (.ref 103) vs) h₁ Q X) X) (hk : c.env.scope.kind = .function) (hx : c.env.kindOf "Field" = some .globalImplicit) (he : starEach (e :: rest) c.env = (false, eval e c.env) :: starEach rest c.env) (hp : (backTo pos (starEach rest c.env)).any (·.1) = false) : W C c k m (eval (.Call (.Name "Field" p) (e :: rest) [] pos) c.env) h Q X := w_call (g_Field T (w_cwF T.toTopOk T.keepField x he hp) hk hx)
theorem gc_WordFault (T : Tops C) {p : Pos} {e : Expr} {rest : List Expr} (x : W C c k m (spliced (backTo pos (starEach (e :: rest) c.env))) h (fun vs h₁ => W C c k m (PySem.call (.ref 59) vs) h₁ Q X) X) (hk : c.env.scope.kind = .function) (hx : c.env.kindOf "WordFault" = some .globalImplicit) (he : starEach (e :: rest) c.env = (false, eval e c.env) :: starEach rest c.env) (hp : (backTo pos (starEach rest c.env)).any (·.1) = false) : W C c k m (eval (.Call (.Name "WordFault" p) (e :: rest) [] pos) c.env) h Q X := w_call (g_WordFault T (w_cwF T.toTopOk T.keepFault x he hp) hk hx)
theorem gc_len (T : Tops C) {p : Pos} {e : Expr} {rest : List Expr} (x : W C c k m (spliced (backTo pos (starEach (e :: rest) c.env))) h (fun vs h₁ => W C c k m (PySem.call (.builtin "len") vs) h₁ Q X) X) (hk : c.env.scope.kind = .function) (hx : c.env.kindOf "len" = some .globalImplicit) (he : starEach (e :: rest) c.env = (false, eval e c.env) :: starEach rest c.env) (hp : (backTo pos (starEach rest c.env)).any (·.1) = false) : W C c k m (eval (.Call (.Name "len" p) (e :: rest) [] pos) c.env) h Q X := w_call (g_len T (w_cwB (first := []) x he hp) hk hx)
theorem gc_range (T : Tops C) {p : Pos} {e : Expr} {rest : List Expr} (x : W C c k m (spliced (backTo pos (starEach (e :: rest) c.env))) h (fun vs h₁ => W C c k m (PySem.call (.type "range") vs) h₁ Q X) X) (hk : c.env.scope.kind = .function) (hx : c.env.kindOf "range" = some .globalImplicit) (he : starEach (e :: rest) c.env = (false, eval e c.env) :: starEach rest c.env) (hp : (backTo pos (starEach rest c.env)).any (·.1) = false) : W C c k m (eval (.Call (.Name "range" p) (e :: rest) [] pos) c.env) h Q X := w_call (g_range T (w_cwT (first := []) x he hp) hk hx)
theorem gc_ord (T : Tops C) {p : Pos} {e : Expr} {rest : List Expr} (x : W C c k m (spliced (backTo pos (starEach (e :: rest) c.env))) h (fun vs h₁ => W C c k m (PySem.call (.builtin "ord") vs) h₁ Q X) X) (hk : c.env.scope.kind = .function) (hx : c.env.kindOf "ord" = some .globalImplicit) (he : starEach (e :: rest) c.env = (false, eval e c.env) :: starEach rest c.env) (hp : (backTo pos (starEach rest c.env)).any (·.1) = false) : W C c k m (eval (.Call (.Name "ord" p) (e :: rest) [] pos) c.env) h Q X := w_call (g_ord T (w_cwB (first := []) x he hp) hk hx)
theorem gc_chr (T : Tops C) {p : Pos} {e : Expr} {rest : List Expr} (x : W C c k m (spliced (backTo pos (starEach (e :: rest) c.env))) h (fun vs h₁ => W C c k m (PySem.call (.builtin "chr") vs) h₁ Q X) X) (hk : c.env.scope.kind = .function) (hx : c.env.kindOf "chr" = some .globalImplicit) (he : starEach (e :: rest) c.env = (false, eval e c.env) :: starEach rest c.env) (hp : (backTo pos (starEach rest c.env)).any (·.1) = false) : W C c k m (eval (.Call (.Name "chr" p) (e :: rest) [] pos) c.env) h Q X := w_call (g_chr T (w_cwB (first := []) x he hp) hk hx)
theorem gc_int (T : Tops C) {p : Pos} {e : Expr} {rest : List Expr} (x : W C c k m (spliced (backTo pos (starEach (e :: rest) c.env))) h (fun vs h₁ => W C c k m (PySem.call (.type "int") vs) h₁ Q X) X) (hk : c.env.scope.kind = .function) (hx : c.env.kindOf "int" = some .globalImplicit) (he : starEach (e :: rest) c.env = (false, eval e c.env) :: starEach rest c.env) (hp : (backTo pos (starEach rest c.env)).any (·.1) = false) : W C c k m (eval (.Call (.Name "int" p) (e :: rest) [] pos) c.env) h Q X := w_call (g_int T (w_cwT (first := []) x he hp) hk hx)
theorem gc_abs (T : Tops C) {p : Pos} {e : Expr} {rest : List Expr} (x : W C c k m (spliced (backTo pos (starEach (e :: rest) c.env))) h (fun vs h₁ => W C c k m (PySem.call (.builtin "abs") vs) h₁ Q X) X) (hk : c.env.scope.kind = .function) (hx : c.env.kindOf "abs" = some .globalImplicit) (he : starEach (e :: rest) c.env = (false, eval e c.env) :: starEach rest c.env) (hp : (backTo pos (starEach rest c.env)).any (·.1) = false) : W C c k m (eval (.Call (.Name "abs" p) (e :: rest) [] pos) c.env) h Q X := w_call (g_abs T (w_cwB (first := []) x he hp) hk hx)
theorem gc_list (T : Tops C) {p : Pos} {e : Expr} {rest : List Expr} (x : W C c k m (spliced (backTo pos (starEach (e :: rest) c.env))) h (fun vs h₁ => W C c k m (PySem.call (.type "list") vs) h₁ Q X) X) (hk : c.env.scope.kind = .function) (hx : c.env.kindOf "list" = some .globalImplicit) (he : starEach (e :: rest) c.env = (false, eval e c.env) :: starEach rest c.env) (hp : (backTo pos (starEach rest c.env)).any (·.1) = false) : W C c k m (eval (.Call (.Name "list" p) (e :: rest) [] pos) c.env) h Q X := w_call (g_list T (w_cwT (first := []) x he hp) hk hx)
theorem gc_bytes (T : Tops C) {p : Pos} {e : Expr} {rest : List Expr} (x : W C c k m (spliced (backTo pos (starEach (e :: rest) c.env))) h (fun vs h₁ => W C c k m (PySem.call (.type "bytes") vs) h₁ Q X) X) (hk : c.env.scope.kind = .function) (hx : c.env.kindOf "bytes" = some .globalImplicit) (he : starEach (e :: rest) c.env = (false, eval e c.env) :: starEach rest c.env) (hp : (backTo pos (starEach rest c.env)).any (·.1) = false) : W C c k m (eval (.Call (.Name "bytes" p) (e :: rest) [] pos) c.env) h Q X := w_call (g_bytes T (w_cwT (first := []) x he hp) hk hx)
end
end
local macro_rules | `(tactic| k_clsL) => `(tactic| first
  | with_reducible refine gc_lower_code (by assumption) ?_ (by kernel_rfl) (by kernel_rfl) (by kernel_rfl) (by kernel_rfl)
  | with_reducible refine gc_lower_text (by assumption) ?_ (by kernel_rfl) (by kernel_rfl) (by kernel_rfl) (by kernel_rfl)
  | with_reducible refine gc_line_at (by assumption) ?_ (by kernel_rfl) (by kernel_rfl) (by kernel_rfl) (by kernel_rfl)
  | with_reducible refine gc_is_name (by assumption) ?_ (by kernel_rfl) (by kernel_rfl) (by kernel_rfl) (by kernel_rfl)
  | with_reducible refine gc_colon_in (by assumption) ?_ (by kernel_rfl) (by kernel_rfl) (by kernel_rfl) (by kernel_rfl)
  | with_reducible refine gc_read_spans (by assumption) ?_ (by kernel_rfl) (by kernel_rfl) (by kernel_rfl) (by kernel_rfl)
  | with_reducible refine gc_read_fields (by assumption) ?_ (by kernel_rfl) (by kernel_rfl) (by kernel_rfl) (by kernel_rfl)
  | with_reducible refine gc_rows_of (by assumption) ?_ (by kernel_rfl) (by kernel_rfl) (by kernel_rfl) (by kernel_rfl)
  | with_reducible refine gc_unfolded (by assumption) ?_ (by kernel_rfl) (by kernel_rfl) (by kernel_rfl) (by kernel_rfl)
  | with_reducible refine gc_first_body (by assumption) ?_ (by kernel_rfl) (by kernel_rfl) (by kernel_rfl) (by kernel_rfl)
  | with_reducible refine gc_is_atom_code (by assumption) ?_ (by kernel_rfl) (by kernel_rfl) (by kernel_rfl) (by kernel_rfl)
  | with_reducible refine gc_line_end (by assumption) ?_ (by kernel_rfl) (by kernel_rfl) (by kernel_rfl) (by kernel_rfl)
  | with_reducible refine gc_inside_at (by assumption) ?_ (by kernel_rfl) (by kernel_rfl) (by kernel_rfl) (by kernel_rfl)
  | with_reducible refine gc_closed_at (by assumption) ?_ (by kernel_rfl) (by kernel_rfl) (by kernel_rfl) (by kernel_rfl)
  | with_reducible refine gc_escaped_octets (by assumption) ?_ (by kernel_rfl) (by kernel_rfl) (by kernel_rfl) (by kernel_rfl)
  | with_reducible refine gc_is_run_code (by assumption) ?_ (by kernel_rfl) (by kernel_rfl) (by kernel_rfl) (by kernel_rfl)
  | with_reducible refine gc_is_run (by assumption) ?_ (by kernel_rfl) (by kernel_rfl) (by kernel_rfl) (by kernel_rfl)
  | with_reducible refine gc_run_at (by assumption) ?_ (by kernel_rfl) (by kernel_rfl) (by kernel_rfl) (by kernel_rfl)
  | with_reducible refine gc_check_plain (by assumption) ?_ (by kernel_rfl) (by kernel_rfl) (by kernel_rfl) (by kernel_rfl)
  | with_reducible refine gc_id_at (by assumption) ?_ (by kernel_rfl) (by kernel_rfl) (by kernel_rfl) (by kernel_rfl)
  | with_reducible refine gc_read_ids (by assumption) ?_ (by kernel_rfl) (by kernel_rfl) (by kernel_rfl) (by kernel_rfl)
  | with_reducible refine gc_sides_of (by assumption) ?_ (by kernel_rfl) (by kernel_rfl) (by kernel_rfl) (by kernel_rfl)
  | with_reducible refine gc_id_octets (by assumption) ?_ (by kernel_rfl) (by kernel_rfl) (by kernel_rfl) (by kernel_rfl)
  | with_reducible refine gc_write_ids (by assumption) ?_ (by kernel_rfl) (by kernel_rfl) (by kernel_rfl) (by kernel_rfl)
  | with_reducible refine gc_ids_in (by assumption) ?_ (by kernel_rfl) (by kernel_rfl) (by kernel_rfl) (by kernel_rfl)
  | with_reducible refine gc_thread_ids (by assumption) ?_ (by kernel_rfl) (by kernel_rfl) (by kernel_rfl) (by kernel_rfl)
  | with_reducible refine gc_law_pot (by assumption) ?_ (by kernel_rfl) (by kernel_rfl) (by kernel_rfl) (by kernel_rfl)
  | with_reducible refine gc_law_draw (by assumption) ?_ (by kernel_rfl) (by kernel_rfl) (by kernel_rfl) (by kernel_rfl)
  | with_reducible refine gc_law_names (by assumption) ?_ (by kernel_rfl) (by kernel_rfl)
  | with_reducible refine gc_law_ids (by assumption) ?_ (by kernel_rfl) (by kernel_rfl)
  | with_reducible refine gc_law_field (by assumption) ?_ (by kernel_rfl) (by kernel_rfl) (by kernel_rfl) (by kernel_rfl)
  | with_reducible refine gc_law_first (by assumption) ?_ (by kernel_rfl) (by kernel_rfl) (by kernel_rfl) (by kernel_rfl)
  | with_reducible refine gc_Field (by assumption) ?_ (by kernel_rfl) (by kernel_rfl) (by kernel_rfl) (by kernel_rfl)
  | with_reducible refine gc_WordFault (by assumption) ?_ (by kernel_rfl) (by kernel_rfl) (by kernel_rfl) (by kernel_rfl)
  | with_reducible refine gc_len (by assumption) ?_ (by kernel_rfl) (by kernel_rfl) (by kernel_rfl) (by kernel_rfl)
  | with_reducible refine gc_range (by assumption) ?_ (by kernel_rfl) (by kernel_rfl) (by kernel_rfl) (by kernel_rfl)
  | with_reducible refine gc_ord (by assumption) ?_ (by kernel_rfl) (by kernel_rfl) (by kernel_rfl) (by kernel_rfl)
  | with_reducible refine gc_chr (by assumption) ?_ (by kernel_rfl) (by kernel_rfl) (by kernel_rfl) (by kernel_rfl)
  | with_reducible refine gc_int (by assumption) ?_ (by kernel_rfl) (by kernel_rfl) (by kernel_rfl) (by kernel_rfl)
  | with_reducible refine gc_abs (by assumption) ?_ (by kernel_rfl) (by kernel_rfl) (by kernel_rfl) (by kernel_rfl)
  | with_reducible refine gc_list (by assumption) ?_ (by kernel_rfl) (by kernel_rfl) (by kernel_rfl) (by kernel_rfl)
  | with_reducible refine gc_bytes (by assumption) ?_ (by kernel_rfl) (by kernel_rfl) (by kernel_rfl) (by kernel_rfl)
  | fail "no global call")
section
end
local macro_rules | `(tactic| lcg_src) => `(tactic| first
  | with_reducible refine g_WHITE (by assumption) ?_ (by kernel_rfl) (by kernel_rfl)
  | with_reducible refine g_ATOM_SIGNS (by assumption) ?_ (by kernel_rfl) (by kernel_rfl)
  | with_reducible refine g_NEVER_ESCAPED (by assumption) ?_ (by kernel_rfl) (by kernel_rfl)
  | with_reducible refine g_QUOTE (by assumption) ?_ (by kernel_rfl) (by kernel_rfl)
  | with_reducible refine g_BRACKET (by assumption) ?_ (by kernel_rfl) (by kernel_rfl)
  | with_reducible refine g_LESS (by assumption) ?_ (by kernel_rfl) (by kernel_rfl)
  | with_reducible refine g_Field (by assumption) ?_ (by kernel_rfl) (by kernel_rfl)
  | with_reducible refine g_WordFault (by assumption) ?_ (by kernel_rfl) (by kernel_rfl)
  | with_reducible refine g_PostError (by assumption) ?_ (by kernel_rfl) (by kernel_rfl)
  | with_reducible refine g_len (by assumption) ?_ (by kernel_rfl) (by kernel_rfl)
  | with_reducible refine g_range (by assumption) ?_ (by kernel_rfl) (by kernel_rfl)
  | with_reducible refine g_ord (by assumption) ?_ (by kernel_rfl) (by kernel_rfl)
  | with_reducible refine g_chr (by assumption) ?_ (by kernel_rfl) (by kernel_rfl)
  | with_reducible refine g_int (by assumption) ?_ (by kernel_rfl) (by kernel_rfl)
  | with_reducible refine g_abs (by assumption) ?_ (by kernel_rfl) (by kernel_rfl)
  | with_reducible refine g_list (by assumption) ?_ (by kernel_rfl) (by kernel_rfl)
  | with_reducible refine g_bytes (by assumption) ?_ (by kernel_rfl) (by kernel_rfl)
  | with_reducible refine g_Exception (by assumption) ?_ (by kernel_rfl) (by kernel_rfl)
  | fail "no global")
section
end
-- Head
section
abbrev kVs (x : Str) (n : Nat) : Value := .str x n
abbrev kE (P : Params) (x : Str) (n : Nat) (v : Value) : DictEntry := { hash := PyData.keyHash P x, key := .str x n, val := v }
noncomputable def KX : Params → Frag := fun P => [
  (2, { cls := .none, data := Data.dict ⟨[kE P "type.__subclasses__.Exception.0" 232 (.int 46 0), kE P "type.__subclasses__.Exception.n" 233 (.int 1 0)]⟩ 2 }),
  (3, { cls := .type "dict", data := Data.dict ⟨[kE P "__name__" 165 (kVs "law_no0374_01" 572), kE P "__doc__" 166 (.none), kE P "__package__" 167 (.none), kE P "__loader__" 168 (.builtin "__main__.__loader__#opaque"), kE P "__spec__" 169 (.none), kE P "__annotations__" 170 (.ref 6), kE P "__builtins__" 171 (.ref 4), kE P "__file__" 173 (kVs "/claim/cut.py" 172), kE P "__cached__" 174 (.none), kE P "_wall" 193 (.ref 21), kE P "PostError" 235 (.ref 46), kE P "WordFault" 251 (.ref 59), kE P "lower_code" 260 (.ref 68), kE P "lower_text" 266 (.ref 73), kE P "WHITE" 271 (.ref 74), kE P "Field" 315 (.ref 103), kE P "line_at" 325 (.ref 114), kE P "is_name" 333 (.ref 121), kE P "colon_in" 343 (.ref 128), kE P "read_spans" 361 (.ref 136), kE P "read_fields" 370 (.ref 142), kE P "rows_of" 381 (.ref 149), kE P "unfolded" 388 (.ref 156), kE P "first_body" 398 (.ref 163), kE P "MOST_DEPTH" 402 (.int 20 401), kE P "ATOM_SIGNS" 404 (.bytes ⟨[33, 35, 36, 37, 38, 39, 42, 43, 45, 47, 61, 63, 94, 95, 96, 123, 124, 125, 126]⟩ 403), kE P "NEVER_ESCAPED" 408 (.ref 164), kE P "is_atom_code" 415 (.ref 171), kE P "line_end" 423 (.ref 178), kE P "inside_at" 433 (.ref 185), kE P "closed_at" 446 (.ref 192), kE P "comment_at" 459 (.ref 199), kE P "escaped_octets" 469 (.ref 206), kE P "QUOTE" 473 (.int 34 472), kE P "BRACKET" 475 (.int 40 474), kE P "LESS" 477 (.int 60 476), kE P "is_run_code" 484 (.ref 213), kE P "is_run" 490 (.ref 218), kE P "run_at" 499 (.ref 225), kE P "check_plain" 508 (.ref 232), kE P "id_at" 514 (.ref 237), kE P "past_word" 522 (.ref 244), kE P "read_ids" 532 (.ref 251), kE P "sides_of" 538 (.ref 256), kE P "id_octets" 547 (.ref 263), kE P "write_ids" 553 (.ref 268), kE P "ids_in" 562 (.ref 275), kE P "thread_ids" 571 (.ref 282), kE P "_law_pot" 579 (.ref 287), kE P "_law_draw" 590 (.ref 294), kE P "_law_names" 596 (.ref 301), kE P "_law_ids" 602 (.ref 308), kE P "_law_field" 608 (.ref 313), kE P "_law_first" 618 (.ref 320), kE P "law" 636 (.ref 327)]⟩ 55 }),
  (20, { cls := .type "code", data := Data.fields ⟨[kVs "_wall" 187, kVs "_wall" 188, kVs "/claim/cut.py" 189, .int 1 0, .int 1 0, .int 0 0, .int 0 0, .int 3 0, .ref 15, .bool true, .int 181 0, .ref 16, .none, .ref 17, .ref 18, .ref 19, .int 191 0, .int 1 0, kVs "/claim/cut.py" 192]⟩ }),
  (22, { cls := .type "tuple", data := Data.seq ⟨[.type "Exception"]⟩ }),
  (29, { cls := .type "tuple", data := Data.seq ⟨[.int (-1) 209]⟩ }),
  (35, { cls := .type "code", data := Data.fields ⟨[kVs "__init__" 210, kVs "PostError.__init__" 211, kVs "/claim/cut.py" 212, .int 7 0, .int 3 0, .int 0 0, .int 0 0, .int 3 0, .ref 30, .bool true, .int 181 0, .ref 31, .none, .ref 32, .ref 33, .ref 34, .int 216 0, .int 7 0, kVs "/claim/cut.py" 217]⟩ }),
  (36, { cls := .type "function", data := Data.func { name := "__init__", qualname := "PostError.__init__", params := PM 2 0, body := .stmts (BM 2 0), scope := SM 2 0, globals := 3, closure := [], defaults := .ref 29, kwdefaults := .none, pyModule := kVs "postkeep.errors" 194, code := .ref 35 } }),
  (42, { cls := .type "code", data := Data.fields ⟨[kVs "told" 219, kVs "PostError.told" 220, kVs "/claim/cut.py" 221, .int 12 0, .int 1 0, .int 0 0, .int 0 0, .int 3 0, .ref 37, .bool true, .int 181 0, .ref 38, .none, .ref 39, .ref 40, .ref 41, .int 223 0, .int 12 0, kVs "/claim/cut.py" 224]⟩ }),
  (45, { cls := .type "dict", data := Data.dict ⟨[kE P "__module__" 203 (kVs "postkeep.errors" 194), kE P "__firstlineno__" 207 (.int 5 206), kE P "__init__" 218 (.ref 36), kE P "told" 225 (.ref 43), kE P "__static_attributes__" 228 (.ref 44), kE P "__weakref__" 230 (.ref 47), kE P "__doc__" 231 (.none)]⟩ 3 }),
  (46, { cls := .type "type", data := Data.cls { name := "PostError", bases := [.type "Exception"], mro := [.ref 46, .type "Exception", .type "BaseException", .type "object"], ns := 45, qualname := "PostError", subclasses := [.ref 59] }, slots := ⟨[some (.ref 22), none, some (kVs "PostError" 196), some (kVs "PostError" 204), some (.builtin "Exception.__new__"), some (.bool true)]⟩ }),
  (47, { cls := .type "getset_descriptor", data := Data.fields ⟨[kVs "__weakref__" 229, .ref 46, .builtin "ExceptionGroup.__weakref__", .none]⟩ }),
  (50, { cls := .type "tuple", data := Data.seq ⟨[.ref 46]⟩ }),
  (58, { cls := .type "dict", data := Data.dict ⟨[kE P "__module__" 243 (kVs "postkeep.errors" 194), kE P "__firstlineno__" 247 (.int 14 246), kE P "__static_attributes__" 248 (.ref 57), kE P "__doc__" 249 (.none)]⟩ 2 }),
  (59, { cls := .type "type", data := Data.cls { name := "WordFault", bases := [.ref 46], mro := [.ref 59, .ref 46, .type "Exception", .type "BaseException", .type "object"], ns := 58, qualname := "WordFault" }, slots := ⟨[some (.ref 50), none, some (kVs "WordFault" 236), some (kVs "WordFault" 244), some (.builtin "Exception.__new__"), some (.bool true)]⟩ }),
  (67, { cls := .type "code", data := Data.fields ⟨[kVs "lower_code" 254, kVs "lower_code" 255, kVs "/claim/cut.py" 256, .int 17 0, .int 1 0, .int 0 0, .int 0 0, .int 3 0, .ref 62, .bool true, .int 181 0, .ref 63, .none, .ref 64, .ref 65, .ref 66, .int 258 0, .int 17 0, kVs "/claim/cut.py" 259]⟩ }),
  (68, { cls := .type "function", data := Data.func { name := "lower_code", qualname := "lower_code", params := PA 5, body := .stmts (B 5), scope := SC 5, globals := 3, closure := [], defaults := .none, kwdefaults := .none, pyModule := kVs "postkeep.octets" 252, code := .ref 67 } }),
  (72, { cls := .type "code", data := Data.fields ⟨[kVs "lower_text" 261, kVs "lower_text" 262, kVs "/claim/cut.py" 263, .int 19 0, .int 1 0, .int 0 0, .int 0 0, .int 3 0, .ref 69, .bool true, .int 181 0, .ref 70, .none, .none, .none, .ref 71, .int 264 0, .int 19 0, kVs "/claim/cut.py" 265]⟩ }),
  (73, { cls := .type "function", data := Data.func { name := "lower_text", qualname := "lower_text", params := PA 6, body := .stmts (B 6), scope := SC 6, globals := 3, closure := [], defaults := .none, kwdefaults := .none, pyModule := kVs "postkeep.octets" 252, code := .ref 72 } }),
  (74, { cls := .type "tuple", data := Data.seq ⟨[.int 32 269, .int 9 270]⟩ }),
  (87, { cls := .type "code", data := Data.fields ⟨[kVs "__init__" 284, kVs "Field.__init__" 285, kVs "/claim/cut.py" 286, .int 25 0, .int 3 0, .int 0 0, .int 0 0, .int 3 0, .ref 82, .bool true, .int 181 0, .ref 83, .none, .ref 84, .ref 85, .ref 86, .int 290 0, .int 25 0, kVs "/claim/cut.py" 291]⟩ }),
  (88, { cls := .type "function", data := Data.func { name := "__init__", qualname := "Field.__init__", params := PM 9 0, body := .stmts (BM 9 0), scope := SM 9 0, globals := 3, closure := [], defaults := .none, kwdefaults := .none, pyModule := kVs "postkeep.headers" 267, code := .ref 87 } }),
  (92, { cls := .type "code", data := Data.fields ⟨[kVs "word" 293, kVs "Field.word" 294, kVs "/claim/cut.py" 295, .int 29 0, .int 1 0, .int 0 0, .int 0 0, .int 3 0, .ref 89, .bool true, .int 181 0, .ref 90, .none, .none, .none, .ref 91, .int 296 0, .int 29 0, kVs "/claim/cut.py" 297]⟩ }),
  (93, { cls := .type "function", data := Data.func { name := "word", qualname := "Field.word", params := PM 9 1, body := .stmts (BM 9 1), scope := SM 9 1, globals := 3, closure := [], defaults := .none, kwdefaults := .none, pyModule := kVs "postkeep.headers" 267, code := .ref 92 } }),
  (99, { cls := .type "code", data := Data.fields ⟨[kVs "told" 299, kVs "Field.told" 300, kVs "/claim/cut.py" 301, .int 32 0, .int 1 0, .int 0 0, .int 0 0, .int 3 0, .ref 94, .bool true, .int 181 0, .ref 95, .none, .ref 96, .ref 97, .ref 98, .int 303 0, .int 32 0, kVs "/claim/cut.py" 304]⟩ }),
  (102, { cls := .type "dict", data := Data.dict ⟨[kE P "__module__" 279 (kVs "postkeep.headers" 267), kE P "__firstlineno__" 283 (.int 23 282), kE P "__init__" 292 (.ref 88), kE P "word" 298 (.ref 93), kE P "told" 305 (.ref 100), kE P "__static_attributes__" 308 (.ref 101), kE P "__dict__" 310 (.ref 104), kE P "__weakref__" 312 (.ref 105), kE P "__doc__" 313 (.none)]⟩ 4 }),
  (103, { cls := .type "type", data := Data.cls { name := "Field", bases := [.type "object"], mro := [.ref 103, .type "object"], ns := 102, qualname := "Field" }, slots := ⟨[none, none, some (kVs "Field" 272), some (kVs "Field" 280), some (.builtin "object.__new__"), some (.bool true)]⟩ }),
  (104, { cls := .type "getset_descriptor", data := Data.fields ⟨[kVs "__dict__" 309, .ref 103, .builtin "function.__dict__", .builtin "function.__dict__#set"]⟩ }),
  (105, { cls := .type "getset_descriptor", data := Data.fields ⟨[kVs "__weakref__" 311, .ref 103, .builtin "ExceptionGroup.__weakref__", .none]⟩ }),
  (113, { cls := .type "code", data := Data.fields ⟨[kVs "line_at" 316, kVs "line_at" 317, kVs "/claim/cut.py" 318, .int 34 0, .int 3 0, .int 0 0, .int 0 0, .int 3 0, .ref 108, .bool true, .int 181 0, .ref 109, .none, .ref 110, .ref 111, .ref 112, .int 323 0, .int 34 0, kVs "/claim/cut.py" 324]⟩ }),
  (114, { cls := .type "function", data := Data.func { name := "line_at", qualname := "line_at", params := PA 10, body := .stmts (B 10), scope := SC 10, globals := 3, closure := [], defaults := .none, kwdefaults := .none, pyModule := kVs "postkeep.headers" 267, code := .ref 113 } }),
  (120, { cls := .type "code", data := Data.fields ⟨[kVs "is_name" 326, kVs "is_name" 327, kVs "/claim/cut.py" 328, .int 41 0, .int 1 0, .int 0 0, .int 0 0, .int 3 0, .ref 115, .bool true, .int 181 0, .ref 116, .none, .ref 117, .ref 118, .ref 119, .int 331 0, .int 41 0, kVs "/claim/cut.py" 332]⟩ }),
  (121, { cls := .type "function", data := Data.func { name := "is_name", qualname := "is_name", params := PA 11, body := .stmts (B 11), scope := SC 11, globals := 3, closure := [], defaults := .none, kwdefaults := .none, pyModule := kVs "postkeep.headers" 267, code := .ref 120 } }),
  (127, { cls := .type "code", data := Data.fields ⟨[kVs "colon_in" 334, kVs "colon_in" 335, kVs "/claim/cut.py" 336, .int 46 0, .int 3 0, .int 0 0, .int 0 0, .int 3 0, .ref 122, .bool true, .int 181 0, .ref 123, .none, .ref 124, .ref 125, .ref 126, .int 341 0, .int 46 0, kVs "/claim/cut.py" 342]⟩ }),
  (128, { cls := .type "function", data := Data.func { name := "colon_in", qualname := "colon_in", params := PA 12, body := .stmts (B 12), scope := SC 12, globals := 3, closure := [], defaults := .none, kwdefaults := .none, pyModule := kVs "postkeep.headers" 267, code := .ref 127 } }),
  (129, { cls := .type "tuple", data := Data.seq ⟨[.int 0 344, .int (-1) 346]⟩ }),
  (135, { cls := .type "code", data := Data.fields ⟨[kVs "read_spans" 347, kVs "read_spans" 348, kVs "/claim/cut.py" 349, .int 49 0, .int 3 0, .int 0 0, .int 0 0, .int 3 0, .ref 130, .bool true, .int 181 0, .ref 131, .none, .ref 132, .ref 133, .ref 134, .int 359 0, .int 49 0, kVs "/claim/cut.py" 360]⟩ }),
  (136, { cls := .type "function", data := Data.func { name := "read_spans", qualname := "read_spans", params := PA 13, body := .stmts (B 13), scope := SC 13, globals := 3, closure := [], defaults := .ref 129, kwdefaults := .none, pyModule := kVs "postkeep.headers" 267, code := .ref 135 } }),
  (137, { cls := .type "tuple", data := Data.seq ⟨[.int 0 362, .int (-1) 364]⟩ }),
  (141, { cls := .type "code", data := Data.fields ⟨[kVs "read_fields" 365, kVs "read_fields" 366, kVs "/claim/cut.py" 367, .int 65 0, .int 3 0, .int 0 0, .int 0 0, .int 3 0, .ref 138, .bool true, .int 181 0, .ref 139, .none, .none, .none, .ref 140, .int 368 0, .int 65 0, kVs "/claim/cut.py" 369]⟩ }),
  (142, { cls := .type "function", data := Data.func { name := "read_fields", qualname := "read_fields", params := PA 14, body := .stmts (B 14), scope := SC 14, globals := 3, closure := [], defaults := .ref 137, kwdefaults := .none, pyModule := kVs "postkeep.headers" 267, code := .ref 141 } }),
  (148, { cls := .type "code", data := Data.fields ⟨[kVs "rows_of" 371, kVs "rows_of" 372, kVs "/claim/cut.py" 373, .int 68 0, .int 1 0, .int 0 0, .int 0 0, .int 3 0, .ref 143, .bool true, .int 181 0, .ref 144, .none, .ref 145, .ref 146, .ref 147, .int 379 0, .int 68 0, kVs "/claim/cut.py" 380]⟩ }),
  (149, { cls := .type "function", data := Data.func { name := "rows_of", qualname := "rows_of", params := PA 15, body := .stmts (B 15), scope := SC 15, globals := 3, closure := [], defaults := .none, kwdefaults := .none, pyModule := kVs "postkeep.headers" 267, code := .ref 148 } }),
  (155, { cls := .type "code", data := Data.fields ⟨[kVs "unfolded" 382, kVs "unfolded" 383, kVs "/claim/cut.py" 384, .int 77 0, .int 1 0, .int 0 0, .int 0 0, .int 3 0, .ref 150, .bool true, .int 181 0, .ref 151, .none, .ref 152, .ref 153, .ref 154, .int 386 0, .int 77 0, kVs "/claim/cut.py" 387]⟩ }),
  (156, { cls := .type "function", data := Data.func { name := "unfolded", qualname := "unfolded", params := PA 16, body := .stmts (B 16), scope := SC 16, globals := 3, closure := [], defaults := .none, kwdefaults := .none, pyModule := kVs "postkeep.headers" 267, code := .ref 155 } }),
  (162, { cls := .type "code", data := Data.fields ⟨[kVs "first_body" 389, kVs "first_body" 390, kVs "/claim/cut.py" 391, .int 79 0, .int 2 0, .int 0 0, .int 0 0, .int 3 0, .ref 157, .bool true, .int 181 0, .ref 158, .none, .ref 159, .ref 160, .ref 161, .int 396 0, .int 79 0, kVs "/claim/cut.py" 397]⟩ }),
  (163, { cls := .type "function", data := Data.func { name := "first_body", qualname := "first_body", params := PA 17, body := .stmts (B 17), scope := SC 17, globals := 3, closure := [], defaults := .none, kwdefaults := .none, pyModule := kVs "postkeep.headers" 267, code := .ref 162 } }),
  (164, { cls := .type "tuple", data := Data.seq ⟨[.int 0 405, .int 10 406, .int 13 407]⟩ }),
  (170, { cls := .type "code", data := Data.fields ⟨[kVs "is_atom_code" 409, kVs "is_atom_code" 410, kVs "/claim/cut.py" 411, .int 89 0, .int 1 0, .int 0 0, .int 0 0, .int 3 0, .ref 165, .bool true, .int 181 0, .ref 166, .none, .ref 167, .ref 168, .ref 169, .int 413 0, .int 89 0, kVs "/claim/cut.py" 414]⟩ }),
  (171, { cls := .type "function", data := Data.func { name := "is_atom_code", qualname := "is_atom_code", params := PA 22, body := .stmts (B 22), scope := SC 22, globals := 3, closure := [], defaults := .none, kwdefaults := .none, pyModule := kVs "postkeep.tokens" 399, code := .ref 170 } }),
  (177, { cls := .type "code", data := Data.fields ⟨[kVs "line_end" 416, kVs "line_end" 417, kVs "/claim/cut.py" 418, .int 91 0, .int 2 0, .int 0 0, .int 0 0, .int 3 0, .ref 172, .bool true, .int 181 0, .ref 173, .none, .ref 174, .ref 175, .ref 176, .int 421 0, .int 91 0, kVs "/claim/cut.py" 422]⟩ }),
  (178, { cls := .type "function", data := Data.func { name := "line_end", qualname := "line_end", params := PA 23, body := .stmts (B 23), scope := SC 23, globals := 3, closure := [], defaults := .none, kwdefaults := .none, pyModule := kVs "postkeep.tokens" 399, code := .ref 177 } }),
  (184, { cls := .type "code", data := Data.fields ⟨[kVs "inside_at" 424, kVs "inside_at" 425, kVs "/claim/cut.py" 426, .int 95 0, .int 3 0, .int 0 0, .int 0 0, .int 3 0, .ref 179, .bool true, .int 181 0, .ref 180, .none, .ref 181, .ref 182, .ref 183, .int 431 0, .int 95 0, kVs "/claim/cut.py" 432]⟩ }),
  (185, { cls := .type "function", data := Data.func { name := "inside_at", qualname := "inside_at", params := PA 24, body := .stmts (B 24), scope := SC 24, globals := 3, closure := [], defaults := .none, kwdefaults := .none, pyModule := kVs "postkeep.tokens" 399, code := .ref 184 } }),
  (191, { cls := .type "code", data := Data.fields ⟨[kVs "closed_at" 434, kVs "closed_at" 435, kVs "/claim/cut.py" 436, .int 108 0, .int 4 0, .int 0 0, .int 0 0, .int 3 0, .ref 186, .bool true, .int 181 0, .ref 187, .none, .ref 188, .ref 189, .ref 190, .int 444 0, .int 108 0, kVs "/claim/cut.py" 445]⟩ }),
  (192, { cls := .type "function", data := Data.func { name := "closed_at", qualname := "closed_at", params := PA 25, body := .stmts (B 25), scope := SC 25, globals := 3, closure := [], defaults := .none, kwdefaults := .none, pyModule := kVs "postkeep.tokens" 399, code := .ref 191 } }),
  (198, { cls := .type "code", data := Data.fields ⟨[kVs "comment_at" 447, kVs "comment_at" 448, kVs "/claim/cut.py" 449, .int 117 0, .int 2 0, .int 0 0, .int 0 0, .int 3 0, .ref 193, .bool true, .int 181 0, .ref 194, .none, .ref 195, .ref 196, .ref 197, .int 457 0, .int 117 0, kVs "/claim/cut.py" 458]⟩ }),
  (205, { cls := .type "code", data := Data.fields ⟨[kVs "escaped_octets" 460, kVs "escaped_octets" 461, kVs "/claim/cut.py" 462, .int 132 0, .int 2 0, .int 0 0, .int 0 0, .int 3 0, .ref 200, .bool true, .int 181 0, .ref 201, .none, .ref 202, .ref 203, .ref 204, .int 467 0, .int 132 0, kVs "/claim/cut.py" 468]⟩ }),
  (206, { cls := .type "function", data := Data.func { name := "escaped_octets", qualname := "escaped_octets", params := PA 27, body := .stmts (B 27), scope := SC 27, globals := 3, closure := [], defaults := .none, kwdefaults := .none, pyModule := kVs "postkeep.tokens" 399, code := .ref 205 } }),
  (212, { cls := .type "code", data := Data.fields ⟨[kVs "is_run_code" 478, kVs "is_run_code" 479, kVs "/claim/cut.py" 480, .int 145 0, .int 1 0, .int 0 0, .int 0 0, .int 3 0, .ref 207, .bool true, .int 181 0, .ref 208, .none, .ref 209, .ref 210, .ref 211, .int 482 0, .int 145 0, kVs "/claim/cut.py" 483]⟩ }),
  (213, { cls := .type "function", data := Data.func { name := "is_run_code", qualname := "is_run_code", params := PA 32, body := .stmts (B 32), scope := SC 32, globals := 3, closure := [], defaults := .none, kwdefaults := .none, pyModule := kVs "postkeep.ids" 470, code := .ref 212 } }),
  (217, { cls := .type "code", data := Data.fields ⟨[kVs "is_run" 485, kVs "is_run" 486, kVs "/claim/cut.py" 487, .int 147 0, .int 1 0, .int 0 0, .int 0 0, .int 3 0, .ref 214, .bool true, .int 181 0, .ref 215, .none, .none, .none, .ref 216, .int 488 0, .int 147 0, kVs "/claim/cut.py" 489]⟩ }),
  (218, { cls := .type "function", data := Data.func { name := "is_run", qualname := "is_run", params := PA 33, body := .stmts (B 33), scope := SC 33, globals := 3, closure := [], defaults := .none, kwdefaults := .none, pyModule := kVs "postkeep.ids" 470, code := .ref 217 } }),
  (224, { cls := .type "code", data := Data.fields ⟨[kVs "run_at" 491, kVs "run_at" 492, kVs "/claim/cut.py" 493, .int 149 0, .int 2 0, .int 0 0, .int 0 0, .int 3 0, .ref 219, .bool true, .int 181 0, .ref 220, .none, .ref 221, .ref 222, .ref 223, .int 497 0, .int 149 0, kVs "/claim/cut.py" 498]⟩ }),
  (225, { cls := .type "function", data := Data.func { name := "run_at", qualname := "run_at", params := PA 34, body := .stmts (B 34), scope := SC 34, globals := 3, closure := [], defaults := .none, kwdefaults := .none, pyModule := kVs "postkeep.ids" 470, code := .ref 224 } }),
  (231, { cls := .type "code", data := Data.fields ⟨[kVs "check_plain" 500, kVs "check_plain" 501, kVs "/claim/cut.py" 502, .int 156 0, .int 2 0, .int 0 0, .int 0 0, .int 3 0, .ref 226, .bool true, .int 181 0, .ref 227, .none, .ref 228, .ref 229, .ref 230, .int 506 0, .int 156 0, kVs "/claim/cut.py" 507]⟩ }),
  (232, { cls := .type "function", data := Data.func { name := "check_plain", qualname := "check_plain", params := PA 35, body := .stmts (B 35), scope := SC 35, globals := 3, closure := [], defaults := .none, kwdefaults := .none, pyModule := kVs "postkeep.ids" 470, code := .ref 231 } }),
  (236, { cls := .type "code", data := Data.fields ⟨[kVs "id_at" 509, kVs "id_at" 510, kVs "/claim/cut.py" 511, .int 160 0, .int 2 0, .int 0 0, .int 0 0, .int 3 0, .ref 233, .bool true, .int 181 0, .ref 234, .none, .none, .none, .ref 235, .int 512 0, .int 160 0, kVs "/claim/cut.py" 513]⟩ }),
  (237, { cls := .type "function", data := Data.func { name := "id_at", qualname := "id_at", params := PA 36, body := .stmts (B 36), scope := SC 36, globals := 3, closure := [], defaults := .none, kwdefaults := .none, pyModule := kVs "postkeep.ids" 470, code := .ref 236 } }),
  (243, { cls := .type "code", data := Data.fields ⟨[kVs "past_word" 515, kVs "past_word" 516, kVs "/claim/cut.py" 517, .int 176 0, .int 2 0, .int 0 0, .int 0 0, .int 3 0, .ref 238, .bool true, .int 181 0, .ref 239, .none, .ref 240, .ref 241, .ref 242, .int 520 0, .int 176 0, kVs "/claim/cut.py" 521]⟩ }),
  (250, { cls := .type "code", data := Data.fields ⟨[kVs "read_ids" 523, kVs "read_ids" 524, kVs "/claim/cut.py" 525, .int 183 0, .int 1 0, .int 0 0, .int 0 0, .int 3 0, .ref 245, .bool true, .int 181 0, .ref 246, .none, .ref 247, .ref 248, .ref 249, .int 530 0, .int 183 0, kVs "/claim/cut.py" 531]⟩ }),
  (251, { cls := .type "function", data := Data.func { name := "read_ids", qualname := "read_ids", params := PA 38, body := .stmts (B 38), scope := SC 38, globals := 3, closure := [], defaults := .none, kwdefaults := .none, pyModule := kVs "postkeep.ids" 470, code := .ref 250 } }),
  (255, { cls := .type "code", data := Data.fields ⟨[kVs "sides_of" 533, kVs "sides_of" 534, kVs "/claim/cut.py" 535, .int 198 0, .int 1 0, .int 0 0, .int 0 0, .int 3 0, .ref 252, .bool true, .int 181 0, .ref 253, .none, .none, .none, .ref 254, .int 536 0, .int 198 0, kVs "/claim/cut.py" 537]⟩ }),
  (256, { cls := .type "function", data := Data.func { name := "sides_of", qualname := "sides_of", params := PA 39, body := .stmts (B 39), scope := SC 39, globals := 3, closure := [], defaults := .none, kwdefaults := .none, pyModule := kVs "postkeep.ids" 470, code := .ref 255 } }),
  (262, { cls := .type "code", data := Data.fields ⟨[kVs "id_octets" 539, kVs "id_octets" 540, kVs "/claim/cut.py" 541, .int 208 0, .int 1 0, .int 0 0, .int 0 0, .int 3 0, .ref 257, .bool true, .int 181 0, .ref 258, .none, .ref 259, .ref 260, .ref 261, .int 545 0, .int 208 0, kVs "/claim/cut.py" 546]⟩ }),
  (263, { cls := .type "function", data := Data.func { name := "id_octets", qualname := "id_octets", params := PA 40, body := .stmts (B 40), scope := SC 40, globals := 3, closure := [], defaults := .none, kwdefaults := .none, pyModule := kVs "postkeep.ids" 470, code := .ref 262 } }),
  (267, { cls := .type "code", data := Data.fields ⟨[kVs "write_ids" 548, kVs "write_ids" 549, kVs "/claim/cut.py" 550, .int 217 0, .int 1 0, .int 0 0, .int 0 0, .int 3 0, .ref 264, .bool true, .int 181 0, .ref 265, .none, .none, .none, .ref 266, .int 551 0, .int 217 0, kVs "/claim/cut.py" 552]⟩ }),
  (268, { cls := .type "function", data := Data.func { name := "write_ids", qualname := "write_ids", params := PA 41, body := .stmts (B 41), scope := SC 41, globals := 3, closure := [], defaults := .none, kwdefaults := .none, pyModule := kVs "postkeep.ids" 470, code := .ref 267 } }),
  (274, { cls := .type "code", data := Data.fields ⟨[kVs "ids_in" 554, kVs "ids_in" 555, kVs "/claim/cut.py" 556, .int 219 0, .int 2 0, .int 0 0, .int 0 0, .int 3 0, .ref 269, .bool true, .int 181 0, .ref 270, .none, .ref 271, .ref 272, .ref 273, .int 560 0, .int 219 0, kVs "/claim/cut.py" 561]⟩ }),
  (275, { cls := .type "function", data := Data.func { name := "ids_in", qualname := "ids_in", params := PA 42, body := .stmts (B 42), scope := SC 42, globals := 3, closure := [], defaults := .none, kwdefaults := .none, pyModule := kVs "postkeep.ids" 470, code := .ref 274 } }),
  (281, { cls := .type "code", data := Data.fields ⟨[kVs "thread_ids" 563, kVs "thread_ids" 564, kVs "/claim/cut.py" 565, .int 222 0, .int 1 0, .int 0 0, .int 0 0, .int 3 0, .ref 276, .bool true, .int 181 0, .ref 277, .none, .ref 278, .ref 279, .ref 280, .int 569 0, .int 222 0, kVs "/claim/cut.py" 570]⟩ }),
  (282, { cls := .type "function", data := Data.func { name := "thread_ids", qualname := "thread_ids", params := PA 43, body := .stmts (B 43), scope := SC 43, globals := 3, closure := [], defaults := .none, kwdefaults := .none, pyModule := kVs "postkeep.ids" 470, code := .ref 281 } }),
  (286, { cls := .type "code", data := Data.fields ⟨[kVs "_law_pot" 574, kVs "_law_pot" 575, kVs "/claim/cut.py" 576, .int 229 0, .int 1 0, .int 0 0, .int 0 0, .int 3 0, .ref 283, .bool true, .int 181 0, .ref 284, .none, .none, .none, .ref 285, .int 577 0, .int 229 0, kVs "/claim/cut.py" 578]⟩ }),
  (287, { cls := .type "function", data := Data.func { name := "_law_pot", qualname := "_law_pot", params := PA 45, body := .stmts (B 45), scope := SC 45, globals := 3, closure := [], defaults := .none, kwdefaults := .none, pyModule := kVs "law_no0374_01" 572, code := .ref 286 } }),
  (293, { cls := .type "code", data := Data.fields ⟨[kVs "_law_draw" 580, kVs "_law_draw" 581, kVs "/claim/cut.py" 582, .int 235 0, .int 2 0, .int 0 0, .int 0 0, .int 3 0, .ref 288, .bool true, .int 181 0, .ref 289, .none, .ref 290, .ref 291, .ref 292, .int 588 0, .int 235 0, kVs "/claim/cut.py" 589]⟩ }),
  (294, { cls := .type "function", data := Data.func { name := "_law_draw", qualname := "_law_draw", params := PA 46, body := .stmts (B 46), scope := SC 46, globals := 3, closure := [], defaults := .none, kwdefaults := .none, pyModule := kVs "law_no0374_01" 572, code := .ref 293 } }),
  (300, { cls := .type "code", data := Data.fields ⟨[kVs "_law_names" 591, kVs "_law_names" 592, kVs "/claim/cut.py" 593, .int 246 0, .int 0 0, .int 0 0, .int 0 0, .int 3 0, .ref 295, .bool true, .int 181 0, .ref 296, .none, .ref 297, .ref 298, .ref 299, .int 594 0, .int 246 0, kVs "/claim/cut.py" 595]⟩ }),
  (301, { cls := .type "function", data := Data.func { name := "_law_names", qualname := "_law_names", params := PA 47, body := .stmts (B 47), scope := SC 47, globals := 3, closure := [], defaults := .none, kwdefaults := .none, pyModule := kVs "law_no0374_01" 572, code := .ref 300 } }),
  (307, { cls := .type "code", data := Data.fields ⟨[kVs "_law_ids" 597, kVs "_law_ids" 598, kVs "/claim/cut.py" 599, .int 248 0, .int 0 0, .int 0 0, .int 0 0, .int 3 0, .ref 302, .bool true, .int 181 0, .ref 303, .none, .ref 304, .ref 305, .ref 306, .int 600 0, .int 248 0, kVs "/claim/cut.py" 601]⟩ }),
  (308, { cls := .type "function", data := Data.func { name := "_law_ids", qualname := "_law_ids", params := PA 48, body := .stmts (B 48), scope := SC 48, globals := 3, closure := [], defaults := .none, kwdefaults := .none, pyModule := kVs "law_no0374_01" 572, code := .ref 307 } }),
  (312, { cls := .type "code", data := Data.fields ⟨[kVs "_law_field" 603, kVs "_law_field" 604, kVs "/claim/cut.py" 605, .int 250 0, .int 2 0, .int 0 0, .int 0 0, .int 3 0, .ref 309, .bool true, .int 181 0, .ref 310, .none, .none, .none, .ref 311, .int 606 0, .int 250 0, kVs "/claim/cut.py" 607]⟩ }),
  (313, { cls := .type "function", data := Data.func { name := "_law_field", qualname := "_law_field", params := PA 49, body := .stmts (B 49), scope := SC 49, globals := 3, closure := [], defaults := .none, kwdefaults := .none, pyModule := kVs "law_no0374_01" 572, code := .ref 312 } }),
  (319, { cls := .type "code", data := Data.fields ⟨[kVs "_law_first" 609, kVs "_law_first" 610, kVs "/claim/cut.py" 611, .int 261 0, .int 2 0, .int 0 0, .int 0 0, .int 3 0, .ref 314, .bool true, .int 181 0, .ref 315, .none, .ref 316, .ref 317, .ref 318, .int 616 0, .int 261 0, kVs "/claim/cut.py" 617]⟩ }),
  (320, { cls := .type "function", data := Data.func { name := "_law_first", qualname := "_law_first", params := PA 50, body := .stmts (B 50), scope := SC 50, globals := 3, closure := [], defaults := .none, kwdefaults := .none, pyModule := kVs "law_no0374_01" 572, code := .ref 319 } }),
  (326, { cls := .type "code", data := Data.fields ⟨[kVs "law" 619, kVs "law" 620, kVs "/claim/cut.py" 621, .int 266 0, .int 1 0, .int 0 0, .int 0 0, .int 3 0, .ref 321, .bool true, .int 181 0, .ref 322, .none, .ref 323, .ref 324, .ref 325, .int 634 0, .int 266 0, kVs "/claim/cut.py" 635]⟩ }),
  (327, { cls := .type "function", data := Data.func { name := "law", qualname := "law", params := PA 51, body := .stmts (B 51), scope := SC 51, globals := 3, closure := [], defaults := .none, kwdefaults := .none, pyModule := kVs "law_no0374_01" 572, code := .ref 326 } })]
noncomputable def asX : List Nat := [2, 3, 20, 22, 29, 35, 36, 42, 45, 46, 47, 50, 58, 59, 67, 68, 72, 73, 74, 87, 88, 92, 93, 99, 102, 103, 104, 105, 113, 114, 120, 121, 127, 128, 129, 135, 136, 137, 141, 142, 148, 149, 155, 156, 162, 163, 164, 170, 171, 177, 178, 184, 185, 191, 192, 198, 205, 206, 212, 213, 217, 218, 224, 225, 231, 232, 236, 237, 243, 250, 251, 255, 256, 262, 263, 267, 268, 274, 275, 281, 282, 286, 287, 293, 294, 300, 301, 307, 308, 312, 313, 319, 320, 326, 327]
theorem asX_eq : ∀ P, asX = (KX P).map (·.1) := fun _ => by kernel_rfl
abbrev kRow : OpenRow := PySem.Challenge.rw_no0374_01.row
abbrev kLo : List Str := ["PostError", "read_spans", "read_fields"]
/-- the text without the rows that its own opening alone reads -/
noncomputable def VW : Program := { kRow.prog with main := { kRow.prog.main with body := [0, 2, 3, 5, 6, 8, 9, 10, 11, 12, 15, 16, 17, 19, 20, 21, 22, 23, 24, 25, 26, 27, 29, 30, 31, 32, 33, 34, 35, 36, 37, 38, 39, 40, 41, 42, 43, 45, 46, 47, 48, 49, 50, 51].filterMap fun i => topS[i]? } }
noncomputable abbrev HK : Hook := kHook KX asX asX_eq
/-- the opening runs to its end, and what is asked of it stands; then: the heap's piece stands in it -/
theorem kLeftA : LeftO kRow.prog VW kLo (fun s => xlAt VW [] s && recOk (RowW.records kRow.toRowW) s) (fun _ => ()) (fun _ => ()) 4116 := fun w => by
  unfold openEnds topFrom fencedOpening
  rw [PySem.W.Fast.te14082659384304107361, PySem.W.Fast.te10274390034422433532, PySem.W.Fast.te14289696077712309145, PySem.W.Fast.te14364793385576792824, PySem.W.Fast.te4187177175401517315]
  kernel_rfl
theorem kLeftB : ∀ w, (openEnds treeTable kRow.prog w 4116).map (Hook.obs HK) = some (Hook.val HK w) := fun w => by
  unfold openEnds topFrom fencedOpening
  rw [PySem.W.Fast.te14082659384304107361, PySem.W.Fast.te10274390034422433532, PySem.W.Fast.te14289696077712309145, PySem.W.Fast.te14364793385576792824]
  kernel_rfl
theorem kLeft : LeftO kRow.prog VW kLo (fun s => xlAt VW [] s && recOk (RowW.records kRow.toRowW) s) (Hook.obs HK) (Hook.val HK) 4116 := fun w => by
  obtain ⟨s, e, a⟩ := Option.map_eq_some_iff.mp (kLeftA w)
  obtain ⟨s', e', b⟩ := Option.map_eq_some_iff.mp (kLeftB w)
  rw [e] at e'
  cases e'
  exact Option.map_eq_some_iff.mpr ⟨s, e, Prod.ext (Prod.mk.inj a).1 b⟩
theorem kSaid : OpenLaw.wellSaid PySem.Challenge.rw_no0374_01 = true := by
  rw [PySem.W.Fast.te9446332074065402090]; kernel_rfl
def kDef : DefRec := { name := "law", params := PA 51, body := B 51, scope := SC 51, pos := { line := 266, col := 0, endLine := 286, endCol := 77 } }
set_option maxHeartbeats 8000000 in
theorem hd (walk : WalkO VW kLo (XL VW []) (Hook.says HK) kRow.toRowW kDef [] fun f vs => PySem.call f vs) : PySem.Challenge.rw_no0374_01.Holds := by
  refine holds_law kSaid fun hs => ?_
  refine holds_open (q := VW) (loose := kLo) (Xt := fun s => xlAt VW [] s && recOk (RowW.records kRow.toRowW) s) (XP := XL VW []) (Yf := Hook.obs HK) (Ya := Hook.val HK) (YP := Hook.says HK) (N := 4116) kLeft (Hook.of HK) (Hook.keeps HK) (fun s e => xl_of s (Bool.and_eq_true_iff.mp e).1) XL.keeps ?_ ?_ ?_ (fun s e => recFacts_of (Bool.and_eq_true_iff.mp e).2) ?_ hs ?_ ⟨rfl, rfl, rfl, rfl, rfl, ?_⟩ ?_ walk
  · kernel_rfl
  · kernel_rfl
  · kernel_rfl
  · kernel_rfl
  · decide +kernel
  · decide +kernel
  · w_witness2
end
-- Prim2
section
open Builtin Builtin.Str
variable {C : Cx} {c : Fc} {k : Nat} {m : Loc} {h : Heap} {X : Addr → Heap → Prop}
section
variable {Q : Value → Heap → Prop}
theorem p_neg {a : Int} {t : Tok} (q : ∀ t, Q (.int (-a) t) h) : W C c k m (unaryOp .USub (.int a t)) h Q X := W.same q fun A s E Q' hA hh r => PyProof.Rows.neg_int (r _ _)
theorem p_fdiv {a b : Int} {t u : Tok} (hb : b ≠ 0) (hs : b.natAbs < 1073741824) (q : ∀ t, Q (.int (a.fdiv b) t) h) : W C c k m (binaryOp .FloorDiv (.int a t) (.int b u)) h Q X :=
  W.same q fun A s E Q' hA hh r => PyProof.Rows.floordiv_int hb (r _ _) (.inl (PyProof.noPylong_small hs))
theorem p_pow {a n : Int} {t u : Tok} (hn : 0 ≤ n) (hn2 : n ≤ 1000000) (ha : a.natAbs < 2 ^ 64) (q : ∀ t, Q (.int (a ^ n.toNat) t) h) : W C c k m (binaryOp .Pow (.int a t) (.int n u)) h Q X :=
  W.same q fun A s E Q' hA hh r => PyProof.Rows.pow_int_small hn hn2 ha (r _ _)
theorem p_abs {a : Int} {t : Tok} (q : ∀ t, Q (.int (if a < 0 then -a else a) t) h) : W C c k m (call (.builtin "abs") [.int a t]) h Q X := W.same q fun A s E Q' hA hh r => PyProof.Rows.call_abs_int (fun u tk => r u tk)
theorem p_int {a : Int} {t : Tok} (q : Q (.int a t) h) : W C c k m (call (.type "int") [.int a t]) h Q X := W.same (v := fun _ => .int a t) (fun _ => q) fun A s E Q' hA hh r => call_int_int (r 0 _)
theorem p_chr {i : Int} {t : Tok} (h0 : 0 ≤ i) (h1 : i ≤ 1114111) (q : ∀ t, Q (.str ⟨#[i.toNat]⟩ t) h) : W C c k m (call (.builtin "chr") [.int i t]) h Q X := W.same q fun A s E Q' hA hh r => chr_of_range h0 h1 (r _ _)
theorem p_ord {i : Nat} {t : Tok} (q : ∀ t, Q (.int i t) h) : W C c k m (call (.builtin "ord") [.str ⟨#[i]⟩ t]) h Q X := W.same q fun A s E Q' hA hh r => P.ord_of_char (r _ _)
theorem p_eqS {x y : Str} {t u : Tok} (q : Q (.bool (x == y)) h) : W C c k m (compareOp .Eq (.str x t) (.str y u)) h Q X := W.same (v := fun _ => .bool (x == y)) (fun _ => q) fun A s E Q' hA hh r => PyProof.Rows.eq_str (r 0 _)
theorem p_isNone {v : Value} (q : Q (.bool (v == .none)) h) : W C c k m (compareOp .Is v .none) h Q X := W.same (v := fun _ => .bool (v == .none)) (fun _ => q) fun A s E Q' hA hh r => is_none_gen (r 0 _)
theorem p_itemL {l : Addr} {items : List Value} {i : Int} {t : Tok} {x : Value} (hl : h.IsList l items.toArray) (h0 : 0 ≤ i) (hz : i < 2 ^ 63) (hx : items[i.toNat]? = some x) (q : Q x h) : W C c k m (getItem (.ref l) (.int i t)) h Q X :=
  W.same (v := fun _ => x) (fun _ => q) fun A s E Q' hA hh r => wpAny_getItem_list (hh ▸ hl) h0 hz (by simpa using hx) (r 0 _)
theorem w_tailL {a b : Expr} {l : Addr} {items : Array Value} {i : Value} (hl : h.IsList l items) (z : W C c k m (getItem (.ref l) i) h Q X) : W C c k m (subscriptTail a b (.ref l) i) h Q X :=
  w_tail (T := "list") (id := "list.__getitem__") (fun s e => by subst e; obtain ⟨o, e, e1, _⟩ := hl; exact ⟨o, e, e1⟩) list_getitem_lookup z
theorem p_sliceL {l a : Addr} {items : List Value} {vl vu : Value} {lo hi : Option Int} (hl : h.IsList l items.toArray) (hs : h.IsSliceOf a vl vu .none) (pl : IsPart vl lo) (pu : IsPart vu hi) (hz : items.length ≤ sizeLine)
    (q : ∀ D h', Keep h h' → h.get? D = none → h'.IsList D (slicePick items.toArray lo hi none) → Q (.ref D) h') : W C c k m (getItem (.ref l) (.ref a)) h Q X :=
  W.grow (P := fun v h' => ∃ D, v = .ref D ∧ h.get? D = none ∧ h'.IsList D (slicePick items.toArray lo hi none)) (fun v h' kp ⟨D, e, p1, p2⟩ => e ▸ q D h' kp p1 p2) fun A s E Q' hA hh r => by
    subst hh
    exact wpAny_getItem_list_slice hl hs pl pu .none (by intro e; cases e) (r _ _ _ (Keep.push _ _) ⟨_, rfl, Heap.get?_none_of_le (Nat.le_refl _), _, Heap.get?_push_size _ rfl, rfl, _, rfl⟩) (by simpa using hz)
theorem p_listCopy {l : Addr} {items : List Value} (hl : h.IsList l items.toArray) (hz : items.length ≤ sizeLine) (q : ∀ D h', Keep h h' → h.get? D = none → h'.IsList D items.toArray → Q (.ref D) h') : W C c k m (call (.type "list") [.ref l]) h Q X :=
  W.grow (P := fun v h' => ∃ D, v = .ref D ∧ h.get? D = none ∧ h'.IsList D items.toArray) (fun v h' kp ⟨D, e, p1, p2⟩ => e ▸ q D h' kp p1 p2) fun A s E Q' hA hh r => by
    subst hh
    obtain ⟨o, ho, hc, n, hd⟩ := hl
    exact call_list_seq (hsz := by simpa using hz) l (.inl rfl) ho hc hd fun h' c' hk hD => r _ _ _ hk ⟨_, rfl, Heap.get?_none_of_le (Nat.le_refl _), _, hD, rfl, _, rfl⟩
section
variable {Q : Bool → Heap → Prop}
theorem p_truthyL {l : Addr} {items : List Value} (hl : h.IsList l items.toArray) (hz : items.length ≤ sizeLine) (q : Q (!items.isEmpty) h) : W C c k m (truthy (.ref l)) h Q X :=
  W.same (v := fun _ => !items.isEmpty) (fun _ => q) fun A s E Q' hA hh r => wpAny_truthy_list (hh ▸ hl) (by rw [sizeLine_eq] at hz; simp; omega) (by simpa using r 0 _)
theorem p_truthyS {x : Str} {t : Tok} (hz : x.length ≤ sizeLine) (q : Q ((x.length : Int) != 0) h) : W C c k m (truthy (.str x t)) h Q X :=
  W.same (v := fun _ => (x.length : Int) != 0) (fun _ => q) fun A s E Q' hA hh r => P.truthy_str (by rw [sizeLine_eq] at hz; omega) (r 0 _)
theorem p_truthyI {i : Int} {t : Tok} (q : Q (i != 0) h) : W C c k m (truthy (.int i t)) h Q X :=
  W.same (v := fun _ => i != 0) (fun _ => q) fun A s E Q' hA hh r => PyProof.Rows.truthy_int (r 0 _)
end
/-- a list of the call's own grows -/
structure LeB (D : Addr) (h h' : Heap) : Prop where
  le : ∀ b o, b ≠ D → h.get? b = some o → (∀ vs, o.data ≠ .fields vs) → o.cls ≠ .type "frame" → ∃ sl, h'.get? b = some { o with slots := sl }
theorem LeB.list {D l : Addr} {h h' : Heap} {items : Array Value} (x : LeB D h h') (ne : l ≠ D) (y : h.IsList l items) : h'.IsList l items := by
  obtain ⟨o, e, e1, n, e2⟩ := y
  obtain ⟨sl, e'⟩ := x.le l o ne e (fun vs q => by rw [e2] at q; cases q) (by rw [e1]; decide)
  exact ⟨_, e', e1, n, e2⟩
theorem Le.leB {h₀ h h' : Heap} {D : Addr} (x : Le h₀ h) (y : LeB D h h') (n : h₀.get? D = none) : Le h₀ h' := fun b o e hn hc =>
  let ⟨_, e₁⟩ := x b o e hn hc
  let ⟨sl, e₂⟩ := y.le b _ (fun z => by rw [z, n] at e; cases e) e₁ hn hc
  ⟨sl, e₂⟩
theorem p_append {D : Addr} {items : List Value} {x : Value} (hl : h.IsList D items.toArray) (hb : C.base.get? D = none) (hz : items.length ≤ sizeLine) (q : ∀ h', LeB D h h' → h'.IsList D (items ++ [x]).toArray → Q .none h') :
    W C c k m (call (.builtin "list.append") [.ref D, x]) h Q X := fun A s hA hs hh hn => by
  subst hh
  refine wpAny_list_append hl (fun h' hl' hsb => ?_) (by simpa using hz)
  have ne : c.L ≠ D := fun z => by
    obtain ⟨f, ⟨o, es, ep, e, d, _⟩, _⟩ := hn.ns
    obtain ⟨o', e', _, n, d'⟩ := hl
    rw [z, e'] at e; cases e; rw [d'] at d; cases d
  obtain ⟨oD, eD, cD, nD, dD⟩ := hl'
  exact ⟨hs.upd hb hsb ⟨oD, eD, fun vs z => by rw [dD] at z; cases z⟩ _, ⟨fun b o _ e hd => ⟨o.slots, hsb.extBut _ _ (fun z => by
      obtain ⟨o', e', _, n, d'⟩ := hl
      obtain ⟨es, n', d⟩ := hd
      rw [z, e'] at e; cases e; rw [d'] at d; cases d) e⟩, fun b o _ e hr => hsb.extBut _ _ (fun z => by
      obtain ⟨o', e', _, n, d'⟩ := hl
      rw [z] at e
      exact noRec e hr e' fun vs q => by rw [d'] at q; cases q) e⟩, hn.ext hsb.extBut ne, q h' ⟨fun b o hb e _ _ => ⟨o.slots, hsb.extBut _ _ hb e⟩⟩ ⟨oD, eD, cD, nD, by rw [dD]; simp⟩⟩
-- str.join of a list of strs
def joinS (sep : Str) (l : List Str) : Str := match l with | [x] => x | l => Builtin.Str.glued sep l
theorem p_joinS {sep : Str} {t : Tok} {a : Addr} {l : List (Str × Tok)} (hl : h.IsList a (strValues l).toArray) (hz : Builtin.Str.tooLong ((l.map (·.1)).toArray.foldl (· + ·.length + sep.length) 0) = false) (hz2 : (joinS sep (l.map (·.1))).length ≤ sizeLine)
    (q : ∀ t, Q (.str (joinS sep (l.map (·.1))) t) h) : W C c k m (call (.builtin "str.join") [.str sep t, .ref a]) h Q X :=
  W.same q fun A s E Q' hA hh r => call_meets F.slot_str_join (typeIs_str _ _ _) F.entry_str_join (F.args_str_join_2 _ _) (meets_str_join_list sep t a l hz) (by
    refine ⟨hh ▸ hl, ?_⟩
    revert hz2
    match l, r with
    | [], r => exact fun z => ⟨z, r s.toks (s.toks + 1)⟩
    | [p], r => exact fun _ => r p.2 s.toks
    | p :: p' :: l, r => exact fun z => ⟨z, r s.toks (s.toks + 1)⟩)
end
end
-- Mac
section
theorem szl {n : Nat} (h : n ≤ 16777216) : n ≤ sizeLine := by rw [sizeLine_eq]; exact h
section
variable {C : Cx} {c : Fc} {k : Nat} {m : Loc} {h : Heap} {X : Addr → Heap → Prop} {Q : Value → Heap → Prop}
-- guards: which kind of goal it is
theorem at_eval {e : Expr} {env : Env} (x : W C c k m (eval e env) h Q X) : W C c k m (eval e env) h Q X := x
theorem at_const {v : Const} {kd : Nat} {pos : Pos} {env : Env} (x : W C c k m (eval (.Constant v kd pos) env) h Q X) : W C c k m (eval (.Constant v kd pos) env) h Q X := x
theorem at_nm {x : Str} {pos : Pos} {env : Env} (y : W C c k m (eval (.Name x pos) env) h Q X) : W C c k m (eval (.Name x pos) env) h Q X := y
theorem at_ncall {x : Str} {pos p : Pos} {as : List Expr} {kw : List Keyword} {env : Env} (y : W C c k m (eval (.Call (.Name x p) as kw pos) env) h Q X) : W C c k m (eval (.Call (.Name x p) as kw pos) env) h Q X := y
theorem at_bin {op : Operator} {a b : Value} (x : W C c k m (binaryOp op a b) h Q X) : W C c k m (binaryOp op a b) h Q X := x
theorem at_cmp {op : CmpOp} {a b : Value} (x : W C c k m (compareOp op a b) h Q X) : W C c k m (compareOp op a b) h Q X := x
theorem at_test {e : Expr} {env : Env} {whole : Sem Value} {Q : Bool → Heap → Prop} (x : W C c k m (isTrue e env whole) h Q X) : W C c k m (isTrue e env whole) h Q X := x
theorem at_args {l : List (Bool × Sem Value)} {Q : List Value → Heap → Prop} (x : W C c k m (spliced l) h Q X) : W C c k m (spliced l) h Q X := x
theorem at_S {t : Sem Flow} {N : Loc → Heap → Prop} {R : Value → Heap → Prop} {Y : Loc → Addr → Heap → Prop} (x : S C c k m t h N R Y) : S C c k m t h N R Y := x
theorem at_W {α : Type} {t : Sem α} {Q : α → Heap → Prop} (x : W C c k m t h Q X) : W C c k m t h Q X := x
end
-- a look-up
end
local macro_rules | `(tactic| lcg_off) => `(tactic| first | with_reducible exact lk0 | (refine' lkS (by kernel_rfl) ?lkt; (case lkt => lcg_off)) | (simp only [List.reverse_cons, List.reverse_nil, List.nil_append, List.cons_append]; lcg_off))
section
end
local macro_rules | `(tactic| lcg_sub) => `(tactic| first | with_reducible exact Sub.nil | (refine' Sub.cons ?hlk ?hsub; (case hlk => lcg_off); (case hsub => lcg_sub)))
section
-- one step
end
local macro_rules | `(tactic| k_offL) => `(tactic| first
  | (with_reducible refine at_eval ?_; first
    | (with_reducible refine at_nm ?_; first
      | (with_reducible refine' w_name ?hv ?_ (by kernel_rfl) (by kernel_rfl) (by kernel_rfl); (case hv => lcg_off))
      | lcg_src)
    | (with_reducible refine at_const ?_; first
      | (with_reducible refine w_int ?_; intro _)
      | (with_reducible refine w_bytes ?_; intro _)
      | (with_reducible refine w_str ?_; intro _)
      | with_reducible refine w_none ?_
      | with_reducible refine w_bool ?_)
    | with_reducible refine w_binop ?_
    | with_reducible refine w_cmp ?_ (by kernel_rfl)
    | with_reducible refine w_sub ?_
    | with_reducible refine w_slice ?_
    | (with_reducible refine at_ncall ?_; first | k_clsL | with_reducible refine w_call ?_)
    | with_reducible refine w_unop ?_
    | with_reducible refine w_vchain ?_ (by kernel_rfl)
    | with_reducible refine w_tuple ?_
    | with_reducible refine w_list ?_
    | with_reducible refine w_and ?_
    | with_reducible refine w_or ?_
    | with_reducible refine w_bool1 ?_
    | with_reducible refine w_ifexp ?_
    | (with_reducible refine w_methV isB_type rfl (by kernel_rfl) (by kernel_rfl) FB.plainAttrs_bytes slot_find type_find ?_)
    | (with_reducible refine w_methV isS_type rfl (by kernel_rfl) (by kernel_rfl) F.plainAttrs_str F.slot_str_join F.type_str_join ?_))
  | (with_reducible refine at_S ?_; first
    | with_reducible refine s_cons ?_
    | with_reducible refine s_ret ?_
    | with_reducible refine s_if ?_
    | with_reducible refine s_assign (Live.fn (by kernel_rfl)) (by kernel_rfl) rfl ?_
    | with_reducible refine s_expr (by kernel_rfl) (by kernel_rfl) ?_)
  | (with_reducible refine at_bin ?_; first
    | (with_reducible refine p_add ?_; intro _)
    | (with_reducible refine p_sub ?_; intro _))
  | (with_reducible refine at_cmp ?_; first
    | with_reducible refine p_lt ?_
    | with_reducible refine p_le ?_
    | with_reducible refine p_gt ?_
    | with_reducible refine p_ge ?_
    | with_reducible refine p_eq ?_
    | with_reducible refine p_ne ?_
    | with_reducible refine p_eqB ?_
    | with_reducible refine p_neB ?_
    | with_reducible refine p_eqS ?_
    | with_reducible refine p_isNone ?_)
  | (with_reducible refine at_test ?_; first
    | with_reducible refine w_tcmp ?_ (by kernel_rfl)
    | with_reducible refine w_tchain ?_ (by kernel_rfl)
    | with_reducible refine w_tand ?_
    | with_reducible refine w_tand_nil ?_
    | with_reducible refine w_tor ?_
    | with_reducible refine w_tor_nil ?_
    | with_reducible refine w_tnot ?_
    | with_reducible refine w_tval ?_ (by kernel_rfl))
  | (with_reducible refine at_args ?_; first
    | with_reducible refine w_args_cons ?_ (by kernel_rfl)
    | with_reducible refine w_args_nil ?_)
  | (with_reducible refine at_W ?_; first
    | with_reducible refine w_tailB ?_
    | with_reducible refine w_part_some ?_
    | with_reducible refine w_part_none ?_
    | with_reducible refine w_truthy_bool ?_
    | with_reducible refine w_chain_link ?_
    | with_reducible refine w_chain_last ?_
    | with_reducible refine w_test_link ?_
    | with_reducible refine w_test_last ?_
    | with_reducible refine w_cwB ?_ (by kernel_rfl) (by kernel_rfl)
    | with_reducible refine w_cwT ?_ (by kernel_rfl) (by kernel_rfl)
    | (with_reducible refine p_neg ?_; intro _))
  | with_reducible refine And.intro isB_mk ?_
  | with_reducible refine And.intro isS_mk ?_)
section
end
local macro_rules | `(tactic| k_subL) => `(tactic| repeat k_offL)
section
end
-- F1
section
variable {C : Cx} {c : Fc} {k : Nat} {m : Loc} {h : Heap} {X : Addr → Heap → Prop} {Q : Value → Heap → Prop}
def Tup2I (h : Heap) (r : Addr) (x y : Int) : Prop := ∃ t u, h.IsTuple r #[.int x t, .int y u]
/-- a line's length, and with its end -/
def lineLen (r : List UInt8) : Nat × Nat := match r.findIdx? (· == 10) with
  | none => (r.length, r.length)
  | some i => if 0 < i ∧ r.getD (i - 1) 0 = 13 then (i - 1, i + 1) else (i, i + 1)
theorem fnd_all (d : List UInt8) (x : UInt8) (a : Nat) : fnd d x a d.length = match (d.drop a).findIdx? (· == x) with | some i => ((a + i : Nat) : Int) | none => -1 := by
  rw [fnd_eq, List.take_length]
  all_goals (cases (d.drop a).findIdx? (· == x) <;> rfl)
theorem u8_int {x : UInt8} {n : Nat} (hn : n < 256) : ((x.toNat : Int) = (n : Int)) ↔ x = UInt8.ofNat n := by
  constructor
  · intro e
    have : x.toNat = n := by omega
    rw [← this]; simp
  · intro e; subst e
    have : (UInt8.ofNat n).toNat = n := by simp; omega
    omega
theorem findIdx_lt {α : Type} {p : α → Bool} {l : List α} {i : Nat} (h : l.findIdx? p = some i) : i < l.length := by
  rw [List.findIdx?_eq_some_iff_findIdx_eq] at h; exact h.1
theorem line_at_spec (T : Tops C) {d : List UInt8} {a : Nat} {tb ta te : Tok} (ha : a ≤ d.length) (hz : d.length ≤ 16777216)
    (q : ∀ r h', Le h h' → Tup2I h' r ((a + (lineLen (d.drop a)).1 : Nat) : Int) ((a + (lineLen (d.drop a)).2 : Nat) : Int) → Q (.ref r) h') :
    W C c (k + 1) m (PySem.call (.ref 114) [.bytes d.toArray tb, .int a ta, .int d.length te]) h Q X := by
  refine w_fn T.toTopOk T.f_line_at.2 (binds := [("data", .bytes d.toArray tb), ("at", .int a ta), ("end", .int d.length te)]) (fun _ _ _ _ _ _ _ _ => BindsTo.of_eq rfl) (locs (by kernel_rfl)) (by decide +kernel) (by kernel_rfl) (by kernel_rfl) (by kernel_rfl) rfl fun cd L h₁ kp hL => ?_
  refine s_body (rfl : B 10 = _ :: _) ?_
  k_subL
  refine p_find (by omega) (by omega) fun t h₂ le => ?_
  have le := kp.le.trans le
  have e := fnd_all d 10 a
  cases hi : (d.drop a).findIdx? (· == 10) with
  | none =>
    rw [hi] at e
    have e : fnd d 10 a d.length = -1 := e
    have el : lineLen (d.drop a) = (d.length - a, d.length - a) := by unfold lineLen; rw [hi]; simp
    rw [e]
    k_subL
    refine ⟨fun _ => ?_, fun hb => by cases hb⟩
    k_subL
    refine w_newTuple (szl (by simp)) fun r h' kp' _ ht => q r h' (le.trans kp'.le) ?_
    have : ((a + (lineLen (d.drop a)).1 : Nat) : Int) = (d.length : Int) := by rw [el]; dsimp only; omega
    have e2 : (lineLen (d.drop a)).2 = (lineLen (d.drop a)).1 := by rw [el]
    rw [e2, this]; exact ⟨_, _, ht⟩
  | some i =>
    rw [hi] at e
    have e : fnd d 10 a d.length = ((a + i : Nat) : Int) := e
    rw [e]
    have hil := findIdx_lt hi
    rw [List.length_drop] at hil
    k_subL
    refine ⟨fun hb => by have := of_decide_eq_true hb; omega, fun hb => ?_⟩
    refine s_nil (Sub.refl _) ?_
    have eg : d.getD ((↑(a + i) : Int) - 1).toNat 0 = d.getD (a + i - 1) 0 := by congr 1; omega
    have eg2 : 0 < i → d.getD (a + i - 1) 0 = (d.drop a).getD (i - 1) 0 := fun _ => by
      have : a + i - 1 = a + (i - 1) := by omega
      rw [this, List.getD_eq_getElem?_getD, List.getD_eq_getElem?_getD, List.getElem?_drop]
    have no : ¬ (0 < i ∧ (d.drop a).getD (i - 1) 0 = 13) → ∀ h', Le h h' → S C (Fc.fn "line_at" (SC 10) 114 cd L c.frames) k (("spot", Value.int ((a + i : Nat) : Int) t) :: ([("data", Value.bytes d.toArray tb), ("at", Value.int a ta), ("end", Value.int d.length te)] : Loc).reverse)
        (execs ((B 10).drop 3) (Fc.fn "line_at" (SC 10) 114 cd L c.frames).env) h' (fun m' h' => Q Value.none h') Q (fun _ _ _ => False) := fun hn h' le => by
      have el : lineLen (d.drop a) = (i, i + 1) := by unfold lineLen; rw [hi]; simp only [if_neg hn]
      rw [el] at q
      refine s_body (rfl : (B 10).drop 3 = _ :: _) ?_
      k_subL
      exact w_newTuple (szl (by simp)) fun r h' kp' _ ht => q r h' (le.trans kp'.le) ⟨_, _, ht⟩
    k_subL
    refine ⟨fun hc => ?_, fun hc => ⟨fun z => (nomatch z), fun _ => ?_⟩⟩
    · have hc := of_decide_eq_true hc
      k_subL
      refine p_item (by omega) (by omega) (by omega) fun _ => ?_
      k_subL
      rw [eg, eg2 (by omega)]
      refine ⟨fun hd => ?_, fun hd => ⟨fun z => (nomatch z), fun _ => ?_⟩⟩
      · k_subL
        refine ⟨fun _ => ?_, fun z => by cases z⟩
        have hd := (u8_int (n := 13) (by omega)).mp (of_decide_eq_true hd)
        have el : lineLen (d.drop a) = (i - 1, i + 1) := by unfold lineLen; rw [hi]; simp only [if_pos (show 0 < i ∧ (d.drop a).getD (i - 1) 0 = 13 from ⟨by omega, hd⟩)]
        rw [el] at q
        k_subL
        refine w_newTuple (szl (by simp)) fun r h' kp' _ ht => q r h' (le.trans kp'.le) ?_
        have e1 : ((a + (i - 1) : Nat) : Int) = (a + i : Nat) - 1 := by omega
        have e2 : ((a + (i + 1) : Nat) : Int) = (a + i : Nat) + 1 := by omega
        show Tup2I _ _ ((a + (i - 1) : Nat) : Int) ((a + (i + 1) : Nat) : Int)
        rw [e1, e2]; exact ⟨_, _, ht⟩
      · refine s_nil (Sub.refl _) (no (fun z => ?_) _ le)
        have : (((d.drop a).getD (i - 1) 0).toNat : Int) ≠ 13 := by simpa using hd
        exact this ((u8_int (n := 13) (by omega)).mpr z.2)
    · have hc := of_decide_eq_false hc
      exact s_nil (Sub.refl _) (no (fun z => by omega) _ le)
end
-- Obj
section
variable {C : Cx} {c : Fc} {k : Nat} {m : Loc} {h : Heap} {X : Addr → Heap → Prop} {Q : Value → Heap → Prop}
/-- a Field of the program -/
def FieldAt (h : Heap) (x : Addr) (n r : List UInt8) : Prop := ∃ dx sx sd tn tr k1 k2 h1 h2,
  h.get? x = some ⟨.ref 103, some dx, .plain, sx⟩ ∧
  h.get? dx = some { cls := .type "dict", data := .dict #[⟨h1, .str "name" k1, .bytes n.toArray tn⟩, ⟨h2, .str "raw" k2, .bytes r.toArray tr⟩] 2, slots := sd }
theorem FieldAt.le {h h' : Heap} {x : Addr} {n r : List UInt8} (y : FieldAt h x n r) (l : Le h h') : FieldAt h' x n r := by
  obtain ⟨dx, sx, sd, tn, tr, k1, k2, h1, h2, e1, e2⟩ := y
  obtain ⟨s1, e1'⟩ := l _ _ e1 (fun vs z => by cases z) (fun z => by cases z)
  obtain ⟨s2, e2'⟩ := l _ _ e2 (fun vs z => by cases z) (show Value.type "dict" ≠ .type "frame" by decide)
  exact ⟨dx, s1, s2, tn, tr, k1, k2, h1, h2, e1', e2'⟩
theorem newField (T : Tops C) {n r : List UInt8} {tn tr : Tok} (q : ∀ x h', Keep h h' → FieldAt h' x n r → Q (.ref x) h') :
    W C c (k + 1) m (PySem.call (.ref 103) [.bytes n.toArray tn, .bytes r.toArray tr]) h Q X := fun A s hA hs hh hn => by
  subst hh
  have hK := hs.kin T.toTopOk
  obtain ⟨hh, g, dr, t, os⟩ := s
  refine wpAny_call (make_core (makes_of hK T.field.makes) (looks_findIn hK T.field.init) (fun self => bind_fn hK self T.field.initT) (.inl rfl) ?_)
  obtain ⟨h2, e2⟩ : ∃ h2, h2 = (hh.push emptyDict).push (instObj 103 hh.objs.size) := ⟨_, rfl⟩
  rw [← e2]
  have kp : Keep hh h2 := by rw [e2]; exact (Keep.push _ _).trans (Keep.push _ _)
  have hx : h2.get? (hh.objs.size + 1) = some (instObj 103 hh.objs.size) := by rw [e2]; heap_get
  have hd : h2.get? hh.objs.size = some emptyDict := by rw [e2]; heap_get
  have sz : h2.objs.size = hh.objs.size + 2 := by rw [e2, Heap.size_push, Heap.size_push]
  have hs2 : St C c.frames ⟨h2, g, dr, t, os⟩ := hs.keep kp t
  have hK2 := hs2.kin T.toTopOk
  obtain ⟨oc, od, osl, name, doc, pm, an, cdv, ct, ho, hcd⟩ := T.field.f88
  refine codeAny_call_function (by have := hA.depth; have : recursionLimit = 1000 := rfl; show A.depth + 1 < recursionLimit; omega) (hK2 _ _ ho) rfl (by kernel_rfl) (by kernel_rfl) rfl (codeRec_of hK2 hcd) ?_
  refine (BindsTo.of_eq rfl : BindsTo _ (fnOf name "Field.__init__" (PM 9 0) (BM 9 0) (SM 9 0) .none .none doc pm an cdv ct) ⟨[.ref (hh.objs.size + 1), .bytes n.toArray tn, .bytes r.toArray tr], []⟩ [("self", .ref (hh.objs.size + 1)), ("name", .bytes n.toArray tn), ("raw", .bytes r.toArray tr)]) _ _ _ _ ?_
  refine wpAny_newEnvC (by show ∀ x ∈ (SM 9 0).names, x.2 ≠ .cell; decide +kernel) (locs (by kernel_rfl)) (by kernel_rfl) fun h₁ tk hns hcls kp1 => ⟨(hs2.nolimit T.toTopOk).keeps kp1, ?_⟩
  refine codeAny_func ?_
  have hns : h₁.Ns h2.objs.size _ := hns
  obtain ⟨L, eL⟩ : ∃ L, L = h2.objs.size := ⟨_, rfl⟩
  have F : Fr hh L h₁ _ := ⟨eL ▸ hns, kp.trans kp1, by omega⟩
  have nx : (hh.objs.size + 1 : Addr) ≠ L := fun z => by
    have z : (hh.objs.size + 1 : Nat) = h2.objs.size := z.trans eL
    omega
  have nd : (hh.objs.size : Addr) ≠ L := fun z => by
    have z : (hh.objs.size : Nat) = h2.objs.size := z.trans eL
    omega
  have nxd : (hh.objs.size + 1 : Addr) ≠ hh.objs.size := fun z => by
    have z : (hh.objs.size + 1 : Nat) = hh.objs.size := z
    omega
  have N : News hh L h₁ [(hh.objs.size + 1, instObj 103 hh.objs.size), (hh.objs.size, PySem.W.dictOf [] 0)] := by
    intro p hp
    rcases List.mem_cons.mp hp with rfl | hp
    · exact ⟨kp1 _ _ hx, nx, Heap.get?_none_of_le (by dsimp only; omega)⟩
    · rw [List.mem_singleton] at hp; subst hp
      exact ⟨kp1 _ _ hd, nd, Heap.get?_none_of_le (Nat.le_refl _)⟩
  have hL : (envOf "Field.__init__" (SM 9 0) L 88 cdv).locals = L := rfl
  show wpAny _ _ (execs (BM 9 0) (envOf "Field.__init__" (SM 9 0) h2.objs.size 88 cdv)) _ _ _
  rw [← eL]
  refine wpAny_execs_cons (plainObj_wpAny_Assign_Attribute (wpAny_Name (wpAny_loadName_local (by kernel_rfl) (by kernel_rfl) F.ns rfl ?_) (by kernel_rfl)) (by kernel_rfl))
  refine wpAny_Name (wpAny_loadName_local (by kernel_rfl) (by kernel_rfl) F.ns rfl ?_) (by kernel_rfl)
  refine set_dict F hK N ⟨kp1 _ _ hx, rfl, rfl, kp1 _ _ hd⟩ rfl T.field.sa T.field.over T.field.takeN T.field.dict rfl rfl (.tail nxd (.head (fun _ z => nomatch z))) (show (1 : Nat) ≤ 1000 by decide) fun h3 F3 N3 => ?_
  refine wpAny_execs_cons (plainObj_wpAny_Assign_Attribute (wpAny_Name (wpAny_loadName_local (by kernel_rfl) (by kernel_rfl) F3.ns rfl ?_) (by kernel_rfl)) (by kernel_rfl))
  refine wpAny_Name (wpAny_loadName_local (by kernel_rfl) (by kernel_rfl) F3.ns rfl ?_) (by kernel_rfl)
  refine set_dict F3 hK N3 ⟨(N3 _ (.head _)).1, rfl, rfl, (N3 _ (.tail _ (.head _))).1⟩ rfl T.field.sa T.field.over T.field.takeR T.field.dict rfl rfl (.tail nxd (.head (fun _ z => nomatch z))) (show (2 : Nat) ≤ 1000 by decide) fun h4 F4 N4 => ?_
  refine wpAny_execs_nil ⟨rfl, ?_⟩
  have hx4 := (N4 _ (.head _)).1
  have hd4 := (N4 _ (.tail _ (.head _))).1
  have kp4 : Keep hh h4 := F4.keep
  exact ⟨hs.keep kp4 _, kp4.pd _, hn.keep kp4, q _ _ kp4 ⟨_, _, _, _, _, _, _, _, _, hx4, hd4⟩⟩
theorem FieldAt.inst {h : Heap} {x : Addr} {n r : List UInt8} (y : FieldAt h x n r) : ∃ ox od tn tr, InstAt h x ox 103 (some od) ∧ lookIn "name" od = some (some (.bytes n.toArray tn)) ∧ lookIn "raw" od = some (some (.bytes r.toArray tr)) ∧ lookIn "word" od = some none := by
  obtain ⟨dx, sx, sd, tn, tr, k1, k2, h1, h2, e1, e2⟩ := y
  exact ⟨_, _, tn, tr, ⟨e1, rfl, rfl, e2⟩, rfl, rfl, rfl⟩
theorem w_attr {x attr : Str} {xp pos : Pos} {env : Env} (y : W C c k m (eval (.Name x xp) env) h (fun o h₁ => W C c k m (getAttr o attr true) h₁ Q X) X) :
    W C c k m (eval (.Attribute (.Name x xp) attr pos) env) h Q X := W.seq y fun _ _ _ _ r => Attribute_name r
theorem p_fieldName (T : Tops C) {x : Addr} {n r : List UInt8} (f : FieldAt h x n r) (q : ∀ t, Q (.bytes n.toArray t) h) : W C c k m (getAttr (.ref x) "name" true) h Q X := fun A s hA hs hh hn => by
  subst hh
  obtain ⟨ox, od, tn, tr, I, e1, e2, e3⟩ := f.inst
  exact get_value (hs.kin T.toTopOk) I (plainGet_of T.field.ga).1 (findObj_own T.field.dict T.field.fn rfl e1) rfl ⟨hs.toks _, PD.refl _ _, hn, q _⟩
theorem p_fieldRaw (T : Tops C) {x : Addr} {n r : List UInt8} (f : FieldAt h x n r) (q : ∀ t, Q (.bytes r.toArray t) h) : W C c k m (getAttr (.ref x) "raw" true) h Q X := fun A s hA hs hh hn => by
  subst hh
  obtain ⟨ox, od, tn, tr, I, e1, e2, e3⟩ := f.inst
  exact get_value (hs.kin T.toTopOk) I (plainGet_of T.field.ga).1 (findObj_own T.field.dict T.field.fr rfl e2) rfl ⟨hs.toks _, PD.refl _ _, hn, q _⟩
/-- a method of a Field -/
theorem w_word (T : Tops C) {x : Str} {xp apos pos : Pos} {env : Env} {pl : Sem Bool} (he : eval (.Call (.Attribute (.Name x xp) "word" apos) [] [] pos) env = (do
      let ov ← eval (.Name x xp) env
      standAt apos.atName
      let (f, first) ← holding [ov] (getMethod ov "word" pl)
      callWith pos f first (backTo pos (starEach [] env)) []))
    (y : W C c k m (eval (.Name x xp) env) h (fun o h₁ => ∃ a n r, o = .ref a ∧ FieldAt h₁ a n r ∧ W C c k m (PySem.call (.ref 93) [.ref a]) h₁ Q X) X) :
    W C c k m (eval (.Call (.Attribute (.Name x xp) "word" apos) [] [] pos) env) h Q X := fun A s hA hs hh hn =>
  MethodCall_ (wpAny_mono (y A s hA hs hh hn) (fun o s₁ q => by
    obtain ⟨q1, q2, q3, a, n, r, rfl, f, z⟩ := q
    obtain ⟨ox, od, tn, tr, I, e1, e2, e3⟩ := f.inst
    refine method_fn (q1.kin T.toTopOk) I (plainGet_of T.field.ga).1 (plainGet_of T.field.ga).2 T.field.word T.field.wordT (by show (lookIn _ od).map _ = _; rw [e3]; rfl) ?_
    have := w_cwF0 (pos := pos) (first := [.ref a]) (env := env) T.toTopOk T.field.keepWord z
    exact wpAny_mono (this A s₁ hA q1 rfl q3) (fun _ _ r => ⟨r.1, q2.trans r.2.1, r.2.2⟩) (fun _ _ r => ⟨r.1, q2.trans r.2.1, r.2.2⟩)) fun _ _ q => q) he
end
-- Tst
section
section
variable {C : Cx} {c : Fc} {k : Nat} {m : Loc} {h : Heap} {env : Env} {pos : Pos}
/-- a test that answers b and leaves the heap -/
def TB (C : Cx) (c : Fc) (k : Nat) (m : Loc) (env : Env) (h : Heap) (e : Expr) (b : Bool) : Prop := ∀ (Q : Bool → Heap → Prop) (X : Addr → Heap → Prop), Q b h → W C c k m (isTrue e env (eval e env)) h Q X
def TW (C : Cx) (c : Fc) (k : Nat) (m : Loc) (env : Env) (h : Heap) (e : Expr) (b : Bool) : Prop := ∀ (whole : Sem Value) (Q : Bool → Heap → Prop) (X : Addr → Heap → Prop), Q b h → W C c k m (isTrue e env whole) h Q X
def EB (C : Cx) (c : Fc) (k : Nat) (m : Loc) (env : Env) (h : Heap) (e : Expr) (b : Bool) : Prop := ∀ (Q : Value → Heap → Prop) (X : Addr → Heap → Prop), Q (.bool b) h → W C c k m (eval e env) h Q X
def EI (C : Cx) (c : Fc) (k : Nat) (m : Loc) (env : Env) (h : Heap) (e : Expr) (i : Int) : Prop := ∀ (Q : Value → Heap → Prop) (X : Addr → Heap → Prop), (∀ t, Q (.int i t) h) → W C c k m (eval e env) h Q X
theorem tb_use {e : Expr} {b : Bool} {Q : Bool → Heap → Prop} {X : Addr → Heap → Prop} (y : TB C c k m env h e b) (q : Q b h) : W C c k m (isTrue e env (eval e env)) h Q X := y _ _ q
theorem eb_use {e : Expr} {b : Bool} {Q : Value → Heap → Prop} {X : Addr → Heap → Prop} (y : EB C c k m env h e b) (q : Q (.bool b) h) : W C c k m (eval e env) h Q X := y _ _ q
theorem tb_or {es : List Expr} {b : Bool} (y : TW C c k m env h (.BoolOp .Or es pos) b) : TB C c k m env h (.BoolOp .Or es pos) b := fun _ _ q => y _ _ _ q
theorem tb_and {es : List Expr} {b : Bool} (y : TW C c k m env h (.BoolOp .And es pos) b) : TB C c k m env h (.BoolOp .And es pos) b := fun _ _ q => y _ _ _ q
theorem tb_not {e : Expr} {b : Bool} (y : TB C c k m env h e b) : TB C c k m env h (.UnaryOp .Not e pos) (!b) := fun _ _ q => w_tnot (y _ _ q)
theorem tw_or {e : Expr} {rest : List Expr} {b₁ b₂ : Bool} (x : TB C c k m env h e b₁) (y : TW C c k m env h (.BoolOp .Or rest pos) b₂) : TW C c k m env h (.BoolOp .Or (e :: rest) pos) (b₁ || b₂) := fun whole Q X q =>
  w_tor (x _ _ ⟨fun z => y _ _ _ (by rw [z] at q; exact q), fun z => by rw [z] at q; exact q⟩)
theorem tw_and {e : Expr} {rest : List Expr} {b₁ b₂ : Bool} (x : TB C c k m env h e b₁) (y : TW C c k m env h (.BoolOp .And rest pos) b₂) : TW C c k m env h (.BoolOp .And (e :: rest) pos) (b₁ && b₂) := fun whole Q X q =>
  w_tand (x _ _ ⟨fun z => y _ _ _ (by rw [z] at q; exact q), fun z => by rw [z] at q; exact q⟩)
theorem tw_or1 {e : Expr} {b : Bool} (x : TB C c k m env h e b) : TW C c k m env h (.BoolOp .Or [e] pos) b := fun whole Q X q => by
  have := tw_or (pos := pos) x (fun _ _ _ q => w_tor_nil q : TW C c k m env h (.BoolOp .Or [] pos) false)
  rw [Bool.or_false] at this
  exact this _ _ _ q
theorem tw_and1 {e : Expr} {b : Bool} (x : TB C c k m env h e b) : TW C c k m env h (.BoolOp .And [e] pos) b := fun whole Q X q => by
  have := tw_and (pos := pos) x (fun _ _ _ q => w_tand_nil q : TW C c k m env h (.BoolOp .And [] pos) true)
  rw [Bool.and_true] at this
  exact this _ _ _ q
theorem tb_chain {l r₁ r₂ : Expr} {x y z : Int} (a : EI C c k m env h l x) (b : EI C c k m env h r₁ y) (d : EI C c k m env h r₂ z) (hm : lastMarks [.LtE, .LtE] [r₁, r₂] = false) :
    TB C c k m env h (.Compare l [.LtE, .LtE] [r₁, r₂] pos) (decide (x ≤ y) && decide (y ≤ z)) := fun Q X q => by
  refine w_tchain (a _ _ fun t => w_test_link (b _ _ fun u => p_le (w_truthy_bool ⟨fun e => ?_, fun e => ?_⟩))) hm
  · exact w_test_last (d _ _ fun v => p_le (w_truthy_bool (by rw [e, Bool.true_and] at q; exact q)))
  · rw [e] at q; exact q
theorem eb_or {e₁ e₂ : Expr} {rest : List Expr} {b₁ b₂ : Bool} (x : EB C c k m env h e₁ b₁) (y : EB C c k m env h (.BoolOp .Or (e₂ :: rest) pos) b₂) : EB C c k m env h (.BoolOp .Or (e₁ :: e₂ :: rest) pos) (b₁ || b₂) := fun Q X q =>
  w_or (x _ _ (w_truthy_bool ⟨fun z => y _ _ (by rw [z] at q; exact q), fun z => by subst z; exact q⟩))
theorem eb_and {e₁ e₂ : Expr} {rest : List Expr} {b₁ b₂ : Bool} (x : EB C c k m env h e₁ b₁) (y : EB C c k m env h (.BoolOp .And (e₂ :: rest) pos) b₂) : EB C c k m env h (.BoolOp .And (e₁ :: e₂ :: rest) pos) (b₁ && b₂) := fun Q X q =>
  w_and (x _ _ (w_truthy_bool ⟨fun z => y _ _ (by rw [z] at q; exact q), fun z => by subst z; exact q⟩))
theorem eb_one {op : BoolOp} {e : Expr} {b : Bool} (x : EB C c k m env h e b) : EB C c k m env h (.BoolOp op [e] pos) b := fun Q X q => w_bool1 (x _ _ q)
theorem eb_chain {l r₁ r₂ : Expr} {x y z : Int} (a : EI C c k m env h l x) (b : EI C c k m env h r₁ y) (d : EI C c k m env h r₂ z) (hm : lastMarks [.LtE, .LtE] [r₁, r₂] = false) :
    EB C c k m env h (.Compare l [.LtE, .LtE] [r₁, r₂] pos) (decide (x ≤ y) && decide (y ≤ z)) := fun Q X q => by
  refine w_vchain (a _ _ fun t => w_chain_link (b _ _ fun u => p_le (w_truthy_bool ⟨fun e => ?_, fun e => ?_⟩))) hm
  · exact w_chain_last (d _ _ fun v => p_le (by rw [e, Bool.true_and] at q; exact q))
  · rw [e] at q ⊢; exact q
end
end
local macro_rules | `(tactic| k_allIn) => `(tactic| first
  | (with_reducible apply tb_or) <;> k_allIn
  | (with_reducible apply tb_and) <;> k_allIn
  | (with_reducible apply tb_not) <;> k_allIn
  | (with_reducible apply tw_or1) <;> k_allIn
  | (with_reducible apply tw_and1) <;> k_allIn
  | (with_reducible apply tw_or) <;> k_allIn
  | (with_reducible apply tw_and) <;> k_allIn
  | (with_reducible apply eb_or) <;> k_allIn
  | (with_reducible apply eb_and) <;> k_allIn
  | (with_reducible apply eb_one) <;> k_allIn
  | (with_reducible apply tb_chain) <;> first | with_reducible_and_instances kernel_rfl | k_allIn
  | (with_reducible apply eb_chain) <;> first | with_reducible_and_instances kernel_rfl | k_allIn
  | (intro Q X q; k_subL; first | exact q | exact q _))
section
end
-- F2
section
variable {C : Cx} {c : Fc} {k : Nat} {m : Loc} {h : Heap} {X : Addr → Heap → Prop} {Q : Value → Heap → Prop}
def nameCode (x : UInt8) : Bool := !(decide ((x.toNat : Int) < 33) || (decide ((x.toNat : Int) > 126) || ((x.toNat : Int) == 58)))
def isName (d : List UInt8) : Bool := d.all nameCode && decide ((d.length : Int) > 0)
theorem all_take_succ {α : Type} {p : α → Bool} {l : List α} {i : Nat} {b : α} (hb : l[i]? = some b) (ha : (l.take i).all p = true) (hp : p b = true) : (l.take (i + 1)).all p = true := by
  rw [List.take_add_one, hb, List.all_append, ha]; simp [hp]
theorem all_false {α : Type} {p : α → Bool} {l : List α} {i : Nat} {b : α} (hb : l[i]? = some b) (hp : p b = false) : l.all p = false := by
  rw [List.all_eq_false]; exact ⟨b, List.mem_of_getElem? hb, by rw [hp]; decide⟩
theorem is_name_spec (T : Tops C) {d : List UInt8} {t : Tok} (hz : d.length ≤ 16777216) (q : ∀ h', Le h h' → Q (.bool (isName d)) h') :
    W C c (k + 1) m (PySem.call (.ref 121) [.bytes d.toArray t]) h Q X := by
  refine w_fn T.toTopOk T.f_is_name.2 (binds := [("octets", .bytes d.toArray t)]) (fun _ _ _ _ _ _ _ _ => BindsTo.of_eq rfl) (locs (by kernel_rfl)) (by decide +kernel) (by kernel_rfl) (by kernel_rfl) (by kernel_rfl) rfl fun cd L h₁ kp hL => ?_
  refine s_body (rfl : B 11 = _ :: _) ?_
  refine s_cons (s_for (Live.fn (by kernel_rfl)) (by kernel_rfl) (fun _ => rfl) (fun i m' h' => m' = ([("octets", .bytes d.toArray t)] : Loc) ∧ Le h h' ∧ (d.take i).all nameCode = true) ?_)
  k_subL
  refine w_iterB fun I h₂ St kp2 nI it st => ⟨I, _, _, _, _, _, rfl, nI, it, st, trivial, by lcg_sub, ⟨rfl, (kp.trans kp2).le, rfl⟩, ?_, ?_⟩
  · rintro i v m₁ h₃ hi ⟨b, u, hb, rfl⟩ _ ⟨rfl, le, ha⟩ h₄ le4 _
    refine s_cons (s_if ?_)
    refine' tb_use ?y ?_
    case y => k_allIn
    refine ⟨fun z => ?_, fun z => s_nil (Sub.refl _) (s_nil (Sub.refl _) ⟨trivial, _, by lcg_sub, rfl, le.trans le4, all_take_succ hb ha ?_⟩)⟩
    · k_subL
      have := q _ (le.trans le4)
      rw [isName, all_false hb (by rw [nameCode, z]; rfl)] at this
      exact this
    · rw [nameCode, z]; rfl
  · rintro m₁ h₃ ⟨rfl, le, ha⟩ h₄ le4
    k_subL
    refine p_len (by omega) fun t => ?_
    k_subL
    have := q _ (le.trans le4)
    rw [List.take_length] at ha
    rw [isName, ha] at this
    exact this
theorem clip_nat (n a : Nat) : clipAt n (a : Int) = Min.min a n := by unfold clipAt; rw [if_neg (by omega)]; omega
theorem cut2 (d : List UInt8) (a b : Nat) : cutB d (some a) (some b) = (d.drop a).take (b - a) := by
  unfold cutB
  simp only [Option.elim_some, clip_nat]
  by_cases h : a ≤ d.length
  · rw [Nat.min_eq_left h]
    by_cases h2 : b ≤ d.length
    · rw [Nat.min_eq_left h2]
    · rw [Nat.min_eq_right (by omega), List.take_of_length_le (by rw [List.length_drop]; omega), List.take_of_length_le (by rw [List.length_drop]; omega)]
  · rw [Nat.min_eq_right (by omega : d.length ≤ a), List.drop_of_length_le (by omega : d.length ≤ a), List.drop_of_length_le (Nat.le_refl _)]; simp
theorem cutFrom (d : List UInt8) (a : Nat) : cutB d (some a) none = d.drop a := by
  unfold cutB
  simp only [Option.elim_some, Option.elim_none, clip_nat]
  by_cases h : a ≤ d.length
  · rw [Nat.min_eq_left h, List.take_of_length_le (by rw [List.length_drop]; omega)]
  · rw [Nat.min_eq_right (by omega : d.length ≤ a), List.drop_of_length_le (by omega : d.length ≤ a), List.drop_of_length_le (Nat.le_refl _)]; simp
theorem cutTo (d : List UInt8) (b : Nat) : cutB d none (some b) = d.take b := by
  unfold cutB
  simp only [Option.elim_some, Option.elim_none, clip_nat, List.drop_zero, Nat.sub_zero]
  by_cases h : b ≤ d.length
  · rw [Nat.min_eq_left h]
  · rw [Nat.min_eq_right (by omega), List.take_of_length_le (Nat.le_refl _), List.take_of_length_le (by omega)]
theorem p_cut2 {d : List UInt8} {t u v : Tok} {sl : Addr} {x y : Int} (a b : Nat) (hs : h.IsSliceOf sl (.int x u) (.int y v) .none) (hx : x = a) (hy : y = b) (hz : d.length ≤ 16777216) (q : ∀ t, Q (.bytes ((d.drop a).take (b - a)).toArray t) h) :
    W C c k m (getItem (.bytes d.toArray t) (.ref sl)) h Q X := by
  subst hx hy
  exact p_cutB hs (.int _ _) (.int _ _) hz (by rw [cut2]; exact q)
theorem p_cutFrom {d : List UInt8} {t u : Tok} {sl : Addr} {x : Int} (a : Nat) (hs : h.IsSliceOf sl (.int x u) .none .none) (hx : x = a) (hz : d.length ≤ 16777216) (q : ∀ t, Q (.bytes (d.drop a).toArray t) h) :
    W C c k m (getItem (.bytes d.toArray t) (.ref sl)) h Q X := by
  subst hx
  exact p_cutB hs (.int _ _) .none hz (by rw [cutFrom]; exact q)
theorem p_cutTo {d : List UInt8} {t u : Tok} {sl : Addr} {x : Int} (b : Nat) (hs : h.IsSliceOf sl .none (.int x u) .none) (hx : x = b) (hz : d.length ≤ 16777216) (q : ∀ t, Q (.bytes (d.take b).toArray t) h) :
    W C c k m (getItem (.bytes d.toArray t) (.ref sl)) h Q X := by
  subst hx
  exact p_cutB hs .none (.int _ _) hz (by rw [cutTo]; exact q)
theorem colon_in_spec (T : Tops C) {d : List UInt8} {a e : Nat} {tb ta te : Tok} (ha : a ≤ d.length) (he : e ≤ d.length) (hz : d.length ≤ 16777216)
    (q : ∀ t h', Le h h' → Q (.int (match ((d.take e).drop a).findIdx? (· == 58) with | some i => if isName ((d.drop a).take i) then ((a + i : Nat) : Int) else -1 | none => -1) t) h') :
    W C c (k + 2) m (PySem.call (.ref 128) [.bytes d.toArray tb, .int a ta, .int e te]) h Q X := by
  refine w_fn T.toTopOk T.f_colon_in.2 (binds := [("data", .bytes d.toArray tb), ("at", .int a ta), ("end", .int e te)]) (fun _ _ _ _ _ _ _ _ => BindsTo.of_eq rfl) (locs (by kernel_rfl)) (by decide +kernel) (by kernel_rfl) (by kernel_rfl) (by kernel_rfl) rfl fun cd L h₁ kp hL => ?_
  refine s_body (rfl : B 12 = _ :: _) ?_
  have ef := fnd_eq d 58 a e
  have hlen : ((d.take e).drop a).length = e - a := by rw [List.length_drop, List.length_take]; omega
  k_subL
  refine p_find (by omega) (by omega) fun t h₂ le => ?_
  have le := kp.le.trans le
  cases hi : ((d.take e).drop a).findIdx? (· == 58) with
  | none =>
    rw [hi] at ef q
    have ef : fnd d 58 a e = -1 := ef
    rw [ef]
    k_subL
    refine ⟨fun hb => (nomatch hb), fun hb => ⟨fun z => (nomatch z), fun _ => ?_⟩⟩
    k_subL
    exact q _ _ le
  | some i =>
    rw [hi] at ef q
    have ef : fnd d 58 a e = ((a + i : Nat) : Int) := ef
    rw [ef]
    have hil := findIdx_lt hi
    k_subL
    refine ⟨fun _ => ?_, fun hb => by have := of_decide_eq_false hb; omega⟩
    k_subL
    intro sl h₃ kp3 hsl
    k_subL
    refine p_cut2 a (a + i) hsl rfl rfl hz fun t₂ => ?_
    rw [Nat.add_sub_cancel_left]
    k_subL
    refine is_name_spec T (by rw [List.length_take]; omega) fun h₄ le4 => ?_
    have le := (le.trans kp3.le).trans le4
    k_subL
    refine ⟨fun hb => ?_, fun hb => ?_⟩
    · k_subL
      refine ⟨fun _ => ?_, fun z => (nomatch z)⟩
      k_subL
      have q := q t _ le
      dsimp only at q
      rw [if_pos hb] at q
      exact q
    · refine ⟨fun z => (nomatch z), fun _ => ?_⟩
      k_subL
      have q := fun t => q t _ le
      dsimp only at q
      simp only [hb] at q
      exact q _
end
-- Loop2
section
section
variable {C : Cx} {c : Fc} {k : Nat} {m : Loc} {h : Heap} {X : Addr → Heap → Prop} {Q : Value → Heap → Prop}
theorem it_str (x : Str) (t : Tok) (I : Addr) : It C I x.cps.size (fun i v => ∃ b u, x.cps[i]? = some b ∧ v = .str ⟨#[b]⟩ u) (fun _ => True) (fun i h => h.IsStrIter I (strIterType x) x t i) := by
  have W : ∀ A : Around, A.handled = none → Walks C.prog C.w A I [I] [I] x.cps.size (SignAt x) (fun i h => h.IsStrIter I (strIterType x) x t i) := by
    intro A hh
    unfold strIterType
    split
    · exact Walks.strAscii hh I x t
    · exact Walks.strWide hh I x t
  refine ⟨?_, ?_, ?_, ?_, fun _ _ _ _ => trivial, ?_⟩
  · intro i A s Q E hh hi st _ q
    exact (W A hh).item i s Q E hi st fun v h' tk hp st' hk => q v h' tk hp st' fun b o hb e => hk b o (by simpa using hb) e
  · intro A s Q E hh st _ q
    exact (W A hh).done s Q E st fun h' tk hk => q h' tk fun b o hb e => hk b o (by simpa using hb) e
  · intro i h st
    obtain ⟨o, e, e1, e2⟩ := st
    exact ⟨o, e, ⟨_, e2⟩, _, e1, by unfold strIterType; split <;> decide⟩
  · intro i h h' st k
    obtain ⟨o, e, r⟩ := st
    exact ⟨o, k o e, r⟩
  · intro i A s Q E hh st q
    exact (W A hh).self i s Q E st q
theorem w_iterS {x : Str} {t : Tok} (q : ∀ I h' St, Keep h h' → h.get? I = none → It C I x.cps.size (fun i v => ∃ b u, x.cps[i]? = some b ∧ v = .str ⟨#[b]⟩ u) (fun _ => True) St → St 0 h' → Q (.ref I) h') : W C c k m (pyIter (.str x t)) h Q X :=
  W.grow (P := fun v h' => ∃ I, v = .ref I ∧ h.get? I = none ∧ h'.IsStrIter I (strIterType x) x t 0) (fun v h' kp ⟨I, e, p1, p2⟩ => e ▸ q I h' _ kp p1 (it_str x t I) p2) fun A s E Q' hA hh r => by
    subst hh
    exact wpAny_pyIter_strU (r _ _ _ (Keep.push _ _) ⟨_, rfl, Heap.get?_none_of_le (Nat.le_refl _), _, Heap.get?_push_size _ rfl, rfl, rfl⟩)
theorem it_range (n : Nat) (I : Addr) : It C I n (fun i v => ∃ u, v = .int (i : Int) u) (fun _ => True) (fun i h => IsRangeIter h I (0 + (i : Nat) * 1) ((n : Int) - (i : Nat)) 1) where
  item := fun i A s Q E hh hi st _ q => (LCg.range_walks (prog := C.prog) (w := C.w) hh 0 n).item i s Q E hi st fun v h' tk hp st' hk => q v h' tk (by obtain ⟨u, e⟩ := hp; exact ⟨u, by rw [e]; congr 1; omega⟩) st' fun b o hb e => hk b o (by simpa using hb) e
  done := fun A s Q E hh st _ q => (LCg.range_walks (prog := C.prog) (w := C.w) hh 0 n).done s Q E st fun h' tk hk => q h' tk fun b o hb e => hk b o (by simpa using hb) e
  isRec := fun i h st => ⟨_, st, ⟨_, rfl⟩, _, rfl, by decide⟩
  same := fun i h h' st k => k _ st
  gle := fun _ _ _ _ => trivial
  self := fun i A s Q E hh st q => (LCg.range_walks (prog := C.prog) (w := C.w) hh 0 n).self i s Q E st q
theorem w_iterR {r : Addr} {n : Nat} {t u v : Tok} (hn : n ≤ 16777216) (hr : IsRange h r 0 n 1 t u v) (q : ∀ I h' St, Keep h h' → h.get? I = none → It C I n (fun i v => ∃ u, v = .int (i : Int) u) (fun _ => True) St → St 0 h' → Q (.ref I) h') : W C c k m (pyIter (.ref r)) h Q X :=
  W.grow (P := fun v h' => ∃ I, v = .ref I ∧ h.get? I = none ∧ IsRangeIter h' I 0 n 1) (fun v h' kp ⟨I, e, p1, p2⟩ => e ▸ q I h' _ kp p1 (it_range n I) (by simpa using p2)) fun A s E Q' hA hh r' => by
    subst hh
    have sz : Builtin.Range.rangeSize 0 n 1 = n := by unfold Builtin.Range.rangeSize; simp; omega
    refine wpAny_pyIter_range hr ?_ (r' _ _ _ (Keep.push _ _) ⟨_, rfl, Heap.get?_none_of_le (Nat.le_refl _), ?_⟩)
    · unfold Builtin.Range.small Builtin.Range.rangeFitsLong; rw [sz]; simp; omega
    · show Heap.get? _ _ = _
      rw [Heap.get?_push_size _ rfl, sz]
theorem p_range {n : Nat} {t : Tok} (q : ∀ r h' t u v, Keep h h' → IsRange h' r 0 n 1 t u v → Q (.ref r) h') : W C c k m (call (.type "range") [.int n t]) h Q X :=
  W.grow (P := fun v h' => ∃ r t u w, v = .ref r ∧ IsRange h' r 0 n 1 t u w) (fun v h' kp ⟨r, _, _, _, e, p⟩ => e ▸ q r h' _ _ _ kp p) fun A s E Q' hA hh r => by
    subst hh
    exact call_range_1 (r _ _ _ (Keep.push _ _) ⟨_, _, _, _, rfl, by unfold IsRange; exact Heap.get?_push_size _ rfl⟩)
end
end
-- F3
section
variable {C : Cx} {c : Fc} {k : Nat} {m : Loc} {h : Heap} {X : Addr → Heap → Prop} {Q : Value → Heap → Prop}
/-- a text of these codes -/
abbrev txt (l : List Nat) : Str := ⟨l.toArray⟩
theorem glue_fold : ∀ (l : List Nat) (a : Array Nat), (l.map fun c => (⟨#[c]⟩ : Str)).foldl (fun acc p => acc ++ (#[] : Array Nat) ++ p.cps) a = a ++ l.toArray
  | [], a => by simp
  | c :: l, a => by rw [List.map_cons, List.foldl_cons, glue_fold l]; apply Array.ext'; simp
theorem joinS_chars (l : List Nat) : joinS "" (l.map fun c => (⟨#[c]⟩ : Str)) = txt l := by
  have e0 : (("" : Str)).cps = #[] := rfl
  match l with
  | [] => rfl
  | [c] => rfl
  | c :: d :: l =>
    show Builtin.Str.glued "" ((c :: d :: l).map fun c => (⟨#[c]⟩ : Str)) = _
    unfold Builtin.Str.glued
    rw [e0]
    show (⟨_⟩ : Str) = ⟨_⟩
    congr 1
    show ((d :: l).map fun c => (⟨#[c]⟩ : Str)).foldl _ #[c] = _
    rw [glue_fold]; apply Array.ext'; simp
theorem fold_len : ∀ (l : List Nat) (a : Nat), (l.map fun c => (⟨#[c]⟩ : Str)).foldl (fun x s => x + s.length + (("" : Str)).length) a = a + l.length
  | [], a => by simp
  | c :: l, a => by
    rw [List.map_cons, List.foldl_cons, fold_len l]
    show a + 1 + 0 + l.length = _
    rw [List.length_cons]; omega
theorem Res.strs {P : Nat → Value → Prop} {F : Nat → Value → Value → Prop} {n : Nat} {ys : List Value} (g : Nat → Nat) (hF : ∀ i v w, F i v w → ∃ u, w = .str ⟨#[g i]⟩ u) (r : Res P (fun _ => true) F n ys) :
    ∃ ps : List (Str × Tok), ys = strValues ps ∧ ps.map (·.1) = ((List.range n).map g).map fun c => (⟨#[c]⟩ : Str) := by
  induction r with
  | nil => exact ⟨[], rfl, rfl⟩
  | skip _ _ e _ => cases e
  | @take i ys v w _ _ _ hf ih =>
    obtain ⟨ps, e1, e2⟩ := ih
    obtain ⟨u, rfl⟩ := hF _ _ _ hf
    refine ⟨ps ++ [(⟨#[g i]⟩, u)], by rw [e1]; simp [strValues], ?_⟩
    rw [List.map_append, e2, List.range_succ]; simp
theorem p_joinC {t : Tok} {a : Addr} {ps : List (Str × Tok)} {l : List Nat} (hl : h.IsList a (strValues ps).toArray) (hp : ps.map (·.1) = l.map fun c => (⟨#[c]⟩ : Str)) (hz : l.length ≤ 16777216)
    (q : ∀ t, Q (.str (txt l) t) h) : W C c k m (call (.builtin "str.join") [.str "" t, .ref a]) h Q X := by
  refine p_joinS hl ?_ ?_ fun t => ?_
  · rw [hp]
    have : ((l.map fun c => (⟨#[c]⟩ : Str)).toArray.foldl (fun x s => x + s.length + (("" : Str)).length) 0) = l.length := by rw [List.foldl_toArray, fold_len]; omega
    rw [this]
    unfold Builtin.Str.tooLong
    rw [sizeLine_eq]; simp; omega
  · rw [hp, joinS_chars, sizeLine_eq]; show l.toArray.size ≤ _; simpa using hz
  · rw [hp, joinS_chars]; exact q t
/-- a capital's small letter -/
def low (n : Nat) : Nat := if 65 ≤ n ∧ n ≤ 90 then n + 32 else n
theorem lower_code_spec (T : Tops C) {n : Nat} {t : Tok} (q : ∀ t h', Le h h' → Q (.int (low n : Nat) t) h') :
    W C c (k + 1) m (PySem.call (.ref 68) [.int n t]) h Q X := by
  refine w_fn T.toTopOk T.f_lower_code.2 (binds := [("code", .int n t)]) (fun _ _ _ _ _ _ _ _ => BindsTo.of_eq rfl) (locs (by kernel_rfl)) (by decide +kernel) (by kernel_rfl) (by kernel_rfl) (by kernel_rfl) rfl fun cd L h₁ kp hL => ?_
  refine s_body (rfl : B 5 = _ :: _) ?_
  refine s_cons (s_ret (w_ifexp ?_))
  refine' tb_use ?y ?_
  case y => k_allIn
  refine ⟨fun z => ?_, fun z => ?_⟩
  · k_subL
    have q := fun t => q t _ kp.le
    simp only [Bool.and_eq_true, decide_eq_true_eq] at z
    rw [low, if_pos (by omega)] at q
    exact q _
  · k_subL
    have q := fun t => q t _ kp.le
    simp only [Bool.and_eq_false_iff, decide_eq_false_iff_not] at z
    rw [low, if_neg (by omega)] at q
    exact q _
theorem lower_text_spec (T : Tops C) {l : List Nat} {t : Tok} (hz : l.length ≤ 16777216) (hl : ∀ x ∈ l, x < 1114000) (q : ∀ t h', Le h h' → Q (.str (txt (l.map low)) t) h') :
    W C c (k + 2) m (PySem.call (.ref 73) [.str (txt l) t]) h Q X := by
  refine w_fn T.toTopOk T.f_lower_text.2 (binds := [("text", .str (txt l) t)]) (fun _ _ _ _ _ _ _ _ => BindsTo.of_eq rfl) (locs (by kernel_rfl)) (by decide +kernel) (by kernel_rfl) (by kernel_rfl) (by kernel_rfl) rfl fun cd L h₁ kp hL => ?_
  refine s_body (rfl : B 6 = _ :: _) ?_
  k_subL
  refine w_comp (fun _ => true) (fun i v w => ∃ u, w = .str ⟨#[low (l.getD i 0)]⟩ u) (by decide +kernel) (by kernel_rfl) (by decide +kernel) (by decide +kernel) (by kernel_rfl) (fun _ => rfl) ?_
  k_subL
  refine w_iterS fun I h₂ St kp2 nI it st => ⟨I, _, _, _, _, rfl, kp2, nI, it, st, trivial, szl (by simpa using hz), ?_, ?_⟩
  · rintro L' i v h₄ hi ⟨b, u, hb, rfl⟩ le4 _
    refine w_tst0 ⟨Le.refl _, rfl, fun _ => ?_⟩
    k_subL
    have hb' : l[i]? = some b := by simpa using hb
    have hg : l.getD i 0 = b := by rw [List.getD_eq_getElem?_getD, hb']; rfl
    have hlt := hl b (List.mem_of_getElem? hb')
    have hlow : low b < 1114032 := by unfold low; split <;> omega
    refine p_ord fun t => ?_
    k_subL
    refine lower_code_spec T fun t h₅ le5 => ?_
    k_subL
    refine p_chr (by omega) (by omega) fun t => ⟨le5, t, ?_⟩
    rw [hg]; simp
  · intro D ys h₆ le6 nD r hD
    obtain ⟨ps, rfl, e2⟩ := r.strs (fun i => low (l.getD i 0)) (fun _ _ _ e => e)
    have e3 : ((List.range (txt l).cps.size).map fun i => low (l.getD i 0)) = l.map low := by
      apply List.ext_getElem
      · simp
      · intro i h1 h2
        simp only [List.getElem_map, List.getElem_range]
        rw [List.getD_eq_getElem?_getD, List.getElem?_eq_getElem (by simpa using h2)]; rfl
    rw [e3] at e2
    k_subL
    exact p_joinC hD e2 (by simpa using hz) fun t => q t _ ((kp.trans kp2).le.trans le6)
end
-- F4
section
variable {C : Cx} {c : Fc} {k : Nat} {m : Loc} {h : Heap} {X : Addr → Heap → Prop} {Q : Value → Heap → Prop}
abbrev codes (d : List UInt8) : List Nat := d.map (·.toNat)
theorem range_codes (d : List UInt8) (g : Nat → Nat) : ((List.range d.length).map fun i => g (d.getD i 0).toNat) = (codes d).map g := by
  apply List.ext_getElem
  · simp
  · intro i h1 h2
    simp only [List.getElem_map, List.getElem_range]
    rw [List.getD_eq_getElem?_getD, List.getElem?_eq_getElem (by simpa using h2)]; rfl
theorem range_codes0 (d : List UInt8) : ((List.range d.length).map fun i => (d.getD i 0).toNat) = codes d := by
  have := range_codes d (fun x => x)
  rw [List.map_id'] at this
  exact this
theorem getD_of {d : List UInt8} {i : Nat} {b : UInt8} (hb : d[i]? = some b) : d.getD i 0 = b := by rw [List.getD_eq_getElem?_getD, hb]; rfl
theorem u8_lt (b : UInt8) : b.toNat < 256 := b.toNat_lt
theorem word_spec (T : Tops C) {x : Addr} {n r : List UInt8} (hz : n.length ≤ 16777216) (f : FieldAt h x n r) (q : ∀ t h', Le h h' → Q (.str (txt ((codes n).map low)) t) h') :
    W C c (k + 3) m (PySem.call (.ref 93) [.ref x]) h Q X := by
  refine w_fn T.toTopOk T.field.f93 (binds := [("self", .ref x)]) (fun _ _ _ _ _ _ _ _ => BindsTo.of_eq rfl) (locs (by kernel_rfl)) (by decide +kernel) (by kernel_rfl) (by kernel_rfl) (by kernel_rfl) rfl fun cd L h₁ kp hL => ?_
  refine s_body (rfl : BM 9 1 = _ :: _) ?_
  k_subL
  refine w_comp (fun _ => true) (fun i v w => ∃ u, w = .str ⟨#[(n.getD i 0).toNat]⟩ u) (by decide +kernel) (by kernel_rfl) (by decide +kernel) (by decide +kernel) (by kernel_rfl) (fun _ => rfl) ?_
  refine w_attr ?_
  k_subL
  refine p_fieldName T (f.le kp.le) fun t => ?_
  refine w_iterB fun I h₂ St kp2 nI it st => ⟨I, _, _, _, _, rfl, kp2, nI, it, st, trivial, szl hz, ?_, ?_⟩
  · rintro L' i v h₄ hi ⟨b, u, hb, rfl⟩ le4 _
    refine w_tst0 ⟨Le.refl _, rfl, fun _ => ?_⟩
    k_subL
    have := u8_lt b
    refine p_chr (by omega) (by omega) fun t => ⟨Le.refl _, t, ?_⟩
    rw [getD_of hb]; rfl
  · intro D ys h₆ le6 nD r hD
    obtain ⟨ps, rfl, e2⟩ := r.strs (fun i => (n.getD i 0).toNat) (fun _ _ _ e => e)
    rw [range_codes0] at e2
    k_subL
    refine p_joinC hD e2 (by simpa using hz) fun t => ?_
    k_subL
    exact lower_text_spec T (by simpa using hz) (fun x hx => by obtain ⟨b, _, rfl⟩ := List.mem_map.mp hx; have := u8_lt b; omega) fun t h₇ le7 => q t _ (((kp.trans kp2).le.trans le6).trans le7)
end
-- Join
section
open PySem PySem.W PyProof.Rows PySem.Builtin
theorem slot_bjoin : Slot "bytes" "join" "bytes.join" :=
  .of (owner := "bytes") (n := "join") (by rw [typeLookup_type, builtinLookup_eq_fast]; kernel_rfl) (by decide +kernel) (by decide +kernel) (by decide +kernel)
    (by first | exact .inl (by decide +kernel) | exact .inr (by decide +kernel)) (by rw [isSubtype_type]; kernel_rfl)
theorem type_bjoin : typeOf (.builtin "bytes.join") = pure (.type "method_descriptor") := by show builtinType _ = _; rw [builtinType_eq_fast]; kernel_rfl
theorem entry_bjoin : entryFor table "bytes.join" = some Builtin.«bytes.join» := entryFor_of_tree (by kernel_rfl)
theorem args_bjoin (a b : Value) : argsOk "bytes.join" ⟨[a, b], []⟩ := by
  unfold argsOk; rw [signature?_of (id := "bytes.join") (n := ['n', 'i', 'o', 'j']) (o := ['s', 'e', 't', 'y', 'b']) (by kernel_rfl) FB.owner_bytes]; kernel_rfl
theorem slot_strip : Slot "bytes" "strip" "bytes.strip" :=
  .of (owner := "bytes") (n := "strip") (by rw [typeLookup_type, builtinLookup_eq_fast]; kernel_rfl) (by decide +kernel) (by decide +kernel) (by decide +kernel)
    (by first | exact .inl (by decide +kernel) | exact .inr (by decide +kernel)) (by rw [isSubtype_type]; kernel_rfl)
theorem type_strip : typeOf (.builtin "bytes.strip") = pure (.type "method_descriptor") := by show builtinType _ = _; rw [builtinType_eq_fast]; kernel_rfl
theorem entry_strip : entryFor table "bytes.strip" = some Builtin.«bytes.strip» := entryFor_of_tree (by kernel_rfl)
theorem args_strip (a b : Value) : argsOk "bytes.strip" ⟨[a, b], []⟩ := by
  unfold argsOk; rw [signature?_of (id := "bytes.strip") (n := ['p', 'i', 'r', 't', 's']) (o := ['s', 'e', 't', 'y', 'b']) (by kernel_rfl) FB.owner_bytes]; kernel_rfl
def bvals (ps : List (List UInt8 × Tok)) : List Value := ps.map fun p => .bytes p.1.toArray p.2
theorem take_eq (id : String) (b : Array UInt8) (t : Tok) : Bytes.takeBuffer? id (.bytes b t) 0 = pure (some (b, none)) := by
  have e := KBy.buffer_eq (b := b) (t := t) (id := id)
  have e2 : specialOf (.bytes b t) "__buffer__" = pure (some (.builtin "bytes.__buffer__")) := by
    show typeLookup (.type "bytes") "__buffer__" = _
    rw [typeLookup_type, builtinLookup_eq_fast]; kernel_rfl
  have e3 : Bytes.slotIsOwn (.bytes b t) "__buffer__" = pure true := by kernel_rfl
  have e4 : (0 == Bytes.fullReadOnly) = false := by decide
  unfold Bytes.takeBuffer?
  simp only [e2, e3, e4, e, pure_bind]
  rfl
theorem quiet_eq {M : Model} {A : Around} {E : Value → Shared → Prop} {s : Shared} (id : String) (b : Array UInt8) (t : Tok) {Q : Option (Array UInt8 × Option Value) → Shared → Prop} (q : Q (some (b, none)) s) :
    wpAny M A (Bytes.takeBufferQuiet? id (.bytes b t) 0) Q E s := by
  unfold Bytes.takeBufferQuiet?
  refine wpAny_bind (wpAny_attempt ?_)
  rw [take_eq]
  exact wpAny_pure (wpAny_pure q)
theorem wpAny_joinLetGo {M : Model} {A : Around} {E : Value → Shared → Prop} {s : Shared} : ∀ (l : List (Value × Option Value)) (keep : List Value) {Q : Unit → Shared → Prop}, (∀ p ∈ l, p.2 = none) → Q () s → wpAny M A (Bytes.joinLetGo l keep) Q E s
  | [], _, Q, _, q => wpAny_pure q
  | (x, w) :: rest, keep, Q, hl, q => by
    have : w = none := hl (x, w) (.head _)
    subst this
    unfold Bytes.joinLetGo
    exact wpAny_bind (wpAny_letGo (wpAny_joinLetGo rest keep (fun p hp => hl p (.tail _ hp)) q))
theorem fold_sum : ∀ (ps : List (List UInt8 × Tok)) (n : Nat), (ps.map (·.1.toArray)).foldl (fun (x1 : Nat) (x2 : Array UInt8) => x1 + x2.size) n = n + (ps.map (·.1.length)).sum
  | [], n => by simp
  | p :: ps, n => by
    rw [List.map_cons, List.foldl_cons, fold_sum ps]
    simp; omega
theorem joined_list (sep : Array UInt8) : ∀ (l : List (List UInt8)) (k : Nat) (a : Array UInt8), 0 < k →
    (((l.map (·.toArray)).zipIdx k).foldl (fun (out : Array UInt8) (x : Array UInt8 × Nat) => (if x.2 > 0 then out ++ sep else out) ++ x.1) a) = a ++ (l.flatMap fun b => sep.toList ++ b).toArray
  | [], k, a, _ => by simp
  | b :: l, k, a, hk => by
    rw [List.map_cons, List.zipIdx_cons, List.foldl_cons, joined_list sep l (k + 1) _ (by omega)]
    dsimp only
    rw [if_pos hk]
    apply Array.ext'
    simp
/-- bytes joined -/
def joinB (sep : List UInt8) : List (List UInt8) → List UInt8
  | [] => []
  | b :: l => b ++ l.flatMap fun b => sep ++ b
theorem joined_eq (sep : List UInt8) (l : List (List UInt8)) : Bytes.joined sep.toArray (l.map (·.toArray)) = (joinB sep l).toArray := by
  unfold Bytes.joined
  cases l with
  | nil => rfl
  | cons b l =>
    rw [List.map_cons, List.zipIdx_cons, List.foldl_cons]
    dsimp only
    rw [if_neg (by decide)]
    rw [joined_list _ l (0 + 1) _ (by omega)]
    apply Array.ext'
    simp [joinB]
theorem joinB_len (sep : List UInt8) (l : List (List UInt8)) : (joinB sep l).length ≤ (l.map (·.length)).sum + sep.length * l.length := by
  have : ∀ l : List (List UInt8), (l.flatMap fun b => sep ++ b).length = (l.map (·.length)).sum + sep.length * l.length := by
    intro l
    induction l with
    | nil => simp
    | cons b l ih => rw [List.flatMap_cons, List.length_append, ih, List.length_append, List.map_cons, List.sum_cons, List.length_cons, Nat.mul_add]; omega
  cases l with
  | nil => simp [joinB]
  | cons b l => rw [joinB, List.length_append, this, List.map_cons, List.sum_cons, List.length_cons, Nat.mul_add]; omega
theorem meets_bjoin (sep : List UInt8) (t : Tok) (a : Addr) (ps : List (List UInt8 × Tok)) (hz : ((ps.map (·.1.length)).sum + sep.length * ps.length) ≤ 16777216) : Meets (Builtin.«bytes.join» ⟨[.bytes sep.toArray t, .ref a], []⟩)
    (fun _ R s => s.heap.IsList a (bvals ps).toArray ∧ ∀ t k, R (.ok (.ret (.bytes (Bytes.joined sep.toArray (ps.map (·.1.toArray))) t))) { s with toks := k }) := by
  intro prog w A R s ⟨hl, q⟩
  obtain ⟨o, ho, hc, n, hd⟩ := hl
  have e1 : ∀ id, selfAndOne id ⟨[.bytes sep.toArray t, .ref a], []⟩ = pure (.bytes sep.toArray t, .ref a) := fun id => by kernel_rfl
  unfold Builtin.«bytes.join» Bytes.joinM
  refine wpAny_bind ?_
  rw [e1]
  refine wpAny_pure ?_
  have LT : Looks (model prog w) s.heap (typeOf (.ref a)) (.type "list") := by rw [← hc]; exact (Looks.ld ho).andThen .now
  show wpAny _ _ (Bytes.joinItems (.ref a) >>= _) _ _ _
  refine wpAny_bind ?_
  unfold Bytes.joinItems
  refine wpAny_bind (LT.here ?_)
  show wpAny _ _ (pure (Value.ref a)) _ _ _
  refine wpAny_pure ?_
  refine wpAny_bind (wpAny_seqItems ho hd ?_)
  obtain ⟨ps', hps⟩ : ∃ ps', ps' = ps := ⟨_, rfl⟩
  rcases ps with _ | ⟨p, _ | ⟨p₂, l⟩⟩
  rotate_left
  · show wpAny _ _ (pure (Value.type "bytes") >>= _) _ _ _
    refine wpAny_bind (wpAny_pure ?_)
    show wpAny _ _ (rule _ >>= _) _ _ _
    refine wpAny_bind (wpAny_rule (wpAny_pure (a := Fin.done (.ret (.bytes p.1.toArray p.2))) ?_))
    have := q p.2 s.toks
    have e : Bytes.joined sep.toArray ([p].map (·.1.toArray)) = p.1.toArray := by unfold Bytes.joined; simp
    rw [e] at this
    exact this
  all_goals
    rw [← hps] at hd q hz
    show wpAny _ _ (forIn (m := Sem) [:(bvals _).toArray.size] _ _ >>= _) _ _ _
    rw [← hps]
    rw [Std.Legacy.Range.forIn_eq_forIn_range']
    have sz : (bvals ps').toArray.size = ps'.length := by simp [bvals]
    have onh : ∀ i, ((bvals (ps'.take i)).map fun v => (v, (none : Option Value))).any (fun x => x.fst.onHeap) = false := fun i => by
      rw [List.any_eq_false]
      intro x hx
      simp only [bvals, List.mem_map] at hx
      obtain ⟨_, ⟨y, _, rfl⟩, rfl⟩ := hx
      intro z
      cases z
    refine wpAny_bind (wpAny_forIn_list _ (fun rest st s' => ∃ i, rest = List.range' i (ps'.length - i) ∧ i ≤ ps'.length ∧ st = (((ps'.take i).map (·.1.toArray)).toArray, (bvals (ps'.take i)).map fun v => (v, none)) ∧ s' = s) _ ?_ ?_ _ _ ?_)
    · rintro x rest st s' ⟨i, hr, hi, rfl, rfl⟩
      have hlt : i < ps'.length := by
        rcases Nat.lt_or_ge i ps'.length with z | z
        · exact z
        · rw [Nat.sub_eq_zero_of_le z] at hr; simp at hr
      rw [show ps'.length - i = (ps'.length - (i + 1)) + 1 by omega, List.range'_succ] at hr
      obtain ⟨rfl, rfl⟩ := List.cons.inj hr
      have hx : (bvals ps').toArray.getD x .none = .bytes ps'[x].1.toArray ps'[x].2 := by
        simp [bvals, Array.getD, hlt]
      refine wpAny_bind (wpAny_seqItems ho hd ?_)
      dsimp only
      rw [onh x, hx]
      show wpAny _ _ (holding _ _ >>= _) _ _ _
      refine wpAny_bind (wpAny_holding (quiet_eq _ _ _ ?_))
      dsimp only
      refine wpAny_bind (wpAny_seqItems ho hd ?_)
      dsimp only
      rw [bne_self_eq_false]
      show wpAny _ _ (pure _) _ _ _
      refine wpAny_pure ⟨x + 1, rfl, hlt, ?_, rfl⟩
      rw [List.take_succ_eq_append_getElem hlt]
      simp only [bvals, List.map_append, List.map_cons, List.map_nil, List.push_toArray]
    · rintro st s' ⟨i, hr, hi, rfl, rfl⟩
      have : i = ps'.length := by
        have := congrArg List.length hr
        simp at this; omega
      subst this
      rw [List.take_length]
      dsimp only
      have hsum : (Array.foldl (fun x1 x2 => x1 + x2.size) (sep.toArray.size * ((List.map (fun x => x.fst.toArray) ps').toArray.size - 1)) (List.map (fun x => x.fst.toArray) ps').toArray) ≤ 16777216 := by
        rw [List.foldl_toArray, fold_sum]
        have : sep.toArray.size * ((List.map (fun x => x.fst.toArray) ps').toArray.size - 1) ≤ sep.length * ps'.length := by
          simp only [List.size_toArray, List.length_map]
          exact Nat.mul_le_mul_left _ (Nat.sub_le _ _)
        omega
      show wpAny _ _ (if Bytes.tooLong _ = true then _ else _) _ _ _
      rw [KBy.tooLong_not hsum, if_neg (by decide)]
      have hsz : (Bytes.joined sep.toArray (ps'.map (·.1.toArray))).size ≤ 16777216 := by
        have e : ps'.map (·.1.toArray) = (ps'.map (·.1)).map (·.toArray) := by simp
        rw [e, joined_eq]
        have := joinB_len sep (ps'.map (·.1))
        simp only [List.map_map, List.length_map] at this
        have e2 : (List.map ((fun x => x.length) ∘ fun x => x.fst) ps') = ps'.map (·.1.length) := rfl
        rw [e2] at this
        simp only [List.size_toArray]; omega
      refine wpAny_bind (wpAny_mkBytes ?_ (szl hsz))
      refine wpAny_bind (wpAny_holding (wpAny_point (wpAny_bind (wpAny_joinLetGo _ _ ?_ (wpAny_pure (a := Fin.done (.ret _)) (q _ _))))))
      intro p hp
      obtain ⟨_, _, rfl⟩ := List.mem_map.mp hp
      rfl
    · exact ⟨0, by rw [sz]; simp, Nat.zero_le _, by simp [bvals], rfl⟩
section
variable {C : Cx} {c : Fc} {k : Nat} {m : Loc} {h : Heap} {X : Addr → Heap → Prop} {Q : Value → Heap → Prop}
theorem p_joinB {sep : List UInt8} {t : Tok} {a : Addr} {ps : List (List UInt8 × Tok)} (hl : h.IsList a (bvals ps).toArray) (hz : ((ps.map (·.1.length)).sum + sep.length * ps.length) ≤ 16777216)
    (q : ∀ t, Q (.bytes (joinB sep (ps.map (·.1))).toArray t) h) : W C c k m (call (.builtin "bytes.join") [.bytes sep.toArray t, .ref a]) h Q X :=
  W.same q fun A s E Q' hA hh r => call_meets slot_bjoin (typeIs_bytes _ _ _) entry_bjoin (args_bjoin _ _) (meets_bjoin sep t a ps hz) (by
    refine ⟨hh ▸ hl, fun t k => ?_⟩
    have e : ps.map (·.1.toArray) = (ps.map (·.1)).map (·.toArray) := by simp
    rw [e, joined_eq]
    exact r t k)
/-- without some bytes at both ends -/
def strip (set d : List UInt8) : List UInt8 := ((d.dropWhile set.contains).reverse.dropWhile set.contains).reverse
theorem meets_strip (d set : List UInt8) (t u : Tok) (hz : d.length ≤ 16777216) : Meets (Builtin.«bytes.strip» ⟨[.bytes d.toArray t, .bytes set.toArray u], []⟩)
    (fun _ R s => ∀ t k, R (.ok (.ret (.bytes (strip set d).toArray t))) { s with toks := k }) := by
  intro prog w A R s q
  have e1 : ∀ id, selfAndSome id "strip" 0 1 ⟨[.bytes d.toArray t, .bytes set.toArray u], []⟩ = pure (.bytes d.toArray t, [.bytes set.toArray u]) := fun id => by kernel_rfl
  unfold Builtin.«bytes.strip» Bytes.stripM
  refine wpAny_bind ?_
  rw [e1]
  refine wpAny_pure ?_
  show wpAny _ _ (Bytes.bytesLike _ (.bytes set.toArray u) >>= _) _ _ _
  have e2 : ∀ id, Bytes.bytesLike id (.bytes set.toArray u) = pure set.toArray := fun id => by
    unfold Bytes.bytesLike
    rw [KBy.buffer_eq]; rfl
  rw [e2]
  refine wpAny_bind (wpAny_pure (wpAny_bind (wpAny_pure ?_)))
  show wpAny _ _ (pure d.toArray >>= _) _ _ _
  refine wpAny_bind (wpAny_pure ?_)
  have e3 : (set.toArray.contains : UInt8 → Bool) = set.contains := by funext x; simp
  show wpAny _ _ (if ((((d.dropWhile set.toArray.contains).reverse.dropWhile set.toArray.contains).reverse).length == d.toArray.size) = true then _ else _) _ _ _
  rw [e3]
  have hle : (strip set d).length ≤ d.length := by
    unfold strip
    rw [List.length_reverse]
    exact Nat.le_trans (List.dropWhile_sublist _).length_le (by rw [List.length_reverse]; exact (List.dropWhile_sublist _).length_le)
  split
  · rename_i hlen
    have hlen : (strip set d).length = d.length := by rw [← List.size_toArray (as := d)]; exact eq_of_beq hlen
    have e4 : strip set d = d := by
      unfold strip at hlen ⊢
      have h1 : (d.dropWhile set.contains) = d := (List.dropWhile_suffix _).sublist.eq_of_length_le (by
        have := (List.dropWhile_sublist set.contains (l := (d.dropWhile set.contains).reverse)).length_le
        rw [List.length_reverse] at hlen this; omega)
      rw [h1] at hlen ⊢
      have h2 : d.reverse.dropWhile set.contains = d.reverse := (List.dropWhile_suffix _).sublist.eq_of_length_le (by rw [List.length_reverse] at hlen ⊢; omega)
      rw [h2, List.reverse_reverse]
    refine wpAny_bind (wpAny_rule ?_)
    show wpAny _ _ (pure (Value.bytes d.toArray t) >>= _) _ _ _
    refine wpAny_bind (wpAny_pure (wpAny_pure (a := Fin.done (.ret (.bytes d.toArray t))) ?_))
    have := q t s.toks
    rw [e4] at this
    exact this
  · refine wpAny_bind (wpAny_mkBytes ?_ (szl (by simp only [List.size_toArray]; exact Nat.le_trans hle hz)))
    exact wpAny_pure (a := Fin.done (.ret _)) (q _ _)
theorem p_strip {set d : List UInt8} {t u : Tok} (hz : d.length ≤ 16777216) (q : ∀ t, Q (.bytes (strip set d).toArray t) h) : W C c k m (call (.builtin "bytes.strip") [.bytes d.toArray t, .bytes set.toArray u]) h Q X :=
  W.same q fun A s E Q' hA hh r => call_meets slot_strip (typeIs_bytes _ _ _) entry_strip (args_strip _ _) (meets_strip d set t u hz) (fun t k => r t k)
end
end
-- ListM
section
section
variable {C : Cx} {c : Fc} {k : Nat} {m : Loc} {h : Heap} {X : Addr → Heap → Prop} {Q : Value → Heap → Prop}
/-- a list of a display -/
def PL (h : Heap) (D : Addr) (items : List Value) : Prop := ∃ sl n, h.get? D = some { cls := .type "list", data := .seq items.toArray n, slots := sl }
theorem PL.le {h h' : Heap} {D : Addr} {items : List Value} (x : PL h D items) (le : Le h h') : PL h' D items := by
  obtain ⟨sl, n, e⟩ := x
  obtain ⟨sl', e'⟩ := le D _ e (fun vs q => by cases q) (show Value.type "list" ≠ .type "frame" by decide)
  exact ⟨sl', n, e'⟩
theorem PL.leB {h h' : Heap} {D D' : Addr} {items : List Value} (x : PL h D items) (le : LeB D' h h') (ne : D ≠ D') : PL h' D items := by
  obtain ⟨sl, n, e⟩ := x
  obtain ⟨sl', e'⟩ := le.le D _ ne e (fun vs q => by cases q) (show Value.type "list" ≠ .type "frame" by decide)
  exact ⟨sl', n, e'⟩
theorem PL.list {h : Heap} {D : Addr} {items : List Value} (x : PL h D items) : h.IsList D items.toArray := by
  obtain ⟨sl, n, e⟩ := x
  exact ⟨_, e, rfl, n, rfl⟩
theorem PL.ne {h : Heap} {D D' : Addr} {items : List Value} (x : PL h D items) (n : h.get? D' = none) : D ≠ D' := fun z => by
  obtain ⟨sl, n', e⟩ := x
  rw [z, n] at e; cases e
theorem St.none {s : Shared} {frames : List Env} (hs : St C frames s) {a : Addr} (n : s.heap.get? a = none) : C.base.get? a = none := by
  cases e : C.base.get? a with
  | none => rfl
  | some o => have := hs.stays _ _ e; rw [n] at this; cases this
theorem w_newListP {vs : List Value} (hz : vs.length ≤ sizeLine) (q : ∀ a h', Keep h h' → h.get? a = none → C.base.get? a = none → PL h' a vs → Q (.ref a) h') : W C c k m (newList vs) h Q X := fun A s hA hs hh hn => by
  subst hh
  have kp : Keep s.heap (s.heap.push { cls := .type "list", data := .seq vs.toArray }) := Keep.push _ _
  have hnone : s.heap.get? s.heap.objs.size = none := Heap.get?_none_of_le (Nat.le_refl _)
  exact wpAny_newList ⟨hs.keep kp _, kp.pd _, hn.keep kp, q _ _ kp hnone (hs.none hnone) ⟨#[], _, Heap.get?_push_size _ rfl⟩⟩ hz
theorem p_appendP {D : Addr} {items : List Value} {x : Value} (hl : PL h D items) (hb : C.base.get? D = none) (hz : items.length ≤ sizeLine) (q : ∀ h', LeB D h h' → PL h' D (items ++ [x]) → Q .none h') :
    W C c k m (call (.builtin "list.append") [.ref D, x]) h Q X := fun A s hA hs hh hn => by
  subst hh
  obtain ⟨sl, n, ho⟩ := hl
  refine wpAny_call_entry PySem.F.slot_list_append ⟨_, ho, rfl⟩ PySem.F.entry_list_append ?_ (PySem.F.args_list_append_2 _ _)
  show wpAny _ _ (updateSeq D (·.push x) >>= fun _ => ret .none) _ _ s
  refine wpAny_bind ?_
  refine wpAny_updateSeq ho rfl (wpAny_pure ⟨.none, rfl, ?_⟩)
  have hsb : Heap.SameBut D s.heap (s.heap.update D (Obj.mapSeq (·.push x))) := Heap.SameBut.update ..
  have eD : (s.heap.update D (Obj.mapSeq (·.push x))).get? D = some { cls := .type "list", data := .seq (items ++ [x]).toArray (n + 1), slots := sl } := by
    rw [Heap.get?_update_self _ ho (by simp [Obj.mapSeq, Obj.isFreed])]; simp [Obj.mapSeq]
  have ne : c.L ≠ D := fun z => by
    obtain ⟨f, ⟨o, es, ep, e, d, _⟩, _⟩ := hn.ns
    rw [z, ho] at e; cases e; cases d
  exact ⟨hs.upd hb hsb ⟨_, eD, fun vs z => by cases z⟩ _, ⟨fun b o _ e hd => ⟨o.slots, hsb.extBut _ _ (fun z => by
      obtain ⟨es, n', d⟩ := hd
      rw [z, ho] at e; cases e; cases d) e⟩, fun b o _ e hr => hsb.extBut _ _ (fun z => by
      rw [z] at e
      exact noRec e hr ho fun vs q => by cases q) e⟩, hn.ext hsb.extBut ne, q _ ⟨fun b o hb e _ _ => ⟨o.slots, hsb.extBut _ _ hb e⟩⟩ ⟨sl, _, eD⟩⟩
theorem w_append {x : Str} {px apos pos : Pos} {e : Expr} {env : Env}
    (hbase : attributeBase (.Name x px) "append" env (eval (.Name x px) env) = eval (.Name x px) env)
    (hfew : ((backTo pos (starEach [e] env)).all (fun x => !x.1) && (backToKw pos (keywordEach [] env)).all (fun x => x.1.isSome)
      && decide (([e] : List Expr).length + ([] : List Keyword).length + (if ([] : List Keyword).isEmpty then 0 else 1) < 30)) = true)
    (hline : (apos.endLine == pos.line) = true) (he : starEach [e] env = (false, eval e env) :: starEach [] env)
    (y : W C c k m (eval (.Name x px) env) h (fun ov h₁ => ∃ D items, ov = .ref D ∧ PL h₁ D items ∧ W C c k m (eval e env) h₁ (fun v h₂ => ∃ items, PL h₂ D items ∧ C.base.get? D = none ∧ items.length ≤ sizeLine ∧
      ∀ h', LeB D h₂ h' → PL h' D (items ++ [v]) → Q .none h') X) X) :
    W C c k m (eval (.Call (.Attribute (.Name x px) "append" apos) [e] [] pos) env) h Q X := by
  refine w_meth hbase hfew hline F.plainAttrs_list PySem.F.slot_list_append PySem.F.type_list_append (y.mono (fun ov h₁ q => ?_) fun _ _ q => q)
  obtain ⟨D, items, rfl, ⟨sl, n, ho⟩, q⟩ := q
  refine ⟨fun s hs => ⟨_, by rw [hs]; exact ho, rfl⟩, fun a e => ?_, ?_⟩
  · cases e
    exact ⟨_, ho, rfl⟩
  · refine w_cwB ?_ he rfl
    refine w_args_cons (q.mono (fun v h₂ q => ?_) fun _ _ q => q) he
    obtain ⟨items, hl, hb, hz, q⟩ := q
    exact w_args_nil (p_appendP hl hb hz q)
end
end
-- Mac2
section
end
local macro_rules | `(tactic| k_offL) => `(tactic| first
  | (with_reducible refine at_eval ?_; first
    | (with_reducible refine w_append (by kernel_rfl) (by kernel_rfl) (by kernel_rfl) (by kernel_rfl) ?_)
    | (with_reducible refine w_methV isB_type (by kernel_rfl) (by kernel_rfl) (by kernel_rfl) FB.plainAttrs_bytes slot_bjoin type_bjoin ?_)
    | (with_reducible refine w_methV isB_type (by kernel_rfl) (by kernel_rfl) (by kernel_rfl) FB.plainAttrs_bytes slot_strip type_strip ?_)
    | (with_reducible refine w_attr ?_))
  )
section
end
-- Tup
section
section
variable {C : Cx} {c : Fc} {k : Nat} {m : Loc} {h : Heap} {N : Loc → Heap → Prop} {R : Value → Heap → Prop} {Y : Loc → Addr → Heap → Prop}
theorem keep_ext {h h' : Heap} (x : Heap.ExtBut h.objs.size h h') : Keep h h' := fun b o e => x b o (fun z => by rw [z, Heap.get?_none_of_le (Nat.le_refl _)] at e; cases e) e
theorem s_assign2 {x y : Str} {px py pos tpos : Pos} {kd : Nat} {value : Expr} (l : Live C c) (hx : c.env.kindOf x = some .local) (hy : c.env.kindOf y = some .local)
    (hs : swapsWithSole [.Tuple [.Name x px, .Name y py] kd tpos] value pos.line c.env = pure false) (hw : swappedStores [.Tuple [.Name x px, .Name y py] kd tpos] value c.env = pure none)
    (z : W C c k m (eval value c.env) h (fun v h₁ => ∃ t a b, v = .ref t ∧ h₁.IsTuple t #[a, b] ∧ ∀ h₂, Le h₁ h₂ → N ((y, b) :: (x, a) :: m) h₂) (fun a h' => Y m a h')) :
    S C c k m (exec (.Assign [.Tuple [.Name x px, .Name y py] kd tpos] value pos) c.env) h N R Y :=
  fun A s hA hss hh hn => Assign_Tuple (wpAny_mono (z A s hA hss hh hn) (fun v s₁ q => by
    obtain ⟨q1, q2, q3, t, a, b, rfl, ht, q4⟩ := q
    refine wpAny_assign_Tuple hA.handled ht rfl rfl fun h' hx' => ?_
    have kp := keep_ext hx'
    show wpAny _ _ (assignInOrder [assign (.Name x px) c.env, assign (.Name y py) c.env] [a, b]) _ _ _
    unfold assignInOrder
    refine wpAny_bind (wpAny_holding (wpAny_assign_Name (w_store l (q1.keep kp s₁.toks) (q3.keep kp) hx fun s₄ b1 b2 b3 b4 => ?_)))
    unfold assignInOrder
    refine wpAny_bind (wpAny_holding (wpAny_assign_Name (w_store l b1 b3 hy fun s₅ e1 e2 e3 e4 => ?_)))
    unfold assignInOrder
    exact wpAny_pure ⟨e1, ((q2.trans (kp.pd _)).trans b2).trans e2, _, e3, q4 _ ((kp.le.trans b4).trans e4)⟩) fun e s' q => ⟨q.1, q.2.1, m, q.2.2.1, q.2.2.2⟩) hs hw
end
end
local macro_rules | `(tactic| k_offL) => `(tactic| first
  | (with_reducible refine s_assign2 (Live.fn (by kernel_rfl)) (by kernel_rfl) (by kernel_rfl) rfl rfl ?_))
section
end
-- Pure2
section
/-- octets without their line's ends -/
noncomputable def unl : List UInt8 → List UInt8
  | [] => []
  | x :: r => if x = 10 then unl r else if x = 13 ∧ r.head? = some 10 then unl r else x :: unl r
theorem unl_none : ∀ (r : List UInt8), (∀ x ∈ r, x ≠ 10) → unl r = r
  | [], _ => rfl
  | x :: r, h => by
    have h2 : r.head? ≠ some 10 := fun z => h 10 (.tail _ (List.mem_of_head? z)) rfl
    rw [unl, if_neg (h x (.head _)), if_neg (fun z => h2 z.2), unl_none r fun y hy => h y (.tail _ hy)]
theorem unl_lf (post : List UInt8) : ∀ (pre : List UInt8), (∀ x ∈ pre, x ≠ 10) → pre.getLast? ≠ some 13 → unl (pre ++ 10 :: post) = pre ++ unl post
  | [], _, _ => by simp [unl]
  | [x], h, hl => by
    have hx : x ≠ 13 := fun z => hl (by rw [z]; rfl)
    simp [unl, h x (.head _), hx]
  | x :: y :: r, h, hl => by
    have ih := unl_lf post (y :: r) (fun z hz => h z (.tail _ hz)) (by rw [List.getLast?_cons_cons] at hl; exact hl)
    rw [List.cons_append, unl, if_neg (h x (.head _)), if_neg (fun z => h y (.tail _ (.head _)) (by simpa using z.2)), ih]; rfl
theorem unl_crlf (post : List UInt8) : ∀ (pre : List UInt8), (∀ x ∈ pre, x ≠ 10) → unl (pre ++ 13 :: 10 :: post) = pre ++ unl post
  | [], _ => by simp [unl]
  | [x], h => by simp [unl, h x (.head _)]
  | x :: y :: r, h => by
    have ih := unl_crlf post (y :: r) (fun z hz => h z (.tail _ hz))
    rw [List.cons_append, unl, if_neg (h x (.head _)), if_neg (fun z => h y (.tail _ (.head _)) (by simpa using z.2)), ih]; rfl
theorem split_at {r : List UInt8} {i : Nat} (hi : r.findIdx? (· == 10) = some i) : r = r.take i ++ 10 :: r.drop (i + 1) ∧ (∀ x ∈ r.take i, x ≠ 10) ∧ i < r.length := by
  have hlt := findIdx_lt hi
  rw [List.findIdx?_eq_some_iff_getElem] at hi
  obtain ⟨h1, h2, h3⟩ := hi
  refine ⟨?_, ?_, hlt⟩
  · have : r[i] = 10 := by simpa using h2
    rw [← this, ← List.drop_eq_getElem_cons, List.take_append_drop]
  · intro x hx
    obtain ⟨j, hj, rfl⟩ := List.mem_iff_getElem.mp hx
    rw [List.getElem_take]
    rw [List.length_take] at hj
    simpa using h3 j (by omega)
theorem line_facts (r : List UInt8) : (lineLen r).1 ≤ (lineLen r).2 ∧ (lineLen r).2 ≤ r.length ∧ ((lineLen r).1 = r.length → unl r = r) ∧
    ((lineLen r).1 ≠ r.length → 0 < (lineLen r).2 ∧ unl r = r.take (lineLen r).1 ++ unl (r.drop (lineLen r).2)) := by
  unfold lineLen
  cases hi : r.findIdx? (· == 10) with
  | none =>
    rw [List.findIdx?_eq_none_iff] at hi
    exact ⟨Nat.le_refl _, Nat.le_refl _, fun _ => unl_none r fun x hx => by simpa using hi x hx, fun z => absurd rfl z⟩
  | some i =>
    obtain ⟨e, hn, hlt⟩ := split_at hi
    dsimp only
    split
    · rename_i hc
      have e2 : r.take i = r.take (i - 1) ++ [13] := by
        have : r.take (i - 1 + 1) = r.take (i - 1) ++ [r[i - 1]] := List.take_succ_eq_append_getElem (by omega)
        rw [show i - 1 + 1 = i by omega] at this
        rw [this]
        have h13 := hc.2
        rw [List.getD_eq_getElem?_getD, List.getElem?_eq_getElem (by omega)] at h13
        rw [show r[i - 1] = 13 from h13]
      refine ⟨by dsimp only; omega, by dsimp only; omega, fun z => by dsimp only at z; omega, fun _ => ⟨by dsimp only; omega, ?_⟩⟩
      dsimp only
      conv => lhs; rw [e, e2, List.append_assoc]
      exact unl_crlf _ _ fun x hx => hn x (by rw [e2]; exact List.mem_append_left _ hx)
    · rename_i hc
      refine ⟨by dsimp only; omega, by dsimp only; omega, fun z => by dsimp only at z; omega, fun _ => ⟨by dsimp only; omega, ?_⟩⟩
      dsimp only
      conv => lhs; rw [e]
      refine unl_lf _ _ hn fun z => hc ?_
      have hpos : 0 < i := by
        rcases Nat.eq_zero_or_pos i with q | q
        · rw [q] at z; simp at z
        · exact q
      refine ⟨hpos, ?_⟩
      rw [List.getLast?_eq_getElem?, List.length_take, Nat.min_eq_left (by omega), List.getElem?_take, if_pos (by omega)] at z
      rw [List.getD_eq_getElem?_getD, z]; rfl
theorem unl_len : ∀ r : List UInt8, (unl r).length ≤ r.length
  | [] => Nat.le_refl _
  | x :: r => by
    have := unl_len r
    unfold unl
    split
    · rw [List.length_cons]; omega
    · split
      · rw [List.length_cons]; omega
      · rw [List.length_cons, List.length_cons]; omega
end
-- F5
section
variable {C : Cx} {c : Fc} {k : Nat} {m : Loc} {h : Heap} {X : Addr → Heap → Prop} {Q : Value → Heap → Prop}
theorem rows_of_spec (T : Tops C) {d : List UInt8} {t : Tok} (hz : d.length ≤ 16777216)
    (q : ∀ D ps h', Le h h' → PL h' D (bvals ps) → (ps.map (·.1)).flatten = unl d → ps.length ≤ d.length + 1 → Q (.ref D) h') :
    W C c (k + 2) m (PySem.call (.ref 149) [.bytes d.toArray t]) h Q X := by
  refine w_fn T.toTopOk T.f_rows_of.2 (binds := [("raw", .bytes d.toArray t)]) (fun _ _ _ _ _ _ _ _ => BindsTo.of_eq rfl) (locs (by kernel_rfl)) (by decide +kernel) (by kernel_rfl) (by kernel_rfl) (by kernel_rfl) rfl fun cd L h₁ kp hL => ?_
  refine s_body (rfl : B 15 = _ :: _) ?_
  k_subL
  refine w_newListP (szl (by simp)) fun D h₂ kp2 nD bD pl h₃ le3 => ?_
  k_subL
  intro h₄ le4
  refine s_cons (s_while (m₀ := [("at", .int 0 ‹_›), ("rows", .ref D), ("raw", .bytes d.toArray t)]) (by lcg_sub) (fun n m' h' => ∃ a : Nat, ∃ ps ta, n = d.length + 1 - a ∧ a ≤ d.length ∧ m' = ([("at", .int (a : Int) ta), ("rows", .ref D), ("raw", .bytes d.toArray t)] : Loc) ∧
    Le h h' ∧ PL h' D (bvals ps) ∧ (ps.map (·.1)).flatten ++ unl (d.drop a) = unl d ∧ ps.length ≤ a) ?_ (d.length + 1) ⟨0, [], _, rfl, Nat.zero_le _, rfl, ?_, (pl.le le3).le le4, rfl, Nat.le_refl _⟩)
  · rintro n m₁ h₅ ⟨a, ps, ta, rfl, ha, rfl, le, pl, hf, hn⟩
    k_subL
    refine ⟨fun _ => ?_, fun z => (nomatch z)⟩
    k_subL
    refine p_len (by omega) fun t₂ => ?_
    k_subL
    refine line_at_spec T ha hz fun r h₆ le6 ht => ?_
    obtain ⟨u1, u2, ht⟩ := ht
    refine ⟨_, _, _, rfl, ht, fun h₇ le7 => ?_⟩
    obtain ⟨f1, f2, f3, f4⟩ := line_facts (d.drop a)
    have hdl : (d.drop a).length = d.length - a := List.length_drop ..
    have pl7 := (pl.le le6).le le7
    k_subL
    refine ⟨_, _, rfl, pl7, ?_⟩
    k_subL
    intro sl h₈ kp8 hsl
    k_subL
    refine p_cut2 a (a + (lineLen (d.drop a)).1) hsl rfl rfl hz fun t₃ => ?_
    rw [Nat.add_sub_cancel_left]
    refine ⟨_, pl7.le kp8.le, bD, szl (by simp [bvals]; omega), fun h₉ le9 pl9 => ?_⟩
    have pl9 : PL h₉ D (bvals (ps ++ [((d.drop a).take (lineLen (d.drop a)).1, t₃)])) := by simpa [bvals] using pl9
    have le' : Le h h₉ := (((le.trans le6).trans le7).trans kp8.le).leB le9 (by
      cases e : h.get? D with
      | none => rfl
      | some o => have := kp _ _ e; rw [nD] at this; cases this)
    refine s_cons (s_if ?_)
    refine w_tcmp ?_ (by kernel_rfl)
    k_subL
    refine p_len (by omega) fun t₄ => ?_
    k_subL
    refine ⟨fun z => ?_, fun z => ?_⟩
    · have z : (lineLen (d.drop a)).1 = (d.drop a).length := by have := eq_of_beq z; omega
      k_subL
      refine q _ _ _ le' pl9 ?_ (by simp; omega)
      rw [← hf, f3 z, z, List.take_length]; simp
    · have z : (lineLen (d.drop a)).1 ≠ (d.drop a).length := fun e => by
        rw [e, hdl] at z
        have : ((a + (d.length - a) : Nat) : Int) = d.length := by omega
        rw [this, beq_self_eq_true] at z; cases z
      obtain ⟨g1, g2⟩ := f4 z
      refine s_nil (Sub.refl _) ?_
      k_subL
      intro h₁₀ le10
      refine s_nil (Sub.refl _) ⟨d.length + 1 - (a + (lineLen (d.drop a)).2), [("at", _), ("rows", _), ("raw", _)], by omega, by lcg_sub, a + (lineLen (d.drop a)).2, _, _, rfl, by omega, rfl, le'.trans le10, pl9.le le10, ?_, by simp; omega⟩
      · rw [← hf, g2, List.drop_drop]; simp
  · exact ((kp.trans kp2).le.trans le3).trans le4
/-- a field's body: its lines as one, without white at both ends -/
noncomputable def bodyOfRaw (raw : List UInt8) : List UInt8 := strip [32, 9] (unl raw)
theorem joinB_nil (l : List (List UInt8)) : joinB [] l = l.flatten := by
  cases l with
  | nil => rfl
  | cons b l => simp [joinB, List.flatMap, List.map_id']
theorem sum_len (ps : List (List UInt8 × Tok)) : (ps.map (·.1.length)).sum = ((ps.map (·.1)).flatten).length := by
  rw [List.length_flatten, List.map_map]; rfl
theorem unfolded_spec (T : Tops C) {d : List UInt8} {t : Tok} (hz : d.length ≤ 16777216) (q : ∀ t h', Le h h' → Q (.bytes (bodyOfRaw d).toArray t) h') :
    W C c (k + 3) m (PySem.call (.ref 156) [.bytes d.toArray t]) h Q X := by
  refine w_fn T.toTopOk T.f_unfolded.2 (binds := [("raw", .bytes d.toArray t)]) (fun _ _ _ _ _ _ _ _ => BindsTo.of_eq rfl) (locs (by kernel_rfl)) (by decide +kernel) (by kernel_rfl) (by kernel_rfl) (by kernel_rfl) rfl fun cd L h₁ kp hL => ?_
  refine s_body (rfl : B 16 = _ :: _) ?_
  have hul := unl_len d
  k_subL
  refine rows_of_spec T hz fun D ps h₂ le2 pl hps hn => ?_
  k_subL
  refine p_joinB (sep := []) pl.list (by rw [sum_len, hps]; simp; omega) fun t₃ => ?_
  rw [joinB_nil, hps]
  k_subL
  refine p_strip (set := [32, 9]) (by omega) fun t₄ => ?_
  exact q _ _ (kp.le.trans le2)
end
-- F6
section
variable {C : Cx} {c : Fc} {k : Nat} {m : Loc} {h : Heap} {X : Addr → Heap → Prop} {Q : Value → Heap → Prop}
/-- a list of Fields -/
def Fl (h : Heap) (D : Addr) (fs : List (List UInt8 × List UInt8)) : Prop :=
  ∃ items : List Value, h.IsList D items.toArray ∧ items.length = fs.length ∧ ∀ (i : Nat) (f : List UInt8 × List UInt8), fs[i]? = some f → ∃ a, items[i]? = some (Value.ref a) ∧ FieldAt h a f.1 f.2
theorem Fl.le {h h' : Heap} {D : Addr} {fs : List (List UInt8 × List UInt8)} (x : Fl h D fs) (l : Le h h') : Fl h' D fs := by
  obtain ⟨items, e1, e2, e3⟩ := x
  exact ⟨items, le_isList l e1, e2, fun i f e => let ⟨a, q1, q2⟩ := e3 i f e; ⟨a, q1, q2.le l⟩⟩
def isWord (w : List Nat) (f : List UInt8 × List UInt8) : Bool := (codes f.1).map low == w.map low
noncomputable def firstBody (fs : List (List UInt8 × List UInt8)) (w : List Nat) : Option (List UInt8) := (fs.find? (isWord w)).map fun f => bodyOfRaw f.2
theorem find_take {α : Type} {p : α → Bool} {l : List α} {i : Nat} {b : α} (hb : l[i]? = some b) (ha : (l.take i).find? p = none) (hp : p b = false) : (l.take (i + 1)).find? p = none := by
  rw [List.take_add_one, hb, List.find?_append, ha]; simp [hp]
theorem find_here {α : Type} {p : α → Bool} {l : List α} {i : Nat} {b : α} (hb : l[i]? = some b) (ha : (l.take i).find? p = none) (hp : p b = true) : l.find? p = some b := by
  have h1 := List.take_append_drop i l
  have hi : i < l.length := (List.getElem?_eq_some_iff.mp hb).1
  rw [← h1, List.find?_append, ha, List.drop_eq_getElem_cons hi]
  have : l[i] = b := by rw [List.getElem?_eq_getElem hi] at hb; exact Option.some.inj hb
  rw [this]; simp [hp]
theorem txt_inj {a b : List Nat} : ((txt a == txt b) : Bool) = (a == b) := by
  rw [Bool.eq_iff_iff]; simp [txt]
theorem first_body_spec (T : Tops C) {D : Addr} {fs : List (List UInt8 × List UInt8)} {w : List Nat} {t : Tok} (hf : Fl h D fs) (hz : ∀ f ∈ fs, f.1.length ≤ 16777216 ∧ f.2.length ≤ 16777216) (hw : w.length ≤ 16777216) (hwl : ∀ x ∈ w, x < 1114000)
    (q : ∀ t h', Le h h' → Q (match firstBody fs w with | some b => .bytes b.toArray t | none => .none) h') :
    W C c (k + 4) m (PySem.call (.ref 163) [.ref D, .str (txt w) t]) h Q X := by
  refine w_fn T.toTopOk T.f_first_body.2 (binds := [("fields", .ref D), ("word", .str (txt w) t)]) (fun _ _ _ _ _ _ _ _ => BindsTo.of_eq rfl) (locs (by kernel_rfl)) (by decide +kernel) (by kernel_rfl) (by kernel_rfl) (by kernel_rfl) rfl fun cd L h₁ kp hL => ?_
  refine s_body (rfl : B 17 = _ :: _) ?_
  k_subL
  refine lower_text_spec T hw hwl fun t₂ h₂ le2 h₃ le3 => ?_
  refine s_cons (s_for (Live.fn (by kernel_rfl)) (by kernel_rfl) (fun _ => rfl) (fun i m' h' => m' = ([("wanted", .str (txt (w.map low)) t₂)] : Loc) ∧ Le h₃ h' ∧ (fs.take i).find? (isWord w) = none) ?_)
  have le := (kp.le.trans le2).trans le3
  obtain ⟨items, e1, e2, e3⟩ := hf.le le
  k_subL
  refine w_iterL e1 fun I h₄ St kp4 nI it st gl => ⟨I, _, _, _, _, _, rfl, nI, it, st, gl, by lcg_sub, ⟨rfl, kp4.le, rfl⟩, ?_, ?_⟩
  · rintro i v m₁ h₅ hi hv g5 ⟨rfl, le5, hn⟩ h₆ le6 g6
    have hi' : i < fs.length := by omega
    have hfi : fs[i]? = some fs[i] := List.getElem?_eq_getElem hi'
    obtain ⟨a, q1, q2⟩ := e3 i _ hfi
    rw [hv] at q1; cases q1
    have f6 := q2.le (le5.trans le6)
    obtain ⟨z1, z2⟩ := hz _ (List.getElem_mem hi')
    refine s_cons (s_if ?_)
    refine w_tcmp ?_ (by kernel_rfl)
    refine' w_word T ?he ?_
    case he => exact (by with_unfolding_all rfl)
    k_subL
    refine ⟨a, _, _, rfl, f6, ?_⟩
    refine word_spec T z1 f6 fun t₇ h₇ le7 => ?_
    k_subL
    rw [txt_inj]
    refine ⟨fun e => ?_, fun e => ?_⟩
    · k_subL
      refine p_fieldRaw T (f6.le le7) fun t₈ => ?_
      k_subL
      refine unfolded_spec T z2 fun t₉ h₉ le9 => ?_
      have q := q t₉ _ ((le.trans (le5.trans le6)).trans (le7.trans le9))
      unfold firstBody at q
      rw [find_here hfi hn e] at q
      exact q
    · refine s_nil (Sub.refl _) (s_nil (Sub.refl _) ⟨le_isList le7 g6, _, by lcg_sub, rfl, (le5.trans le6).trans le7, find_take hfi hn e⟩)
  · rintro m₁ h₅ ⟨rfl, le5, hn⟩ h₆ le6
    k_subL
    have q := q t _ (le.trans (le5.trans le6))
    rw [e2, List.take_length] at hn
    unfold firstBody at q
    rw [hn] at q
    exact q
end
-- Inn
section
open PySem PySem.W PyProof.Rows PySem.Builtin
section
variable {C : Cx} {c : Fc} {k : Nat} {m : Loc} {h : Heap} {X : Addr → Heap → Prop} {Q : Value → Heap → Prop}
theorem containsIn_eq {M : Model} {A : Around} {E : Value → Shared → Prop} {s : Shared} {Q : Bool → Shared → Prop} (id : String) (d : List UInt8) (x : UInt8) (t u : Tok) (q : Q (d.contains x) s) :
    wpAny M A (Bytes.containsIn id (.bytes d.toArray t) (.int x.toNat u)) Q E s := by
  unfold Bytes.containsIn
  refine wpAny_bind (wpAny_attempt ?_)
  show wpAny _ _ (pure (x.toNat : Int)) _ _ _
  refine wpAny_pure ?_
  rw [KBy.buffer_eq]
  refine wpAny_bind (wpAny_pure ?_)
  have h256 := x.toNat_lt
  have e1 : (decide ((x.toNat : Int) < 0) || decide ((x.toNat : Int) ≥ 256)) = false := by simp; omega
  show wpAny _ _ (if (decide ((x.toNat : Int) < 0) || decide ((x.toNat : Int) ≥ 256)) = true then _ else _) _ _ _
  rw [if_neg (by rw [e1]; decide)]
  have e2 : d.toArray.contains (x.toNat : Int).toNat.toUInt8 = d.contains x := by simp
  exact wpAny_pure (by rw [e2]; exact q)
theorem gives_inB {d : List UInt8} {x : UInt8} {t u : Tok} : Gives (Builtin.«bytes.__contains__» ⟨[.bytes d.toArray t, .int x.toNat u], []⟩) (.val (.bool (d.contains x))) := by
  refine .of_wp fun M A E s Q hq => ?_
  unfold Builtin.«bytes.__contains__»
  have e1 : slotArgs "__contains__" 1 ⟨[.bytes d.toArray t, .int x.toNat u], []⟩ = pure (.bytes d.toArray t, [.int x.toNat u]) := by kernel_rfl
  rw [e1]
  refine wpAny_bind (wpAny_pure ?_)
  refine wpAny_bind (containsIn_eq _ d x t u (wpAny_pure ⟨_, rfl, hq⟩))
theorem p_inB {d : List UInt8} {x : UInt8} {t u : Tok} (q : Q (.bool (d.contains x)) h) : W C c k m (compareOp .In (.int x.toNat u) (.bytes d.toArray t)) h Q X :=
  W.same (v := fun _ => .bool (d.contains x)) (fun _ => q) fun A s E Q' hA hh r => In_slot (typeIs_bytes _ _ _) FB.slot_bytes_contains (call_gives FB.slot_bytes_contains (typeIs_bytes _ _ _) FB.entry_bytes_contains (FB.args_bytes_contains_2 _ _) gives_inB (wpAny_truthy_bool (r 0 _)))
theorem p_inT {a : Addr} {ns : List (Int × Tok)} {i : Int} {u : Tok} (ht : h.IsTuple a (ns.map fun p => Value.int p.1 p.2).toArray) (q : Q (.bool (ns.any fun p => p.1 == i)) h) : W C c k m (compareOp .In (.int i u) (.ref a)) h Q X :=
  W.same (v := fun _ => .bool (ns.any fun p => p.1 == i)) (fun _ => q) fun A s E Q' hA hh r => by
    subst hh
    have e : (ns.map fun p => Value.int p.1 p.2).toArray.any (fun v => match v with | .int j _ => j == i | _ => false) = ns.any fun p => p.1 == i := by
      rw [List.any_toArray, List.any_map]; rfl
    refine PySem.SeqAt.in_tupleAt (fun v => match v with | .int j _ => j == i | _ => false) ht (fun y hy => ?_) (by rw [e]; exact r 0 _)
    obtain ⟨p, _, rfl⟩ := List.mem_map.mp (List.mem_toArray.mp hy)
    exact SeqAt.EqAt.int_int _ _ _ _
end
end
-- EqL
section
section
variable {C : Cx} {c : Fc} {k : Nat} {m : Loc} {h : Heap} {X : Addr → Heap → Prop} {Q : Value → Heap → Prop}
/-- a list of texts -/
def SL (h : Heap) (D : Addr) (ss : List Str) : Prop := ∃ ps : List (Str × Tok), h.IsList D (strValues ps).toArray ∧ ps.map (·.1) = ss
theorem SL.le {h h' : Heap} {D : Addr} {ss : List Str} (x : SL h D ss) (l : Le h h') : SL h' D ss := by
  obtain ⟨ps, e1, e2⟩ := x
  exact ⟨ps, le_isList l e1, e2⟩
theorem units_lt {A : Around} {outer : List Env} (hA : Room A outer k) : A.units < cLine := by
  have := hA.units
  show A.units < 9900
  omega
theorem p_eqNil {D E : Addr} {ys : List Value} (hD : h.IsList D ys.toArray) (hE : h.IsList E #[]) (q : Q (.bool ys.isEmpty) h) : W C c k m (compareOp .Eq (.ref D) (.ref E)) h Q X :=
  W.same (v := fun _ => .bool ys.isEmpty) (fun _ => q) fun A s E' Q' hA hh r => by
    subst hh
    cases ys with
    | nil => exact SeqAt.eq_listAt hD hE rfl (units_lt hA) (e := fun _ => true) (fun j h1 _ => absurd h1 (Nat.not_lt_zero _)) (r 0 _)
    | cons y ys => exact SeqAt.eq_list_lengthsAt hD hE (by simp) (units_lt hA) (r 0 _)
theorem strs_eq (a b : List (Str × Tok)) (hl : a.length = b.length) : ((List.range (strValues a).toArray.size).all fun j => (a.map (·.1))[j]? == (b.map (·.1))[j]?) = (a.map (·.1) == b.map (·.1)) := by
  rw [Bool.eq_iff_iff, List.all_eq_true, beq_iff_eq]
  have sz : (strValues a).toArray.size = a.length := by simp [strValues]
  rw [sz]
  constructor
  · intro x
    apply List.ext_getElem?
    intro j
    by_cases hj : j < a.length
    · exact eq_of_beq (x j (List.mem_range.mpr hj))
    · rw [List.getElem?_eq_none (by simpa using hj), List.getElem?_eq_none (by simp; omega)]
  · intro e j _
    rw [e, beq_self_eq_true]
theorem p_eqSL {D E : Addr} {a b : List Str} (hD : SL h D a) (hE : SL h E b) (q : Q (.bool (a == b)) h) : W C c k m (compareOp .Eq (.ref D) (.ref E)) h Q X :=
  W.same (v := fun _ => .bool (a == b)) (fun _ => q) fun A s E' Q' hA hh r => by
    subst hh
    obtain ⟨pa, ha, rfl⟩ := hD
    obtain ⟨pb, hb, rfl⟩ := hE
    by_cases hl : pa.length = pb.length
    · have := r 0 s.toks
      rw [← strs_eq pa pb hl] at this
      refine SeqAt.eq_listAt ha hb (by simpa [strValues] using hl) (units_lt hA) (fun j h1 h2 => ?_) this
      have h1' : j < pa.length := by simpa [strValues] using h1
      have h2' : j < pb.length := by simpa [strValues] using h2
      have e := SeqAt.EqAt.str_str (A := A.in1) (s := s) pa[j].1 pa[j].2 pb[j].1 pb[j].2
      have e1 : (strValues pa).toArray[j] = .str pa[j].1 pa[j].2 := by simp [strValues]
      have e2 : (strValues pb).toArray[j] = .str pb[j].1 pb[j].2 := by simp [strValues]
      rw [e1, e2]
      have e3 : ((pa.map (·.1))[j]? == (pb.map (·.1))[j]?) = (pa[j].1 == pb[j].1) := by
        rw [List.getElem?_map, List.getElem?_map, List.getElem?_eq_getElem h1', List.getElem?_eq_getElem h2']; rfl
      rw [e3]; exact e
    · have : (pa.map (·.1) == pb.map (·.1)) = false := by
        cases e : (pa.map (·.1) == pb.map (·.1)) with
        | false => rfl
        | true => have := congrArg List.length (eq_of_beq e); simp at this; exact absurd this hl
      have q := r 0 s.toks
      rw [this] at q
      exact SeqAt.eq_list_lengthsAt ha hb (by simp [strValues]; exact hl) (units_lt hA) q
end
end
local macro_rules | `(tactic| k_offL) => `(tactic| first
  | (with_reducible refine at_cmp ?_; first | with_reducible refine p_inB ?_))
section
end
-- F7
section
variable {C : Cx} {c : Fc} {k : Nat} {m : Loc} {h : Heap} {X : Addr → Heap → Prop} {Q : Value → Heap → Prop}
def atomSigns : List UInt8 := [33, 35, 36, 37, 38, 39, 42, 43, 45, 47, 61, 63, 94, 95, 96, 123, 124, 125, 126]
def atomCode (x : UInt8) : Bool := (decide ((48 : Int) ≤ x.toNat) && decide ((x.toNat : Int) ≤ 57)) || ((decide ((65 : Int) ≤ x.toNat) && decide ((x.toNat : Int) ≤ 90)) || ((decide ((97 : Int) ≤ x.toNat) && decide ((x.toNat : Int) ≤ 122)) || (decide ((x.toNat : Int) > 127) || atomSigns.contains x)))
def runCode (x : UInt8) : Bool := decide ((x.toNat : Int) < 127) && (((x.toNat : Int) == 46) || atomCode x)
theorem is_atom_code_spec (T : Tops C) {x : UInt8} {t : Tok} (q : ∀ h', Le h h' → Q (.bool (atomCode x)) h') :
    W C c (k + 1) m (PySem.call (.ref 171) [.int x.toNat t]) h Q X := by
  refine w_fn T.toTopOk T.f_is_atom_code.2 (binds := [("code", .int x.toNat t)]) (fun _ _ _ _ _ _ _ _ => BindsTo.of_eq rfl) (locs (by kernel_rfl)) (by decide +kernel) (by kernel_rfl) (by kernel_rfl) (by kernel_rfl) rfl fun cd L h₁ kp hL => ?_
  refine s_body (rfl : B 22 = _ :: _) ?_
  refine s_cons (s_ret ?_)
  refine' eb_use ?y ?_
  case y => k_allIn
  exact q _ kp.le
theorem is_run_code_spec (T : Tops C) {x : UInt8} {t : Tok} (q : ∀ h', Le h h' → Q (.bool (runCode x)) h') :
    W C c (k + 2) m (PySem.call (.ref 213) [.int x.toNat t]) h Q X := by
  refine w_fn T.toTopOk T.f_is_run_code.2 (binds := [("code", .int x.toNat t)]) (fun _ _ _ _ _ _ _ _ => BindsTo.of_eq rfl) (locs (by kernel_rfl)) (by decide +kernel) (by kernel_rfl) (by kernel_rfl) (by kernel_rfl) rfl fun cd L h₁ kp hL => ?_
  refine s_body (rfl : B 32 = _ :: _) ?_
  k_subL
  refine ⟨fun z => ?_, fun z => ?_⟩
  · k_subL
    refine ⟨fun z2 => ?_, fun z2 => ?_⟩
    · k_subL
      refine is_atom_code_spec T fun h₂ le2 => ?_
      have := q _ (kp.le.trans le2)
      rw [runCode, z, z2] at this
      exact this
    · have := q _ kp.le
      rw [runCode, z, z2] at this
      rw [z2]
      exact this
  · have := q _ kp.le
    rw [runCode, z] at this
    rw [z]
    exact this
def plainCode (x : UInt8) : Bool := !(decide ((x.toNat : Int) > 126) || (decide ((x.toNat : Int) < 32) && ((x.toNat : Int) != 9)))
theorem check_plain_spec (T : Tops C) {d : List UInt8} {v : Value} {t : Tok} (hp : d.all plainCode = true) (q : ∀ h', Le h h' → Q .none h') :
    W C c (k + 1) m (PySem.call (.ref 232) [.bytes d.toArray t, v]) h Q X := by
  refine w_fn T.toTopOk T.f_check_plain.2 (binds := [("octets", .bytes d.toArray t), ("at", v)]) (fun _ _ _ _ _ _ _ _ => BindsTo.of_eq rfl) (locs (by kernel_rfl)) (by decide +kernel) (by kernel_rfl) (by kernel_rfl) (by kernel_rfl) rfl fun cd L h₁ kp hL => ?_
  refine s_body (rfl : B 35 = _ :: _) ?_
  refine s_cons (s_for (Live.fn (by kernel_rfl)) (by kernel_rfl) (fun _ => rfl) (fun i m' h' => m' = ([("octets", .bytes d.toArray t), ("at", v)] : Loc) ∧ Le h h') ?_)
  k_subL
  refine w_iterB fun I h₂ St kp2 nI it st => ⟨I, _, _, _, _, _, rfl, nI, it, st, trivial, by lcg_sub, ⟨rfl, (kp.trans kp2).le⟩, ?_, ?_⟩
  · rintro i v' m₁ h₃ hi ⟨b, u, hb, rfl⟩ _ ⟨rfl, le⟩ h₄ le4 _
    refine s_cons (s_if ?_)
    refine' tb_use ?y ?_
    case y => k_allIn
    have hb' := List.all_eq_true.mp hp b (List.mem_of_getElem? hb)
    refine ⟨fun z => ?_, fun z => s_nil (Sub.refl _) (s_nil (Sub.refl _) ⟨trivial, _, by lcg_sub, rfl, le.trans le4⟩)⟩
    rw [plainCode, z] at hb'
    exact nomatch hb'
  · rintro m₁ h₃ ⟨rfl, le⟩ h₄ le4
    exact s_nil (Sub.refl _) (q _ (le.trans le4))
end
-- F8
section
variable {C : Cx} {c : Fc} {k : Nat} {m : Loc} {h : Heap} {X : Addr → Heap → Prop} {Q : Value → Heap → Prop}
theorem w_base {α : Type} {tt : Sem α} {Q : α → Heap → Prop} (x : C.base.StaysIn h → W C c k m tt h Q X) : W C c k m tt h Q X := fun A s hA hs hh hn => x (hh ▸ hs.stays) A s hA hs hh hn
theorem p_never (T : Tops C) {i : Int} {u : Tok} (q : Q (.bool ((0 == i) || ((10 == i) || ((13 == i) || false)))) h) : W C c k m (compareOp .In (.int i u) (.ref 164)) h Q X := w_base fun hst => by
  obtain ⟨tn1, tn2, tn3, o, e, r⟩ := T.never
  exact p_inT (ns := [(0, tn1), (10, tn2), (13, tn3)]) ⟨o, hst _ _ e, r⟩ q
theorem p_white (T : Tops C) {i : Int} {u : Tok} (q : Q (.bool ((32 == i) || ((9 == i) || false))) h) : W C c k m (compareOp .In (.int i u) (.ref 74)) h Q X := w_base fun hst => by
  obtain ⟨tn1, tn2, o, e, r⟩ := T.white
  exact p_inT (ns := [(32, tn1), (9, tn2)]) ⟨o, hst _ _ e, r⟩ q
theorem not_never {x : UInt8} (q0 : x ≠ 0) (q10 : x ≠ 10) (q13 : x ≠ 13) : (((0 : Int) == x.toNat) || (((10 : Int) == x.toNat) || (((13 : Int) == x.toNat) || false))) = false := by
  have e0 : ((0 : Int) == x.toNat) = false := by rw [beq_eq_false_iff_ne]; exact fun e => q0 ((u8_int (n := 0) (by omega)).mp e.symm)
  have e1 : ((10 : Int) == x.toNat) = false := by rw [beq_eq_false_iff_ne]; exact fun e => q10 ((u8_int (n := 10) (by omega)).mp e.symm)
  have e2 : ((13 : Int) == x.toNat) = false := by rw [beq_eq_false_iff_ne]; exact fun e => q13 ((u8_int (n := 13) (by omega)).mp e.symm)
  rw [e0, e1, e2]; rfl
theorem Res.empty {P : Nat → Value → Prop} {pf : Nat → Bool} {F : Nat → Value → Value → Prop} {n : Nat} {ys : List Value} (r : Res P pf F n ys) : ys.isEmpty = (List.range n).all fun i => !pf i := by
  induction r with
  | nil => rfl
  | skip _ _ e ih => rw [ih, List.range_succ, List.all_append]; simp [e]
  | take _ _ e _ ih => rw [List.range_succ, List.all_append]; simp [e]
theorem range_all (d : List UInt8) (p : UInt8 → Bool) : ((List.range d.length).all fun i => p (d.getD i 0)) = d.all p := by
  rw [Bool.eq_iff_iff, List.all_eq_true, List.all_eq_true]
  constructor
  · intro x y hy
    obtain ⟨i, hi, rfl⟩ := List.mem_iff_getElem.mp hy
    have := x i (List.mem_range.mpr hi)
    rw [List.getD_eq_getElem?_getD, List.getElem?_eq_getElem hi] at this
    exact this
  · intro x i hi
    rw [List.mem_range] at hi
    rw [List.getD_eq_getElem?_getD, List.getElem?_eq_getElem hi]
    exact x _ (List.getElem_mem hi)
def runOk (d : List UInt8) : Bool := decide ((d.length : Int) > 0) && d.all runCode
theorem is_run_spec (T : Tops C) {d : List UInt8} {t : Tok} (hz : d.length ≤ 16777216) (q : ∀ h', Le h h' → Q (.bool (runOk d)) h') :
    W C c (k + 3) m (PySem.call (.ref 218) [.bytes d.toArray t]) h Q X := by
  refine w_fn T.toTopOk T.f_is_run.2 (binds := [("octets", .bytes d.toArray t)]) (fun _ _ _ _ _ _ _ _ => BindsTo.of_eq rfl) (locs (by kernel_rfl)) (by decide +kernel) (by kernel_rfl) (by kernel_rfl) (by kernel_rfl) rfl fun cd L h₁ kp hL => ?_
  refine s_body (rfl : B 33 = _ :: _) ?_
  k_subL
  refine p_len (by omega) fun t₂ => ?_
  k_subL
  refine ⟨fun z => ?_, fun z => ?_⟩
  · k_subL
    refine w_comp (fun i => !runCode (d.getD i 0)) (fun _ _ _ => True) (by decide +kernel) (by kernel_rfl) (by decide +kernel) (by decide +kernel) (by kernel_rfl) (fun _ => rfl) ?_
    k_subL
    refine w_iterB fun I h₂ St kp2 nI it st => ⟨I, _, _, _, _, rfl, kp2, nI, it, st, trivial, szl hz, ?_, ?_⟩
    · rintro L' i v h₄ hi ⟨b, u, hb, rfl⟩ le4 _
      refine w_tst1 (w_tnot (w_tval ?_ (by kernel_rfl)))
      k_subL
      refine is_run_code_spec T fun h₅ le5 => ?_
      k_subL
      refine ⟨le5, by rw [getD_of hb], fun _ => ?_⟩
      k_subL
      exact ⟨Le.refl _, trivial⟩
    · intro D ys h₆ le6 nD r hD
      k_subL
      refine w_newListP (szl (by simp)) fun E h₇ kp7 nE bE pl => ?_
      refine p_eqNil (le_isList kp7.le hD) pl.list ?_
      have := q _ (((kp.trans kp2).le.trans le6).trans kp7.le)
      rw [r.empty]
      simp only [Bool.not_not]
      rw [range_all d runCode]
      rw [runOk, z] at this
      exact this
  · have := q _ kp.le
    rw [runOk, z] at this
    rw [z]
    exact this
/-- an octet that stands for itself within quotes and brackets -/
def quiet (x : UInt8) : Prop := x ≠ 0 ∧ x ≠ 10 ∧ x ≠ 13 ∧ x ≠ 92
theorem take1 {d : List UInt8} {a : Nat} {x : UInt8} (hx : d[a]? = some x) : (d.drop a).take 1 = [x] := by
  have ha := (List.getElem?_eq_some_iff.mp hx).1
  rw [List.drop_eq_getElem_cons ha, List.getElem?_eq_getElem ha] at *
  cases hx; rfl
theorem line_end_spec (T : Tops C) {d : List UInt8} {a : Nat} {i : Int} {x : UInt8} {t u : Tok} (hz : d.length ≤ 16777216) (hi : i = a) (hx : d[a]? = some x) (h1 : x ≠ 10) (h2 : x ≠ 13) (q : ∀ t h', Le h h' → Q (.int (-1) t) h') :
    W C c (k + 1) m (PySem.call (.ref 178) [.bytes d.toArray t, .int i u]) h Q X := by
  refine w_fn T.toTopOk T.f_line_end.2 (binds := [("data", .bytes d.toArray t), ("at", .int i u)]) (fun _ _ _ _ _ _ _ _ => BindsTo.of_eq rfl) (locs (by kernel_rfl)) (by decide +kernel) (by kernel_rfl) (by kernel_rfl) (by kernel_rfl) rfl fun cd L h₁ kp hL => ?_
  refine s_body (rfl : B 23 = _ :: _) ?_
  subst hi
  k_subL
  intro sl h₂ kp2 hsl
  k_subL
  refine p_cut2 a (a + 1) hsl rfl (by omega) hz fun t₂ => ?_
  rw [Nat.add_sub_cancel_left, take1 hx]
  k_subL
  refine ⟨fun z => ?_, fun z => ?_⟩
  · have z : ([x] == [10]) = true := z
    simp at z; exact absurd z h1
  · refine s_nil (Sub.refl _) ?_
    k_subL
    intro sl₂ h₃ kp3 hsl3
    k_subL
    refine p_cut2 a (a + 2) hsl3 rfl (by omega) hz fun t₃ => ?_
    rw [Nat.add_sub_cancel_left]
    k_subL
    refine ⟨fun z => ?_, fun z => ?_⟩
    · have z : ((d.drop a).take 2 == [13, 10]) = true := z
      have := congrArg List.head? (eq_of_beq z)
      rw [List.head?_take, if_neg (by decide), List.head?_drop, hx] at this
      simp at this; exact absurd this h2
    · k_subL
      exact q _ _ ((kp.trans kp2).trans kp3).le
theorem inside_at_spec (T : Tops C) {d : List UInt8} {a : Nat} {i j : Int} {x : UInt8} {t u v : Tok} (hz : d.length ≤ 16777216) (hi : i = a) (hx : d[a]? = some x) (hq : quiet x)
    (q : ∀ r t u h', Le h h' → h'.IsTuple r #[.bytes [x].toArray t, .int ((a + 1 : Nat) : Int) u] → Q (.ref r) h') :
    W C c (k + 2) m (PySem.call (.ref 185) [.bytes d.toArray t, .int i u, .int j v]) h Q X := by
  refine w_fn T.toTopOk T.f_inside_at.2 (binds := [("data", .bytes d.toArray t), ("at", .int i u), ("begun", .int j v)]) (fun _ _ _ _ _ _ _ _ => BindsTo.of_eq rfl) (locs (by kernel_rfl)) (by decide +kernel) (by kernel_rfl) (by kernel_rfl) (by kernel_rfl) rfl fun cd L h₁ kp hL => ?_
  refine s_body (rfl : B 24 = _ :: _) ?_
  subst hi
  have ha := (List.getElem?_eq_some_iff.mp hx).1
  have hg : d.getD (a : Int).toNat 0 = x := getD_of hx
  obtain ⟨q0, q10, q13, q92⟩ := hq
  have h92 : ((x.toNat : Int) == 92) = false := by
    rw [beq_eq_false_iff_ne]; exact fun e => q92 ((u8_int (n := 92) (by omega)).mp e)
  refine s_cons (s_if (w_tor (w_tcmp ?_ (by kernel_rfl))))
  k_subL
  refine p_len (by omega) fun t₂ => ?_
  k_subL
  refine ⟨fun _ => ?_, fun z => by have := of_decide_eq_true z; omega⟩
  refine w_tor (w_tand (w_tcmp ?_ (by kernel_rfl)))
  k_subL
  refine p_item (by omega) (by omega) (by omega) fun t₃ => ?_
  rw [hg]
  k_subL
  refine ⟨fun z => (by rw [h92] at z; cases z), fun _ => ⟨fun _ => ?_, fun z => (nomatch z)⟩⟩
  k_subL
  refine ⟨fun z => (nomatch z), fun _ => s_nil (Sub.refl _) ?_⟩
  refine s_cons (s_if (w_tcmp ?_ (by kernel_rfl)))
  k_subL
  refine p_item (by omega) (by omega) (by omega) fun t₄ => ?_
  rw [hg]
  k_subL
  refine ⟨fun z => (by rw [h92] at z; cases z), fun _ => s_nil (Sub.refl _) ?_⟩
  k_subL
  refine line_end_spec T hz rfl hx q10 q13 fun t₅ h₅ le5 h₆ le6 => ?_
  k_subL
  refine ⟨fun z => (nomatch z), fun _ => s_nil (Sub.refl _) ?_⟩
  refine s_cons (s_if (w_tcmp ?_ (by kernel_rfl)))
  k_subL
  refine p_item (by omega) (by omega) (by omega) fun t₇ => ?_
  rw [hg]
  k_subL
  refine p_never T ?_
  rw [not_never q0 q10 q13]
  k_subL
  refine ⟨fun z => (nomatch z), fun _ => s_nil (Sub.refl _) ?_⟩
  k_subL
  intro sl h₇ kp7 hsl
  k_subL
  refine p_cut2 a (a + 1) hsl rfl (by omega) hz fun t₈ => ?_
  rw [Nat.add_sub_cancel_left, take1 hx]
  k_subL
  exact w_newTuple (szl (by simp)) fun r h₈ kp8 _ ht => q r _ _ _ ((((kp.le.trans le5).trans le6).trans kp7.le).trans kp8.le) ht
end
-- F9
section
variable {C : Cx} {c : Fc} {k : Nat} {m : Loc} {h : Heap} {X : Addr → Heap → Prop} {Q : Value → Heap → Prop}
theorem new_none {h h₁ : Heap} (kp : Keep h h₁) {D : Addr} (n : h₁.get? D = none) : h.get? D = none := by
  cases e : h.get? D with
  | none => rfl
  | some o => have := kp _ _ e; rw [n] at this; cases this
theorem flat_singles (l : List UInt8) : joinB [] (l.map fun x => [x]) = l := by
  rw [joinB_nil]; induction l with
  | nil => rfl
  | cons a l ih => simp [ih]
theorem closed_at_spec (T : Tops C) {d : List UInt8} {b : Nat} {i : Int} {mid rest barred : List UInt8} {cl : UInt8} {t u v w : Tok} (hz : d.length ≤ 16777216) (hi : i = b) (hd : d.drop (b + 1) = mid ++ cl :: rest)
    (hm : ∀ x ∈ mid, quiet x ∧ x ≠ cl ∧ barred.contains x = false)
    (q : ∀ r t u h', Le h h' → h'.IsTuple r #[.bytes mid.toArray t, .int ((b + 1 + mid.length + 1 : Nat) : Int) u] → Q (.ref r) h') :
    W C c (k + 3) m (PySem.call (.ref 192) [.bytes d.toArray t, .int i u, .bytes [cl].toArray v, .bytes barred.toArray w]) h Q X := by
  refine w_fn T.toTopOk T.f_closed_at.2 (binds := [("data", .bytes d.toArray t), ("begun", .int i u), ("closing", .bytes [cl].toArray v), ("barred", .bytes barred.toArray w)]) (fun _ _ _ _ _ _ _ _ => BindsTo.of_eq rfl) (locs (by kernel_rfl)) (by decide +kernel) (by kernel_rfl) (by kernel_rfl) (by kernel_rfl) rfl fun cd L h₁ kp hL => ?_
  refine s_body (rfl : B 25 = _ :: _) ?_
  subst hi
  have hlen : d.length = b + 1 + (mid.length + 1 + rest.length) := by
    have e1 := congrArg List.length hd
    rw [List.length_drop, List.length_append, List.length_cons] at e1
    omega
  have hget : ∀ j, d[b + 1 + j]? = (mid ++ cl :: rest)[j]? := fun j => by rw [← hd, List.getElem?_drop]
  k_subL
  refine w_newListP (szl (by simp)) fun D h₂ kp2 nD bD pl h₃ le3 => ?_
  k_subL
  intro h₄ le4
  refine s_cons (s_while (m₀ := [("at", .int ((b : Int) + 1) ‹_›), ("parts", .ref D), ("data", .bytes d.toArray t), ("begun", .int b u), ("closing", .bytes [cl].toArray v), ("barred", .bytes barred.toArray w)]) (by lcg_sub)
    (fun n m' h' => ∃ j : Nat, ∃ ps ta ia, n = mid.length - j ∧ j ≤ mid.length ∧ ia = ((b + 1 + j : Nat) : Int) ∧ m' = ([("at", .int ia ta), ("parts", .ref D), ("data", .bytes d.toArray t), ("begun", .int b u), ("closing", .bytes [cl].toArray v), ("barred", .bytes barred.toArray w)] : Loc) ∧
    Le h h' ∧ PL h' D (bvals ps) ∧ ps.map (·.1) = (mid.take j).map fun x => [x]) ?_ (mid.length - 0) ⟨0, [], _, _, rfl, Nat.zero_le _, by omega, rfl, ?_, (pl.le le3).le le4, rfl⟩)
  rotate_left
  · exact ((kp.trans kp2).le.trans le3).trans le4
  · rintro n m₁ h₅ ⟨j, ps, ta, ia, rfl, hj, rfl, rfl, le, pl, hp⟩
    refine w_tcmp ?_ (by kernel_rfl)
    k_subL
    intro sl h₆ kp6 hsl
    k_subL
    refine p_cut2 (b + 1 + j) (b + 1 + j + 1) hsl rfl (by omega) hz fun t₆ => ?_
    rw [Nat.add_sub_cancel_left]
    have le := le.trans kp6.le
    have pl := pl.le kp6.le
    by_cases hlt : j < mid.length
    · have hx : d[b + 1 + j]? = some mid[j] := by rw [hget, List.getElem?_append_left hlt, List.getElem?_eq_getElem hlt]
      obtain ⟨hq, hcl, hbar⟩ := hm _ (List.getElem_mem hlt)
      rw [take1 hx]
      k_subL
      refine ⟨fun _ => ?_, fun z => ?_⟩
      rotate_left
      · have z : ([mid[j]] != [cl]) = false := z
        rw [bne_eq_false_iff_eq] at z
        exact absurd (List.cons.inj z).1 hcl
      refine s_cons (s_if (w_tand (w_tcmp ?_ (by kernel_rfl))))
      k_subL
      refine p_len (by omega) fun t₇ => ?_
      k_subL
      refine ⟨fun _ => ?_, fun z => by have := of_decide_eq_false z; omega⟩
      refine w_tand (w_tcmp ?_ (by kernel_rfl))
      k_subL
      refine p_item (by omega) (by omega) (by omega) fun t₈ => ?_
      rw [show d.getD ((b + 1 + j : Nat) : Int).toNat 0 = mid[j] from getD_of hx]
      k_subL
      rw [hbar]
      k_subL
      refine ⟨fun z => (nomatch z), fun _ => ⟨fun z => (nomatch z), fun _ => s_nil (Sub.refl _) ?_⟩⟩
      k_subL
      refine inside_at_spec T hz rfl hx hq fun r t₉ u₉ h₉ le9 ht => ⟨_, _, _, rfl, ht, fun h₁₀ le10 => ?_⟩
      have le := (le.trans le9).trans le10
      have pl := (pl.le le9).le le10
      k_subL
      refine ⟨_, _, rfl, pl, ?_⟩
      k_subL
      refine ⟨_, pl, bD, szl (by have := congrArg List.length hp; simp at this; simp [bvals]; omega), fun h₁₁ le11 pl11 => ?_⟩
      have pl11 : PL h₁₁ D (bvals (ps ++ [([mid[j]], t₉)])) := by simpa [bvals] using pl11
      refine s_nil (Sub.refl _) ⟨mid.length - (j + 1), [("at", _), ("parts", _), ("data", _), ("begun", _), ("closing", _), ("barred", _)], by omega, by lcg_sub, j + 1, _, _, _, rfl, hlt, ?_, rfl, le.leB le11 (new_none kp nD), pl11, ?_⟩
      · rfl
      · rw [List.map_append, hp, List.take_succ_eq_append_getElem hlt]; simp only [List.map_append, List.map_cons, List.map_nil]
    · have hj : j = mid.length := by omega
      subst hj
      have hx : d[b + 1 + mid.length]? = some cl := by rw [hget]; simp
      rw [take1 hx]
      k_subL
      refine ⟨fun z => ?_, fun _ => ?_⟩
      · have z : ([cl] != [cl]) = true := z
        rw [bne_self_eq_false] at z; cases z
      k_subL
      rw [List.take_length] at hp
      refine p_joinB (sep := []) pl.list (by rw [sum_len, hp, ← joinB_nil, flat_singles]; simp; omega) fun t₇ => ?_
      rw [hp, flat_singles]
      k_subL
      refine w_newTuple (szl (by simp)) fun r h₈ kp8 _ ht => ?_
      exact q r _ _ _ (le.trans kp8.le) ht
end
-- Fault
section
/-- what a look at the class of the fault tells -/
structure FX (M : Model) (h : Heap) : Prop where
  obj : ∃ oc od cd sl, h.get? 59 = some ⟨oc, od, .cls cd, sl⟩ ∧ cd.abstract = false ∧ cd.hasDel = false ∧ cd.mro.isEmpty = false
  mro : Looks M h (mroOf (.ref 59)) [.ref 59, .ref 46, .type "Exception", .type "BaseException", .type "object"]
  made : Looks M h (Bind.madeBy (.ref 59)) (some "Exception.__new__")
  base : Looks M h (Bind.staticBase (.ref 59)) (.ref 59)
  self : Looks M h (isSubtype (.ref 59) (.ref 59)) true
  subE : Looks M h (isSubtype (.ref 59) (.type "Exception")) true
  subB : Looks M h (isSubtype (.ref 59) (.type "BaseException")) true
  subO : Looks M h (isSubtype (.ref 59) (.type "object")) true
  nA : Looks M h (isSubtype (.ref 59) (.type "AttributeError")) false
  nN : Looks M h (isSubtype (.ref 59) (.type "NameError")) false
  call : Looks M h (specialOf (.ref 59) "__call__") (some (.builtin "type.__call__"))
  typ : Looks M h (isInstance (.ref 59) (.type "type")) true
theorem FX.keeps {M : Model} {h h' : Heap} (x : FX M h) (k : Keep h h') : FX M h' := by
  obtain ⟨⟨oc, od, cd, sl, e, r⟩, x1, x2, x3, x4, x5, x6, x7, x8, x9, y1, y2⟩ := x
  exact ⟨⟨oc, od, cd, sl, k _ _ e, r⟩, x1.keeps k, x2.keeps k, x3.keeps k, x4.keeps k, x5.keeps k, x6.keeps k, x7.keeps k, x8.keeps k, x9.keeps k, y1.keeps k, y2.keeps k⟩
section
variable {prog : Program} {w : World} {A : Around} {h : Heap} {g : Array GenState} {d : Drawn} {t : Nat} {os : OsState}
abbrev excObj (tup : Addr) : Obj := { cls := .ref 59, data := .fields #[.ref tup, .none, .none, .none, .bool false, .none] }
theorem xf_new {R : Result → Shared → Prop} {rest : List Value} (Y : FX (model prog w) h) (hz : rest.length ≤ sizeLine)
    (hq : R (.ok (.ret (.ref (h.objs.size + 1)))) ⟨(h.push { cls := .type "tuple", data := .seq rest.toArray }).push (excObj h.objs.size), g, d, t, os⟩) :
    codeAny (model prog w) A (.call (.builtin "Exception.__new__") ⟨.ref 59 :: rest, []⟩) R ⟨h, g, d, t, os⟩ := by
  obtain ⟨⟨oc, od, cd, sl, hC, e1, e2, e4⟩, mro, made, base, self, subE, subB, subO, nA, nN, call, typ⟩ := Y
  have F := PySem.F.excBase_Exception
  have hstar := F.noStar
  refine codeAny_call_builtin_code (Code.quiet_builtin _ F.quiet) ?_
  simp only [checkBuiltinCall, F.newKind, F.newSplit, F.newRow]
  have here : ∀ id, Manifest.canonical "Exception.__new__" = Manifest.canonical id → Looks (model prog w) h (Bind.madeHere id (.ref 59)) () := fun id hc => base.andThen (made.andThen (Looks.of_pure (by simp only [Option.map_some, hc, bne_self_eq_false, Bool.false_eq_true, if_false])))
  have here1 := here _ rfl
  have here2 := here "BaseException.__new__" F.canon
  repeat (first | simp only [bne_self_eq_false, Bool.false_eq_true, if_false] | lk)
  refine codeAny_builtinAt F.entry ?_
  unfold Builtin.«BaseException.__new__»
  refine PySem.wpAt_bind ?_
  show PySem.wpAt _ _ _ (stack >>= _) _ _ _
  refine PySem.wpAt_bind (PySem.wpAt_stack fun p below => PySem.wpAt_of_wpAny ?_)
  have ends := F.ends
  have own := F.owner
  dsimp only
  rw [if_pos ends]
  refine wpAny_pure (PySem.wpAt_of_wpAny ?_)
  rw [own]
  repeat (first | simp only [bne_self_eq_false, Bool.false_eq_true, if_false, Bool.not_true] | lk)
  rw [if_neg (by rw [List.size_toArray]; omega)]
  unfold newObjAsIs
  refine wpAny_bind (wpAny_alloc ?_)
  show wpAny _ _ (pure (Value.ref h.objs.size)) _ _ _
  refine wpAny_pure (wpAny_bind ?_)
  show wpAny _ _ (newObjAsIs (.ref 59) _ _) _ _ _
  unfold newObjAsIs classHasDel
  refine wpAny_bind (wpAny_alloc (wpAny_bind (wpAny_bind (wpAny_load (Heap.get?_push_of_some _ (Heap.get?_push_of_some _ hC)) (wpAny_pure ?_)))))
  rw [e2]
  refine wpAny_pure (wpAny_pure ?_)
  show R _ _
  rw [Heap.size_push]
  exact hq
/-- the fault, made, before its __init__ -/
theorem xf_make {R : Result → Shared → Prop} {rest : List Value} {init : Value} (Y : FX (model prog w) h) (hi : Looks (model prog w) h (typeLookup (.ref 59) "__init__") (some init)) (hb : ∀ self, Looks (model prog w) h (bindSpecial init self) (init, [self])) (hz : rest.length ≤ sizeLine)
    (hq : codeAny (model prog w) (A.under (.builtin "type.__call__" ⟨.ref 59 :: rest, []⟩)) (.call init ⟨.ref (h.objs.size + 1) :: rest, []⟩) (InitBack (h.objs.size + 1) R)
      ⟨(h.push { cls := .type "tuple", data := .seq rest.toArray }).push (excObj h.objs.size), g, d, t, os⟩) :
    codeAny (model prog w) A (.call (.ref 59) ⟨rest, []⟩) R ⟨h, g, d, t, os⟩ := by
  have Y' := Y
  obtain ⟨⟨oc, od, cd, sl, hC, e1, e2, e4⟩, mro, made, base, self, subE, subB, subO, nA, nN, call, typ⟩ := Y
  refine codeAny_of_tree ?_
  show wpAny _ _ (callAny (.ref 59) _) _ _ _
  refine nd_load hC ?_
  show wpAny _ _ (callAny.viaDunder (.ref 59) _) _ _ _
  unfold callAny.viaDunder
  refine wpAny_bind (call.at ?_)
  dsimp only
  rw [tc_bind]
  refine wpAny_bind (wpAny_pure (wpAny_bind (wpAny_pure ?_)))
  refine wpAny_pure (a := Fin.again (.call (.builtin "type.__call__") ⟨.ref 59 :: rest, []⟩)) (And.intro rfl ?_)
  refine codeAny_call_builtin_at (Code.quiet_builtin _ (by decide +kernel)) entry_typeCall (PySem.W.check_slot tc_kind tc_split typ (tc_args _ _ _) ?_)
  unfold Builtin.«type.__call__»
  repeat (first | with_reducible refine wpAny_call ?_ | lk)
  refine xf_new Y' hz ?_
  obtain ⟨h2, eh2⟩ : ∃ h2, h2 = (h.push { cls := .type "tuple", data := .seq rest.toArray }).push (excObj h.objs.size) := ⟨_, rfl⟩
  rw [← eh2] at hq ⊢
  have kk : Keep h h2 := by rw [eh2]; exact (Keep.push _ _).trans (Keep.push _ _)
  have hx : h2.get? (h.objs.size + 1) = some (excObj h.objs.size) := by rw [eh2]; heap_get
  have t1 : Looks (model prog w) h2 (typeOf (.ref (h.objs.size + 1))) (.ref 59) := (Looks.ld hx).andThen .now
  have s1 := self.keeps kk
  have i1 := hi.keeps kk
  have b1 := (hb (.ref (h.objs.size + 1))).keeps kk
  show wpAny _ _ _ _ _ _
  unfold isInstance callSpecial? specialOf
  repeat (first | with_reducible refine wpAny_call ?_ | lk)
  refine codeAny_mono hq fun r s' z => ?_
  rcases r with e | (v | _ | _ | _) <;> first | exact z | exact z.elim | skip
  obtain ⟨rfl, z⟩ := z
  exact wpAny_pure (wpAny_pure z)
theorem refuse59 (self : Value) : refuseLoop self "__setattr__" [.ref 59, .ref 46, .type "Exception", .type "BaseException", .type "object"] = pure () := by
  rw [refuseLoop_ref, refuseLoop_ref]
  have e1 : classOwn (.type "Exception") "__setattr__" = pure none := by kernel_rfl
  have e2 : classOwn (.type "BaseException") "__setattr__" = pure none := by kernel_rfl
  kernel_rfl
theorem xf_osa {x : Addr} {ox : Obj} {name : Str} {tk : Tok} {v : Value} {R : Result → Shared → Prop} {s : Shared} (Y : FX (model prog w) s.heap) (hx : s.heap.get? x = some ox) (hc : ox.cls = .ref 59) (hl : Looks (model prog w) s.heap (typeLookup (.ref 59) name) none)
    (hq : wpAny (model prog w) A.in1 (Builtin.ObjectAttr.storeInOwnDict (.ref x) (.ref 59) (.str name tk) name v false)
      (fun fin s' => match fin with | .done f => R (.ok f) s' | .again c' => c'.quiet = true ∧ codeAny (model prog w) A c' R s') (fun e s' => R (.error e) s') s) :
    codeAny (model prog w) A (.call (.builtin "object.__setattr__") ⟨[.ref x, .str name tk, v], []⟩) R s := by
  have SF := PySem.F.store_object
  have T1 : Looks (model prog w) s.heap (typeOf (.ref x)) (.ref 59) := by rw [← hc]; exact (Looks.ld hx).andThen .now
  have sub : Looks (model prog w) s.heap (isInstance (.ref x) (.type "object")) true := T1.andThen Y.subO
  refine codeAny_call_builtin SF.slot.plain SF.entry (@PySem.W.check_slot (model prog w) _ _ s "object.__setattr__" "object" "__setattr__" (.ref x) [.str name tk, v] [] _ SF.kind SF.split sub (SF.args (.ref x) (.str name tk) v) ?_)
  rw [osa_eq, refuse_eq]
  refine wpAny_bind (wpAny_bind (T1.here (wpAny_bind (Y.mro.here ?_))))
  rw [refuse59]
  refine wpAny_pure (wpAny_bind (T1.here (wpAny_bind (hl.here (wpAny_bind ?_)))))
  show wpAny _ _ (pure none) _ _ _
  exact wpAny_pure hq
theorem xf_put {dx : Addr} {od : Obj} {es : List DictEntry} {n : Nat} {name : Str} {tk : Tok} {v : Value} {Q : PySem.Fin → Shared → Prop} {E : Value → Shared → Prop} {s : Shared}
    (D : s.heap.get? dx = some od) (hd : od.data = .dict es.toArray n) (hc : (!es.any (·.key.isStr name) && es.any (·.refKey)) = false)
    (he : ∀ tk, ∃ es' n', (Obj.putName name (PyData.keyHash w.params name) (.str name tk) v od).data = .dict es' n' ∧ es'.size ≤ 10)
    (hq : ∀ h' tk', Heap.SameBut dx s.heap h' → (∃ tk, h'.get? dx = some (Obj.putName name (PyData.keyHash w.params name) (.str name tk) v od)) → Q (.done (.ret .none)) { s with heap := h', toks := tk' }) :
    wpAny (model prog w) A (Builtin.ObjectAttr.storeInDict dx (.str name tk) name v) Q E s := by
  unfold Builtin.ObjectAttr.storeInDict
  refine wpAny_bind ?_
  show wpAny _ _ (pure ()) _ _ _
  refine wpAny_pure (wpAny_bind ?_)
  unfold nsSet
  refine wpAny_bind (wpAny_bind (wpAny_askSetting (wpAny_pure (wpAny_bind (wpAny_mkText (wpAny_bind (wpAny_loadPart D ?_)))))))
  rw [hd]
  dsimp only
  rw [aRefKeyMayBeTheName_at]
  have hc' : (!es.toArray.any (·.key.isStr name) && es.toArray.any (·.refKey)) = false := by rw [List.any_toArray, List.any_toArray]; exact hc
  rw [hc']
  refine wpAny_updatePart D ?_
  obtain ⟨es', n', e1, e2⟩ := he s.toks
  have hself : (s.heap.update dx (Obj.putName name (PyData.keyHash w.params name) (.str name s.toks) v)).get? dx = some (Obj.putName name (PyData.keyHash w.params name) (.str name s.toks) v od) :=
    Heap.get?_update_self _ D (putName_free _ _ _ _ _ (Heap.get?_some_iff.mp D).2)
  refine wpAny_bind (wpAny_lookBehind hself (by rw [e1]; exact pastItsLine_dict (by rw [sizeLine_eq]; omega)) ?_)
  exact wpAny_pure (hq _ _ (Heap.SameBut.update ..) ⟨_, hself⟩)
abbrev dObj (es : List DictEntry) (n : Nat) : Obj := { cls := .type "dict", data := .dict es.toArray n }
/-- the first attribute: its own dict is made -/
theorem xf_set1 {cd : ClassData} {x : Addr} {vs : Array Value} {name : Str} {tk : Tok} {v : Value} {Q : PySem.Fin → Shared → Prop} {E : Value → Shared → Prop} {s : Shared} (hcd : ∀ h', Keep s.heap h' → Looks (model prog w) h' (classData 59) cd) (hdct : cd.hasDict = true)
    (hx : s.heap.get? x = some { cls := .ref 59, data := .fields vs })
    (hq : ∀ h' dx tk' k1 hh, (∀ b o, b ≠ x → s.heap.get? b = some o → h'.get? b = some o) → s.heap.get? dx = none → h'.get? x = some { cls := .ref 59, dict := some dx, data := .fields vs } →
      h'.get? dx = some (dObj [⟨hh, .str name k1, v⟩] 1) → Q (.done (.ret .none)) { s with heap := h', toks := tk' }) :
    wpAny (model prog w) A (Builtin.ObjectAttr.storeInOwnDict (.ref x) (.ref 59) (.str name tk) name v false) Q E s := by
  unfold Builtin.ObjectAttr.storeInOwnDict
  refine wpAny_bind ?_
  show wpAny _ _ (pure ()) _ _ _
  refine wpAny_pure ?_
  show wpAny _ _ (instanceDict x true >>= _) _ _ _
  unfold instanceDict
  refine wpAny_bind (wpAny_bind (wpAny_loadPart hx ?_))
  refine wpAny_bind ((hcd s.heap (fun _ _ e => e)).here ?_)
  rw [hdct]
  show wpAny _ _ (alloc emptyDict >>= _) _ _ _
  have lx : x < s.heap.objs.size := Heap.lt_size hx
  have hx1 := Heap.get?_push_of_some emptyDict hx
  have hnx : (s.heap.objs.size : Addr) ≠ x := Nat.ne_of_gt lx
  refine wpAny_bind (wpAny_alloc (wpAny_bind (wpAny_update hx1 ?_)))
  show wpAny _ _ (pure (some s.heap.objs.size)) _ _ _
  refine wpAny_pure ?_
  obtain ⟨h2, e2⟩ : ∃ h2, h2 = (s.heap.push emptyDict).update x fun o => { cls := o.cls, dict := some s.heap.objs.size, data := o.data, slots := o.slots } := ⟨_, rfl⟩
  have hx2 : h2.get? x = some { cls := .ref 59, dict := some s.heap.objs.size, data := .fields vs } := by rw [e2, Heap.get?_update_self _ hx1 rfl]
  have hd2 : h2.get? s.heap.objs.size = some emptyDict := by
    rw [e2, Heap.get?_update_other _ _ hnx.symm]; exact Heap.get?_push_size _ rfl
  have k2 : ∀ b o, b ≠ x → s.heap.get? b = some o → h2.get? b = some o := fun b o hb e => by
    rw [e2, Heap.get?_update_other _ _ (Ne.symm hb)]; exact Heap.get?_push_of_some _ e
  show wpAny _ _ _ _ _ { s with heap := (s.heap.push emptyDict).update x fun o => { cls := o.cls, dict := some s.heap.objs.size, data := o.data, slots := o.slots } }
  rw [← e2]
  show wpAny _ _ (Builtin.ObjectAttr.storeInDict s.heap.objs.size (Value.str name tk) name v) _ _ _
  refine xf_put (s := { s with heap := h2 }) (es := []) (n := 0) hd2 rfl rfl (fun tk => ⟨_, _, rfl, (show (1 : Nat) ≤ 10 by decide)⟩) fun h' tk' hsb hex => ?_
  obtain ⟨k1, hd'⟩ := hex
  refine hq h' s.heap.objs.size tk' k1 (PyData.keyHash w.params name) (fun b o hb e => ?_) (Heap.get?_none_of_le (Nat.le_refl _)) ?_ hd'
  · exact (hsb.2 b (fun z => by rw [z, Heap.get?_none_of_le (Nat.le_refl _)] at e; cases e)).trans (k2 b o hb e)
  · exact (hsb.2 x hnx.symm).trans hx2
/-- a further attribute -/
theorem xf_set2 {cd : ClassData} {x dx : Addr} {vs : Array Value} {tk k0 : Tok} {v v1 : Value} {hh : Int} {Q : PySem.Fin → Shared → Prop} {E : Value → Shared → Prop} {s : Shared} (hcd : ∀ h', Keep s.heap h' → Looks (model prog w) h' (classData 59) cd) (hdct : cd.hasDict = true)
    (hx : s.heap.get? x = some { cls := .ref 59, dict := some dx, data := .fields vs }) (hd : s.heap.get? dx = some (dObj [⟨hh, .str "what" k0, v1⟩] 1))
    (hq : ∀ h' tk', (∀ b o, b ≠ dx → s.heap.get? b = some o → h'.get? b = some o) → Q (.done (.ret .none)) { s with heap := h', toks := tk' }) :
    wpAny (model prog w) A (Builtin.ObjectAttr.storeInOwnDict (.ref x) (.ref 59) (.str "at" tk) "at" v false) Q E s := by
  unfold Builtin.ObjectAttr.storeInOwnDict
  refine wpAny_bind ?_
  show wpAny _ _ (pure ()) _ _ _
  refine wpAny_pure ?_
  show wpAny _ _ (instanceDict x true >>= _) _ _ _
  unfold instanceDict
  refine wpAny_bind (wpAny_bind (wpAny_loadPart hx ?_))
  refine wpAny_bind ((hcd s.heap (fun _ _ e => e)).here ?_)
  rw [hdct]
  show wpAny _ _ (pure (some dx)) _ _ _
  refine wpAny_pure ?_
  show wpAny _ _ (Builtin.ObjectAttr.storeInDict dx (Value.str "at" tk) "at" v) _ _ _
  exact xf_put (es := [⟨hh, .str "what" k0, v1⟩]) (n := 1) hd rfl rfl (fun tk => ⟨_, _, rfl, (show (2 : Nat) ≤ 10 by decide)⟩) fun h' tk' hsb hex => hq h' tk' fun b o hb e => (hsb.2 b hb).trans e
theorem xf_init {x tup : Addr} {v : Value} {Q : Value → Shared → Prop} {E : Value → Shared → Prop} (Y : FX (model prog w) h) (hx : h.get? x = some (excObj tup))
    (hq : ∀ h', (∀ b o, b ≠ x → h.get? b = some o → h'.get? b = some o) → (∃ tup', h'.get? x = some (excObj tup')) → Q .none ⟨h', g, d, t, os⟩) :
    wpAny (model prog w) A (call (.builtin "Exception.__init__") [.ref x, v]) Q E ⟨h, g, d, t, os⟩ := by
  have F := PySem.F.excBase_Exception
  have T1 : Looks (model prog w) h (typeOf (.ref x)) (.ref 59) := (Looks.ld hx).andThen .now
  have subE := Y.subE
  obtain ⟨oc, od, cd, sl, hC, -, -, -⟩ := Y.obj
  have hshort := F.noStar
  refine wpAny_call (codeAny_call_builtin F.init.plain F.initEntry ?_)
  simp only [checkBuiltinCall, F.initKind, F.initSplit, F.initRow]
  repeat lk
  have hx1 := Heap.get?_push_of_some { cls := .type "tuple", data := .seq #[v] } hx
  repeat lk
  show wpAny _ _ (update x (Obj.mapFields fun x => x.setIfInBounds 0 (Value.ref h.objs.size))) _ _ _
  refine wpAny_update hx1 ?_
  show wpAny _ _ (letGo [Value.ref tup]) _ _ _
  refine wpAny_letGo ?_
  refine wpAny_pure (a := Fin.done (.ret .none)) ?_
  refine hq _ (fun b o hb e => ?_) ⟨h.objs.size, ?_⟩
  · show Heap.get? (Heap.update _ x _) b = _
    rw [Heap.get?_update_other _ _ (Ne.symm hb)]; exact Heap.get?_push_of_some _ e
  · show Heap.get? (Heap.update _ x _) x = _
    rw [Heap.get?_update_self _ hx1 rfl]; rfl
theorem xf_looks {K : Frag} {s : Shared} (X : K.In s.heap) {od : Option Obj} : True := trivial
end
end
-- Fault2
section
variable {C : Cx} {c : Fc} {k : Nat} {m : Loc} {h : Heap} {X : Addr → Heap → Prop} {Q : Value → Heap → Prop}
theorem fx_of (T : Tops C) {M : Model} {h : Heap} (X : C.K.In h) : FX M h := by
  obtain ⟨nm, q, N, bs, sn, sub, col, dd, k0, k1, k2, k3, k5, e⟩ := T.fault.obj
  have hC := X _ _ e
  have S : ∀ b, Looks M h (isSubtype (.ref 59) b) ((Value.ref 59 :: [.ref 46, .type "Exception", .type "BaseException", .type "object"]).contains b) := fun b A Q E s k q => by
    obtain ⟨h', g, d, t, os⟩ := s
    exact wpAny_isSubtype_exc (k _ _ hC) q
  refine ⟨⟨_, _, _, _, hC, rfl, rfl, rfl⟩, ?_, ?_, ?_, by simpa using S (.ref 59), S _, S _, S _, S _, S _, looks_specialIn X T.fault.call, looks_instIn X T.fault.typ⟩
  · intro A Q E s k q
    obtain ⟨h', g, d, t, os⟩ := s
    exact wpAny_mroOf_exc (k _ _ hC) q
  · intro A Q E s k q
    obtain ⟨h', g, d, t, os⟩ := s
    exact wpAny_madeBy_exc (k _ _ hC) q
  · intro A Q E s k q
    obtain ⟨h', g, d, t, os⟩ := s
    exact wpAny_staticBase_exc (k _ _ hC) q
end
section
variable {C : Cx} {c : Fc} {k : Nat} {m : Loc} {h : Heap} {X : Addr → Heap → Prop} {Q : Value → Heap → Prop}
/-- the fault, made, not yet raised -/
def ExcAt (h : Heap) (e : Addr) : Prop := ∃ dx tup, h.get? e = some { cls := .ref 59, dict := some dx, data := .fields #[.ref tup, .none, .none, .none, .bool false, .none] }
set_option maxHeartbeats 2000000 in
theorem newFault (T : Tops C) {a b : Value} (q : ∀ e h', Keep h h' → h.get? e = none → ExcAt h' e → Q (.ref e) h') :
    W C c (k + 2) m (PySem.call (.ref 59) [a, b]) h Q X := fun A s hA hs hh hn => by
  subst hh
  have hK := hs.kin T.toTopOk
  obtain ⟨hh, g, dr, t, os⟩ := s
  refine wpAny_call (xf_make (fx_of T hK) (looks_findIn hK T.fault.init) (fun self => bind_fn hK self T.fault.initT) (szl (by simp)) ?_)
  obtain ⟨h2, e2⟩ : ∃ h2, h2 = (hh.push { cls := .type "tuple", data := .seq [a, b].toArray }).push (excObj hh.objs.size) := ⟨_, rfl⟩
  rw [← e2]
  have kp : Keep hh h2 := by rw [e2]; exact (Keep.push _ _).trans (Keep.push _ _)
  have hx : h2.get? (hh.objs.size + 1) = some (excObj hh.objs.size) := by rw [e2]; heap_get
  have sz : h2.objs.size = hh.objs.size + 2 := by rw [e2, Heap.size_push, Heap.size_push]
  obtain ⟨x, ex⟩ : ∃ x : Addr, x = hh.objs.size + 1 := ⟨_, rfl⟩
  rw [← ex] at hx ⊢
  have nx : hh.get? x = none := by rw [ex]; exact Heap.get?_none_of_le (Nat.le_succ _)
  have hs2 : St C c.frames ⟨h2, g, dr, t, os⟩ := hs.keep kp t
  have hK2 := hs2.kin T.toTopOk
  obtain ⟨oc, od, osl, name, doc, pm, an, cdv, ct, ho, hcd⟩ := T.fault.f36
  obtain ⟨o29, n29, t29, e29, d29⟩ := T.fault.dflt
  refine codeAny_call_function (by have := hA.depth; have : recursionLimit = 1000 := rfl; show A.depth + 1 < recursionLimit; omega) (hK2 _ _ ho) rfl (by kernel_rfl) (by kernel_rfl) rfl (codeRec_of hK2 hcd) ?_
  refine (BindsTo.of_defaults (T := 29) rfl (hK2 _ _ e29) d29 rfl rfl : BindsTo _ (fnOf name "PostError.__init__" (PM 2 0) (BM 2 0) (SM 2 0) (.ref 29) .none doc pm an cdv ct) ⟨[.ref x, a, b], []⟩ [("self", .ref x), ("what", a), ("at", b)]) _ _ _ _ ?_
  refine wpAny_newEnvC (by show ∀ x ∈ (SM 2 0).names, x.2 ≠ .cell; decide +kernel) (locs (by kernel_rfl)) (by kernel_rfl) fun h₁ tk hns hcls kp1 => ⟨(hs2.nolimit T.toTopOk).keeps kp1, ?_⟩
  refine codeAny_func ?_
  have hns : h₁.Ns h2.objs.size _ := hns
  obtain ⟨L, eL⟩ : ∃ L, L = h2.objs.size := ⟨_, rfl⟩
  have hL2 : h2.get? L = none := by rw [eL]; exact Heap.get?_none_of_le (Nat.le_refl _)
  show wpAny _ _ (execs (BM 2 0) (envOf "PostError.__init__" (SM 2 0) h2.objs.size 36 cdv)) _ _ _
  rw [← eL]
  have hnL : h₁.Ns L _ := eL ▸ hns
  have kp01 : Keep hh h₁ := kp.trans kp1
  have hs1 : St C c.frames ⟨h₁, g, dr, tk, os⟩ := hs.keep kp01 tk
  have hK1 := hs1.kin T.toTopOk
  have hx1 := kp1 _ _ hx
  have F1 : Fr h2 L h₁ _ := ⟨hnL, kp1, Nat.le_of_eq eL.symm⟩
  have xL : x ≠ L := fun z => by rw [z, hL2] at hx; cases hx
  have nL : hh.get? L = none := by
    cases e : hh.get? L with
    | none => rfl
    | some o => have := kp _ _ e; rw [hL2] at this; cases this
  refine wpAny_execs_cons (wpAny_Expr_any (MethodCall_ (Calls.Name_function_global (by kernel_rfl) (by kernel_rfl) (Calls.loadGlobal_builtin (env := envOf "PostError.__init__" (SM 2 0) L 36 cdv) (hs1.nsg T.toTopOk) T.b_Exception (hs1.nsb T.toTopOk) ((T.builtins _ (by decide)).trans PyProof.Rows.Boot.«Exception») ?_) (by kernel_rfl))) (by kernel_rfl) (by kernel_rfl))
  refine method_type F1 hK2 (by kernel_rfl) (by decide +kernel) T.fault.excInit rfl ?_
  refine callWith_method1 (PyProof.Rows.args_cons (wpAny_Name (wpAny_loadName_local (by kernel_rfl) (by kernel_rfl) hnL rfl ?_) (by kernel_rfl)) rfl)
  refine PyProof.Rows.args_cons (wpAny_Name (wpAny_loadName_local (by kernel_rfl) (by kernel_rfl) hnL rfl ?_) (by kernel_rfl)) rfl
  refine PyProof.Rows.args_nil ?_
  refine xf_init (fx_of T hK1) hx1 fun h3 k3 hx3 => ?_
  obtain ⟨tup3, hx3⟩ := hx3
  have k3 : ∀ b o, b ≠ x → h₁.get? b = some o → h3.get? b = some o := k3
  have nh : ∀ b o, hh.get? b = some o → b ≠ x := fun b o e z => by rw [z, nx] at e; cases e
  have kp3 : Keep hh h3 := fun b o e => k3 b o (nh b o e) (kp01 b o e)
  have hs3 : St C c.frames ⟨h3, g, dr, tk, os⟩ := hs.keep kp3 tk
  have hK3 := hs3.kin T.toTopOk
  have hn3 : h3.Ns L _ := let ⟨o, es, ep, e, r⟩ := hnL; ⟨o, es, ep, k3 _ _ xL.symm e, r⟩
  obtain ⟨nm, qq, NN, bs, sn, sub, col, dd, k0, k1, k2, k4, k5, eo⟩ := T.fault.obj
  have hcl : ∃ cd, clsIn C.K 59 = some cd ∧ cd.hasDict = true := ⟨_, by unfold clsIn; rw [eo], rfl⟩
  obtain ⟨cd, hcd', hdct⟩ := hcl
  show wpAny _ _ _ _ _ ⟨h3, g, dr, _, os⟩
  refine wpAny_execs_cons (plainObj_wpAny_Assign_Attribute (wpAny_Name (wpAny_loadName_local (by kernel_rfl) (by kernel_rfl) hn3 rfl ?_) (by kernel_rfl)) (by kernel_rfl))
  refine wpAny_Name (wpAny_loadName_local (by kernel_rfl) (by kernel_rfl) hn3 rfl ?_) (by kernel_rfl)
  refine set_plain hK3 (ox := excObj tup3) (od := none) ⟨hx3, rfl, rfl, trivial⟩ T.fault.sa ?_
  refine xf_osa (fx_of T hK3) hx3 rfl (looks_findIn hK3 T.fault.what) (xf_set1 (fun h' kk => looks_clsIn (hK3.keeps kk) hcd') hdct hx3 fun h4 dx tk4 kk hhh k4 nd hx4 hd4 => ?_)
  have nd' : ∀ b o, hh.get? b = some o → b ≠ dx := fun b o e z => by
    have := kp3 _ _ e
    rw [z, nd] at this; cases this
  have kp4 : Keep hh h4 := fun b o e => k4 b o (nh b o e) (kp3 b o e)
  have hs4 : St C c.frames ⟨h4, g, dr, tk, os⟩ := hs.keep kp4 tk
  have hK4 := hs4.kin T.toTopOk
  have hn4 : h4.Ns L _ := let ⟨o, es, ep, e, r⟩ := hn3; ⟨o, es, ep, k4 _ _ xL.symm e, r⟩
  refine wpAny_execs_cons (plainObj_wpAny_Assign_Attribute (wpAny_Name (wpAny_loadName_local (by kernel_rfl) (by kernel_rfl) hn4 rfl ?_) (by kernel_rfl)) (by kernel_rfl))
  refine wpAny_Name (wpAny_loadName_local (by kernel_rfl) (by kernel_rfl) hn4 rfl ?_) (by kernel_rfl)
  refine set_plain hK4 (od := some _) ⟨hx4, rfl, rfl, hd4⟩ T.fault.sa ?_
  refine xf_osa (fx_of T hK4) hx4 rfl (looks_findIn hK4 T.fault.at_) (xf_set2 (fun h' kk => looks_clsIn (hK4.keeps kk) hcd') hdct hx4 hd4 fun h5 tk5 k5 => ?_)
  have kp5 : Keep hh h5 := fun b o e => k5 b o (nd' b o e) (kp4 b o e)
  refine wpAny_execs_nil ⟨rfl, ?_⟩
  have hx5 := k5 x _ (fun z => by rw [← z, hx3] at nd; cases nd) hx4
  exact ⟨hs.keep kp5 _, kp5.pd _, hn.keep kp5, q _ _ kp5 nx ⟨dx, tup3, hx5⟩⟩
end
-- Exc
section
variable {C : Cx} {c : Fc} {k : Nat} {m : Loc} {h : Heap} {X : Addr → Heap → Prop} {Q : Value → Heap → Prop}
open Classical in
/-- what is held as it is: the base, and the records of a heap -/
noncomputable def hideBut (base h : Heap) : Heap := hideAll h ((List.range h.objs.size).filter fun a => decide ¬ ((∃ o, base.get? a = some o) ∨ ∃ o, h.get? a = some o ∧ Rec o))
open Classical in
theorem hideBut_of {base h : Heap} {b : Addr} {o : Obj} (e : (hideBut base h).get? b = some o) : h.get? b = some o ∧ ((∃ o, base.get? b = some o) ∨ Rec o) := by
  have e1 := of_hideAll _ e
  refine ⟨e1, ?_⟩
  by_cases hc : (∃ o, base.get? b = some o) ∨ ∃ o, h.get? b = some o ∧ Rec o
  · rcases hc with hc | ⟨o', e2, r⟩
    · exact .inl hc
    · rw [e1] at e2; cases e2; exact .inr r
  · have : (hideBut base h).get? b = none := hideAll_none _ (by
      rw [List.mem_filter]
      exact ⟨List.mem_range.mpr (Heap.lt_size e1), decide_eq_true_eq.mpr hc⟩)
    rw [this] at e; cases e
open Classical in
theorem hideBut_get {base h : Heap} {b : Addr} {o : Obj} (e : h.get? b = some o) (k : (∃ o, base.get? b = some o) ∨ Rec o) : (hideBut base h).get? b = some o :=
  hideAll_get _ e fun hm => by
    rw [List.mem_filter, decide_eq_true_eq] at hm
    refine hm.2 ?_
    rcases k with k | k
    · exact .inl k
    · exact .inr ⟨o, e, k⟩
/-- the same, with the records of a heap held too -/
noncomputable def Cx.at (C : Cx) (h : Heap) : Cx := { C with base := hideBut C.base h }
theorem at_stays (hs : C.base.StaysIn h) : C.base.StaysIn (C.at h).base := fun b o e => hideBut_get (hs _ _ e) (.inl ⟨o, e⟩)
theorem at_in : (C.at h).base.StaysIn h := fun b o e => (hideBut_of e).1
theorem at_none {b : Addr} {o : Obj} (e : h.get? b = some o) (hr : ¬ Rec o) (n : C.base.get? b = none) : (C.at h).base.get? b = none := by
  cases q : (C.at h).base.get? b with
  | none => rfl
  | some o' =>
    obtain ⟨e1, z⟩ := hideBut_of q
    rw [e] at e1; cases e1
    rcases z with ⟨o, z⟩ | z
    · rw [n] at z; cases z
    · exact absurd z hr
theorem at_none' {b : Addr} (e : h.get? b = none) : (C.at h).base.get? b = none := by
  cases q : (C.at h).base.get? b with
  | none => rfl
  | some o' => have := (hideBut_of q).1; rw [e] at this; cases this
theorem PL.at {D : Addr} {items : List Value} (x : PL h D items) (n : C.base.get? D = none) : (C.at h).base.get? D = none := by
  obtain ⟨sl, n', e⟩ := x
  exact at_none e (fun ⟨⟨vs, z⟩, _⟩ => by cases z) n
theorem frames_at : ∀ {l : List Env} {g : Heap}, g.FunFrames C.base l → (∀ b o, h.get? b = some o → Rec o → g.get? b = some o ∨ ∀ o', g.get? b = some o' → False) → g.FunFrames (C.at h).base l
  | [], _, _, _ => trivial
  | env :: _, g, ⟨hk, ⟨L, o, hf, hn, ho, hd⟩, hr⟩, hk' => ⟨hk, ⟨L, o, hf, by
      cases q : (C.at h).base.get? L with
      | none => rfl
      | some o' =>
        obtain ⟨e1, z⟩ := hideBut_of q
        rcases z with ⟨o2, z⟩ | z
        · rw [hn] at z; cases z
        · rcases hk' _ _ e1 z with e2 | e2
          · rw [ho] at e2; cases e2
            obtain ⟨⟨vs, hv⟩, _⟩ := z
            exact absurd hv (hd vs)
          · exact (e2 _ ho).elim, ho, hd⟩, frames_at hr hk'⟩
theorem frames_off {base B g : Heap} (kk : base.StaysIn B) {l : List Env} (x : g.FunFrames B l) : g.FunFrames base l := funFrames_base kk x
theorem St.at' {s : Shared} {frames : List Env} (x : St C frames s) (hh : s.heap = h) : St (C.at h) frames s :=
  ⟨x.gens, x.os, hh ▸ at_in, frames_at x.frames fun b o e _ => .inl (by rw [hh]; exact e)⟩
theorem St.off {s : Shared} {frames : List Env} (hs : C.base.StaysIn h) (x : St (C.at h) frames s) : St C frames s :=
  ⟨x.gens, x.os, fun b o e => x.stays _ _ (at_stays hs _ _ e), frames_off (at_stays hs) x.frames⟩
theorem FieldOk.at (x : FieldOk C) : FieldOk (C.at h) := by
  obtain ⟨a1, a2, a3, a4, a5, a6, a7, a8, a9, a10, a11, a12, a13, a14, a15, a16⟩ := x
  exact ⟨a1, a2, a3, a4, a5, a6, a7, a8, a9, a10, a11, a12, a13, a14, a15, a16⟩
theorem FaultOk.at (x : FaultOk C) : FaultOk (C.at h) := by
  obtain ⟨a1, a2, a3, a4, a5, a6, a7, a8, a9, a10, a11⟩ := x
  exact ⟨a1, a2, a3, a4, a5, a6, a7, a8, a9, a10, a11⟩
theorem TopOk.at (x : TopOk C) (hs : C.base.StaysIn h) : TopOk (C.at h) := ⟨x.g.keeps (at_stays hs), x.b.keeps (at_stays hs), x.nolimit.keeps (at_stays hs), x.k.keeps (at_stays hs), x.builtins⟩
theorem Tops.at (x : Tops C) (hs : C.base.StaysIn h) : Tops (C.at h) := ⟨x.toTopOk.at hs, x.field.at, x.fault.at, x.f_lower_code, x.f_lower_text, x.f_line_at, x.f_is_name, x.f_colon_in, x.f_read_spans, x.f_read_fields, x.f_rows_of, x.f_unfolded, x.f_first_body, x.f_is_atom_code, x.f_line_end, x.f_inside_at, x.f_closed_at, x.f_escaped_octets, x.f_is_run_code, x.f_is_run, x.f_run_at, x.f_check_plain, x.f_id_at, x.f_read_ids, x.f_sides_of, x.f_id_octets, x.f_write_ids, x.f_ids_in, x.f_thread_ids, x.f_law_pot, x.f_law_draw, x.f_law_names, x.f_law_ids, x.f_law_field, x.f_law_first, x.c_WHITE, x.c_ATOM_SIGNS, x.c_NEVER_ESCAPED, x.c_QUOTE, x.c_BRACKET, x.c_LESS, x.c_Field, x.c_WordFault, x.c_PostError, (let ⟨t, u, o, e, r⟩ := x.white; ⟨t, u, o, at_stays hs _ _ e, r⟩), x.dfl_spans, x.dfl_fields, (let ⟨t, u, v, o, e, r⟩ := x.never; ⟨t, u, v, o, at_stays hs _ _ e, r⟩), x.keepField, x.keepFault, x.b_len, x.b_range, x.b_ord, x.b_chr, x.b_int, x.b_abs, x.b_list, x.b_bytes, x.b_Exception⟩
end
-- Exc2
section
variable {C : Cx} {c : Fc} {k : Nat} {m : Loc} {h : Heap} {X : Addr → Heap → Prop} {Q : Value → Heap → Prop}
/-- the fault's class stands -/
def Cls59 (h : Heap) : Prop := ∃ nm q N bs sn sub col dd k0 k1 k2 k3 k5, h.get? 59 = some (excClassObj nm q 59 N bs [.ref 46, .type "Exception", .type "BaseException", .type "object"] true sn sub false col dd k0 k1 k2 k3 k5 "Exception.__new__")
theorem Tops.cls59 (T : Tops C) {s : Shared} (K : C.K.In s.heap) : Cls59 s.heap := by
  obtain ⟨nm, qq, NN, bs, sn, sub, col, dd, k0, k1, k2, k4, k5, eo⟩ := T.fault.obj
  exact ⟨nm, qq, NN, bs, sn, sub, col, dd, k0, k1, k2, k4, k5, K _ _ eo⟩
section
variable {M : Model} {A : Around} {E : Value → Shared → Prop} {env : Env}
theorem raise59 {s : Shared} {x : Sem Value} {Q : Flow → Shared → Prop} (hh : A.handled = none)
    (h : wpAny M A x (fun v s₁ => ∃ e dx t, v = .ref e ∧ Cls59 s₁.heap ∧
      s₁.heap.get? e = some { cls := .ref 59, dict := some dx, data := .fields #[.ref t, .none, .none, .none, .bool false, .none] } ∧ E (.ref e) s₁) E s) :
    wpAny M A (raiseStmt env (some x) none) Q E s := by
  have hcB : (Value.ref 59 :: [.ref 46, .type "Exception", .type "BaseException", .type "object"]).contains (.type "BaseException") = true := by decide
  unfold raiseStmt
  refine wpAny_bind (wpAny_mono h (fun v s₁ h₁ => ?_) fun _ _ x => x)
  obtain ⟨e, dx, t, rfl, ⟨_, _, _, _, _, _, _, _, _, _, _, _, _, hC⟩, he, hE⟩ := h₁
  obtain ⟨hp, g, d, tk, os⟩ := s₁
  repeat (first | with_reducible refine wpAny_loadPart_at he ?_ | with_reducible refine wpAny_loadPart_at hC ?_ | (with_reducible refine wpAny_isSubtype_exc hC ?_; rw [hcB]) | wp_step)
  exact wpAny_raiseNew_none hh hE
end
section
variable {prog : Program} {w : World} {A : Around} {E : Value → Shared → Prop} {s : Shared} {env : Env}
theorem handle59 {e : Addr} {t : Expr} {b₀ : Stmt} {suite : List Stmt} {pos : Pos} {rest : List ExceptHandler} {Q : Flow → Shared → Prop}
    (h : wpAny (model prog w) (A.mark (some (.ref e))) (eval t env) (fun c s₁ => c = .ref 59 ∧
      Cls59 s₁.heap ∧ (∃ oe, s₁.heap.get? e = some oe ∧ oe.cls = .ref 59) ∧
      wpAny (model prog w) (A.mark (some (.ref e))) (setFlight (.ref e) none) (fun _ s₂ => wpAny (model prog w) (A.mark (some (.ref e))) (execs (b₀ :: suite) env) Q (fun _ _ => False) s₂) (fun _ _ => False) s₁) (fun _ _ => False) s) :
    wpAny (model prog w) A (handleBy (.ref e) env (.ExceptHandler (some t) none (b₀ :: suite) pos :: rest)) Q E s := by
  refine wpAny_handleBy_cons (codeAny_handlers_test (wpAny_mono h (fun c s₁ h₁ => ?_) fun _ _ x => x.elim)) (by intro q; cases q)
  obtain ⟨rfl, ⟨_, _, _, _, _, _, _, _, _, _, _, _, _, hC⟩, ⟨oe, he, hcls⟩, hk⟩ := h₁
  obtain ⟨hp, g, d, tk, os⟩ := s₁
  refine wpAny_excMatches_sub_self hC he hcls (by decide) ?_
  exact codeAny_handlers_suite (wpAny_mono hk (fun _ s₂ q => wpAny_mono q (fun _ _ z => z) fun _ _ z => z.elim) fun _ _ z => z.elim)
end
/-- just raised, in this very frame -/
def New (C : Cx) (a : Addr) (h : Heap) : Prop := C.base.get? a = none ∧ ExcAt h a
/-- in flight, into the frame on top -/
def Fly (C : Cx) (l : List Env) (a : Addr) (h : Heap) : Prop := ∃ a0, Heap.FlyingW C.base l a (.ref 59) a0 h
theorem s_raise (T : Tops C) {e : Expr} {pos : Pos} {N : Loc → Heap → Prop} {R : Value → Heap → Prop} {Y : Loc → Addr → Heap → Prop}
    (y : W C c k m (eval e c.env) h (fun v h₁ => ∃ a, v = .ref a ∧ ExcAt h₁ a ∧ Y m a h₁) (fun a h' => Y m a h')) : S C c k m (exec (.Raise (some e) none pos) c.env) h N R Y :=
  fun A s hA hss hh hn => by
    show wpAny _ _ (do standAt pos; raiseStmt c.env (some (do let v ← eval e c.env; standAt pos; pure v)) none) _ _ _
    refine wpAny_bind (wpAny_standAt (raise59 hA.handled (wpAny_bind (wpAny_mono (y A s hA hss hh hn) (fun v s₁ q => wpAny_bind (wpAny_standAt (wpAny_pure ?_))) fun e' s' q => ?_))))
    · obtain ⟨q1, q2, q3, a, rfl, ⟨dx, tup, hx⟩, q4⟩ := q
      exact ⟨a, dx, tup, rfl, T.cls59 (q1.kin T.toTopOk), hx, q1, q2, m, q3, a, rfl, q4⟩
    · exact ⟨q.1, q.2.1, m, q.2.2.1, q.2.2.2⟩
/-- up to slots, the library's -/
theorem Le.slots {h h₁ h' : Heap} (x : Le h h₁) (y : h₁.UpToSlots h') : Le h h' := fun b o e hn hc =>
  let ⟨sl, e₁⟩ := x b o e hn hc
  let ⟨sl', e₂⟩ := y b _ e₁ hn
  ⟨sl', e₂⟩
theorem PD.slots {L : Addr} {h h₁ h' : Heap} (x : PD L h h₁) (y : h₁.UpToSlots h') (r : ∀ b o, h.get? b = some o → Rec o → h'.get? b = some o) : PD L h h' :=
  ⟨fun b o hb e hd => let ⟨sl, e₁⟩ := x.d b o hb e hd; let ⟨sl', e₂⟩ := y b _ e₁ (fun vs z => by obtain ⟨es, n, hd⟩ := hd; rw [hd] at z; cases z); ⟨sl', e₂⟩, fun b o _ e hr => r b o e hr⟩
theorem Ns.slots {h' : Heap} (x : Ns c h m) (y : h.UpToSlots h') : Ns c h' m := by
  obtain ⟨f, hf, hq⟩ := x.ns
  obtain ⟨o', e', ec⟩ := x.cls
  obtain ⟨o, es, ep, e, ed, _⟩ := id hf
  cases e.symm.trans e'
  obtain ⟨sl, e2⟩ := y _ _ e (fun vs z => by rw [ed] at z; cases z)
  exact ⟨⟨f, y.ns hf, hq⟩, _, e2, ec⟩
end
-- Exc3
section
variable {C : Cx} {c : Fc} {k : Nat} {m : Loc} {h : Heap} {X : Addr → Heap → Prop} {Q : Value → Heap → Prop}
/-- a call that may raise -/
theorem w_fnX (T : Tops C) {f : Addr} {qual : Str} {params : Arguments} {body : List Stmt} {scope : Scope} {dV kV : Value} (hf : FnAt C f qual params body scope dV kV) {args : List Value} {binds : List (Str × Value)}
    (hb : ∀ s name doc pm an cdv ct, C.K.In s.heap → BindsTo s (fnOf name qual params body scope dV kV doc pm an cdv ct) ⟨args, []⟩ binds)
    (hloc : ∀ y ∈ binds, scope.names.lookup y.1 = some .local) (hcell : ∀ x ∈ scope.names, x.2 ≠ .cell) (hco : scope.isCoroutine = false) (hgen : scope.isGenerator = false) (hk : scope.kind = .function) {l : Loc} (hlb : l = binds.reverse)
    (hX : ∀ a h', Fly C c.frames a h' → Le h h' → X a h')
    (x : Tops (C.at h) → C.base.StaysIn h → ∀ cd L h₁, Keep h h₁ → h.get? L = none → S (C.at h) (Fc.fn qual scope f cd L c.frames) k l (execs body (Fc.fn qual scope f cd L c.frames).env) h₁ (fun _ h' => Q .none h') Q
      (fun _ a h' => Le h h' ∧ (New (C.at h) a h' ∨ Fly (C.at h) (envOf qual scope L f cd :: c.frames) a h'))) :
    W C c (k + 1) m (PySem.call (.ref f) args []) h Q X := fun A s hA hs hh hn => by
  subst hh
  obtain ⟨oc, od, osl, name, doc, pm, an, cdv, ct, ho, hcd⟩ := hf
  have hst := hs.stays
  have TT : Tops (C.at s.heap) := T.at hst
  have hK := hs.kin T.toTopOk
  refine wpAny_call (codeAny_call_function (by have := hA.depth; have : recursionLimit = 1000 := rfl; omega) (hK _ _ ho) rfl hco hgen rfl (codeRec_of hK hcd) ?_)
  refine hb s name doc pm an cdv ct hK _ _ _ _ ?_
  refine wpAny_newEnvC hcell hloc hk fun h₁ tk hns hcls kp => ⟨(hs.nolimit T.toTopOk).keeps kp, ?_⟩
  have hL : s.heap.get? s.heap.objs.size = none := Heap.get?_none_of_le (Nat.le_refl _)
  have ne : ∀ b o, s.heap.get? b = some o → b ≠ s.heap.objs.size := fun b o e q => by rw [q, hL] at e; cases e
  have hbase : (C.at s.heap).base.get? s.heap.objs.size = none := at_none' hL
  have hs' : St (C.at s.heap) c.frames s := hs.at' rfl
  refine codeAny_func (wpAny_mono (x TT hst cdv s.heap.objs.size h₁ kp hL (A.deeper (envOf qual scope s.heap.objs.size f cdv)) _ ⟨by rw [Around.frames_deeper hA.frames], ?_, ?_, ?_⟩ ⟨hs'.gens, hs'.os, fun b o e => kp b o (hs'.stays b o e), ?_⟩ rfl ⟨⟨_, hns, fun x v e => by rw [hlb] at e; exact e⟩, hcls⟩) ?_ ?_)
  · have := hA.depth
    show A.depth + 1 + k ≤ 900
    omega
  · have := hA.units
    show A.units + 3 + 10 * k ≤ 9000
    omega
  · exact hA.handled
  · obtain ⟨oL, es, ep, e1, e2, _⟩ := hns
    exact ⟨by show scope.kind ≠ .module; rw [hk]; decide, ⟨_, oL, rfl, hbase, e1, fun vs q => by rw [e2] at q; cases q⟩, hs'.frames.of_keeps fun b o e _ => ⟨o, kp b o e, rfl⟩⟩
  · rintro fl s' ⟨q1, q2, m', q3, q4⟩
    have pd : PD c.L s.heap s'.heap := ⟨fun b o _ e hd => q2.d b o (ne b o e) (kp b o e) hd, fun b o _ e hd => q2.r b o (ne b o e) (kp b o e) hd⟩
    have hn' : Ns c s'.heap m := by
      obtain ⟨mf, hnf, hmf⟩ := hn.ns
      obtain ⟨o, es, ep, e, ed, _⟩ := id hnf
      obtain ⟨o', e', ec⟩ := hn.cls
      cases e.symm.trans e'
      obtain ⟨sl, e2⟩ := q2.d _ _ (ne _ _ e) (kp _ _ e) ⟨_, _, ed⟩
      exact ⟨⟨mf, q2.ns (hnf.keeps kp) (ne _ _ e), hmf⟩, _, e2, ec⟩
    have q1 := q1.tail.off hst
    cases fl with
    | next => exact ⟨q1, pd, hn', q4⟩
    | ret v => exact ⟨q1, pd, hn', q4⟩
    | brk => exact q4.elim
    | cont => exact q4.elim
  · rintro e s' ⟨q1, q2, m', q3, a, rfl, le, q⟩
    have pd : PD c.L s.heap s'.heap := ⟨fun b o _ e hd => q2.d b o (ne b o e) (kp b o e) hd, fun b o _ e hd => q2.r b o (ne b o e) (kp b o e) hd⟩
    have hn' : Ns c s'.heap m := by
      obtain ⟨mf, hnf, hmf⟩ := hn.ns
      obtain ⟨o, es, ep, e, ed, _⟩ := id hnf
      obtain ⟨o', e', ec⟩ := hn.cls
      cases e.symm.trans e'
      obtain ⟨sl, e2⟩ := q2.d _ _ (ne _ _ e) (kp _ _ e) ⟨_, _, ed⟩
      exact ⟨⟨mf, q2.ns (hnf.keeps kp) (ne _ _ e), hmf⟩, _, e2, ec⟩
    have fin : ∀ a0 h', Heap.FlyingW (C.at s.heap).base c.frames a (.ref 59) a0 h' → s'.heap.UpToSlots h' →
        St C c.frames { s' with heap := h' } ∧ PD c.L s.heap h' ∧ Ns c h' m ∧ ∃ b, Value.ref a = .ref b ∧ X b h' := fun a0 h' fl sm => by
      have fl' := flyingW_base (at_stays hst) fl
      refine ⟨⟨q1.gens, q1.os, fl'.1, fl'.2.2.1⟩, pd.slots sm fun b o e hr => fl.1 _ _ (hideBut_get e (.inr hr)), hn'.slots sm, a, rfl, hX _ _ ⟨a0, fl'⟩ (le.slots sm)⟩
    rcases q with ⟨nb, dx, tup, hx⟩ | ⟨a0, fl⟩
    · refine wpAny_leaving_firstW (a0 := .ref tup) (Around.frames_deeper hA.frames) q1.frames rfl hx q1.stays nb rfl rfl rfl fun h' hL => ?_
      obtain ⟨k1, ⟨_, _, k2⟩, k3, k4⟩ := hL
      exact fin _ h' ⟨k1, nb, k2, k3⟩ k4
    · exact wpAny_leaves_onW (Around.frames_deeper hA.frames) rfl fl fun h' x1 x2 => fin _ h' x1 x2
/-- a statement of a clause: an exception is being handled -/
structure RoomM (A : Around) (outer : List Env) (k : Nat) : Prop where
  frames : A.frames = some outer
  depth : A.depth + k ≤ 900
  units : A.units + 10 * k ≤ 9000
def SH (C : Cx) (c : Fc) (k : Nat) (m : Loc) (t : Sem Flow) (h : Heap) (N : Loc → Heap → Prop) : Prop :=
  ∀ A s, RoomM A c.frames k → St C c.frames s → s.heap = h → Ns c h m →
    wpAny (model C.prog C.w) A t (fun fl s' => fl = .next ∧ St C c.frames s' ∧ PD c.L h s'.heap ∧ ∃ m', Ns c s'.heap m' ∧ N m' s'.heap) (fun _ _ => False) s
theorem s_try (T : Tops C) {qual : Str} {scope : Scope} {f : Addr} {cd : Value} {L : Addr} {below : List Env} {body : List Stmt} {b₀ : Stmt} {suite : List Stmt} {np hp pos : Pos} {N : Loc → Heap → Prop} {R : Value → Heap → Prop} {Y : Loc → Addr → Heap → Prop} {m₂ : Loc} (P : Prop)
    (hk : scope.kind = .function) (hx : (envOf qual scope L f cd).kindOf "WordFault" = some .globalImplicit)
    (y : Tops (C.at h) → C.base.StaysIn h → S (C.at h) (Fc.fn qual scope f cd L below) k m (execs body (Fc.fn qual scope f cd L below).env) h N R
      (fun m' a h' => Le h h' ∧ Sub m' m₂ ∧ Fly (C.at h) (envOf qual scope L f cd :: below) a h' ∧ P))
    (z : P → ∀ h', Le h h' → SH C (Fc.fn qual scope f cd L below) k m₂ (execs (b₀ :: suite) (Fc.fn qual scope f cd L below).env) h' N) :
    S C (Fc.fn qual scope f cd L below) k m (exec (.Try body [.ExceptHandler (some (.Name "WordFault" np)) none (b₀ :: suite) hp] [] [] pos) (Fc.fn qual scope f cd L below).env) h N R Y := fun A s hA hs hh hn => by
  subst hh
  have hst := hs.stays
  refine wpAny_Try_except (wpAny_mono (y (T.at hst) hst A s hA (hs.at' rfl) rfl hn) (fun fl s₁ q => ?_) (fun e s₁ q => ?_))
  · obtain ⟨q1, q2, m', q3, q4⟩ := q
    have q1 := q1.off hst
    cases fl with
    | next => exact wpAny_execs_nil ⟨q1, q2, m', q3, q4⟩
    | ret v => exact ⟨q1, q2, m', q3, q4⟩
    | brk => exact q4.elim
    | cont => exact q4.elim
  · obtain ⟨q1, q2, m', q3, a, rfl, le, u, ⟨a0, fl⟩, hP⟩ := q
    refine wpAny_looks_onW hA.frames rfl fl fun h4 held4 sm4 => ?_
    refine wpAny_landsW held4 fun h5 fl5 sm5 => ?_
    have sm := sm4.trans sm5
    have fl5' := flyingW_base (at_stays hst) fl5
    have s5 : St C (envOf qual scope L f cd :: below) { s₁ with heap := h5 } := ⟨q1.gens, q1.os, fl5'.1, fl5'.2.2.1⟩
    refine handle59 ?_
    refine Calls.Name_function_global hk hx (Calls.loadGlobal_global (env := envOf qual scope L f cd) (s5.nsg T.toTopOk) T.c_WordFault ⟨rfl, T.cls59 (s5.kin T.toTopOk), fl5.there, ?_⟩) (by decide)
    refine lands_againW fl5 fun h6 fl6 sm6 => ?_
    have fl6' := flyingW_base (at_stays hst) fl6
    have sm := sm.trans sm6
    have s6 : St C (envOf qual scope L f cd :: below) { s₁ with heap := h6 } := ⟨q1.gens, q1.os, fl6'.1, fl6'.2.2.1⟩
    have pd : PD L s.heap h6 := q2.slots sm fun b o e hr => fl6.1 _ _ (hideBut_get e (.inr hr))
    refine wpAny_mono (z hP h6 (le.slots sm) (A.mark (some (.ref a))) _ ⟨hA.frames, hA.depth, hA.units⟩ s6 rfl ((q3.slots sm).sub u)) (fun fl s₇ r => ?_) (fun _ _ r => r.elim)
    obtain ⟨rfl, r1, r2, r⟩ := r
    exact ⟨r1, pd.trans r2, r⟩
end
-- G1
section
variable {C : Cx} {c : Fc} {k : Nat} {m : Loc} {h : Heap} {X : Addr → Heap → Prop} {Q : Value → Heap → Prop}
theorem sh_incr {x : Str} {px p2 p3 p4 pos : Pos} {kd : Nat} {i : Int} {t : Tok} {N : Loc → Heap → Prop} (l : Live C c) (hl : c.env.kindOf x = some .local) (hv : m.lookup x = some (.int i t)) (hd : (x == ("__debug__" : Str)) = false)
    (hs : swapsWith (.BinOp (.Name x p2) .Add (.Constant (.int 1) kd p3) p4) (some (.Name x px)) pos.line c.env = pure false)
    (q : ∀ t h', Le h h' → N ((x, .int (i + 1) t) :: m) h') : SH C c k m (execs [.Assign [.Name x px] (.BinOp (.Name x p2) .Add (.Constant (.int 1) kd p3) p4) pos] c.env) h N := fun A s hA hss hh hn => by
  subst hh
  obtain ⟨m', e, q'⟩ := id hn.ns
  refine wpAny_execs_cons (wpAny_Assign_Name (wpAny_BinOp (wpAny_Name (wpAny_loadName_local l.kind hl e (q' _ _ hv) ?_) hd)) hs)
  refine wpAny_Constant_int (PyProof.Rows.add_int (w_store (C := C) (A := A) l (hss.toks _) hn hl fun s' q1 q2 q3 q4 => ?_))
  exact wpAny_execs_nil ⟨rfl, q1, q2, _, q3, q _ _ q4⟩
theorem run_ok_spec (T : Tops C) {d : List UInt8} {a : Nat} {i : Int} {run rest : List UInt8} {t u : Tok} (hz : d.length ≤ 16777216) (hi : i = a) (ha : a ≤ d.length) (hd : d.drop a = run ++ rest) (hr : ∀ x ∈ run, runCode x = true) (hx : ∀ x, rest.head? = some x → runCode x = false) (hne : 0 < run.length)
    (q : ∀ r t u h', Le h h' → h'.IsTuple r #[.bytes run.toArray t, .int ((a + run.length : Nat) : Int) u] → Q (.ref r) h') :
    W C c (k + 3) m (PySem.call (.ref 225) [.bytes d.toArray t, .int i u]) h Q X := by
  refine w_fn T.toTopOk T.f_run_at.2 (binds := [("data", .bytes d.toArray t), ("at", .int i u)]) (fun _ _ _ _ _ _ _ _ => BindsTo.of_eq rfl) (locs (by kernel_rfl)) (by decide +kernel) (by kernel_rfl) (by kernel_rfl) (by kernel_rfl) rfl fun cd L h₁ kp hL => ?_
  refine s_body (rfl : B 34 = _ :: _) ?_
  subst hi
  have hlen : d.length = a + (run.length + rest.length) := by
    have e1 := congrArg List.length hd
    rw [List.length_drop, List.length_append] at e1
    omega
  have hget : ∀ j, d[a + j]? = (run ++ rest)[j]? := fun j => by rw [← hd, List.getElem?_drop]
  k_subL
  intro h₂ le2
  refine s_cons (s_while (m₀ := [("end", .int (a : Int) u), ("data", .bytes d.toArray t), ("at", .int (a : Int) u)]) (by lcg_sub)
    (fun n m' h' => ∃ j : Nat, ∃ ta ia, n = run.length - j ∧ j ≤ run.length ∧ ia = ((a + j : Nat) : Int) ∧ m' = ([("end", .int ia ta), ("data", .bytes d.toArray t), ("at", .int (a : Int) u)] : Loc) ∧ Le h h') ?_ (run.length - 0) ⟨0, _, _, rfl, Nat.zero_le _, by omega, rfl, kp.le.trans le2⟩)
  rintro n m₁ h₅ ⟨j, ta, ia, rfl, hj, rfl, rfl, le⟩
  have after : ∀ h₆, Le h h₆ → j = run.length → S C (Fc.fn "run_at" (SC 34) 225 cd L c.frames) (k + 2) [("end", .int ((a + j : Nat) : Int) ta), ("data", .bytes d.toArray t), ("at", .int (a : Int) u)] (execs ((B 34).drop 2) (Fc.fn "run_at" (SC 34) 225 cd L c.frames).env) h₆ (fun m' h' => Q Value.none h') Q (fun _ _ _ => False) := fun h₆ le6 hjj => by
    refine s_body (rfl : (B 34).drop 2 = _ :: _) ?_
    k_subL
    refine ⟨fun z => ?_, fun _ => s_nil (Sub.refl _) ?_⟩
    · have := eq_of_beq z; omega
    k_subL
    intro sl h₇ kp7 hsl
    k_subL
    refine p_cut2 a (a + run.length) hsl rfl (by omega) hz fun t₈ => ?_
    rw [Nat.add_sub_cancel_left]
    have e : (d.drop a).take run.length = run := by rw [hd, List.take_append_of_le_length (Nat.le_refl _), List.take_length]
    rw [e]
    k_subL
    subst hjj
    exact w_newTuple (szl (by simp)) fun r h₈ kp8 _ ht => q r _ _ _ ((le6.trans kp7.le).trans kp8.le) ht
  k_subL
  refine p_len (by omega) fun t₆ => ?_
  k_subL
  by_cases hlt : a + j < d.length
  · refine ⟨fun _ => ?_, fun z => by have := of_decide_eq_false z; omega⟩
    k_subL
    refine p_item (by omega) (by omega) (by omega) fun t₇ => ?_
    k_subL
    refine is_run_code_spec T fun h₈ le8 => ?_
    k_subL
    by_cases hjr : j < run.length
    · have hx : d[a + j]? = some run[j] := by rw [hget, List.getElem?_append_left hjr, List.getElem?_eq_getElem hjr]
      have hg : d.getD ((a + j : Nat) : Int).toNat 0 = run[j] := getD_of hx
      rw [hg, hr _ (List.getElem_mem hjr)]
      refine ⟨fun _ => ?_, fun z => (nomatch z)⟩
      k_subL
      refine ⟨fun _ => ?_, fun z => (nomatch z)⟩
      k_subL
      intro h₉ le9
      exact s_nil (Sub.refl _) ⟨run.length - (j + 1), [("end", _), ("data", _), ("at", _)], by omega, by lcg_sub, j + 1, _, _, rfl, hjr, by omega, rfl, (le.trans le8).trans le9⟩
    · have hjj : j = run.length := by omega
      have hx2 : d[a + j]? = rest.head? := by rw [hget, hjj, List.getElem?_append_right (Nat.le_refl _), Nat.sub_self, List.head?_eq_getElem?]
      have hg2 : d[a + j]? = some d[a + j] := List.getElem?_eq_getElem hlt
      have hg : d.getD ((a + j : Nat) : Int).toNat 0 = d[a + j] := getD_of hg2
      rw [hg, hx _ (by rw [← hx2, hg2])]
      refine ⟨fun z => (nomatch z), fun _ => ⟨fun z => (nomatch z), fun _ => ?_⟩⟩
      exact after _ (le.trans le8) hjj
  · refine ⟨fun z => by have := of_decide_eq_true z; omega, fun _ => ⟨fun z => (nomatch z), fun _ => ?_⟩⟩
    exact after _ le (by omega)
theorem newFault' (T : Tops C) {a b : Value} (q : ∀ e h', Keep h h' → New C e h' → Q (.ref e) h') : W C c (k + 2) m (PySem.call (.ref 59) [a, b]) h Q X :=
  w_base fun hst => newFault T fun e h' kp n x => by
    refine q e h' kp ⟨?_, x⟩
    cases z : C.base.get? e with
    | none => rfl
    | some o => have := hst _ _ z; rw [n] at this; cases this
theorem run_bad_spec (T : Tops C) {d : List UInt8} {a : Nat} {i : Int} {y : UInt8} {t u : Tok} (hz : d.length ≤ 16777216) (hi : i = a) (hy : d[a]? = some y) (hr : runCode y = false)
    (x : ∀ a h', Fly C c.frames a h' → Le h h' → X a h') :
    W C c (k + 3) m (PySem.call (.ref 225) [.bytes d.toArray t, .int i u]) h Q X := by
  refine w_fnX T T.f_run_at.2 (binds := [("data", .bytes d.toArray t), ("at", .int i u)]) (fun _ _ _ _ _ _ _ _ => BindsTo.of_eq rfl) (locs (by kernel_rfl)) (by decide +kernel) (by kernel_rfl) (by kernel_rfl) (by kernel_rfl) rfl x fun T hst cd L h₁ kp hL => ?_
  refine s_body (rfl : B 34 = _ :: _) ?_
  subst hi
  have ha := (List.getElem?_eq_some_iff.mp hy).1
  k_subL
  intro h₂ le2
  refine s_cons (s_while (m₀ := [("end", .int (a : Int) u), ("data", .bytes d.toArray t), ("at", .int (a : Int) u)]) (by lcg_sub)
    (fun n m' h' => m' = ([("end", .int (a : Int) u), ("data", .bytes d.toArray t), ("at", .int (a : Int) u)] : Loc) ∧ Le h h') ?_ 0 ⟨rfl, kp.le.trans le2⟩)
  rintro n m₁ h₅ ⟨rfl, le⟩
  k_subL
  refine p_len (by omega) fun t₆ => ?_
  k_subL
  refine ⟨fun _ => ?_, fun z => by have := of_decide_eq_false z; omega⟩
  k_subL
  refine p_item (by omega) (by omega) (by omega) fun t₇ => ?_
  k_subL
  refine is_run_code_spec T fun h₈ le8 => ?_
  k_subL
  rw [show d.getD (a : Int).toNat 0 = y from getD_of hy, hr]
  refine ⟨fun z => (nomatch z), fun _ => ⟨fun z => (nomatch z), fun _ => ?_⟩⟩
  k_subL
  refine ⟨fun z => ?_, fun z => ?_⟩
  rotate_left
  · rw [beq_self_eq_true] at z; cases z
  refine s_cons (s_raise T ?_)
  k_subL
  refine newFault' T fun e h₉ kp9 nw => ⟨e, rfl, nw.2, (le.trans le8).trans kp9.le, .inl nw⟩
end
-- G2
section
variable {C : Cx} {c : Fc} {k : Nat} {m : Loc} {h : Heap} {X : Addr → Heap → Prop} {Q : Value → Heap → Prop}
theorem at_strcall {x name : Str} {kd : Nat} {p apos pos : Pos} {as : List Expr} {kw : List Keyword} {env : Env} (y : W C c k m (eval (.Call (.Attribute (.Constant (.str x) kd p) name apos) as kw pos) env) h Q X) : W C c k m (eval (.Call (.Attribute (.Constant (.str x) kd p) name apos) as kw pos) env) h Q X := y
end
local macro_rules | `(tactic| k_offL) => `(tactic| (with_reducible refine at_strcall ?_; with_reducible refine w_methV isS_type rfl (by kernel_rfl) (by kernel_rfl) F.plainAttrs_str F.slot_str_join F.type_str_join ?_))
section
variable {C : Cx} {c : Fc} {k : Nat} {m : Loc} {h : Heap} {X : Addr → Heap → Prop} {Q : Value → Heap → Prop}
/-- how the left side of an id is written -/
def LeftOk (o v : List UInt8) : Prop := (o = v ∧ 0 < v.length ∧ ∀ x ∈ v, runCode x = true) ∨ (o = 34 :: (v ++ [34]) ∧ ∀ x ∈ v, quiet x ∧ x ≠ 34)
def RightOk (o v : List UInt8) : Prop := (o = v ∧ 0 < v.length ∧ ∀ x ∈ v, runCode x = true) ∨ (∃ b, o = 91 :: (b ++ [93]) ∧ v = o ∧ ∀ x ∈ b, quiet x ∧ x ≠ 93 ∧ x ≠ 91)
theorem drop_cons {d r : List UInt8} {a : Nat} {x : UInt8} (e : d.drop a = x :: r) : d[a]? = some x ∧ d.drop (a + 1) = r ∧ a < d.length := by
  have h1 : d[a]? = some x := by
    have := List.getElem?_drop (xs := d) (i := a) (j := 0)
    rw [e] at this; simpa using this.symm
  refine ⟨h1, ?_, (List.getElem?_eq_some_iff.mp h1).1⟩
  have := List.drop_drop (i := 1) (j := a) (l := d)
  rw [e] at this
  simpa using this.symm
theorem drop_app {d l r : List UInt8} {a : Nat} (e : d.drop a = l ++ r) : d.drop (a + l.length) = r := by
  have := List.drop_drop (i := l.length) (j := a) (l := d)
  rw [e] at this
  simpa using this.symm
theorem bytes_eq1 {x y : UInt8} : (([x] : List UInt8) == [y]) = (x == y) := by simp
theorem S.sub {t : Sem Flow} {N : Loc → Heap → Prop} {R : Value → Heap → Prop} {Y : Loc → Addr → Heap → Prop} {m' : Loc} (x : S C c k m' t h N R Y) (u : Sub m m') : S C c k m t h N R Y := fun A s hA hs hh hn => x A s hA hs hh (hn.sub u)
abbrev fIdAt (cd : Value) (L : Addr) (below : List Env) : Fc := Fc.fn "id_at" (SC 36) 237 cd L below
theorem id_end (T : Tops C) {d lv rv : List UInt8} {a b : Nat} {t u v w z : Tok} {cd : Value} {L : Addr} {below : List Env} (hz : d.length ≤ 16777216) (hb : d[b]? = some 62) (hlv : lv.length + rv.length + 1 ≤ 16777216)
    (hp : (lv ++ rv).all plainCode = true) {Y : Loc → Addr → Heap → Prop} (q : ∀ r t u h', Le h h' → h'.IsTuple r #[.str (txt (codes (lv ++ 64 :: rv))) t, .int ((b + 1 : Nat) : Int) u] → Q (.ref r) h') :
    S C (fIdAt cd L below) (k + 3) [("behind", .int (b : Int) z), ("right", .bytes rv.toArray w), ("left", .bytes lv.toArray v), ("data", .bytes d.toArray t), ("at", .int (a : Int) u)] (execs ((B 36).drop 3) (fIdAt cd L below).env) h (fun _ h' => Q .none h') Q Y := by
  refine s_body (rfl : (B 36).drop 3 = _ :: _) ?_
  have bl := (List.getElem?_eq_some_iff.mp hb).1
  k_subL
  intro sl h₂ kp2 hsl
  k_subL
  refine p_cut2 b (b + 1) hsl rfl (by omega) hz fun t₂ => ?_
  rw [Nat.add_sub_cancel_left, take1 hb]
  k_subL
  refine ⟨fun z => ?_, fun _ => s_nil (Sub.refl _) ?_⟩
  · have z : (([62] : List UInt8) != [62]) = true := z
    rw [bne_self_eq_false] at z; cases z
  k_subL
  refine p_addB (by omega) fun t₃ => ?_
  k_subL
  refine check_plain_spec T hp fun h₃ le3 => ?_
  k_subL
  refine w_comp (fun _ => true) (fun i v w => ∃ u, w = .str ⟨#[((lv ++ 64 :: rv).getD i 0).toNat]⟩ u) (by decide +kernel) (by kernel_rfl) (by decide +kernel) (by decide +kernel) (by kernel_rfl) (fun _ => rfl) ?_
  k_subL
  refine p_addB (d := lv) (e := [64]) (by simp; omega) fun t₄ => ?_
  k_subL
  refine p_addB (by simp; omega) fun t₅ => ?_
  rw [List.append_assoc, List.singleton_append]
  refine w_iterB fun I h₄ St kp4 nI it st => ⟨I, _, _, _, _, rfl, kp4, nI, it, st, trivial, szl (by simp; omega), ?_, ?_⟩
  · rintro L' i v h₅ hi ⟨b, u, hb, rfl⟩ le5 _
    refine w_tst0 ⟨Le.refl _, rfl, fun _ => ?_⟩
    k_subL
    have := u8_lt b
    refine p_chr (by omega) (by omega) fun t => ⟨Le.refl _, t, ?_⟩
    rw [getD_of hb]; rfl
  · intro D ys h₆ le6 nD r hD
    obtain ⟨ps, rfl, e2⟩ := r.strs (fun i => ((lv ++ 64 :: rv).getD i 0).toNat) (fun _ _ _ e => e)
    rw [range_codes0] at e2
    k_subL
    refine p_joinC hD e2 (by simp; omega) fun t => ?_
    k_subL
    exact w_newTuple (szl (by simp)) fun r h₇ kp7 _ ht => q r _ _ _ ((((kp2.le.trans le3).trans kp4.le).trans le6).trans kp7.le) ht
/-- one side: the octets that may stand there -/
theorem id_right (T : Tops C) {d lv ro rv rest : List UInt8} {a s : Nat} {t u v z : Tok} {si : Int} {cd : Value} {L : Addr} {below : List Env} (hz : d.length ≤ 16777216) (hsi : si = s) (hd : d.drop s = 64 :: (ro ++ 62 :: rest)) (hr : RightOk ro rv) (hlv : lv.length + rv.length + 1 ≤ 16777216)
    (hp : (lv ++ rv).all plainCode = true) {Y : Loc → Addr → Heap → Prop} (q : ∀ r t u h', Le h h' → h'.IsTuple r #[.str (txt (codes (lv ++ 64 :: rv))) t, .int ((s + 1 + ro.length + 1 : Nat) : Int) u] → Q (.ref r) h') :
    S C (fIdAt cd L below) (k + 3) [("spot", .int si z), ("left", .bytes lv.toArray v), ("data", .bytes d.toArray t), ("at", .int (a : Int) u)] (execs ((B 36).drop 1) (fIdAt cd L below).env) h (fun _ h' => Q .none h') Q Y := by
  subst hsi
  refine s_body (rfl : (B 36).drop 1 = _ :: _) ?_
  obtain ⟨g1, g2, g3⟩ := drop_cons hd
  k_subL
  intro sl h₂ kp2 hsl
  k_subL
  refine p_cut2 s (s + 1) hsl rfl (by omega) hz fun t₂ => ?_
  rw [Nat.add_sub_cancel_left, take1 g1]
  k_subL
  refine ⟨fun z => ?_, fun _ => s_nil (Sub.refl _) ?_⟩
  · have z : (([64] : List UInt8) != [64]) = true := z
    rw [bne_self_eq_false] at z; cases z
  have g4 : d[s + 1 + ro.length]? = some 62 := (drop_cons (drop_app g2)).1
  k_subL
  intro sl₃ h₃ kp3 hsl3
  k_subL
  refine p_cut2 (s + 1) (s + 2) hsl3 (by omega) (by omega) hz fun t₃ => ?_
  rw [show s + 2 - (s + 1) = 1 by omega]
  rcases hr with ⟨rfl, hlen, hrun⟩ | ⟨b, rfl, rfl, hb⟩
  · have hne : ro ≠ [] := fun z => by rw [z] at hlen; exact absurd hlen (Nat.lt_irrefl 0)
    obtain ⟨y, ro', rfl⟩ := List.exists_cons_of_ne_nil hne
    have g5 := drop_cons (x := y) (r := ro' ++ 62 :: rest) g2
    rw [take1 g5.1]
    have hy : y ≠ 91 := fun e => by
      have := hrun y (.head _)
      rw [e] at this; exact absurd this (by decide +kernel)
    k_subL
    refine ⟨fun z => ?_, fun _ => ?_⟩
    · have z : (([y] : List UInt8) == [91]) = true := z
      rw [bytes_eq1] at z; exact absurd (eq_of_beq z) hy
    k_subL
    refine run_ok_spec T (run := y :: ro') hz (by omega) (by omega) g2 hrun (fun x hx => by simp at hx; rw [← hx]; decide +kernel) hlen fun r t₄ u₄ h₄ le4 ht => ⟨_, _, _, rfl, ht, fun h₅ le5 => ?_⟩
    refine s_nil (Sub.refl _) ?_
    refine S.sub (id_end T hz g4 hlv hp fun r t u h' le => q r t u h' (((kp2.le.trans kp3.le).trans (le4.trans le5)).trans le)) (by lcg_sub)
  · have g5 := drop_cons (x := 91) (r := b ++ 93 :: (62 :: rest)) (by rw [g2]; simp)
    rw [take1 g5.1]
    k_subL
    refine ⟨fun _ => ?_, fun z => ?_⟩
    rotate_left
    · have z : (([91] : List UInt8) == [91]) = false := z
      rw [beq_self_eq_true] at z; cases z
    have hbl : (91 :: (b ++ [93]) : List UInt8).length = b.length + 2 := by simp
    k_subL
    refine closed_at_spec T (b := s + 1) (mid := b) (cl := 93) (barred := [91]) hz (by omega) g5.2.1 (fun x hx => ⟨(hb x hx).1, (hb x hx).2.1, by simpa using (hb x hx).2.2⟩) fun r t₄ u₄ h₄ le4 ht => ⟨_, _, _, rfl, ht, fun h₅ le5 => ?_⟩
    k_subL
    refine p_addB (d := [91]) (by simp; omega) fun t₆ => ?_
    k_subL
    refine p_addB (e := [93]) (by simp; omega) fun t₇ => ?_
    intro h₈ le8
    refine s_nil (Sub.refl _) ?_
    have e1 : ([91] ++ b ++ [93] : List UInt8) = 91 :: (b ++ [93]) := by simp
    rw [e1]
    rw [hbl] at g4
    have e2 : s + 1 + 1 + b.length + 1 = s + 1 + (b.length + 2) := by omega
    rw [e2]
    rw [hbl] at q
    refine S.sub (id_end T hz g4 hlv hp fun r t u h' le => q r t u h' (((kp2.le.trans kp3.le).trans ((le4.trans le5).trans le8)).trans le)) (by lcg_sub)
end
-- G3
section
variable {C : Cx} {c : Fc} {k : Nat} {m : Loc} {h : Heap} {X : Addr → Heap → Prop} {Q : Value → Heap → Prop}
theorem LeftOk.le {o v : List UInt8} (x : LeftOk o v) : v.length ≤ o.length := by
  rcases x with ⟨rfl, _⟩ | ⟨rfl, _⟩
  · exact Nat.le_refl _
  · simp; omega
theorem RightOk.le {o v : List UInt8} (x : RightOk o v) : v.length ≤ o.length := by
  rcases x with ⟨rfl, _⟩ | ⟨b, rfl, rfl, _⟩ <;> exact Nat.le_refl _
theorem id_ok_spec (T : Tops C) {d lo lv ro rv rest : List UInt8} {a : Nat} {i : Int} {t u : Tok} (hz : d.length ≤ 16777216) (hi : i = a) (hd : d.drop a = 60 :: (lo ++ 64 :: (ro ++ 62 :: rest))) (hl : LeftOk lo lv) (hr : RightOk ro rv)
    (hp : (lv ++ rv).all plainCode = true) (q : ∀ r t u h', Le h h' → h'.IsTuple r #[.str (txt (codes (lv ++ 64 :: rv))) t, .int ((a + 1 + lo.length + 1 + ro.length + 1 : Nat) : Int) u] → Q (.ref r) h') :
    W C c (k + 4) m (PySem.call (.ref 237) [.bytes d.toArray t, .int i u]) h Q X := by
  refine w_fn T.toTopOk T.f_id_at.2 (binds := [("data", .bytes d.toArray t), ("at", .int i u)]) (fun _ _ _ _ _ _ _ _ => BindsTo.of_eq rfl) (locs (by kernel_rfl)) (by decide +kernel) (by kernel_rfl) (by kernel_rfl) (by kernel_rfl) rfl fun cd L h₁ kp hL => ?_
  refine s_body (rfl : B 36 = _ :: _) ?_
  subst hi
  have hlen : d.length = a + (1 + (lo.length + (1 + (ro.length + (1 + rest.length))))) := by
    have e1 := congrArg List.length hd
    simp only [List.length_drop, List.length_append, List.length_cons] at e1
    omega
  have hlv : lv.length + rv.length + 1 ≤ 16777216 := by have := hl.le; have := hr.le; omega
  obtain ⟨g1, g2, g3⟩ := drop_cons hd
  have g4 : d.drop (a + 1 + lo.length) = 64 :: (ro ++ 62 :: rest) := drop_app g2
  k_subL
  intro sl₃ h₃ kp3 hsl3
  k_subL
  refine p_cut2 (a + 1) (a + 2) hsl3 (by omega) (by omega) hz fun t₃ => ?_
  rw [show a + 2 - (a + 1) = 1 by omega]
  rcases hl with ⟨rfl, hlen, hrun⟩ | ⟨rfl, hb⟩
  · have hne : lo ≠ [] := fun z => by rw [z] at hlen; exact absurd hlen (Nat.lt_irrefl 0)
    obtain ⟨y, lo', rfl⟩ := List.exists_cons_of_ne_nil hne
    have g5 := drop_cons (x := y) (r := lo' ++ 64 :: (ro ++ 62 :: rest)) g2
    rw [take1 g5.1]
    have hy : y ≠ 34 := fun e => by
      have := hrun y (.head _)
      rw [e] at this; exact absurd this (by decide +kernel)
    k_subL
    refine ⟨fun z => ?_, fun _ => ?_⟩
    · have z : (([y] : List UInt8) == [34]) = true := z
      rw [bytes_eq1] at z; exact absurd (eq_of_beq z) hy
    k_subL
    refine run_ok_spec T (run := y :: lo') hz (by omega) (by omega) g2 hrun (fun x hx => by simp at hx; rw [← hx]; decide +kernel) hlen fun r t₄ u₄ h₄ le4 ht => ⟨_, _, _, rfl, ht, fun h₅ le5 => ?_⟩
    refine s_nil (Sub.refl _) ?_
    refine S.sub (id_right T hz rfl g4 hr hlv hp fun r t u h' le => q r t u h' (((kp.le.trans kp3.le).trans (le4.trans le5)).trans le)) (by lcg_sub)
  · have g5 := drop_cons (x := 34) (r := lv ++ 34 :: (64 :: (ro ++ 62 :: rest))) (by rw [g2]; simp)
    rw [take1 g5.1]
    k_subL
    refine ⟨fun _ => ?_, fun z => ?_⟩
    rotate_left
    · have z : (([34] : List UInt8) == [34]) = false := z
      rw [beq_self_eq_true] at z; cases z
    have hbl : (34 :: (lv ++ [34]) : List UInt8).length = lv.length + 2 := by simp
    k_subL
    refine closed_at_spec T (b := a + 1) (mid := lv) (cl := 34) (barred := []) hz (by omega) g5.2.1 (fun x hx => ⟨(hb x hx).1, (hb x hx).2, rfl⟩) fun r t₄ u₄ h₄ le4 ht => ⟨_, _, _, rfl, ht, fun h₅ le5 => ?_⟩
    refine s_nil (Sub.refl _) ?_
    rw [hbl] at g4
    have e2 : a + 1 + 1 + lv.length + 1 = a + 1 + (lv.length + 2) := by omega
    rw [e2]
    rw [hbl] at q
    refine S.sub (id_right T hz rfl g4 hr hlv hp fun r t u h' le => q r t u h' (((kp.le.trans kp3.le).trans (le4.trans le5)).trans le)) (by lcg_sub)
/-- an id whose left side is missing -/
theorem id_bad1_spec (T : Tops C) {d : List UInt8} {a : Nat} {i : Int} {y : UInt8} {t u : Tok} (hz : d.length ≤ 16777216) (hi : i = a) (hy : d[a + 1]? = some y) (hr : runCode y = false) (hq : y ≠ 34)
    (x : ∀ a h', Fly C c.frames a h' → Le h h' → X a h') :
    W C c (k + 4) m (PySem.call (.ref 237) [.bytes d.toArray t, .int i u]) h Q X := by
  refine w_fnX T T.f_id_at.2 (binds := [("data", .bytes d.toArray t), ("at", .int i u)]) (fun _ _ _ _ _ _ _ _ => BindsTo.of_eq rfl) (locs (by kernel_rfl)) (by decide +kernel) (by kernel_rfl) (by kernel_rfl) (by kernel_rfl) rfl x fun T hst cd L h₁ kp hL => ?_
  refine s_body (rfl : B 36 = _ :: _) ?_
  subst hi
  have ha := (List.getElem?_eq_some_iff.mp hy).1
  k_subL
  intro sl₃ h₃ kp3 hsl3
  k_subL
  refine p_cut2 (a + 1) (a + 2) hsl3 (by omega) (by omega) hz fun t₃ => ?_
  rw [show a + 2 - (a + 1) = 1 by omega, take1 hy]
  k_subL
  refine ⟨fun z => ?_, fun _ => ?_⟩
  · have z : (([y] : List UInt8) == [34]) = true := z
    rw [bytes_eq1] at z; exact absurd (eq_of_beq z) hq
  k_subL
  exact run_bad_spec T hz (by omega) hy hr fun e h' fl le => ⟨(kp.le.trans kp3.le).trans le, .inr fl⟩
/-- an id without its @ -/
theorem id_bad2_spec (T : Tops C) {d run rest : List UInt8} {a : Nat} {i : Int} {y : UInt8} {t u : Tok} (hz : d.length ≤ 16777216) (hi : i = a) (hd : d.drop (a + 1) = run ++ y :: rest) (hrun : ∀ x ∈ run, runCode x = true) (hlen : 0 < run.length) (hr : runCode y = false) (hq : y ≠ 64)
    (x : ∀ a h', Fly C c.frames a h' → Le h h' → X a h') :
    W C c (k + 4) m (PySem.call (.ref 237) [.bytes d.toArray t, .int i u]) h Q X := by
  refine w_fnX T T.f_id_at.2 (binds := [("data", .bytes d.toArray t), ("at", .int i u)]) (fun _ _ _ _ _ _ _ _ => BindsTo.of_eq rfl) (locs (by kernel_rfl)) (by decide +kernel) (by kernel_rfl) (by kernel_rfl) (by kernel_rfl) rfl x fun T hst cd L h₁ kp hL => ?_
  refine s_body (rfl : B 36 = _ :: _) ?_
  subst hi
  have hne : run ≠ [] := fun z => by rw [z] at hlen; exact absurd hlen (Nat.lt_irrefl 0)
  have g4 := drop_cons (drop_app hd)
  obtain ⟨x, run', rfl⟩ := List.exists_cons_of_ne_nil hne
  have g5 := drop_cons (x := x) (r := run' ++ y :: rest) hd
  have hx34 : x ≠ 34 := fun e => by
    have := hrun x (.head _)
    rw [e] at this; exact absurd this (by decide +kernel)
  k_subL
  intro sl₃ h₃ kp3 hsl3
  k_subL
  refine p_cut2 (a + 1) (a + 2) hsl3 (by omega) (by omega) hz fun t₃ => ?_
  rw [show a + 2 - (a + 1) = 1 by omega, take1 g5.1]
  k_subL
  refine ⟨fun z => ?_, fun _ => ?_⟩
  · have z : (([x] : List UInt8) == [34]) = true := z
    rw [bytes_eq1] at z; exact absurd (eq_of_beq z) hx34
  k_subL
  refine run_ok_spec T (run := x :: run') hz (by omega) (by omega) hd hrun (fun w hw => by simp at hw; rw [← hw]; exact hr) hlen fun r t₄ u₄ h₄ le4 ht => ⟨_, _, _, rfl, ht, fun h₅ le5 => ?_⟩
  refine s_nil (Sub.refl _) ?_
  k_subL
  intro sl₆ h₆ kp6 hsl6
  k_subL
  refine p_cut2 (a + 1 + (x :: run').length) (a + 1 + (x :: run').length + 1) hsl6 rfl (by omega) hz fun t₇ => ?_
  rw [Nat.add_sub_cancel_left, take1 g4.1]
  k_subL
  refine ⟨fun _ => ?_, fun z => ?_⟩
  rotate_left
  · have z : (([y] : List UInt8) != [64]) = false := z
    rw [bne_eq_false_iff_eq] at z
    exact absurd (List.cons.inj z).1 hq
  refine s_cons (s_raise T ?_)
  k_subL
  refine newFault' T fun e h₉ kp9 nw => ⟨e, rfl, nw.2, ((((kp.le.trans kp3.le).trans le4).trans le5).trans kp6.le).trans kp9.le, .inl nw⟩
end
-- G4
section
variable {C : Cx} {c : Fc} {k : Nat} {m : Loc} {h : Heap} {X : Addr → Heap → Prop} {Q : Value → Heap → Prop}
/-- what of octets is ids, and which -/
inductive Toks : List UInt8 → List (List UInt8) → Prop
  | nil : Toks [] []
  | skip {x : UInt8} {r : List UInt8} {ids : List (List UInt8)} : x ≠ 60 → x ≠ 34 → x ≠ 40 → Toks r ids → Toks (x :: r) ids
  | id {lo lv ro rv rest : List UInt8} {ids : List (List UInt8)} : LeftOk lo lv → RightOk ro rv → (lv ++ rv).all plainCode = true → Toks rest ids → Toks (60 :: (lo ++ 64 :: (ro ++ 62 :: rest))) ((lv ++ 64 :: rv) :: ids)
  | bad1 {y : UInt8} {r : List UInt8} {ids : List (List UInt8)} : runCode y = false → y ≠ 34 → Toks (y :: r) ids → Toks (60 :: y :: r) ids
  | bad2 {run : List UInt8} {y : UInt8} {rest : List UInt8} {ids : List (List UInt8)} : (∀ x ∈ run, runCode x = true) → 0 < run.length → runCode y = false → y ≠ 64 → Toks (run ++ y :: rest) ids → Toks (60 :: (run ++ y :: rest)) ids
abbrev txts (ids : List (List UInt8)) : List Str := ids.map fun v => txt (codes v)
theorem Toks.len {d : List UInt8} {ids : List (List UInt8)} (x : Toks d ids) : ids.length ≤ d.length := by
  induction x with
  | nil => exact Nat.le_refl _
  | skip _ _ _ _ ih => simp only [List.length_cons]; omega
  | id _ _ _ _ ih => simp only [List.length_cons, List.length_append]; omega
  | bad1 _ _ _ ih => simp only [List.length_cons] at ih ⊢; omega
  | bad2 _ _ _ _ _ ih => simp only [List.length_cons, List.length_append] at ih ⊢; omega
theorem SL.of {h : Heap} {D : Addr} {ps : List (Str × Tok)} {ss : List Str} (x : PL h D (strValues ps)) (e : ps.map (·.1) = ss) : SL h D ss := ⟨ps, x.list, e⟩
theorem drop_nil {d : List UInt8} {a : Nat} (e : d.drop a = []) : d.length ≤ a := by
  have := congrArg List.length e
  rw [List.length_drop, List.length_nil] at this; omega
abbrev fReadIds (cd : Value) (L : Addr) (below : List Env) : Fc := Fc.fn "read_ids" (SC 38) 251 cd L below
theorem qb {x : UInt8} (h1 : x ≠ 34) (h2 : x ≠ 40) : (((34 : Int) == x.toNat) || (((40 : Int) == x.toNat) || false)) = false := by
  have e1 : ((34 : Int) == x.toNat) = false := by rw [beq_eq_false_iff_ne]; exact fun e => h1 ((u8_int (n := 34) (by omega)).mp e.symm)
  have e2 : ((40 : Int) == x.toNat) = false := by rw [beq_eq_false_iff_ne]; exact fun e => h2 ((u8_int (n := 40) (by omega)).mp e.symm)
  rw [e1, e2]; rfl
theorem read_ids_spec (T : Tops C) {d : List UInt8} {ids : List (List UInt8)} {t : Tok} (hz : d.length ≤ 16777216) (hT : Toks d ids) (q : ∀ D h', Le h h' → SL h' D (txts ids) → Q (.ref D) h') :
    W C c (k + 5) m (PySem.call (.ref 251) [.bytes d.toArray t]) h Q X := by
  refine w_fn T.toTopOk T.f_read_ids.2 (binds := [("octets", .bytes d.toArray t)]) (fun _ _ _ _ _ _ _ _ => BindsTo.of_eq rfl) (locs (by kernel_rfl)) (by decide +kernel) (by kernel_rfl) (by kernel_rfl) (by kernel_rfl) rfl fun cd L h₁ kp hL => ?_
  refine s_body (rfl : B 38 = _ :: _) ?_
  k_subL
  refine w_newListP (szl (by simp)) fun D h₂ kp2 nD bD pl h₃ le3 => ?_
  k_subL
  intro h₄ le4
  have hlen := hT.len
  have nDh : h.get? D = none := new_none kp nD
  refine s_cons (s_while (m₀ := [("at", .int 0 ‹_›), ("found", .ref D), ("octets", .bytes d.toArray t)]) (by lcg_sub)
    (fun n m' h' => ∃ (a : Nat) (ps : List (Str × Tok)) (done todo : List (List UInt8)) (ta : Tok) (ia : Int), n = d.length - a ∧ a ≤ d.length ∧ ia = (a : Int) ∧ m' = ([("at", .int ia ta), ("found", .ref D), ("octets", .bytes d.toArray t)] : Loc) ∧
      Le h h' ∧ PL h' D (strValues ps) ∧ ps.map (·.1) = txts done ∧ done ++ todo = ids ∧ Toks (d.drop a) todo) ?_ (d.length - 0) ⟨0, [], [], ids, _, _, rfl, Nat.zero_le _, rfl, rfl, ?_, (pl.le le3).le le4, rfl, rfl, hT⟩)
  rotate_left
  · exact ((kp.trans kp2).le.trans le3).trans le4
  rintro n m₁ h₅ ⟨a, ps, done, todo, ta, ia, rfl, ha, rfl, rfl, le, pl, hps, hdt, tk⟩
  have hpsl : (strValues ps).length ≤ d.length := by
    have e1 := congrArg List.length hps
    have e2 := congrArg List.length hdt
    simp [strValues] at e1 e2 ⊢
    omega
  refine w_tcmp ?_ (by kernel_rfl)
  k_subL
  refine p_len (by omega) fun t₂ => ?_
  k_subL
  refine ⟨fun z => ?_, fun z => ?_⟩
  rotate_left
  · have z := of_decide_eq_false z
    have : d.drop a = [] := List.drop_of_length_le (by omega)
    rw [this] at tk
    cases tk
    rw [List.append_nil] at hdt
    subst hdt
    k_subL
    exact q D _ le (SL.of pl hps)
  have z := of_decide_eq_true z
  have step : ∀ (x : UInt8) (m' : Loc) (tt : Tok) (h₆ : Heap), d[a]? = some x → Le h h₆ → PL h₆ D (strValues ps) → Toks (d.drop (a + 1)) todo → Sub m' [("at", .int ((a : Int) + 1) tt), ("found", .ref D), ("octets", .bytes d.toArray t)] →
      ∃ n' m₃, n' < d.length - a ∧ Sub m' m₃ ∧ ∃ (a : Nat) (ps : List (Str × Tok)) (done todo : List (List UInt8)) (ta : Tok) (ia : Int), n' = d.length - a ∧ a ≤ d.length ∧ ia = (a : Int) ∧ m₃ = ([("at", .int ia ta), ("found", .ref D), ("octets", .bytes d.toArray t)] : Loc) ∧
      Le h h₆ ∧ PL h₆ D (strValues ps) ∧ ps.map (·.1) = txts done ∧ done ++ todo = ids ∧ Toks (d.drop a) todo := fun x m' tt h₆ hx le6 pl6 tk6 su =>
    have := (List.getElem?_eq_some_iff.mp hx).1
    ⟨d.length - (a + 1), _, by omega, su, a + 1, ps, done, todo, tt, _, rfl, by omega, by omega, rfl, le6, pl6, hps, hdt, tk6⟩
  obtain ⟨s, hs⟩ : ∃ s, d.drop a = s := ⟨_, rfl⟩
  rw [hs] at tk
  refine s_cons (s_if (w_tcmp ?_ (by kernel_rfl)))
  k_subL
  refine p_item (by omega) (by omega) (by omega) fun t₃ => ?_
  k_subL
  cases tk with
  | nil => have := drop_nil hs; omega
  | @skip x r _ h60 h34 h40 tk' =>
    obtain ⟨g1, g2, g3⟩ := drop_cons hs
    rw [show d.getD (a : Int).toNat 0 = x from getD_of g1]
    refine ⟨fun e => absurd ((u8_int (n := 60) (by omega)).mp (eq_of_beq e)) h60, fun e => ?_⟩
    refine s_cons (s_if (w_tcmp ?_ (by kernel_rfl)))
    k_subL
    refine p_item (by omega) (by omega) (by omega) fun t₄ => ?_
    rw [show d.getD (a : Int).toNat 0 = x from getD_of g1]
    k_subL
    refine w_newTuple (szl (by simp)) fun E h₆ kp6 _ ht => ?_
    refine p_inT (ns := [(34, _), (40, _)]) ht ?_
    rw [show ([(34, 472), (40, 474)] : List (Int × Tok)).any (fun p => p.1 == (x.toNat : Int)) = false from qb h34 h40]
    k_subL
    refine ⟨fun z => (nomatch z), fun _ => ?_⟩
    k_subL
    intro h₇ le7
    exact s_nil (Sub.refl _) (s_nil (Sub.refl _) (s_nil (Sub.refl _) (step x _ _ _ g1 ((le.trans kp6.le).trans le7) ((pl.le kp6.le).le le7) (by rw [g2]; exact tk') (by lcg_sub))))
  | @id lo lv ro rv rest ids' hl hr hp tk' =>
    obtain ⟨g1, g2, g3⟩ := drop_cons hs
    rw [show d.getD (a : Int).toNat 0 = 60 from getD_of g1]
    refine ⟨fun _ => ?_, fun e => (nomatch e)⟩
    refine s_cons (s_try (m₂ := []) T False (by kernel_rfl) (by kernel_rfl) (fun T' hst => ?_) (fun z => z.elim))
    have bD' := pl.at (h := h₅) bD
    k_subL
    refine id_ok_spec T' hz rfl hs hl hr hp fun r t₅ u₅ h₆ le6 ht => ⟨_, _, _, rfl, ht, fun h₇ le7 => ?_⟩
    have pl7 := (pl.le le6).le le7
    k_subL
    refine ⟨_, _, rfl, pl7, ?_⟩
    k_subL
    refine ⟨_, pl7, bD', szl (by omega), fun h₈ le8 pl8 => ?_⟩
    have pl8 : PL h₈ D (strValues (ps ++ [(txt (codes (lv ++ 64 :: rv)), t₅)])) := by simpa [strValues] using pl8
    have hl := congrArg List.length hs
    simp only [List.length_drop, List.length_cons, List.length_append] at hl
    have e5 : d.drop (a + 1 + lo.length + 1 + ro.length + 1) = rest := (drop_cons (drop_app (drop_cons (drop_app g2)).2.1)).2.1
    refine s_nil (Sub.refl _) (s_nil (Sub.refl _) (s_nil (Sub.refl _) ⟨d.length - (a + 1 + lo.length + 1 + ro.length + 1), _, by omega, (by lcg_sub : Sub _ [("at", _), ("found", _), ("octets", _)]), a + 1 + lo.length + 1 + ro.length + 1, ps ++ [(txt (codes (lv ++ 64 :: rv)), t₅)], done ++ [lv ++ 64 :: rv], ids', u₅, _, rfl, by omega, rfl, rfl, ?_, pl8, ?_, ?_, ?_⟩))
    · exact ((le.trans le6).trans le7).leB le8 nDh
    · simp [hps]
    · rw [← hdt]; simp
    · rw [e5]; exact tk'
  | @bad1 y r ids' hr hy tk' =>
    obtain ⟨g1, g2, g3⟩ := drop_cons hs
    have g4 := drop_cons g2
    rw [show d.getD (a : Int).toNat 0 = 60 from getD_of g1]
    refine ⟨fun _ => ?_, fun e => (nomatch e)⟩
    refine s_cons (s_try (m₂ := [("at", .int a ta), ("found", .ref D), ("octets", .bytes d.toArray t)]) T True (by kernel_rfl) (by kernel_rfl) (fun T' hst => ?_) (fun _ h₆ le6 => ?_))
    · k_subL
      exact id_bad1_spec T' hz rfl g4.1 hr hy fun b h₆ fl le6 => ⟨le6, Sub.refl _, fl, trivial⟩
    · refine sh_incr (Live.fn (by kernel_rfl)) (by kernel_rfl) lk0 (by kernel_rfl) rfl fun t₇ h₇ le7 => ?_
      exact s_nil (Sub.refl _) (s_nil (Sub.refl _) (step 60 _ _ _ g1 ((le.trans le6).trans le7) ((pl.le le6).le le7) (by rw [g2]; exact tk') (by lcg_sub)))
  | @bad2 run y rest ids' hrun hlen hr hy tk' =>
    obtain ⟨g1, g2, g3⟩ := drop_cons hs
    rw [show d.getD (a : Int).toNat 0 = 60 from getD_of g1]
    refine ⟨fun _ => ?_, fun e => (nomatch e)⟩
    refine s_cons (s_try (m₂ := [("at", .int a ta), ("found", .ref D), ("octets", .bytes d.toArray t)]) T True (by kernel_rfl) (by kernel_rfl) (fun T' hst => ?_) (fun _ h₆ le6 => ?_))
    · k_subL
      exact id_bad2_spec T' hz rfl g2 hrun hlen hr hy fun b h₆ fl le6 => ⟨le6, Sub.refl _, fl, trivial⟩
    · refine sh_incr (Live.fn (by kernel_rfl)) (by kernel_rfl) lk0 (by kernel_rfl) rfl fun t₇ h₇ le7 => ?_
      exact s_nil (Sub.refl _) (s_nil (Sub.refl _) (step 60 _ _ _ g1 ((le.trans le6).trans le7) ((pl.le le6).le le7) (by rw [g2]; exact tk') (by lcg_sub)))
end
-- G5
section
variable {C : Cx} {c : Fc} {k : Nat} {m : Loc} {h : Heap} {X : Addr → Heap → Prop} {Q : Value → Heap → Prop}
theorem strip_len (set d : List UInt8) : (strip set d).length ≤ d.length := by
  unfold strip
  rw [List.length_reverse]
  exact Nat.le_trans (List.dropWhile_sublist _).length_le (by rw [List.length_reverse]; exact (List.dropWhile_sublist _).length_le)
theorem bodyOfRaw_len (d : List UInt8) : (bodyOfRaw d).length ≤ d.length := Nat.le_trans (strip_len _ _) (unl_len _)
/-- the fields' sizes -/
def FSz (fs : List (List UInt8 × List UInt8)) : Prop := ∀ f ∈ fs, f.1.length ≤ 16777216 ∧ f.2.length ≤ 16777216
/-- the ids of the first field of a name -/
def IdsOf (fs : List (List UInt8 × List UInt8)) (w : List Nat) (ids : List (List UInt8)) : Prop := match firstBody fs w with
  | some b => Toks b ids
  | none => ids = []
theorem firstBody_len {fs : List (List UInt8 × List UInt8)} {w : List Nat} {b : List UInt8} (hz : FSz fs) (e : firstBody fs w = some b) : b.length ≤ 16777216 := by
  unfold firstBody at e
  obtain ⟨f, e1, e2⟩ := Option.map_eq_some_iff.mp e
  rw [← e2]
  exact Nat.le_trans (bodyOfRaw_len _) (hz f (List.mem_of_find?_eq_some e1)).2
theorem IdsOf.len {fs : List (List UInt8 × List UInt8)} {w : List Nat} {ids : List (List UInt8)} (hz : FSz fs) (x : IdsOf fs w ids) : ids.length ≤ 16777216 := by
  unfold IdsOf at x
  split at x
  · rename_i b e
    exact Nat.le_trans x.len (firstBody_len hz e)
  · rw [x]; exact Nat.zero_le _
theorem ids_in_spec (T : Tops C) {D : Addr} {fs : List (List UInt8 × List UInt8)} {w : List Nat} {ws : Str} {ids : List (List UInt8)} {t : Tok} (hf : Fl h D fs) (hz : FSz fs) (hw : w.length ≤ 16777216) (hwl : ∀ x ∈ w, x < 1114000) (hws : ws = txt w) (hI : IdsOf fs w ids)
    (q : ∀ D h', Le h h' → SL h' D (txts ids) → Q (.ref D) h') :
    W C c (k + 6) m (PySem.call (.ref 275) [.ref D, .str ws t]) h Q X := by
  subst hws
  refine w_fn T.toTopOk T.f_ids_in.2 (binds := [("fields", .ref D), ("word", .str (txt w) t)]) (fun _ _ _ _ _ _ _ _ => BindsTo.of_eq rfl) (locs (by kernel_rfl)) (by decide +kernel) (by kernel_rfl) (by kernel_rfl) (by kernel_rfl) rfl fun cd L h₁ kp hL => ?_
  refine s_body (rfl : B 42 = _ :: _) ?_
  k_subL
  refine first_body_spec T (hf.le kp.le) hz hw hwl fun t₂ h₂ le2 h₃ le3 => ?_
  have le := (kp.le.trans le2).trans le3
  unfold IdsOf at hI
  cases hb : firstBody fs w with
  | none =>
    rw [hb] at hI
    subst hI
    dsimp only
    k_subL
    refine ⟨fun _ => ?_, fun z => (nomatch z)⟩
    k_subL
    exact w_newListP (szl (by simp)) fun E h₄ kp4 nE bE pl => q E _ (le.trans kp4.le) ⟨[], pl.list, rfl⟩
  | some b =>
    rw [hb] at hI
    dsimp only
    k_subL
    refine ⟨fun z => (nomatch z), fun _ => ?_⟩
    k_subL
    exact read_ids_spec T (firstBody_len hz hb) hI fun E h₄ le4 sl => q E _ (le.trans le4) sl
end
-- G6
section
variable {C : Cx} {c : Fc} {k : Nat} {m : Loc} {h : Heap} {X : Addr → Heap → Prop} {Q : Value → Heap → Prop}
def wMsg : List Nat := [109, 101, 115, 115, 97, 103, 101, 45, 105, 100]
def wRef : List Nat := [114, 101, 102, 101, 114, 101, 110, 99, 101, 115]
def wRep : List Nat := [105, 110, 45, 114, 101, 112, 108, 121, 45, 116, 111]
def wSub : List Nat := [115, 117, 98, 106, 101, 99, 116]
theorem wMsg_eq : Str.ofString "message-id" = txt wMsg := by decide +kernel
theorem wRef_eq : Str.ofString "references" = txt wRef := by decide +kernel
theorem wRep_eq : Str.ofString "in-reply-to" = txt wRep := by decide +kernel
theorem wSub_eq : Str.ofString "subject" = txt wSub := by decide +kernel
/-- the first of some texts, or the empty one -/
def headS (ids : List (List UInt8)) : Str := (txts ids).headD ""
/-- the references, or the first reply -/
def refsOf (refs reps : List (List UInt8)) : List (List UInt8) := if refs = [] then reps.take 1 else refs
theorem slice_to (items : List Value) (n : Nat) : slicePick items.toArray none (some (n : Int)) none = (items.take n).toArray := by
  rw [kms_pick_eq]
  unfold kms_pick kms_lo kms_hi
  simp only [List.drop_zero, Nat.sub_zero, if_neg (show ¬ ((n : Int) < 0) by omega), Int.toNat_natCast, kmk_take_min]
theorem slice_to1 (items : List Value) : slicePick items.toArray none (some 1) none = (items.take 1).toArray := slice_to items 1
theorem thread_ids_spec (T : Tops C) {D : Addr} {fs : List (List UInt8 × List UInt8)} {own refs reps : List (List UInt8)} (hf : Fl h D fs) (hz : FSz fs) (h1 : IdsOf fs wMsg own) (h2 : IdsOf fs wRef refs) (h3 : IdsOf fs wRep reps)
    (q : ∀ R E u h', Le h h' → h'.IsTuple R #[.str (headS own) u, .ref E] → SL h' E (txts (refsOf refs reps)) → Q (.ref R) h') :
    W C c (k + 7) m (PySem.call (.ref 282) [.ref D]) h Q X := by
  refine w_fn T.toTopOk T.f_thread_ids.2 (binds := [("fields", .ref D)]) (fun _ _ _ _ _ _ _ _ => BindsTo.of_eq rfl) (locs (by kernel_rfl)) (by decide +kernel) (by kernel_rfl) (by kernel_rfl) (by kernel_rfl) rfl fun cd L h₁ kp hL => ?_
  refine s_body (rfl : B 43 = _ :: _) ?_
  k_subL
  refine ids_in_spec T (hf.le kp.le) hz (by decide) (by decide) wMsg_eq h1 fun A h₂ le2 slA h₃ le3 => ?_
  have le := (kp.le.trans le2).trans le3
  have slA := slA.le le3
  k_subL
  refine ids_in_spec T (hf.le le) hz (by decide) (by decide) wRef_eq h2 fun R h₄ le4 slR h₅ le5 => ?_
  have le := (le.trans le4).trans le5
  have slA := (slA.le le4).le le5
  have slR := slR.le le5
  have last : ∀ (E : Addr) (h₆ : Heap), Le h h₆ → SL h₆ A (txts own) → SL h₆ E (txts (refsOf refs reps)) → S C (Fc.fn "thread_ids" (SC 43) 282 cd L c.frames) (k + 6) [("references", .ref E), ("own", .ref A), ("fields", .ref D)]
      (execs ((B 43).drop 3) (Fc.fn "thread_ids" (SC 43) 282 cd L c.frames).env) h₆ (fun _ h' => Q .none h') Q (fun _ _ _ => False) := fun E h₆ le6 slA slE => by
    refine s_body (rfl : (B 43).drop 3 = _ :: _) ?_
    obtain ⟨ps, hl, hps⟩ := slA
    have hlen : ps.length = own.length := by have := congrArg List.length hps; simpa using this
    have hsz : ps.length ≤ 16777216 := by rw [hlen]; exact h1.len hz
    k_subL
    refine p_truthyL hl (szl (by simpa [strValues] using hsz)) ?_
    cases ps with
    | nil =>
      have ho : own = [] := List.eq_nil_of_length_eq_zero hlen.symm
      subst ho
      refine ⟨fun z => (nomatch z), fun _ => ?_⟩
      k_subL
      exact w_newTuple (szl (by simp)) fun r h₇ kp7 _ ht => q r E _ _ (le6.trans kp7.le) ht (slE.le kp7.le)
    | cons p ps =>
      refine ⟨fun _ => ?_, fun z => (nomatch z)⟩
      k_subL
      refine w_tailL hl (p_itemL hl (by decide) (by decide) (x := .str p.1 p.2) rfl ?_)
      have hh : headS own = p.1 := by unfold headS; rw [← hps]; rfl
      rw [hh] at q
      k_subL
      exact w_newTuple (szl (by simp)) fun r h₇ kp7 _ ht => q r E _ _ (le6.trans kp7.le) ht (slE.le kp7.le)
  obtain ⟨pr, hlR, hpr⟩ := id slR
  have hlen : pr.length = refs.length := by have := congrArg List.length hpr; simpa using this
  k_subL
  refine w_newListP (szl (by simp)) fun N h₆ kp6 nN bN pl => ?_
  refine p_eqNil (le_isList kp6.le hlR) pl.list ?_
  have le := le.trans kp6.le
  have slA := slA.le kp6.le
  have slR := slR.le kp6.le
  k_subL
  cases refs with
  | nil =>
    have : pr = [] := List.eq_nil_of_length_eq_zero hlen
    subst this
    refine ⟨fun _ => ?_, fun z => (nomatch z)⟩
    k_subL
    refine ids_in_spec T (hf.le le) hz (by decide) (by decide) wRep_eq h3 fun P h₇ le7 slP => ?_
    k_subL
    intro sl h₈ kp8 hsl
    obtain ⟨pp, hlP, hpp⟩ := slP
    have hplen : pp.length = reps.length := by have := congrArg List.length hpp; simpa using this
    have hlP := le_isList kp8.le hlP
    refine w_tailL hlP (p_sliceL hlP hsl .none (.int _ _) (szl (by have := h3.len hz; simp [strValues]; omega)) fun V h₉ kp9 nV hV h₁₀ le10 => ?_)
    rw [slice_to1] at hV
    have le' := le7.trans (kp8.le.trans (kp9.le.trans le10))
    refine s_nil (Sub.refl _) (S.sub (last V h₁₀ (le.trans le') (slA.le le') (SL.le ⟨pp.take 1, ?_, ?_⟩ le10)) (by lcg_sub))
    · rw [show strValues (pp.take 1) = (strValues pp).take 1 from by simp [strValues]]; exact hV
    · simp [refsOf, hpp]
  | cons r refs =>
    refine ⟨fun z => ?_, fun _ => ?_⟩
    · cases pr with
      | nil => simp at hlen
      | cons _ _ => exact nomatch z
    · refine s_nil (Sub.refl _) (S.sub (last R _ le slA slR) (by lcg_sub))
end
-- G7
section
variable {C : Cx} {c : Fc} {k : Nat} {m : Loc} {h : Heap} {X : Addr → Heap → Prop} {Q : Value → Heap → Prop}
def isW (x : UInt8) : Bool := x == 32 || x == 9
/-- the folded lines behind a line: last and later before, last and later behind -/
inductive Fold (d : List UInt8) : Nat → Nat → Nat → Nat → Prop
  | done {l n : Nat} : (∀ x, d[n]? = some x → isW x = false) → Fold d l n l n
  | more {l n l' n' : Nat} {x : UInt8} : d[n]? = some x → isW x = true → Fold d (n + (lineLen (d.drop n)).1) (n + (lineLen (d.drop n)).2) l' n' → Fold d l n l' n'
/-- the fields of octets, from a place on -/
inductive Spans (d : List UInt8) : Nat → List (List UInt8 × List UInt8) → Prop
  | stop : Spans d d.length []
  | blank {a : Nat} : a < d.length → (lineLen (d.drop a)).1 = 0 → Spans d a []
  | field {a i l n : Nat} {fs : List (List UInt8 × List UInt8)} : a < d.length → (lineLen (d.drop a)).1 ≠ 0 → ((d.take (a + (lineLen (d.drop a)).1)).drop a).findIdx? (· == 58) = some i → isName ((d.drop a).take i) = true →
      Fold d (a + (lineLen (d.drop a)).1) (a + (lineLen (d.drop a)).2) l n → Spans d n fs → Spans d a (((d.drop a).take i, (d.drop (a + i + 1)).take (l - (a + i + 1))) :: fs)
theorem lineLen_pos {r : List UInt8} (hr : 0 < r.length) : 0 < (lineLen r).2 := by
  obtain ⟨f1, f2, f3, f4⟩ := line_facts r
  by_cases e : (lineLen r).1 = r.length
  · omega
  · exact (f4 e).1
theorem Fold.le {d : List UInt8} {l n l' n' : Nat} (x : Fold d l n l' n') : l ≤ n → n ≤ d.length → l' ≤ n' ∧ n' ≤ d.length ∧ n ≤ n' ∧ (l' = l ∨ n ≤ l') := by
  induction x with
  | done _ => exact fun a b => ⟨a, b, Nat.le_refl _, .inl rfl⟩
  | @more l n l' n' x hx _ _ ih =>
    intro a b
    obtain ⟨f1, f2, -, -⟩ := line_facts (d.drop n)
    rw [List.length_drop] at f2
    have := (List.getElem?_eq_some_iff.mp hx).1
    obtain ⟨i1, i2, i3, i4⟩ := ih (by omega) (by omega)
    exact ⟨i1, i2, by omega, .inr (by omega)⟩
/-- the rows of read_spans -/
def Rw (h : Heap) (D : Addr) (fs : List (List UInt8 × List UInt8)) : Prop :=
  ∃ items : List Value, PL h D items ∧ items.length = fs.length ∧ ∀ (i : Nat) (f : List UInt8 × List UInt8), fs[i]? = some f → ∃ b a x y, items[i]? = some (Value.ref b) ∧ h.IsTuple b #[.ref a, x, y] ∧ FieldAt h a f.1 f.2
theorem FieldAt.leB {h h' : Heap} {x D : Addr} {n r : List UInt8} {items : List Value} (y : FieldAt h x n r) (l : LeB D h h') (pl : PL h D items) : FieldAt h' x n r := by
  obtain ⟨dx, sx, sd, tn, tr, k1, k2, h1, h2, e1, e2⟩ := y
  obtain ⟨sl, nn, eD⟩ := pl
  obtain ⟨s1, e1'⟩ := l.le _ _ (fun z => by rw [z, eD] at e1; cases e1) e1 (fun vs z => by cases z) (fun z => by cases z)
  obtain ⟨s2, e2'⟩ := l.le _ _ (fun z => by rw [z, eD] at e2; simp at e2) e2 (fun vs z => by cases z) (show Value.type "dict" ≠ .type "frame" by decide)
  exact ⟨dx, s1, s2, tn, tr, k1, k2, h1, h2, e1', e2'⟩
theorem tuple_leB {h h' : Heap} {x D : Addr} {vs : Array Value} {items : List Value} (y : h.IsTuple x vs) (l : LeB D h h') (pl : PL h D items) : h'.IsTuple x vs := by
  obtain ⟨o, e, e1, n, e2⟩ := y
  obtain ⟨sl, nn, eD⟩ := pl
  obtain ⟨sl', e'⟩ := l.le _ _ (fun z => by rw [z, eD] at e; cases e; simp at e1) e (fun vs q => by rw [e2] at q; cases q) (by rw [e1]; decide)
  exact ⟨_, e', e1, n, e2⟩
theorem Rw.le {h h' : Heap} {D : Addr} {fs : List (List UInt8 × List UInt8)} (x : Rw h D fs) (l : Le h h') : Rw h' D fs := by
  obtain ⟨items, e1, e2, e3⟩ := x
  exact ⟨items, e1.le l, e2, fun i f e => let ⟨b, a, u, v, q1, q2, q3⟩ := e3 i f e; ⟨b, a, u, v, q1, le_isTuple l q2, q3.le l⟩⟩
theorem Rw.nil {h : Heap} {D : Addr} (x : PL h D []) : Rw h D [] := ⟨[], x, rfl, fun i f e => by cases e⟩
theorem Rw.push {h h' : Heap} {D : Addr} {fs : List (List UInt8 × List UInt8)} {items : List Value} {b a : Addr} {u v : Value} {f : List UInt8 × List UInt8} (x : Rw h D fs) (l : LeB D h h') (pl : PL h D items) (pl' : PL h' D (items ++ [.ref b])) (ht : h.IsTuple b #[.ref a, u, v]) (hf : FieldAt h a f.1 f.2) : Rw h' D (fs ++ [f]) := by
  obtain ⟨items', e1, e2, e3⟩ := x
  have : items' = items := by
    obtain ⟨s1, n1, q1⟩ := e1
    obtain ⟨s2, n2, q2⟩ := pl
    rw [q1] at q2
    simp only [Option.some.injEq, Obj.mk.injEq, Data.seq.injEq] at q2
    have := congrArg Array.toList q2.2.2.1.1
    simpa using this
  subst this
  refine ⟨items' ++ [.ref b], pl', by simp [e2], fun i g e => ?_⟩
  by_cases hi : i < fs.length
  · rw [List.getElem?_append_left hi] at e
    obtain ⟨b', a', u', v', q1, q2, q3⟩ := e3 i g e
    exact ⟨b', a', u', v', by rw [List.getElem?_append_left (by omega)]; exact q1, tuple_leB q2 l pl, q3.leB l pl⟩
  · rw [List.getElem?_append_right (by omega)] at e
    have h1 := (List.getElem?_eq_some_iff.mp e).1
    simp only [List.length_cons, List.length_nil] at h1
    have h0 : i - fs.length = 0 := by omega
    rw [h0] at e; cases e
    exact ⟨b, a, u, v, by rw [List.getElem?_append_right (by omega), e2, h0]; rfl, tuple_leB ht l pl, hf.leB l pl⟩
def bodyOfW (b : List Stmt) (i : Nat) : List Stmt := match b[i]? with
  | some (.While _ b _ _) => b
  | _ => []
abbrev fSpans (cd : Value) (L : Addr) (below : List Env) : Fc := Fc.fn "read_spans" (SC 13) 136 cd L below
theorem white_eq (x : UInt8) : (((32 : Int) == x.toNat) || (((9 : Int) == x.toNat) || false)) = isW x := by
  have e1 : ((32 : Int) == x.toNat) = (x == 32) := by rw [Bool.eq_iff_iff, beq_iff_eq, beq_iff_eq, eq_comm]; exact u8_int (n := 32) (by omega)
  have e2 : ((9 : Int) == x.toNat) = (x == 9) := by rw [Bool.eq_iff_iff, beq_iff_eq, beq_iff_eq, eq_comm]; exact u8_int (n := 9) (by omega)
  rw [e1, e2, Bool.or_false]; rfl
set_option maxHeartbeats 2000000 in
theorem read_spans_spec (T : Tops C) {d : List UInt8} {fs : List (List UInt8 × List UInt8)} {t u v : Tok} (hz : d.length ≤ 16777216) (hS : Spans d 0 fs)
    (q : ∀ D R x h', Le h h' → h'.IsTuple R #[.ref D, x] → Rw h' D fs → Q (.ref R) h') :
    W C c (k + 3) m (PySem.call (.ref 136) [.bytes d.toArray t, .int 0 u, .int (-1) v]) h Q X := by
  obtain ⟨oo, n', t', u', e', hd'⟩ := T.dfl_spans
  refine w_fn T.toTopOk T.f_read_spans.2 (binds := [("data", .bytes d.toArray t), ("at", .int 0 u), ("end", .int (-1) v)]) (fun s _ _ _ _ _ _ hK => BindsTo.of_defaults (T := 129) rfl (hK _ _ e') hd' rfl rfl) (locs (by kernel_rfl)) (by decide +kernel) (by kernel_rfl) (by kernel_rfl) (by kernel_rfl) rfl fun cd L h₁ kp hL => ?_
  refine s_body (rfl : B 13 = _ :: _) ?_
  k_subL
  refine ⟨fun _ => ?_, fun z => (nomatch z)⟩
  k_subL
  refine p_len (by omega) fun t₂ h₂ le2 => ?_
  k_subL
  refine w_newListP (szl (by simp)) fun D h₃ kp3 nD bD pl h₄ le4 => ?_
  k_subL
  intro h₅ le5
  refine s_cons (s_while (m₀ := [("here", .int 0 u), ("rows", .ref D), ("stop", .int d.length t₂), ("data", .bytes d.toArray t)]) (by lcg_sub)
    (fun n m' h' => ∃ (a : Nat) (done todo : List (List UInt8 × List UInt8)) (ta : Tok) (ia : Int), n = d.length - a ∧ ia = (a : Int) ∧ m' = ([("here", .int ia ta), ("rows", .ref D), ("stop", .int d.length t₂), ("data", .bytes d.toArray t)] : Loc) ∧
      Le h₂ h' ∧ Rw h' D done ∧ done.length ≤ a ∧ done ++ todo = fs ∧ Spans d a todo) ?_ (d.length - 0) ⟨0, [], fs, _, _, rfl, rfl, rfl, (kp3.le.trans le4).trans le5, Rw.nil ((pl.le le4).le le5), Nat.le_refl _, rfl, hS⟩)
  rintro n m₁ h₆ ⟨a, done, todo, ta, ia, rfl, rfl, rfl, le6, rw6, hdn, hdt, sp⟩
  have back : ∀ h', Le h₂ h' → Le h h' := fun h' x => (kp.le.trans le2).trans x
  k_subL
  cases sp with
  | stop =>
    refine ⟨fun z => by have := of_decide_eq_true z; omega, fun _ => ?_⟩
    rw [List.append_nil] at hdt
    subst hdt
    k_subL
    exact w_newTuple (szl (by simp)) fun r h₇ kp7 _ ht => q D r _ _ (back _ (le6.trans kp7.le)) ht (rw6.le kp7.le)
  | blank hlt h0 =>
    refine ⟨fun _ => ?_, fun z => by have := of_decide_eq_false z; omega⟩
    rw [List.append_nil] at hdt
    subst hdt
    k_subL
    refine line_at_spec T (a := a) (by omega) hz fun r h₇ le7 ht => ?_
    obtain ⟨u1, u2, ht⟩ := ht
    refine ⟨_, _, _, rfl, ht, fun h₈ le8 => ?_⟩
    k_subL
    refine ⟨fun _ => ?_, fun z => ?_⟩
    · k_subL
      exact w_newTuple (szl (by simp)) fun r h₉ kp9 _ ht => q D r _ _ (back _ (((le6.trans le7).trans le8).trans kp9.le)) ht (((rw6.le le7).le le8).le kp9.le)
    · rw [h0, Nat.add_zero, beq_self_eq_true] at z; cases z
  | @field _ i l nn fs' hlt h0 hc hnm hfold hsp =>
    refine ⟨fun _ => ?_, fun z => by have := of_decide_eq_false z; omega⟩
    k_subL
    refine line_at_spec T (a := a) (by omega) hz fun r h₇ le7 ht => ?_
    obtain ⟨u1, u2, ht⟩ := ht
    refine ⟨_, _, _, rfl, ht, fun h₈ le8 => ?_⟩
    obtain ⟨f1, f2, -, -⟩ := line_facts (d.drop a)
    rw [List.length_drop] at f2
    k_subL
    refine ⟨fun z => ?_, fun _ => s_nil (Sub.refl _) ?_⟩
    · have := eq_of_beq z; omega
    k_subL
    refine colon_in_spec T (a := a) (e := a + (lineLen (d.drop a)).1) (by omega) (by omega) hz fun t₉ h₉ le9 => ?_
    simp only [hc, hnm, if_true]
    intro h₁₀ le10
    k_subL
    refine ⟨fun z => by have := of_decide_eq_true z; omega, fun _ => s_nil (Sub.refl _) ?_⟩
    have le10' := (((le6.trans le7).trans le8).trans le9).trans le10
    have rw10 := (((rw6.le le7).le le8).le le9).le le10
    obtain ⟨fo1, fo2, fo3, fo4⟩ := hfold.le (by omega) (by omega)
    have hil := findIdx_lt hc
    rw [List.length_drop, List.length_take] at hil
    refine s_cons (s_while (m₀ := [("colon", .int ((a + i : Nat) : Int) t₉), ("later", .int ((a + (lineLen (d.drop a)).2 : Nat) : Int) u2), ("last", .int ((a + (lineLen (d.drop a)).1 : Nat) : Int) u1), ("here", .int (a : Int) ta), ("rows", .ref D), ("stop", .int d.length t₂), ("data", .bytes d.toArray t)]) (by lcg_sub)
      (fun n m' h' => ∃ (l' n' : Nat) (tl tn : Tok), n = d.length - n' ∧ n' ≤ d.length ∧ m' = ([("colon", .int ((a + i : Nat) : Int) t₉), ("later", .int (n' : Int) tn), ("last", .int (l' : Int) tl), ("here", .int (a : Int) ta), ("rows", .ref D), ("stop", .int d.length t₂), ("data", .bytes d.toArray t)] : Loc) ∧
        Le h₂ h' ∧ Rw h' D done ∧ Fold d l' n' l nn) ?_ (d.length - (a + (lineLen (d.drop a)).2)) ⟨_, _, _, _, rfl, by omega, rfl, le10', rw10, hfold⟩)
    rintro n' m₁ h₁₁ ⟨l', n', tl, tn, rfl, hn', rfl, le11, rw11, fold⟩
    have after : ∀ (tl tn : Tok) (h₁₂ : Heap), Le h₂ h₁₂ → Rw h₁₂ D done →
        S C (fSpans cd L c.frames) (k + 2) [("colon", .int ((a + i : Nat) : Int) t₉), ("later", .int (nn : Int) tn), ("last", .int (l : Int) tl), ("here", .int (a : Int) ta), ("rows", .ref D), ("stop", .int d.length t₂), ("data", .bytes d.toArray t)]
          (execs ((bodyOfW (B 13) 3).drop 5) (fSpans cd L c.frames).env) h₁₂ (fun m₂ h₃ => ∃ n' m₃, n' < d.length - a ∧ Sub m₂ m₃ ∧ ∃ (a : Nat) (done todo : List (List UInt8 × List UInt8)) (ta : Tok) (ia : Int), n' = d.length - a ∧ ia = (a : Int) ∧ m₃ = ([("here", .int ia ta), ("rows", .ref D), ("stop", .int d.length t₂), ("data", .bytes d.toArray t)] : Loc) ∧
      Le h₂ h₃ ∧ Rw h₃ D done ∧ done.length ≤ a ∧ done ++ todo = fs ∧ Spans d a todo) Q (fun _ _ _ => False) := fun tl tn h₁₂ le12 rw12 => by
      refine s_body (rfl : (bodyOfW (B 13) 3).drop 5 = _ :: _) ?_
      obtain ⟨items, pl12, hil2, -⟩ := id rw12
      k_subL
      refine ⟨_, _, rfl, pl12, ?_⟩
      k_subL
      intro sl1 h₁₃ kp13 hsl1
      k_subL
      refine p_cut2 a (a + i) hsl1 rfl rfl hz fun t₁₄ => ?_
      rw [Nat.add_sub_cancel_left]
      k_subL
      intro sl2 h₁₄ kp14 hsl2
      k_subL
      refine p_cut2 (a + i + 1) l hsl2 (by omega) rfl hz fun t₁₅ => ?_
      k_subL
      refine newField T fun x h₁₅ kp15 hx => ?_
      k_subL
      refine w_newTuple (szl (by simp)) fun r h₁₆ kp16 _ ht => ?_
      have kk := ((kp13.trans kp14).trans kp15).trans kp16
      have pl16 := pl12.le kk.le
      refine ⟨_, pl16, bD, szl (by have e := congrArg List.length hdt; have := List.length_append (as := done) (bs := ((d.drop a).take i, (d.drop (a + i + 1)).take (l - (a + i + 1))) :: fs'); omega), fun h₁₇ le17 pl17 => ?_⟩
      have rw17 := (rw12.le kk.le).push (f := ((d.drop a).take i, (d.drop (a + i + 1)).take (l - (a + i + 1)))) le17 pl16 pl17 ht (hx.le kp16.le)
      have le17' : Le h₂ h₁₇ := (le12.trans kk.le).leB le17 nD
      k_subL
      intro h₁₈ le18
      exact s_nil (Sub.refl _) ⟨d.length - nn, _, by omega, (by lcg_sub : Sub _ [("here", _), ("rows", _), ("stop", _), ("data", _)]), nn, _, fs', _, _, rfl, rfl, rfl, le17'.trans le18, rw17.le le18, by rw [List.length_append]; simp only [List.length_cons, List.length_nil]; omega, by rw [← hdt]; simp, hsp⟩
    k_subL
    cases fold with
    | done hx =>
      by_cases hlt2 : nn < d.length
      · refine ⟨fun _ => ?_, fun z => by have := of_decide_eq_false z; omega⟩
        have hg : d[nn]? = some d[nn] := List.getElem?_eq_getElem hlt2
        refine w_tand (w_tcmp ?_ (by kernel_rfl))
        k_subL
        refine p_item (by omega) (by omega) (by omega) fun t₁₂ => ?_
        rw [show d.getD (nn : Int).toNat 0 = d[nn] from getD_of hg]
        k_subL
        refine p_white T ?_
        rw [white_eq, hx _ hg]
        k_subL
        exact ⟨fun z => (nomatch z), fun _ => ⟨fun z => (nomatch z), fun _ => after _ _ _ le11 rw11⟩⟩
      · exact ⟨fun z => by have := of_decide_eq_true z; omega, fun _ => ⟨fun z => (nomatch z), fun _ => after _ _ _ le11 rw11⟩⟩
    | @more _ _ _ _ x hx hw fold' =>
      have hlt2 := (List.getElem?_eq_some_iff.mp hx).1
      refine ⟨fun _ => ?_, fun z => by have := of_decide_eq_false z; omega⟩
      refine w_tand (w_tcmp ?_ (by kernel_rfl))
      k_subL
      refine p_item (by omega) (by omega) (by omega) fun t₁₂ => ?_
      rw [show d.getD (n' : Int).toNat 0 = x from getD_of hx]
      k_subL
      refine p_white T ?_
      rw [white_eq, hw]
      k_subL
      refine ⟨fun _ => ?_, fun z => (nomatch z)⟩
      k_subL
      refine ⟨fun _ => ?_, fun z => (nomatch z)⟩
      obtain ⟨e1, e2, -, -⟩ := line_facts (d.drop n')
      have e3 := lineLen_pos (r := d.drop n') (by rw [List.length_drop]; omega)
      rw [List.length_drop] at e2
      k_subL
      refine line_at_spec T (a := n') (by omega) hz fun r h₁₃ le13 ht => ?_
      obtain ⟨v1, v2, ht⟩ := ht
      refine ⟨_, _, _, rfl, ht, fun h₁₄ le14 => ?_⟩
      exact s_nil (Sub.refl _) ⟨d.length - (n' + (lineLen (d.drop n')).2), _, by omega, (by lcg_sub : Sub _ [("colon", _), ("later", _), ("last", _), ("here", _), ("rows", _), ("stop", _), ("data", _)]), _, _, _, _, rfl, by omega, rfl, (le11.trans le13).trans le14, (rw11.le le13).le le14, fold'⟩
end
-- G8
section
variable {C : Cx} {c : Fc} {k : Nat} {m : Loc} {h : Heap} {X : Addr → Heap → Prop} {Q : Value → Heap → Prop}
theorem p_itemT {t : Addr} {items : List Value} {i : Nat} {u : Tok} {x : Value} (ht : h.IsTuple t items.toArray) (hi : i < 1000) (hx : items[i]? = some x) (q : Q x h) : W C c k m (getItem (.ref t) (.int i u)) h Q X :=
  W.same (v := fun _ => x) (fun _ => q) fun A s E Q' hA hh r => getItem_tuple (hh ▸ ht) (by omega) (by omega) (j := i) (by
    have := (List.getElem?_eq_some_iff.mp hx).1
    unfold seqIndex?
    simp; omega) (by simpa using hx) (r 0 _)
theorem w_tailT {a b : Expr} {l : Addr} {items : Array Value} {i : Value} (hl : h.IsTuple l items) (z : W C c k m (getItem (.ref l) i) h Q X) : W C c k m (subscriptTail a b (.ref l) i) h Q X :=
  w_tail (T := "tuple") (id := "tuple.__getitem__") (fun s e => by subst e; obtain ⟨o, e, e1, _⟩ := hl; exact ⟨o, e, e1⟩) PyProof.Rows.slot_tuple_getitem.lookup z
theorem Res.all {P : Nat → Value → Prop} {F : Nat → Value → Value → Prop} {n : Nat} {ys : List Value} (r : Res P (fun _ => true) F n ys) : ys.length = n ∧ ∀ (i : Nat) (w : Value), ys[i]? = some w → ∃ v, P i v ∧ F i v w := by
  induction r with
  | nil => exact ⟨rfl, fun i w e => by cases e⟩
  | skip _ _ e _ => cases e
  | @take i ys v w _ hp _ hf ih =>
    refine ⟨by simp [ih.1], fun j x e => ?_⟩
    by_cases hj : j < ys.length
    · rw [List.getElem?_append_left hj] at e; exact ih.2 j x e
    · rw [List.getElem?_append_right (by omega)] at e
      have h1 := (List.getElem?_eq_some_iff.mp e).1
      simp only [List.length_cons, List.length_nil] at h1
      have h0 : j - ys.length = 0 := by omega
      rw [h0] at e; cases e
      have : j = i := by omega
      subst this
      exact ⟨v, hp, hf⟩
theorem Spans.len {d : List UInt8} {a : Nat} {fs : List (List UInt8 × List UInt8)} (x : Spans d a fs) : a ≤ d.length ∧ fs.length ≤ d.length - a ∧ ∀ f ∈ fs, f.1.length ≤ d.length ∧ f.2.length ≤ d.length := by
  induction x with
  | stop => exact ⟨Nat.le_refl _, Nat.zero_le _, fun f hf => by cases hf⟩
  | blank hlt _ => exact ⟨by omega, Nat.zero_le _, fun f hf => by cases hf⟩
  | @field a i l n fs hlt h0 hc hnm hfold hsp ih =>
    obtain ⟨f1, f2, -, -⟩ := line_facts (d.drop a)
    have f3 := lineLen_pos (r := d.drop a) (by rw [List.length_drop]; omega)
    rw [List.length_drop] at f2
    obtain ⟨g1, g2, g3, g4⟩ := hfold.le (by omega) (by omega)
    refine ⟨by omega, by rw [List.length_cons]; omega, fun f hf => ?_⟩
    rcases List.mem_cons.mp hf with rfl | hf
    · simp only [List.length_take, List.length_drop]; omega
    · exact ih.2.2 f hf
theorem Spans.fsz {d : List UInt8} {a : Nat} {fs : List (List UInt8 × List UInt8)} (x : Spans d a fs) (hz : d.length ≤ 16777216) : FSz fs := fun f hf => by
  have := x.len.2.2 f hf; omega
theorem read_fields_spec (T : Tops C) {d : List UInt8} {fs : List (List UInt8 × List UInt8)} {t : Tok} (hz : d.length ≤ 16777216) (hS : Spans d 0 fs)
    (q : ∀ D R x h', Le h h' → h'.IsTuple R #[.ref D, x] → Fl h' D fs → Q (.ref R) h') :
    W C c (k + 4) m (PySem.call (.ref 142) [.bytes d.toArray t]) h Q X := by
  obtain ⟨oo, n', t', u', e', hd'⟩ := T.dfl_fields
  refine w_fn T.toTopOk T.f_read_fields.2 (binds := [("data", .bytes d.toArray t), ("at", .int 0 t'), ("end", .int (-1) u')]) (fun s _ _ _ _ _ _ hK => BindsTo.of_defaults (T := 137) rfl (hK _ _ e') hd' rfl rfl) (locs (by kernel_rfl)) (by decide +kernel) (by kernel_rfl) (by kernel_rfl) (by kernel_rfl) rfl fun cd L h₁ kp hL => ?_
  refine s_body (rfl : B 14 = _ :: _) ?_
  k_subL
  refine read_spans_spec T hz hS fun D R x h₂ le2 ht rw2 => ⟨_, _, _, rfl, ht, fun h₃ le3 => ?_⟩
  obtain ⟨items, pl, hil, hit⟩ := rw2.le le3
  have hln := hS.len.2.1
  k_subL
  refine w_comp (fun _ => true) (fun i v w => ∀ f, fs[i]? = some f → ∃ a, w = .ref a ∧ FieldAt h₃ a f.1 f.2) (by decide +kernel) (by kernel_rfl) (by decide +kernel) (by decide +kernel) (by kernel_rfl) (fun _ => rfl) ?_
  k_subL
  refine w_iterL pl.list fun I h₄ St kp4 nI it st hl4 => ⟨I, _, _, _, _, rfl, kp4, nI, it, st, hl4, szl (by omega), ?_, ?_⟩
  · rintro L' i v h₅ hi hv le5 _
    refine w_tst0 ⟨Le.refl _, rfl, fun _ => ?_⟩
    have hi' : i < fs.length := by omega
    obtain ⟨b, a, y, z, q1, q2, q3⟩ := hit i fs[i] (List.getElem?_eq_getElem hi')
    rw [hv] at q1
    cases q1
    have q2' := le_isTuple (kp4.le.trans le5) q2
    k_subL
    refine w_tailT q2' (p_itemT (i := 0) q2' (by decide) rfl ⟨Le.refl _, fun f hf => ?_⟩)
    rw [List.getElem?_eq_getElem hi'] at hf
    cases hf
    exact ⟨a, rfl, q3⟩
  · intro D' ys h₆ le6 nD r hD
    k_subL
    have le46 := kp4.le.trans le6
    obtain ⟨r1, r2⟩ := r.all
    refine w_newTuple (szl (by simp)) fun r h₇ kp7 _ ht => q D' r _ _ ((((kp.le.trans le2).trans le3).trans le46).trans kp7.le) ht ⟨ys, le_isList kp7.le hD, by omega, fun i f hf => ?_⟩
    have hi' := (List.getElem?_eq_some_iff.mp hf).1
    have hy : ys[i]? = some ys[i] := List.getElem?_eq_getElem (by omega)
    obtain ⟨v, _, hv⟩ := r2 i _ hy
    obtain ⟨a, e1, e2⟩ := hv f hf
    exact ⟨a, by rw [hy, e1], e2.le (le46.trans kp7.le)⟩
end
-- G9
section
variable {C : Cx} {c : Fc} {k : Nat} {m : Loc} {h : Heap} {X : Addr → Heap → Prop} {Q : Value → Heap → Prop}
theorem escaped_spec (T : Tops C) {d signs : List UInt8} {t u : Tok} (hz : d.length ≤ 16777216) (hd : ∀ x ∈ d, x ≠ 0 ∧ x ≠ 10 ∧ x ≠ 13 ∧ signs.contains x = false) (q : ∀ t h', Le h h' → Q (.bytes d.toArray t) h') :
    W C c (k + 1) m (PySem.call (.ref 206) [.bytes d.toArray t, .bytes signs.toArray u]) h Q X := by
  refine w_fn T.toTopOk T.f_escaped_octets.2 (binds := [("octets", .bytes d.toArray t), ("signs", .bytes signs.toArray u)]) (fun _ _ _ _ _ _ _ _ => BindsTo.of_eq rfl) (locs (by kernel_rfl)) (by decide +kernel) (by kernel_rfl) (by kernel_rfl) (by kernel_rfl) rfl fun cd L h₁ kp hL => ?_
  refine s_body (rfl : B 27 = _ :: _) ?_
  k_subL
  refine w_newListP (szl (by simp)) fun D h₂ kp2 nD bD pl h₃ le3 => ?_
  refine s_cons (s_for (Live.fn (by kernel_rfl)) (by kernel_rfl) (fun _ => rfl) (fun i m' h' => m' = ([("parts", .ref D), ("octets", .bytes d.toArray t), ("signs", .bytes signs.toArray u)] : Loc) ∧ Le h₁ h' ∧ ∃ ps, PL h' D (bvals ps) ∧ ps.map (·.1) = (d.take i).map fun x => [x]) ?_)
  k_subL
  refine p_len (by omega) fun t₄ => ?_
  k_subL
  refine p_range fun r h₄ _ _ _ kp4 hr => ?_
  refine w_iterR hz hr fun I h₅ St kp5 nI it st => ⟨I, _, _, _, _, _, rfl, nI, it, st, trivial, by lcg_sub, ⟨rfl, ?_, [], ((pl.le le3).le kp4.le).le kp5.le, rfl⟩, ?_, ?_⟩
  · exact ((kp2.le.trans le3).trans kp4.le).trans kp5.le
  · rintro i v m₁ h₆ hi ⟨u', rfl⟩ _ ⟨rfl, le6, ps, pl6, hps⟩ h₇ le7 _
    have hx : d[i]? = some d[i] := List.getElem?_eq_getElem hi
    obtain ⟨q0, q10, q13, qs⟩ := hd _ (List.getElem_mem hi)
    refine s_cons (s_if (w_tcmp ?_ (by kernel_rfl)))
    k_subL
    refine p_item (by omega) (by omega) (by omega) fun t₈ => ?_
    rw [show d.getD (i : Int).toNat 0 = d[i] from getD_of hx]
    k_subL
    refine p_never T ?_
    rw [not_never q0 q10 q13]
    k_subL
    refine ⟨fun z => (nomatch z), fun _ => s_nil (Sub.refl _) ?_⟩
    refine s_cons (s_if (w_tcmp ?_ (by kernel_rfl)))
    k_subL
    refine p_item (by omega) (by omega) (by omega) fun t₈ => ?_
    rw [show d.getD (i : Int).toNat 0 = d[i] from getD_of hx]
    k_subL
    rw [qs]
    k_subL
    refine ⟨fun z => (nomatch z), fun _ => s_nil (Sub.refl _) ?_⟩
    have pl7 := pl6.le le7
    k_subL
    refine ⟨_, _, rfl, pl7, ?_⟩
    k_subL
    intro sl h₈ kp8 hsl
    k_subL
    refine p_cut2 i (i + 1) hsl rfl (by omega) hz fun t₉ => ?_
    rw [Nat.add_sub_cancel_left, take1 hx]
    refine ⟨_, pl7.le kp8.le, bD, szl (by have := congrArg List.length hps; simp [bvals] at this ⊢; omega), fun h₉ le9 pl9 => ?_⟩
    refine s_nil (Sub.refl _) ⟨trivial, _, by lcg_sub, rfl, ((le6.trans le7).trans kp8.le).leB le9 nD, ps ++ [([d[i]], t₉)], by simpa [bvals] using pl9, ?_⟩
    rw [List.map_append, hps, List.take_succ_eq_append_getElem hi]; simp only [List.map_append, List.map_cons, List.map_nil]
  · rintro m₁ h₆ ⟨rfl, le6, ps, pl6, hps⟩ h₇ le7
    rw [List.take_length] at hps
    k_subL
    refine p_joinB (sep := []) (pl6.le le7).list (by rw [sum_len, hps, ← joinB_nil, flat_singles]; simp; omega) fun t₈ => ?_
    rw [hps, flat_singles]
    exact q _ _ (kp.le.trans (le6.trans le7))
end
-- G10
section
variable {C : Cx} {c : Fc} {k : Nat} {m : Loc} {h : Heap} {X : Addr → Heap → Prop} {Q : Value → Heap → Prop}
theorem p_sliceFromS {x : Str} {t u : Tok} {a : Addr} {i : Int} (hs : h.IsSliceOf a (.int i u) .none .none) (hz : x.length ≤ sizeLine) (q : ∀ t, Q (.str (Txt.slice x (some i) none) t) h) : W C c k m (getItem (.str x t) (.ref a)) h Q X :=
  W.same q fun A s E Q' hA hh r => wpAny_getItem_str_slice (l := some (i, u)) (u := none) (st := none) (hh ▸ hs) rfl (post_val_or_str ⟨Nat.le_trans (Txt.slice_le x _ _) hz, fun t' k => r _ _⟩)
theorem w_tailS {a b : Expr} {x : Str} {t : Tok} {i : Value} (z : W C c k m (getItem (.str x t) i) h Q X) : W C c k m (subscriptTail a b (.str x t) i) h Q X :=
  w_tail (T := "str") (id := "str.__getitem__") (fun s _ => rfl) F.slot_str_getitem.lookup z
theorem p_rfind {x y : Str} {t u : Tok} (q : ∀ t, Q (.int (Txt.rfind x y) t) h) : W C c k m (call (.builtin "str.rfind") [.str x t, .str y u]) h Q X :=
  W.same q fun A s E Q' hA hh r => SC.rfind (r _ _)
theorem p_bytes {l : Addr} {vs : List Value} {ns : List Int} (hl : h.IsList l vs.toArray) (hi : IntsAre vs ns) (hr : ∀ n ∈ ns, 0 ≤ n ∧ n < 256) (hz : vs.length ≤ sizeLine) (q : ∀ t h', Keep h h' → Q (.bytes (byteArr ns) t) h') : W C c k m (call (.type "bytes") [.ref l]) h Q X :=
  W.grow (P := fun v h' => ∃ t, v = .bytes (byteArr ns) t) (fun v h' kp ⟨t, e⟩ => e ▸ q t h' kp) fun A s E Q' hA hh r => by
    subst hh
    exact call_bytes_ints hl hi hr hz hA.handled fun h' t k kp => r _ _ _ kp ⟨_, rfl⟩
theorem Res.ints {P : Nat → Value → Prop} {F : Nat → Value → Value → Prop} {n : Nat} {ys : List Value} (g : Nat → Int) (hF : ∀ i v w, F i v w → ∃ u, w = .int (g i) u) (r : Res P (fun _ => true) F n ys) :
    IntsAre ys ((List.range n).map g) := by
  induction r with
  | nil => exact .nil
  | skip _ _ e _ => cases e
  | @take i ys v w _ _ _ hf ih =>
    obtain ⟨u, rfl⟩ := hF _ _ _ hf
    rw [List.range_succ, List.map_append]
    exact ih.append (.cons _ u .nil)
/-- where an id's text parts -/
def spotOf (x : Str) : Int := if Txt.slice x (some (-1)) none == "]" then Txt.rfind x "@\x5b" else Txt.rfind x "@"
theorem sides_of_spec (T : Tops C) {v : List UInt8} {s : Nat} {t : Tok} (hz : v.length ≤ 16777216) (hs : spotOf (txt (codes v)) = s) (hp : v.all plainCode = true)
    (q : ∀ r t u h', Le h h' → h'.IsTuple r #[.bytes (v.take s).toArray t, .bytes (v.drop (s + 1)).toArray u] → Q (.ref r) h') :
    W C c (k + 2) m (PySem.call (.ref 256) [.str (txt (codes v)) t]) h Q X := by
  refine w_fn T.toTopOk T.f_sides_of.2 (binds := [("text", .str (txt (codes v)) t)]) (fun _ _ _ _ _ _ _ _ => BindsTo.of_eq rfl) (locs (by kernel_rfl)) (by decide +kernel) (by kernel_rfl) (by kernel_rfl) (by kernel_rfl) rfl fun cd L h₁ kp hL => ?_
  refine s_body (rfl : B 39 = _ :: _) ?_
  have hzS : (txt (codes v)).length ≤ sizeLine := szl (by show (codes v).toArray.size ≤ _; simpa using hz)
  have h126 : ∀ x ∈ v, x.toNat ≤ 126 := fun x hx => by
    have := List.all_eq_true.mp hp x hx
    simp [plainCode] at this; omega
  have after : ∀ t₂ h₂, Le h h₂ → S C (Fc.fn "sides_of" (SC 39) 256 cd L c.frames) (k + 1) [("spot", .int (s : Int) t₂), ("text", .str (txt (codes v)) t)] (execs ((B 39).drop 1) (Fc.fn "sides_of" (SC 39) 256 cd L c.frames).env) h₂ (fun _ h' => Q .none h') Q (fun _ _ _ => False) := fun t₂ h₂ le2 => by
    refine s_body (rfl : (B 39).drop 1 = _ :: _) ?_
    k_subL
    refine ⟨fun z => by have := of_decide_eq_true z; omega, fun _ => s_nil (Sub.refl _) ?_⟩
    refine s_cons (s_for (Live.fn (by kernel_rfl)) (by kernel_rfl) (fun _ => rfl) (fun i m' h' => m' = ([("spot", .int (s : Int) t₂), ("text", .str (txt (codes v)) t)] : Loc) ∧ Le h h') ?_)
    k_subL
    refine w_iterS fun I h₃ St kp3 nI it st => ⟨I, _, _, _, _, _, rfl, nI, it, st, trivial, by lcg_sub, ⟨rfl, le2.trans kp3.le⟩, ?_, ?_⟩
    · rintro i w m₁ h₄ hi ⟨b, u, hb, rfl⟩ _ ⟨rfl, le4⟩ h₅ le5 _
      have hb' : (codes v)[i]? = some b := by simpa using hb
      obtain ⟨y, hy, rfl⟩ := List.mem_map.mp (List.mem_of_getElem? hb')
      have := h126 y hy
      k_subL
      refine p_ord fun t₆ => ?_
      k_subL
      exact ⟨fun z => by have := of_decide_eq_true z; omega, fun _ => s_nil (Sub.refl _) (s_nil (Sub.refl _) ⟨trivial, _, by lcg_sub, rfl, le4.trans le5⟩)⟩
    · rintro m₁ h₄ ⟨rfl, le4⟩ h₅ le5
      have le := le4.trans le5
      k_subL
      refine w_comp (fun _ => true) (fun i v' w => ∃ u, w = .int (((v.getD i 0).toNat : Nat) : Int) u) (by decide +kernel) (by kernel_rfl) (by decide +kernel) (by decide +kernel) (by kernel_rfl) (fun _ => rfl) ?_
      k_subL
      refine w_iterS fun I h₆ St kp6 nI it st => ⟨I, _, _, _, _, rfl, kp6, nI, it, st, trivial, szl (by simpa using hz), ?_, ?_⟩
      · rintro L' i w h₇ hi ⟨b, u, hb, rfl⟩ le7 _
        refine w_tst0 ⟨Le.refl _, rfl, fun _ => ?_⟩
        k_subL
        have hb' : (codes v)[i]? = some b := by simpa using hb
        have hi' : i < v.length := by simpa using hi
        have e1 : b = (v.getD i 0).toNat := by
          rw [List.getElem?_map, List.getElem?_eq_getElem hi'] at hb'
          rw [List.getD_eq_getElem?_getD, List.getElem?_eq_getElem hi']
          exact (Option.some.inj hb').symm
        refine p_ord fun t₈ => ⟨Le.refl _, t₈, ?_⟩
        rw [e1]
      · intro D ys h₇ le7 nD r hD
        have hi := r.ints (fun i => (((v.getD i 0).toNat : Nat) : Int)) (fun _ _ _ e => e)
        have en : (txt (codes v)).cps.size = v.length := by simp
        rw [en] at hi
        have e2 : byteArr ((List.range v.length).map fun i => (((v.getD i 0).toNat : Nat) : Int)) = v.toArray := by
          unfold byteArr
          congr 1
          apply List.ext_getElem
          · simp
          · intro j h1 h2
            simp only [List.getElem_map, List.getElem_range, Int.toNat_natCast]
            rw [List.getD_eq_getElem?_getD, List.getElem?_eq_getElem h2]
            simp
        k_subL
        refine p_bytes hD hi ?_ (szl (by have := hi.length; simp at this; omega)) fun t₈ h₈ kp8 h₉ le9 => ?_
        · intro n hn
          obtain ⟨i, _, rfl⟩ := List.mem_map.mp hn
          have := u8_lt (v.getD i 0)
          omega
        rw [e2]
        have le := (((le.trans kp6.le).trans le7).trans kp8.le).trans le9
        k_subL
        refine check_plain_spec T hp fun h₁₀ le10 => ?_
        k_subL
        intro sl h₁₁ kp11 hsl
        k_subL
        refine p_cutTo s hsl rfl hz fun t₁₂ => ?_
        k_subL
        intro sl2 h₁₃ kp13 hsl2
        k_subL
        refine p_cutFrom (s + 1) hsl2 (by omega) hz fun t₁₄ => ?_
        k_subL
        exact w_newTuple (szl (by simp)) fun r h₁₅ kp15 _ ht => q r _ _ _ ((((le.trans le10).trans kp11.le).trans kp13.le).trans kp15.le) ht
  unfold spotOf at hs
  refine s_cons (s_assign (Live.fn (by kernel_rfl)) (by kernel_rfl) rfl (w_ifexp (w_tcmp ?_ (by kernel_rfl))))
  k_subL
  intro sl h₂ kp2 hsl
  k_subL
  refine w_tailS (p_sliceFromS hsl hzS fun t₃ => ?_)
  k_subL
  refine ⟨fun z => ?_, fun z => ?_⟩
  · have z : (Txt.slice (txt (codes v)) (some (-1)) none == ("]" : Str)) = true := z
    rw [if_pos z] at hs
    refine w_methV isS_type (by kernel_rfl) (by kernel_rfl) (by kernel_rfl) F.plainAttrs_str F.slot_str_rfind F.type_str_rfind ?_
    k_subL
    refine p_rfind fun t₄ h₃ le3 => ?_
    have hs' : Txt.rfind (txt (codes v)) (Str.ofString "@\x5b") = s := hs
    rw [hs']
    exact after _ _ ((kp.le.trans kp2.le).trans le3)
  · have z : (Txt.slice (txt (codes v)) (some (-1)) none == ("]" : Str)) = false := z
    rw [if_neg (by rw [z]; decide)] at hs
    refine w_methV isS_type (by kernel_rfl) (by kernel_rfl) (by kernel_rfl) F.plainAttrs_str F.slot_str_rfind F.type_str_rfind ?_
    k_subL
    refine p_rfind fun t₄ h₃ le3 => ?_
    have hs' : Txt.rfind (txt (codes v)) (Str.ofString "@") = s := hs
    rw [hs']
    exact after _ _ ((kp.le.trans kp2.le).trans le3)
end
-- G11
section
variable {C : Cx} {c : Fc} {k : Nat} {m : Loc} {h : Heap} {X : Addr → Heap → Prop} {Q : Value → Heap → Prop}
/-- how an id is written -/
structure Wr (lv rv lo ro : List UInt8) : Prop where
  spot : spotOf (txt (codes (lv ++ 64 :: rv))) = (lv.length : Nat)
  plain : (lv ++ 64 :: rv).all plainCode = true
  left : (runOk lv = true ∧ lo = lv) ∨ (runOk lv = false ∧ lo = 34 :: (lv ++ [34]) ∧ ∀ x ∈ lv, x ≠ 0 ∧ x ≠ 10 ∧ x ≠ 13 ∧ ([34, 92] : List UInt8).contains x = false)
  right : (runOk rv = true ∧ ro = rv ∧ rv.take 1 ≠ [91]) ∨ (rv = [91, 49, 93] ∧ ro = rv)
  small : lv.length + rv.length ≤ 1000
abbrev fIdOct (cd : Value) (L : Addr) (below : List Env) : Fc := Fc.fn "id_octets" (SC 40) 263 cd L below
set_option maxHeartbeats 1000000 in
theorem id_octets_spec (T : Tops C) {lv rv lo ro : List UInt8} {t : Tok} (w : Wr lv rv lo ro) (q : ∀ t h', Le h h' → Q (.bytes (60 :: (lo ++ 64 :: (ro ++ [62]))).toArray t) h') :
    W C c (k + 4) m (PySem.call (.ref 263) [.str (txt (codes (lv ++ 64 :: rv))) t]) h Q X := by
  refine w_fn T.toTopOk T.f_id_octets.2 (binds := [("text", .str (txt (codes (lv ++ 64 :: rv))) t)]) (fun _ _ _ _ _ _ _ _ => BindsTo.of_eq rfl) (locs (by kernel_rfl)) (by decide +kernel) (by kernel_rfl) (by kernel_rfl) (by kernel_rfl) rfl fun cd L h₁ kp hL => ?_
  refine s_body (rfl : B 40 = _ :: _) ?_
  have hsm := w.small
  have hlo : lo.length ≤ lv.length + 2 := by rcases w.left with ⟨_, rfl⟩ | ⟨_, rfl, _⟩ <;> simp
  have hro : ro.length ≤ rv.length := by rcases w.right with ⟨_, rfl, _⟩ | ⟨_, rfl⟩ <;> exact Nat.le_refl _
  have after2 : ∀ tl tr h₂, Le h h₂ → S C (fIdOct cd L c.frames) (k + 3) [("left", .bytes lo.toArray tl), ("right", .bytes ro.toArray tr)] (execs ((B 40).drop 3) (fIdOct cd L c.frames).env) h₂ (fun _ h' => Q .none h') Q (fun _ _ _ => False) := fun tl tr h₂ le2 => by
    refine s_body (rfl : (B 40).drop 3 = _ :: _) ?_
    k_subL
    refine p_addB (d := [60]) (by simp; omega) fun t₃ => ?_
    k_subL
    refine p_addB (e := [64]) (by simp; omega) fun t₄ => ?_
    k_subL
    refine p_addB (by simp; omega) fun t₅ => ?_
    k_subL
    refine p_addB (e := [62]) (by simp; omega) fun t₆ => ?_
    have := q t₆ _ le2
    have e : ([60] ++ lo ++ [64] ++ ro ++ [62] : List UInt8) = 60 :: (lo ++ 64 :: (ro ++ [62])) := by simp
    rw [e]; exact this
  have after1 : ∀ tl tr h₂, Le h h₂ → S C (fIdOct cd L c.frames) (k + 3) [("left", .bytes lo.toArray tl), ("right", .bytes rv.toArray tr)] (execs ((B 40).drop 2) (fIdOct cd L c.frames).env) h₂ (fun _ h' => Q .none h') Q (fun _ _ _ => False) := fun tl tr h₂ le2 => by
    refine s_body (rfl : (B 40).drop 2 = _ :: _) ?_
    k_subL
    intro sl h₃ kp3 hsl
    k_subL
    refine p_cutTo (d := rv) 1 hsl rfl (by omega) fun t₃ => ?_
    k_subL
    rcases w.right with ⟨hr, rfl, hne⟩ | ⟨rfl, rfl⟩
    · have e : ((ro.take 1) == [91]) = false := by simpa using hne
      refine ⟨fun z => ?_, fun _ => ⟨fun z => (nomatch z), fun _ => ?_⟩⟩
      · have z : ((ro.take 1) == [91]) = true := z
        rw [e] at z; cases z
      k_subL
      refine is_run_spec T (by omega) fun h₄ le4 => ?_
      rw [hr]
      k_subL
      refine ⟨fun z => (nomatch z), fun _ => s_nil (Sub.refl _) (s_nil (Sub.refl _) ?_)⟩
      exact after2 _ _ _ ((le2.trans kp3.le).trans le4)
    · refine ⟨fun _ => ?_, fun z => (nomatch z)⟩
      k_subL
      intro sl2 h₄ kp4 hsl2
      k_subL
      refine p_cutFrom (d := [91, 49, 93]) 1 hsl2 rfl (by decide) fun t₄ => ?_
      k_subL
      intro sl3 h₅ kp5 hsl3
      k_subL
      refine p_cutB (d := [49, 93]) hsl3 (.int _ _) .none (by decide) fun t₅ => ?_
      rw [show cutB [49, 93] (some (-1)) none = [93] from by decide]
      k_subL
      refine ⟨fun _ => ?_, fun z => (nomatch z)⟩
      k_subL
      refine ⟨fun _ => ?_, fun z => (nomatch z)⟩
      k_subL
      intro sl4 h₆ kp6 hsl4
      k_subL
      refine p_cutB (d := [91, 49, 93]) hsl4 (.int _ _) (.int _ _) (by decide) fun t₆ => ?_
      rw [show cutB [91, 49, 93] (some 1) (some (-1)) = [49] from by decide]
      k_subL
      refine escaped_spec T (d := [49]) (signs := [91, 93, 92]) (by decide) (by decide) fun t₇ h₇ le7 => ?_
      k_subL
      refine p_addB (d := [91]) (e := [49]) (by decide) fun t₈ => ?_
      k_subL
      refine p_addB (d := [91] ++ [49]) (e := [93]) (by decide) fun t₉ h₈ le8 => ?_
      rw [show ([91] ++ [49] ++ [93] : List UInt8) = [91, 49, 93] from rfl]
      refine s_nil (Sub.refl _) (S.sub (after2 _ _ _ ((((((le2.trans kp3.le).trans kp4.le).trans kp5.le).trans kp6.le).trans le7).trans le8)) (by lcg_sub))
  k_subL
  refine sides_of_spec T (s := lv.length) (by simp; omega) w.spot w.plain fun r t₂ u₂ h₂ le2 ht => ⟨_, _, _, rfl, ht, fun h₃ le3 => ?_⟩
  have e1 : (lv ++ 64 :: rv).take lv.length = lv := by simp
  have e2 : (lv ++ 64 :: rv).drop (lv.length + 1) = rv := by simp
  rw [e1, e2]
  have le := (kp.le.trans le2).trans le3
  k_subL
  refine is_run_spec T (by omega) fun h₄ le4 => ?_
  have le := le.trans le4
  rcases w.left with ⟨hr, rfl⟩ | ⟨hr, rfl, hq⟩
  · rw [hr]
    k_subL
    refine ⟨fun z => (nomatch z), fun _ => s_nil (Sub.refl _) ?_⟩
    exact S.sub (after1 _ _ _ le) (by lcg_sub)
  · rw [hr]
    k_subL
    refine ⟨fun _ => ?_, fun z => (nomatch z)⟩
    k_subL
    refine escaped_spec T (d := lv) (signs := [34, 92]) (by omega) hq fun t₅ h₅ le5 => ?_
    k_subL
    refine p_addB (d := [34]) (e := lv) (by simp; omega) fun t₆ => ?_
    k_subL
    refine p_addB (d := [34] ++ lv) (e := [34]) (by simp; omega) fun t₇ h₆ le6 => ?_
    have e3 : ([34] ++ lv ++ [34] : List UInt8) = 34 :: (lv ++ [34]) := by simp
    rw [e3]
    exact s_nil (Sub.refl _) (S.sub (after1 _ _ _ ((le.trans le5).trans le6)) (by lcg_sub))
end
-- G12
section
variable {C : Cx} {c : Fc} {k : Nat} {m : Loc} {h : Heap} {X : Addr → Heap → Prop} {Q : Value → Heap → Prop}
theorem Res.bytes {P : Nat → Value → Prop} {F : Nat → Value → Value → Prop} {n : Nat} {ys : List Value} (g : Nat → List UInt8) (hF : ∀ i v w, F i v w → ∃ u, w = .bytes (g i).toArray u) (r : Res P (fun _ => true) F n ys) :
    ∃ ps : List (List UInt8 × Tok), ys = bvals ps ∧ ps.map (·.1) = (List.range n).map g := by
  induction r with
  | nil => exact ⟨[], rfl, rfl⟩
  | skip _ _ e _ => cases e
  | @take i ys v w _ _ _ hf ih =>
    obtain ⟨ps, e1, e2⟩ := ih
    obtain ⟨u, rfl⟩ := hF _ _ _ hf
    refine ⟨ps ++ [(g i, u)], by rw [e1]; simp [bvals], ?_⟩
    rw [List.map_append, e2, List.range_succ]; simp
/-- an id and how it is written -/
def Wrt (v o : List UInt8) : Prop := ∃ lv rv lo ro, Wr lv rv lo ro ∧ v = lv ++ 64 :: rv ∧ o = 60 :: (lo ++ 64 :: (ro ++ [62]))
theorem range_map {α β : Type} (l : List α) (d : α) (g : α → β) : ((List.range l.length).map fun i => g (l.getD i d)) = l.map g := by
  apply List.ext_getElem
  · simp
  · intro i h1 h2
    simp only [List.getElem_map, List.getElem_range]
    rw [List.getD_eq_getElem?_getD, List.getElem?_eq_getElem (by simpa using h2)]; rfl
theorem write_ids_spec (T : Tops C) {D : Addr} {ids : List (List UInt8)} {wr : List UInt8 → List UInt8} (hl : SL h D (txts ids)) (hw : ∀ v ∈ ids, Wrt v (wr v)) (hn : ids.length ≤ 16777216) (hz : ((ids.map wr).map (·.length)).sum + ids.length ≤ 16777216)
    (q : ∀ t h', Le h h' → Q (.bytes (joinB [32] (ids.map wr)).toArray t) h') :
    W C c (k + 5) m (PySem.call (.ref 268) [.ref D]) h Q X := by
  refine w_fn T.toTopOk T.f_write_ids.2 (binds := [("some", .ref D)]) (fun _ _ _ _ _ _ _ _ => BindsTo.of_eq rfl) (locs (by kernel_rfl)) (by decide +kernel) (by kernel_rfl) (by kernel_rfl) (by kernel_rfl) rfl fun cd L h₁ kp hL => ?_
  refine s_body (rfl : B 41 = _ :: _) ?_
  obtain ⟨ps, hD, hps⟩ := hl.le kp.le
  have hlen : ps.length = ids.length := by have := congrArg List.length hps; simpa using this
  have hsz : (strValues ps).length = ids.length := by simp [strValues, hlen]
  k_subL
  refine w_comp (fun _ => true) (fun i v w => ∃ u, w = .bytes (wr (ids.getD i [])).toArray u) (by decide +kernel) (by kernel_rfl) (by decide +kernel) (by decide +kernel) (by kernel_rfl) (fun _ => rfl) ?_
  k_subL
  refine w_iterL hD fun I h₂ St kp2 nI it st hl2 => ⟨I, _, _, _, _, rfl, kp2, nI, it, st, hl2, szl (by omega), ?_, ?_⟩
  · rintro L' i v h₃ hi hv le3 _
    refine w_tst0 ⟨Le.refl _, rfl, fun _ => ?_⟩
    have hi' : i < ids.length := by omega
    have hg : ids.getD i [] = ids[i] := by rw [List.getD_eq_getElem?_getD, List.getElem?_eq_getElem hi']; rfl
    have hv' : ∃ u, v = .str (txt (codes ids[i])) u := by
      have e1 : ps[i]? = some ps[i] := List.getElem?_eq_getElem (by omega)
      have e2 := congrArg (·[i]?) hps
      simp only [List.getElem?_map, e1, List.getElem?_eq_getElem hi', Option.map_some] at e2
      rw [strValues, List.getElem?_map, e1] at hv
      refine ⟨ps[i].2, ?_⟩
      rw [← Option.some.inj e2]
      exact (Option.some.inj hv).symm
    obtain ⟨u, rfl⟩ := hv'
    obtain ⟨lv, rv, lo, ro, w, e1, e2⟩ := hw _ (List.getElem_mem hi')
    k_subL
    rw [hg, e2, e1]
    exact id_octets_spec T w fun t h₄ le4 => ⟨le4, t, rfl⟩
  · intro D' ys h₃ le3 nD r hD'
    obtain ⟨qs, rfl, e2⟩ := r.bytes (fun i => wr (ids.getD i [])) (fun _ _ _ e => e)
    rw [hsz, range_map] at e2
    k_subL
    refine p_joinB (sep := [32]) hD' ?_ fun t => ?_
    · have e3 : qs.map (·.1.length) = (qs.map (·.1)).map (·.length) := by rw [List.map_map]; rfl
      have e4 := congrArg List.length e2
      simp only [List.length_map] at e4
      rw [e3, e2, e4]
      simp only [List.length_cons, List.length_nil]
      omega
    · rw [e2]
      exact q t _ (((kp.trans kp2).le).trans le3)
end
-- G13
section
variable {C : Cx} {c : Fc} {k : Nat} {m : Loc} {h : Heap} {X : Addr → Heap → Prop} {Q : Value → Heap → Prop}
/-- all but some lists stay -/
def LeN (S : List Addr) (h h' : Heap) : Prop := ∀ b o, b ∉ S → h.get? b = some o → (∀ vs, o.data ≠ .fields vs) → o.cls ≠ .type "frame" → ∃ sl, h'.get? b = some { o with slots := sl }
theorem LeN.trans {S : List Addr} {h₁ h₂ h₃ : Heap} (x : LeN S h₁ h₂) (y : LeN S h₂ h₃) : LeN S h₁ h₃ := fun b o hb e hn hc =>
  let ⟨_, e₁⟩ := x b o hb e hn hc; let ⟨sl, e₂⟩ := y b _ hb e₁ hn hc; ⟨sl, e₂⟩
theorem Le.n {S : List Addr} {h h' : Heap} (x : Le h h') : LeN S h h' := fun b o _ e hn hc => x b o e hn hc
theorem LeB.n {S : List Addr} {D : Addr} {h h' : Heap} (x : LeB D h h') (hD : D ∈ S) : LeN S h h' := fun b o hb e hn hc => x.le b o (fun z => hb (z ▸ hD)) e hn hc
theorem LeN.mono {S S' : List Addr} {h h' : Heap} (x : LeN S h h') (hs : ∀ a ∈ S, a ∈ S') : LeN S' h h' := fun b o hb e hn hc => x b o (fun z => hb (hs _ z)) e hn hc
theorem LeN.list {S : List Addr} {l : Addr} {h h' : Heap} {items : Array Value} (x : LeN S h h') (ne : l ∉ S) (y : h.IsList l items) : h'.IsList l items := by
  obtain ⟨o, e, e1, n, e2⟩ := y
  obtain ⟨sl, e'⟩ := x l o ne e (fun vs q => by rw [e2] at q; cases q) (by rw [e1]; decide)
  exact ⟨_, e', e1, n, e2⟩
theorem LeN.tuple {S : List Addr} {l : Addr} {h h' : Heap} {items : Array Value} (x : LeN S h h') (ne : l ∉ S) (y : h.IsTuple l items) : h'.IsTuple l items := by
  obtain ⟨o, e, e1, n, e2⟩ := y
  obtain ⟨sl, e'⟩ := x l o ne e (fun vs q => by rw [e2] at q; cases q) (by rw [e1]; decide)
  exact ⟨_, e', e1, n, e2⟩
theorem LeN.pl {S : List Addr} {D : Addr} {h h' : Heap} {items : List Value} (x : LeN S h h') (ne : D ∉ S) (y : PL h D items) : PL h' D items := by
  obtain ⟨sl, n, e⟩ := y
  obtain ⟨sl', e'⟩ := x D _ ne e (fun vs q => by cases q) (show Value.type "list" ≠ .type "frame" by decide)
  exact ⟨sl', n, e'⟩
theorem isList_inj {h : Heap} {l : Addr} {x y : Array Value} (a : h.IsList l x) (b : h.IsList l y) : x = y := by
  obtain ⟨o, e, _, n, d⟩ := a
  obtain ⟨o', e', _, n', d'⟩ := b
  rw [e] at e'; cases e'
  rw [d] at d'; cases d'; rfl
theorem list_tuple {h : Heap} {l : Addr} {x y : Array Value} (a : h.IsList l x) (b : h.IsTuple l y) : False := by
  obtain ⟨o, e, c1, _⟩ := a
  obtain ⟨o', e', c2, _⟩ := b
  rw [e] at e'; cases e'
  rw [c1] at c2; simp at c2
theorem tuple_notin {S : List Addr} {h : Heap} {t : Addr} {y : Array Value} (hS : ∀ l ∈ S, ∃ x, h.IsList l x) (b : h.IsTuple t y) : t ∉ S := fun z => let ⟨x, hx⟩ := hS _ z; list_tuple hx b
/-- an item of a list of the call's own is laid -/
theorem s_setL {o i value : Expr} {pos' pos : Pos} {env : Env} {N : Loc → Heap → Prop} {R : Value → Heap → Prop} {Y : Loc → Addr → Heap → Prop}
    (hs : swapsWith value (some (.Subscript o i pos')) pos.line env = pure false)
    (y : W C c k m (eval value env) h (fun v h₁ => W C c k m (eval o env) h₁ (fun ov h₂ => W C c k m (eval i env) h₂ (fun iv h₃ => ∃ (l : Addr) (items : List Value) (j : Nat) (t : Tok), ov = .ref l ∧ iv = .int j t ∧ h₃.IsList l items.toArray ∧ C.base.get? l = none ∧ j < items.length ∧ j < 1000000 ∧
      ∀ h', LeB l h₃ h' → h'.IsList l (items.set j v).toArray → N m h') (fun a h' => Y m a h')) (fun a h' => Y m a h')) (fun a h' => Y m a h')) :
    S C c k m (exec (.Assign [.Subscript o i pos'] value pos) env) h N R Y := fun A s hA hss hh hn => by
  refine wpAny_Assign_Subscript (wpAny_mono (y A s hA hss hh hn) (fun v s₁ q => ?_) fun e s' q => ⟨q.1, q.2.1, m, q.2.2.1, q.2.2.2⟩) hs
  obtain ⟨a1, a2, a3, q⟩ := q
  refine wpAny_mono (q A s₁ hA a1 rfl a3) (fun ov s₂ q => ?_) fun e s' q => ⟨q.1, a2.trans q.2.1, m, q.2.2.1, q.2.2.2⟩
  obtain ⟨b1, b2, b3, q⟩ := q
  refine wpAny_mono (q A s₂ hA b1 rfl b3) (fun iv s₃ q => ?_) fun e s' q => ⟨q.1, (a2.trans b2).trans q.2.1, m, q.2.2.1, q.2.2.2⟩
  obtain ⟨c1, c2, c3, l, items, j, t, rfl, rfl, hl, hb, hj, hj2, q⟩ := q
  refine wpAny_setItem_list hl (by omega) (by omega) (by simpa using hj) fun h' hl' hsb => ?_
  have ne : c.L ≠ l := fun z => by
    obtain ⟨f, ⟨o, es, ep, e, d, _⟩, _⟩ := c3.ns
    obtain ⟨o', e', _, n, d'⟩ := hl
    rw [z, e'] at e; cases e; rw [d'] at d; cases d
  have hl' : h'.IsList l (items.set j v).toArray := by simpa using hl'
  obtain ⟨oD, eD, cD, nD, dD⟩ := id hl'
  have pd : PD c.L s₃.heap h' := ⟨fun b o _ e hd => ⟨o.slots, hsb.extBut _ _ (fun z => by
      obtain ⟨o', e', _, n, d'⟩ := hl
      obtain ⟨es, n', d⟩ := hd
      rw [z, e'] at e; cases e; rw [d'] at d; cases d) e⟩, fun b o _ e hr => hsb.extBut _ _ (fun z => by
      obtain ⟨o', e', _, n, d'⟩ := hl
      rw [z] at e
      exact noRec e hr e' fun vs q => by rw [d'] at q; cases q) e⟩
  exact ⟨c1.upd hb hsb ⟨oD, eD, fun vs z => by rw [dD] at z; cases z⟩ _, ((a2.trans b2).trans c2).trans pd, m, c3.ext hsb.extBut ne, q h' ⟨fun b o hb e _ _ => ⟨o.slots, hsb.extBut _ _ hb e⟩⟩ hl'⟩
theorem p_lenL {l : Addr} {items : List Value} (hl : h.IsList l items.toArray) (hz : items.length ≤ 1000000) (q : ∀ t, Q (.int items.length t) h) : W C c k m (call (.builtin "len") [.ref l]) h Q X :=
  W.same (v := fun t => .int items.length t) q fun A s E Q' hA hh r => len_list (hh ▸ hl) (by simp; omega) (by simpa using r _ _)
/-- all are ints -/
def Ints (vs : List Value) : Prop := ∀ v ∈ vs, ∃ i t, v = .int i t
/-- the law's pot -/
structure Pot (C : Cx) (h : Heap) (P D : Addr) (n : Nat) : Prop where
  bP : C.base.get? P = none
  bD : C.base.get? D = none
  pot : ∃ (s : Int) (ts tn : Tok), h.IsList P #[.ref D, .int s ts, .int (n : Int) tn]
  cells : ∃ items : List Value, h.IsList D items.toArray ∧ Ints items ∧ items.length ≤ 1000
theorem Pot.ne {P D : Addr} {n : Nat} (p : Pot C h P D n) : P ≠ D := fun z => by
  obtain ⟨s, ts, tn, h1⟩ := p.pot
  obtain ⟨items, h2, hi, _⟩ := p.cells
  rw [← z] at h2
  have := isList_inj h1 h2
  have e : items = [.ref D, .int s ts, .int (n : Int) tn] := by
    have := congrArg Array.toList this; simpa using this.symm
  rw [e] at hi
  obtain ⟨i, t, q⟩ := hi _ (.head _)
  cases q
theorem Pot.stays {S : List Addr} {h' : Heap} {P D : Addr} {n : Nat} (p : Pot C h P D n) (x : LeN S h h') (hP : P ∉ S) (hD : D ∉ S) : Pot C h' P D n :=
  ⟨p.bP, p.bD, let ⟨s, ts, tn, h1⟩ := p.pot; ⟨s, ts, tn, x.list hP h1⟩, let ⟨items, h2, hi, hz⟩ := p.cells; ⟨items, x.list hD h2, hi, hz⟩⟩
theorem Pot.le {h' : Heap} {P D : Addr} {n : Nat} (p : Pot C h P D n) (x : Le h h') : Pot C h' P D n := p.stays (S := []) x.n (fun z => by cases z) (fun z => by cases z)
theorem fmod_nat {a : Int} {l : Nat} (hl : 0 < l) : ∃ v : Nat, a.fmod (l : Int) = (v : Int) ∧ v < l := by
  have h1 := Int.fmod_nonneg_of_pos a (b := (l : Int)) (by omega)
  have h2 := Int.fmod_lt_of_pos a (b := (l : Int)) (by omega)
  exact ⟨(a.fmod l).toNat, by omega, by omega⟩
end
-- G14
section
variable {C : Cx} {c : Fc} {k : Nat} {m : Loc} {h : Heap} {X : Addr → Heap → Prop} {Q : Value → Heap → Prop}
theorem ints_set {items : List Value} {j : Nat} {i : Int} {t : Tok} (x : Ints items) : Ints (items.set j (.int i t)) := fun v hv => by
  rcases List.mem_or_eq_of_mem_set hv with h | h
  · exact x v h
  · exact ⟨i, t, h⟩
set_option maxHeartbeats 1000000 in
theorem draw_spec (T : Tops C) {P D : Addr} {n lim : Nat} {tl : Tok} (p : Pot C h P D n) (hn : n ≤ 1000) (hl : 0 < lim) (hl2 : lim ≤ 1000)
    (q : ∀ (v : Nat) t h', LeN [P, D] h h' → Pot C h' P D (n + 1) → v < lim → Q (.int (v : Int) t) h') :
    W C c (k + 1) m (PySem.call (.ref 294) [.ref P, .int (lim : Int) tl]) h Q X := by
  refine w_fn T.toTopOk T.f_law_draw.2 (binds := [("pot", .ref P), ("limit", .int (lim : Int) tl)]) (fun _ _ _ _ _ _ _ _ => BindsTo.of_eq rfl) (locs (by kernel_rfl)) (by decide +kernel) (by kernel_rfl) (by kernel_rfl) (by kernel_rfl) rfl fun cd L h₁ kp hL => ?_
  have ne := p.ne
  have p1 := p.le kp.le
  refine s_body (rfl : B 46 = _ :: _) ?_
  obtain ⟨s, ts, tn, hP⟩ := p1.pot
  obtain ⟨items, hD, hi, hz⟩ := p1.cells
  k_subL
  refine w_tailL hP (p_itemL (items := [.ref D, .int s ts, .int (n : Int) tn]) hP (by decide) (by decide) rfl fun h₂ le2 => ?_)
  have hP := le_isList le2 hP
  have hD := le_isList le2 hD
  refine s_cons (s_setL rfl ?_)
  k_subL
  refine ⟨P, [.ref D, .int s ts, .int (n : Int) tn], 2, _, rfl, rfl, hP, p.bP, by simp, by decide, fun h₃ le3 hP3 => ?_⟩
  have hD3 := le3.list ne.symm hD
  have ln3 : LeN [P, D] h h₃ := ((kp.le.trans le2).n).trans (le3.n (.head _))
  rw [show ∀ v, ([Value.ref D, .int s ts, .int (n : Int) tn] : List Value).set 2 v = [.ref D, .int s ts, v] from fun _ => rfl] at hP3
  obtain ⟨t3, hP3⟩ : ∃ t, h₃.IsList P [.ref D, .int s ts, .int ((n : Int) + 1) t].toArray := ⟨_, hP3⟩
  have nP : (n : Int) + 1 = ((n + 1 : Nat) : Int) := by omega
  have notD : D ∉ [P] := by simpa using ne.symm
  have notP : P ∉ [D] := by simpa using ne
  have last : ∀ (h₄ : Heap) (mm : Loc), Sub mm [("place", .int (n : Int) tn), ("pot", .ref P), ("limit", .int (lim : Int) tl)] → Le h₃ h₄ → S C (Fc.fn "_law_draw" (SC 46) 294 cd L c.frames) k mm (execs ((B 46).drop 3) (Fc.fn "_law_draw" (SC 46) 294 cd L c.frames).env) h₄ (fun _ h' => Q .none h') Q (fun _ _ _ => False) := fun h₄ mm su le4 => by
    refine S.sub ?_ su
    refine s_body (rfl : (B 46).drop 3 = _ :: _) ?_
    have hP4 := le_isList le4 hP3
    have hD4 := le_isList le4 hD3
    refine s_cons (s_setL rfl ?_)
    k_subL
    refine w_tailL hP4 (p_itemL hP4 (by decide) (by decide) rfl ?_)
    k_subL
    refine p_mul (IntMulOk.of_right (intBits_le_64 (by decide) (by decide))) fun t₅ => ?_
    k_subL
    refine p_mul (IntMulOk.of_right (intBits_le_64 (by omega) (by omega))) fun t₆ => ?_
    k_subL
    refine p_mod (by decide) fun t₇ => ?_
    k_subL
    refine ⟨P, _, 1, _, rfl, rfl, hP4, p.bP, by simp, by decide, fun h₅ le5 hP5 => ?_⟩
    have hD5 := le5.list ne.symm hD4
    rw [show ∀ v w, ([Value.ref D, .int s ts, w] : List Value).set 1 v = [.ref D, v, w] from fun _ _ => rfl] at hP5
    have hP5 : h₅.IsList P [.ref D, .int ((s * 16807 + (n : Int) * n + 7).fmod 2147483647) t₇, .int ((n : Int) + 1) t3].toArray := hP5
    k_subL
    refine w_tailL hP5 (p_itemL hP5 (by decide) (by decide) rfl ?_)
    k_subL
    refine p_fdiv (by decide) (by decide) fun t₈ => ?_
    k_subL
    refine p_mod (by omega) fun t₉ => ?_
    obtain ⟨v, e1, e2⟩ := fmod_nat (a := ((s * 16807 + (n : Int) * n + 7).fmod 2147483647).fdiv 5) hl
    rw [e1]
    rw [nP] at hP5
    exact q v _ _ ((ln3.trans le4.n).trans (le5.n (.head _))) ⟨p.bP, p.bD, ⟨_, _, _, hP5⟩, items, hD5, hi, hz⟩ e2
  refine s_cons (s_if ?_)
  refine w_tval ?_ (by kernel_rfl)
  k_subL
  refine w_tailL hP3 (p_itemL hP3 (by decide) (by decide) rfl ?_)
  refine p_truthyL hD3 (szl (by omega)) ?_
  cases items with
  | nil => exact ⟨fun z => (nomatch z), fun _ => s_nil (Sub.refl _) (last _ _ (by lcg_sub) (Le.refl _))⟩
  | cons x0 items' =>
    obtain ⟨items, hit⟩ : ∃ items, items = x0 :: items' := ⟨_, rfl⟩
    rw [← hit] at hD3 hi hz ⊢
    have hpos : 0 < items.length := by rw [hit]; simp
    refine ⟨fun _ => ?_, fun z => by rw [hit] at z; exact nomatch z⟩
    k_subL
    refine w_tailL hP3 (p_itemL hP3 (by decide) (by decide) rfl ?_)
    k_subL
    refine p_lenL hD3 (by omega) fun t₄ => ?_
    refine p_mod (by omega) fun t₅ h₄ le4 => ?_
    obtain ⟨sp, e1, e2⟩ := fmod_nat (a := (n : Int)) hpos
    rw [e1]
    have hP4 := le_isList le4 hP3
    have hD4 := le_isList le4 hD3
    have hx : items[sp]? = some items[sp] := List.getElem?_eq_getElem e2
    obtain ⟨w, tw, hw⟩ := hi _ (List.getElem_mem e2)
    rw [hw] at hx
    k_subL
    refine w_tailL hP4 (p_itemL hP4 (by decide) (by decide) rfl ?_)
    k_subL
    refine w_tailL hD4 (p_itemL hD4 (by omega) (by omega) (by simpa using hx) fun h₅ le5 => ?_)
    have hP5 := le_isList le5 hP4
    have hD5 := le_isList le5 hD4
    k_subL
    refine ⟨fun z => ?_, fun _ => s_nil (Sub.refl _) (s_nil (Sub.refl _) (last _ _ (by lcg_sub) (le4.trans le5)))⟩
    refine s_cons (s_setL rfl ?_)
    k_subL
    refine p_fdiv (by omega) (by omega) fun t₆ => ?_
    k_subL
    refine w_tailL hP5 (p_itemL hP5 (by decide) (by decide) rfl ?_)
    k_subL
    refine ⟨D, items, sp, _, rfl, rfl, hD5, p.bD, e2, by omega, fun h₆ le6 hD6 => ?_⟩
    have hP6 := le6.list ne hP5
    k_subL
    refine p_mod (by omega) fun t₇ => ?_
    obtain ⟨v, e3, e4⟩ := fmod_nat (a := w) hl
    rw [e3]
    rw [nP] at hP6
    exact q v _ _ ((ln3.trans (le4.trans le5).n).trans (le6.n (.tail _ (.head _)))) ⟨p.bP, p.bD, ⟨_, _, _, hP6⟩, _, hD6, ints_set hi, by simpa using hz⟩ e4
end
-- G15
section
variable {C : Cx} {c : Fc} {k : Nat} {m : Loc} {h : Heap} {X : Addr → Heap → Prop} {Q : Value → Heap → Prop}
section
variable {N : Loc → Heap → Prop} {R : Value → Heap → Prop} {Y : Loc → Addr → Heap → Prop}
/-- a for over pairs -/
theorem s_for2 {x y : Str} {px py tp pos : Pos} {kd : Nat} {iter : Expr} {body : List Stmt} (l : Live C c) (hx : c.env.kindOf x = some .local) (hy : c.env.kindOf y = some .local) (hs : ∀ x, foldedSetIterable iter c.env x = pure x) (Inv : Nat → Loc → Heap → Prop)
    (z : W C c k m (eval iter c.env) h (fun v h₁ => W C c k m (pyIter v) h₁ (fun it h₂ => ∃ (I : Addr) (n : Nat) (P : Nat → Value → Prop) (G : Heap → Prop) (St : Nat → Heap → Prop) (m₀ : Loc), it = .ref I ∧ h₁.get? I = none ∧ It C I n P G St ∧ (∀ i h, St i h → ∃ l, h.IsListIter I l i) ∧ St 0 h₂ ∧ G h₂ ∧ Sub m m₀ ∧ Inv 0 m₀ h₂ ∧
        (∀ i v m₁ h₃, i < n → P i v → G h₃ → Inv i m₁ h₃ → ∀ h₄, Le h₃ h₄ → ∃ t a b, v = .ref t ∧ h₄.IsTuple t #[a, b] ∧ ∀ h₅, Le h₄ h₅ → G h₅ → S C c k ((y, b) :: (x, a) :: m₁) (execs body c.env) h₅ (fun m₅ h₅ => G h₅ ∧ ∃ m₆, Sub m₅ m₆ ∧ Inv (i + 1) m₆ h₅) R (fun _ _ _ => False)) ∧
        (∀ m₁ h₃, Inv n m₁ h₃ → ∀ h₄, Le h₃ h₄ → N m₁ h₄)) (fun a h' => Y m a h')) (fun a h' => Y m a h')) : S C c k m (exec (.For (.Tuple [.Name x px, .Name y py] kd tp) iter body [] pos) c.env) h N R Y :=
  fun A s hA hss hh hn => wpAny_For (wpAny_mono (z A s hA hss hh hn) (fun v s₁ q => wpAny_mono (q.2.2.2 A s₁ hA q.1 rfl q.2.2.1) (fun it s₂ q2 => by
    obtain ⟨w1, w2, w3, I, n, P, G, St', m₀, rfl, hI, W, hLI, st0, g0, u0, i0, turn, fin⟩ := q2
    have hIL : I ≠ c.L := fun z => by
      obtain ⟨o, e, _⟩ := q.2.2.1.cls
      rw [← z, hI] at e; cases e
    have hIb : C.base.get? I = none := by
      cases e : C.base.get? I with
      | none => rfl
      | some o => have := q.1.stays _ _ e; rw [hI] at this; cases this
    refine codeAny_forLoop_any (fun kk s' => ∃ i m', kk = n + 1 - i ∧ i ≤ n ∧ St C c.frames s' ∧ PI c.L I s₁.heap s'.heap ∧ Ns c s'.heap m' ∧ Inv i m' s'.heap ∧ St' i s'.heap ∧ G s'.heap) ?_ (n + 1)
      ⟨0, m₀, rfl, Nat.zero_le _, w1, ⟨fun b o hb _ e hd => w2.d b o hb e hd, fun b o hb _ e hd => w2.r b o hb e hd⟩, w3.sub u0, i0, st0, g0⟩
    rintro kk s' ⟨i, m', rfl, hi, a1, a2, a3, a4, a5, a6⟩
    by_cases hlt : i < n
    · refine W.item i A s' _ _ hA.handled hlt a5 a6 fun v h₃ tk hP st1 hsb => ?_
      have hr := W.isRec i _ a5
      have le1 := le_iter hsb hr
      obtain ⟨t, a, b, rfl, ht, turn⟩ := turn i v m' _ hlt hP a6 a4 h₃ le1
      obtain ⟨ll, hit⟩ := hLI _ _ st1
      refine wpAny_letOwnedTupleGo_listiter hit ?_
      refine wpAny_assign_Tuple hA.handled ht rfl rfl fun h₄ hx' => ?_
      have kp := keep_ext hx'
      have s3 : St C c.frames { s' with heap := h₃, toks := tk } := a1.iter hIb hsb hr tk
      have n3 := ns_iter hsb hr a3
      show wpAny _ _ (assignInOrder [assign (.Name x px) c.env, assign (.Name y py) c.env] [a, b]) _ _ _
      unfold assignInOrder
      refine wpAny_bind (wpAny_holding (wpAny_assign_Name (w_store l (s3.keep kp tk) (n3.keep kp) hx fun s₄ b1 b2 b3 b4 => ?_)))
      unfold assignInOrder
      refine wpAny_bind (wpAny_holding (wpAny_assign_Name (w_store l b1 b3 hy fun s₅ e1 e2 e3 e4 => ?_)))
      unfold assignInOrder
      refine wpAny_pure ?_
      have st3 := W.same _ _ h₄ st1 fun o e => kp _ _ e
      have st4 := W.same _ _ s₄.heap st3 (b2.it hIL (W.isRec _ _ st3))
      have st5 := W.same _ _ s₅.heap st4 (e2.it hIL (W.isRec _ _ st4))
      have le5 : Le h₃ s₅.heap := (kp.le.trans b4).trans e4
      refine wpAny_mono (turn s₅.heap le5 (W.gle _ _ (le1.trans le5) a6) A s₅ hA e1 rfl e3) (fun fl s₆ r => ?_) (fun e s₅ r => by obtain ⟨_, _, _, _, _, _, r⟩ := r; exact r.elim)
      obtain ⟨r1, r2, m₅, r3, r4⟩ := r
      have pi : PI c.L I s₁.heap s₆.heap := ((((a2.ext hsb).pd (kp.pd _)).pd b2).pd e2).pd r2
      cases fl with
      | next =>
        obtain ⟨g5, m₆, u, iv⟩ := r4
        exact ⟨n + 1 - (i + 1), by omega, i + 1, m₆, rfl, hlt, r1, pi, r3.sub u, iv, W.same _ _ _ st5 (r2.it hIL (W.isRec _ _ st5)), g5⟩
      | ret v => exact ⟨r1, q.2.1.trans ⟨fun b o hb e hd => pi.d b o hb (fun z => by rw [z, hI] at e; cases e) e hd, fun b o hb e hd => pi.r b o hb (fun z => by rw [z, hI] at e; cases e) e hd⟩, m₅, r3, r4⟩
      | brk => exact r4.elim
      | cont => exact r4.elim
    · have hin : i = n := by omega
      subst hin
      refine W.done A s' _ _ hA.handled a5 a6 fun h₃ tk hx => wpAny_execs_nil ?_
      have hr := W.isRec i _ a5
      have pi := a2.ext hx
      exact ⟨a1.iter hIb hx hr tk, q.2.1.trans ⟨fun b o hb e hd => pi.d b o hb (fun z => by rw [z, hI] at e; cases e) e hd, fun b o hb e hd => pi.r b o hb (fun z => by rw [z, hI] at e; cases e) e hd⟩, m', ns_iter hx hr a3, fin m' _ a4 h₃ (le_iter hx hr)⟩)
    (fun e s₂ r => ⟨r.1, q.2.1.trans r.2.1, m, r.2.2.1, r.2.2.2⟩)) fun e s₂ r => ⟨r.1, r.2.1, m, r.2.2.1, r.2.2.2⟩) hs
end
/-- what the law told: names and their ids; the lists of ids are none of X -/
def Told (X : List Addr) (h : Heap) (D : Addr) (ts : List (List Nat × List (List UInt8))) : Prop :=
  ∃ items : List Value, PL h D items ∧ items.length = ts.length ∧ ∀ (i : Nat) (f : List Nat × List (List UInt8)), ts[i]? = some f → ∃ b E u, items[i]? = some (Value.ref b) ∧ h.IsTuple b #[.str (txt f.1) u, .ref E] ∧ SL h E (txts f.2) ∧ E ∉ X
theorem Told.le {X : List Addr} {h h' : Heap} {D : Addr} {ts : List (List Nat × List (List UInt8))} (x : Told X h D ts) (l : Le h h') : Told X h' D ts := by
  obtain ⟨items, e1, e2, e3⟩ := x
  exact ⟨items, e1.le l, e2, fun i f e => let ⟨b, E, u, q1, q2, q3, q4⟩ := e3 i f e; ⟨b, E, u, q1, le_isTuple l q2, q3.le l, q4⟩⟩
theorem LeN.sl {S : List Addr} {h h' : Heap} {E : Addr} {ss : List Str} (l : LeN S h h') (n : E ∉ S) (x : SL h E ss) : SL h' E ss := by
  obtain ⟨ps, e1, e2⟩ := x
  exact ⟨ps, l.list n e1, e2⟩
theorem Told.n {X S : List Addr} {h h' : Heap} {D : Addr} {ts : List (List Nat × List (List UInt8))} (x : Told X h D ts) (l : LeN S h h') (hS : ∀ a ∈ S, a ∈ X) (hD : D ∉ S) (hl : ∀ l ∈ S, ∃ y, h.IsList l y) : Told X h' D ts := by
  obtain ⟨items, e1, e2, e3⟩ := x
  exact ⟨items, l.pl hD e1, e2, fun i f e => let ⟨b, E, u, q1, q2, q3, q4⟩ := e3 i f e; ⟨b, E, u, q1, l.tuple (tuple_notin hl q2) q2, l.sl (fun z => q4 (hS _ z)) q3, q4⟩⟩
theorem Told.push {X : List Addr} {h h' : Heap} {D : Addr} {ts : List (List Nat × List (List UInt8))} {items : List Value} {b E : Addr} {u : Tok} {f : List Nat × List (List UInt8)} (x : Told X h D ts) (l : LeB D h h') (pl : PL h D items) (pl' : PL h' D (items ++ [.ref b])) (ht : h.IsTuple b #[.str (txt f.1) u, .ref E]) (hs : SL h E (txts f.2)) (hE : E ∉ X) (hD : D ∈ X) :
    Told X h' D (ts ++ [f]) := by
  obtain ⟨items', e1, e2, e3⟩ := x
  have : items' = items := by
    have := isList_inj e1.list pl.list
    simpa using congrArg Array.toList this
  subst this
  have tup : ∀ {b : Addr} {y : Array Value}, h.IsTuple b y → h'.IsTuple b y := fun {b y} q => tuple_leB q l pl
  have slE : ∀ {E : Addr} {ss : List Str}, E ∉ X → SL h E ss → SL h' E ss := fun {E ss} n q => by
    obtain ⟨ps, q1, q2⟩ := q
    exact ⟨ps, l.list (fun z => n (z ▸ hD)) q1, q2⟩
  refine ⟨items' ++ [.ref b], pl', by simp [e2], fun i g e => ?_⟩
  by_cases hi : i < ts.length
  · rw [List.getElem?_append_left hi] at e
    obtain ⟨b', E', u', q1, q2, q3, q4⟩ := e3 i g e
    exact ⟨b', E', u', by rw [List.getElem?_append_left (by omega)]; exact q1, tup q2, slE q4 q3, q4⟩
  · rw [List.getElem?_append_right (by omega)] at e
    have h1 := (List.getElem?_eq_some_iff.mp e).1
    simp only [List.length_cons, List.length_nil] at h1
    have h0 : i - ts.length = 0 := by omega
    rw [h0] at e; cases e
    exact ⟨b, E, u, by rw [List.getElem?_append_right (by omega), e2, h0]; rfl, tup ht, slE hE hs, hE⟩
def firstTold (ts : List (List Nat × List (List UInt8))) (w : List Nat) : List (List UInt8) := match ts.find? (fun t => t.1 == w) with
  | some t => t.2
  | none => []
theorem it_list_iter {l I : Addr} {i : Nat} {h : Heap} (x : h.IsListIter I l i) : ∃ l, h.IsListIter I l i := ⟨l, x⟩
theorem w_iterLX {l : Addr} {items : List Value} (hl : h.IsList l items.toArray) (q : ∀ I h' St, Keep h h' → h.get? I = none → It C I items.length (fun i v => items[i]? = some v) (fun h => h.IsList l items.toArray) St → (∀ i h, St i h → ∃ l, h.IsListIter I l i) → St 0 h' → h'.IsList l items.toArray → Q (.ref I) h') : W C c k m (pyIter (.ref l)) h Q X :=
  W.grow (P := fun v h' => ∃ I, v = .ref I ∧ h.get? I = none ∧ h'.IsListIter I l 0) (fun v h' kp ⟨I, e, p1, p2⟩ => e ▸ q I h' _ kp p1 (it_list l I items) (fun _ _ x => ⟨l, x⟩) p2 (le_isList kp.le hl)) fun A s E Q' hA hh r => by
    subst hh
    exact wpAny_pyIter_list hl (r _ _ _ (Keep.push _ _) ⟨_, rfl, Heap.get?_none_of_le (Nat.le_refl _), _, Heap.get?_push_size _ rfl, rfl, rfl⟩)
theorem law_first_spec (T : Tops C) {D : Addr} {ts : List (List Nat × List (List UInt8))} {w : List Nat} {ws : Str} {t : Tok} {XX : List Addr} (hl : Told XX h D ts) (hws : ws = txt w) (q : ∀ E h', Le h h' → SL h' E (txts (firstTold ts w)) → Q (.ref E) h') :
    W C c (k + 1) m (PySem.call (.ref 320) [.ref D, .str ws t]) h Q X := by
  subst hws
  refine w_fn T.toTopOk T.f_law_first.2 (binds := [("told_ids", .ref D), ("word", .str (txt w) t)]) (fun _ _ _ _ _ _ _ _ => BindsTo.of_eq rfl) (locs (by kernel_rfl)) (by decide +kernel) (by kernel_rfl) (by kernel_rfl) (by kernel_rfl) rfl fun cd L h₁ kp hL => ?_
  refine s_body (rfl : B 50 = _ :: _) ?_
  obtain ⟨items, pl, e2, e3⟩ := hl.le kp.le
  refine s_cons (s_for2 (Live.fn (by kernel_rfl)) (by kernel_rfl) (by kernel_rfl) (fun _ => rfl) (fun i m' h' => m' = ([("told_ids", .ref D), ("word", .str (txt w) t)] : Loc) ∧ Le h₁ h' ∧ (ts.take i).find? (fun t => t.1 == w) = none) ?_)
  k_subL
  refine w_iterLX pl.list fun I h₂ St kp2 nI it hLI st gl => ⟨I, _, _, _, _, _, rfl, nI, it, hLI, st, gl, by lcg_sub, ⟨rfl, kp2.le, rfl⟩, ?_, ?_⟩
  · rintro i v m₁ h₃ hi hv g3 ⟨rfl, le3, hn⟩ h₄ le4
    have hi' : i < ts.length := by omega
    have hti : ts[i]? = some ts[i] := List.getElem?_eq_getElem hi'
    obtain ⟨b, E, u, q1, q2, q3, q4⟩ := e3 i _ hti
    rw [hv] at q1
    cases q1
    refine ⟨b, _, _, rfl, le_isTuple (le3.trans le4) q2, fun h₅ le5 g5 => ?_⟩
    have le := (le3.trans le4).trans le5
    k_subL
    rw [txt_inj]
    refine ⟨fun z => ?_, fun z => ?_⟩
    · k_subL
      have := q E _ (kp.le.trans le)
      rw [firstTold, find_here hti hn z] at this
      exact this (q3.le le)
    · exact s_nil (Sub.refl _) (s_nil (Sub.refl _) ⟨g5, _, by lcg_sub, rfl, le, find_take hti hn z⟩)
  · rintro m₁ h₃ ⟨rfl, le3, hn⟩ h₄ le4
    k_subL
    refine w_newListP (szl (by simp)) fun E h₅ kp5 nE bE plE => ?_
    have := q E _ ((kp.le.trans (le3.trans le4)).trans kp5.le)
    rw [e2, List.take_length] at hn
    rw [firstTold, hn] at this
    exact this ⟨[], plE.list, rfl⟩
end
-- Comp2
section
variable {C : Cx} {c : Fc} {k : Nat} {m : Loc} {h : Heap} {X : Addr → Heap → Prop}
/-- a comprehension laid to a name of a function -/
theorem s_compAssign {elt iter : Expr} {x y : Str} {px py pos spos : Pos} {ifs : List Expr} {scope : Scope} {N : Loc → Heap → Prop} {R : Value → Heap → Prop} {Y : Loc → Addr → Heap → Prop} (pf : Nat → Bool) (F : Nat → Value → Value → Prop) (l : Live C c) (hy : c.env.kindOf y = some .local)
    (hsw : swapsWith (.ListComp elt [⟨.Name x px, iter, ifs, 0⟩] scope pos) (some (.Name y py)) spos.line c.env = Pure.pure true)
    (hfree : ∀ x ∈ scope.names, x.2 ≠ .free) (hkind : scope.kind = .function) (hnames : ∀ x ∈ scope.names, x.2 = .local → scope.names.lookup x.1 = some .local) (hcell : ∀ x ∈ scope.names, x.2 ≠ .cell) (hx : scope.names.lookup x = some .local)
    (hs : ∀ x, foldedSetIterable iter c.env x = Pure.pure x)
    (z : W C c k m (eval iter c.env) h (fun v h₁ => W C c k m (pyIter v) h₁ (fun it h₂ => ∃ I n P G St, it = .ref I ∧ Keep h₁ h₂ ∧ h₁.get? I = none ∧ It C I n P G St ∧ St 0 h₂ ∧ G h₂ ∧ n ≤ sizeLine ∧
        (∀ L i v h₄, i < n → P i v → Le h₂ h₄ → G h₄ → W C (c.comp scope L) k [(x, v)] (tst ifs (c.comp scope L).env) h₄ (fun b h₅ => Le h₄ h₅ ∧ b = pf i ∧
          (b = true → W C (c.comp scope L) k [(x, v)] (eval elt (c.comp scope L).env) h₅ (fun w h₆ => Le h₅ h₆ ∧ F i v w) (fun _ _ => False))) (fun _ _ => False)) ∧
        (∀ D ys h₆, Le h₂ h₆ → h₂.get? D = none → Res P pf F n ys → h₆.IsList D ys.toArray → N ((y, .ref D) :: m) h₆)) (fun a h' => Y m a h')) (fun a h' => Y m a h')) :
    S C c k m (exec (.Assign [.Name y py] (.ListComp elt [⟨.Name x px, iter, ifs, 0⟩] scope pos) spos) c.env) h N R Y := fun A s hA hss hh hn => by
  rw [exec_Assign_Name_used _ _ _ _ hsw]
  refine wpAny_bind (wpAny_standAt (wpAny_bind ?_))
  show wpAny _ A (do let _ ← comprehension (.ListComp elt [⟨.Name x px, iter, ifs, 0⟩] scope pos) scope c.env _ (newList []) false (eval iter c.env) (some (assign (.Name y py) c.env))) _ _ s
  refine wpAny_bind (wpAny_mono (wpAny_comprehension_use (Q := fun _ s' => St C c.frames s' ∧ PD c.L h s'.heap ∧ ∃ m', Ns c s'.heap m' ∧ N m' s'.heap) rfl hs hfree hkind hnames (wpAny_mono (z A s hA hss hh hn) (fun v s₁ q => wpAny_mono (q.2.2.2 A s₁ hA q.1 rfl q.2.2.1) (fun it s₂ q2 => ?_) (fun e s₂ r => ⟨r.1, q.2.1.trans r.2.1, m, r.2.2.1, r.2.2.2⟩)) fun _ _ r => ⟨r.1, r.2.1, m, r.2.2.1, r.2.2.2⟩))
    (fun _ s' hq => wpAny_pure (wpAny_pure hq)) fun _ _ e => e)
  obtain ⟨w1, w2, w3, I, n, P, G, St', rfl, kp12, hI, W, st0, g0, hz, turn, fin⟩ := q2
  have rI := W.isRec _ _ st0
  have lI : I < s₂.heap.objs.size := by obtain ⟨o, e, _⟩ := rI; exact Heap.lt_size e
  have lL2 : c.L < s₂.heap.objs.size := by obtain ⟨o, e, _⟩ := w3.cls; exact Heap.lt_size e
  have hLI : c.L ≠ I := fun z => by obtain ⟨o, e, _⟩ := q.2.2.1.cls; rw [z, hI] at e; cases e
  have n2 : ∀ a, s₂.heap.get? a = none → C.base.get? a = none := fun a ha => by
    cases e : C.base.get? a with
    | none => rfl
    | some o => have := w1.stays _ _ e; rw [ha] at this; cases this
  have bI : C.base.get? I = none := by
    cases e : C.base.get? I with
    | none => rfl
    | some o => have := q.1.stays _ _ e; rw [hI] at this; cases this
  refine wpAny_newObj_type ?_ (by show (#[] : Array Value).size ≤ sizeLine; exact Nat.zero_le _)
  refine newEnvComp hcell ?_
  obtain ⟨D, hD⟩ : ∃ D, D = s₂.heap.objs.size := ⟨_, rfl⟩
  obtain ⟨h3, hh3⟩ : ∃ h3, h3 = s₂.heap.push { cls := .type "list", dict := none, data := .seq #[] } := ⟨_, rfl⟩
  obtain ⟨L', hL'⟩ : ∃ L', L' = h3.objs.size := ⟨_, rfl⟩
  obtain ⟨h4, hh4⟩ : ∃ h4, h4 = h3.push { cls := .type "dict", data := .dict #[] } := ⟨_, rfl⟩
  have sz3 : h3.objs.size = s₂.heap.objs.size + 1 := by rw [hh3]; exact Heap.size_push ..
  have kp3 : Keep s₂.heap h3 := by rw [hh3]; exact Keep.push _ _
  have kp4 : Keep h3 h4 := by rw [hh4]; exact Keep.push _ _
  have eD : h3.get? D = some { cls := .type "list", data := .seq #[] } := by rw [hh3, hD]; exact Heap.get?_push_size _ rfl
  have eL : h4.get? L' = some { cls := .type "dict", data := .dict #[] } := by rw [hh4, hL']; exact Heap.get?_push_size _ rfl
  have nsL : h4.Ns L' (fun _ => none) := by rw [hh4, hL']; exact Heap.Ns.new ..
  rw [← hD, ← hh3]
  show codeAny _ _ (.compStart _ 0 (.ref I) (.ref D) (c.comp scope h3.objs.size).env) _ { s₂ with heap := h3.push _ }
  rw [← hL', ← hh4]
  have kp := kp3.trans kp4
  have fD : s₂.heap.get? D = none := Heap.get?_none_of_le (by omega)
  have fL : s₂.heap.get? L' = none := Heap.get?_none_of_le (by omega)
  have f1 : ∀ a, s₂.heap.get? a = none → ∀ T, (∃ o, s₂.heap.get? T = some o) → T ≠ a := fun a ha T ⟨o, e⟩ z => by rw [z, ha] at e; cases e
  have st4 : St C c.frames { s₂ with heap := h4 } := w1.at (s' := { s₂ with heap := h4 }) kp rfl rfl
  have n1 : ∀ a, s₂.heap.objs.size ≤ a → s₁.heap.get? a = none := fun a ha => by
    cases e : s₁.heap.get? a with
    | none => rfl
    | some o => exact absurd (Heap.lt_size (kp12 _ _ e)) (Nat.not_lt.mpr ha)
  have lI := ltN lI
  have lL2 := ltN lL2
  have hDI : D ≠ I := neN (by omega)
  have hLI' : L' ≠ I := neN (by omega)
  have hLD : L' ≠ D := neN (by omega)
  have hcL : c.L ≠ L' := neN (by omega)
  have hcD : c.L ≠ D := neN (by omega)
  have nD1 : s₁.heap.get? D = none := n1 _ (Nat.le_of_eq hD.symm)
  have nL1 : s₁.heap.get? L' = none := n1 _ (by omega)
  have key : ∀ R : Result → Shared → Prop, (∀ s' ys, St C c.frames s' → PD c.L s₁.heap s'.heap → Ns c s'.heap m → (∃ mf, s'.heap.Ns L' mf) → Le s₂.heap s'.heap → Res P pf F n ys → s'.heap.IsList D ys.toArray → R (.ok .next) s') →
      codeAny (model C.prog C.w) A (.compLoop (.ListComp elt [⟨.Name x px, iter, ifs, 0⟩] scope pos) 0 (.ref I) (.ref D) (c.comp scope L').env) R { s₂ with heap := h4 } := fun R hR =>
    comp_loop pf F W hA hz hkind hx hI fD nD1 fL nL1 bI (n2 _ fD) (n2 _ fL) hDI hLI' hLD hcL hcD hLI (turn L') hR _ st4
      ⟨fun b o hb e hd => by obtain ⟨sl, e'⟩ := w2.d b o hb e hd; exact ⟨sl, kp _ _ e'⟩, fun b o hb e hr => kp _ _ (w2.r b o hb e hr)⟩ (w3.keep kp) ⟨_, nsL⟩ ⟨_, eL, rfl⟩ kp.le ⟨_, kp4 _ _ eD, rfl, _, rfl⟩ (W.same _ _ h4 st0 fun o e => kp _ _ e) g0
  have fin' : ∀ s' ys, St C c.frames s' → PD c.L s₁.heap s'.heap → Ns c s'.heap m → (∃ mf, s'.heap.Ns L' mf) → Le s₂.heap s'.heap → Res P pf F n ys → s'.heap.IsList D ys.toArray →
      wpAny (model C.prog C.w) A (assign (.Name y py) c.env (.ref D)) (fun _ s'' => ∃ m', s''.heap.Ns L' m' ∧ ∀ h', Heap.SameBut L' s''.heap h' → St C c.frames { s'' with heap := h' } ∧ PD c.L h h' ∧ ∃ m', Ns c h' m' ∧ N m' h')
        (fun e s' => St C c.frames s' ∧ PD c.L h s'.heap ∧ ∃ m', Ns c s'.heap m' ∧ ∃ a, e = .ref a ∧ Y m' a s'.heap) s' := fun s' ys b1 b2 b3 b4 b5 b6 b7 => by
    obtain ⟨mf, b4⟩ := b4
    refine wpAny_assign_Name (w_store l b1 b3 hy fun s'' q1 q2 q3 q4 => ?_)
    refine ⟨mf, q2.ns b4 hcL.symm, fun h' hs' => ?_⟩
    have b7 := le_isList q4 b7
    obtain ⟨oD, e7, r7⟩ := b7
    refine ⟨?_, q.2.1.trans ((b2.trans q2).ext hs'.extBut nL1), _, q3.ext hs'.extBut hcL, fin D ys h' ((b5.trans q4).ext hs'.extBut fL) fD b6 ⟨oD, hs'.extBut _ _ hLD.symm e7, r7⟩⟩
    exact ⟨q1.gens, q1.os, fun b o e => hs'.extBut _ _ (fun z => by rw [z, n2 _ fL] at e; cases e) (q1.stays b o e), funFrames_ext hs'.extBut fL w1.frames q1.frames⟩
  refine codeAny_compStart_list (key _ ?_) (W.self _ _ _ _ _ hA.handled (W.same _ _ h4 st0 fun o e => kp _ _ e) (key _ ?_))
  all_goals exact fin'
end
-- G16
section
variable {C : Cx} {c : Fc} {k : Nat} {m : Loc} {h : Heap} {X : Addr → Heap → Prop} {Q : Value → Heap → Prop}
theorem base_none {h h₁ : Heap} {D : Addr} (hs : C.base.StaysIn h) (n : h.get? D = none) : C.base.get? D = none := by
  cases e : C.base.get? D with
  | none => rfl
  | some o => have := hs _ _ e; rw [n] at this; cases this
theorem pot_spec (T : Tops C) {sc : Addr} {items : List Value} (hs : h.IsList sc items.toArray) (hi : Ints items) (hz : items.length ≤ 1000) (q : ∀ P D h', Le h h' → Pot C h' P D 0 → Q (.ref P) h') :
    W C c (k + 1) m (PySem.call (.ref 287) [.ref sc]) h Q X := by
  refine w_fn T.toTopOk T.f_law_pot.2 (binds := [("script", .ref sc)]) (fun _ _ _ _ _ _ _ _ => BindsTo.of_eq rfl) (locs (by kernel_rfl)) (by decide +kernel) (by kernel_rfl) (by kernel_rfl) (by kernel_rfl) rfl fun cd L h₁ kp hL => ?_
  refine s_body (rfl : B 45 = _ :: _) ?_
  have hs := le_isList kp.le hs
  refine s_cons ?_
  refine s_compAssign (fun _ => true) (fun i v w => ∃ a t, w = .int a t) (Live.fn (by kernel_rfl)) (by kernel_rfl) (by kernel_rfl) (by decide +kernel) (by kernel_rfl) (by decide +kernel) (by decide +kernel) (by kernel_rfl) (fun _ => rfl) ?_
  k_subL
  intro sl h₂ kp2 hsl
  refine w_tailL (le_isList kp2.le hs) (p_sliceL (le_isList kp2.le hs) hsl .none (.int _ _) (szl (by omega)) fun V h₃ kp3 nV hV => ?_)
  rw [show (40 : Int) = ((40 : Nat) : Int) from rfl, slice_to] at hV
  have hi2 : Ints (items.take 40) := fun v hv => hi v (List.mem_of_mem_take hv)
  have hl2 : (items.take 40).length ≤ 40 := by rw [List.length_take]; omega
  obtain ⟨its, hits⟩ : ∃ its, its = items.take 40 := ⟨_, rfl⟩
  rw [← hits] at hV hi2 hl2
  refine w_iterL hV fun I h₄ St kp4 nI it st hl4 => ⟨I, _, _, _, _, rfl, kp4, nI, it, st, hl4, szl (by omega), ?_, ?_⟩
  · rintro L' i v h₅ hi hv le5 _
    refine w_tst0 ⟨Le.refl _, rfl, fun _ => ?_⟩
    obtain ⟨a, ta, rfl⟩ := hi2 _ (List.mem_of_getElem? hv)
    k_subL
    exact p_int ⟨Le.refl _, a, ta, rfl⟩
  intro Dc ys h₅ le5 nDc r hDc
  have le06 := ((kp2.trans kp3).trans kp4).le.trans le5
  obtain ⟨r1, r2⟩ := r.all
  have iy : Ints ys := fun v hv => by
    obtain ⟨i, hlt, rfl⟩ := List.mem_iff_getElem.mp hv
    obtain ⟨_, _, a, t, e⟩ := r2 i _ (List.getElem?_eq_getElem hlt)
    exact ⟨a, t, e⟩
  k_subL
  intro h₇ le7
  have hDc := le_isList le7 hDc
  refine s_cons (s_for (Live.fn (by kernel_rfl)) (by kernel_rfl) (fun _ => rfl) (fun i m' h' => ∃ s t, m' = ([("state", .int s t), ("cells", .ref Dc)] : Loc) ∧ Le h₇ h') ?_)
  k_subL
  refine w_iterL hDc fun I h₈ St kp8 nI it st gl => ⟨I, _, _, _, _, _, rfl, nI, it, st, gl, by lcg_sub, ⟨_, _, rfl, kp8.le⟩, ?_, ?_⟩
  · rintro i v m₁ h₉ hi hv g9 ⟨s, t, rfl, le9⟩ h₁₀ le10 g10
    obtain ⟨a, ta, rfl⟩ := iy _ (List.mem_of_getElem? hv)
    k_subL
    refine p_mul (IntMulOk.of_right (intBits_le_64 (by decide) (by decide))) fun t₁ => ?_
    k_subL
    refine p_mod (by decide) fun t₂ => ?_
    k_subL
    refine p_mod (by decide) fun t₃ h₁₁ le11 => ?_
    exact s_nil (Sub.refl _) ⟨le_isList le11 g10, _, by lcg_sub, _, _, rfl, (le9.trans le10).trans le11⟩
  · rintro m₁ h₉ ⟨s, t, rfl, le9⟩ h₁₀ le10
    have le := le9.trans le10
    have hDc := le_isList le hDc
    k_subL
    refine w_base fun hst => ?_
    refine w_comp (fun _ => true) (fun i v w => ∃ a t, w = .int a t) (by decide +kernel) (by kernel_rfl) (by decide +kernel) (by decide +kernel) (by kernel_rfl) (fun _ => rfl) ?_
    k_subL
    refine w_iterL hDc fun I h₁₁ St kp11 nI it st hl4 => ⟨I, _, _, _, _, rfl, kp11, nI, it, st, hl4, szl (by omega), ?_, ?_⟩
    · rintro L' i v h₅ hi hv le5 _
      refine w_tst0 ⟨Le.refl _, rfl, fun _ => ?_⟩
      obtain ⟨a, ta, rfl⟩ := iy _ (List.mem_of_getElem? hv)
      k_subL
      refine p_abs fun t₁ => ?_
      k_subL
      refine p_pow (by decide) (by decide) (by decide) fun t₂ => ?_
      exact p_mod (by decide +kernel) fun t₃ => ⟨Le.refl _, _, _, rfl⟩
    · intro D zs h₁₂ le12 nD r hD
      obtain ⟨z1, z2⟩ := r.all
      have iz : Ints zs := fun v hv => by
        obtain ⟨i, hlt, rfl⟩ := List.mem_iff_getElem.mp hv
        obtain ⟨_, _, a, t, e⟩ := z2 i _ (List.getElem?_eq_getElem hlt)
        exact ⟨a, t, e⟩
      have bD : C.base.get? D = none := base_none (h₁ := h) (fun b o e => kp11 _ _ (hst b o e)) nD
      k_subL
      refine w_newListP (szl (by simp)) fun P h₁₃ kp13 nP bP pl => ?_
      refine q P D _ ((((kp.le.trans le06).trans le7).trans le).trans ((kp11.le.trans le12).trans kp13.le)) ⟨bP, bD, ⟨_, _, _, pl.list⟩, zs, le_isList kp13.le hD, iz, by omega⟩
end
-- G17
section
variable {C : Cx} {c : Fc} {k : Nat} {m : Loc} {h : Heap} {X : Addr → Heap → Prop} {Q : Value → Heap → Prop}
/-- the law's menus -/
def nameL : List (List UInt8) := [[77, 101, 115, 115, 97, 103, 101, 45, 73, 68], [109, 101, 115, 115, 97, 103, 101, 45, 105, 100], [82, 101, 102, 101, 114, 101, 110, 99, 101, 115], [82, 69, 70, 69, 82, 69, 78, 67, 69, 83], [73, 110, 45, 82, 101, 112, 108, 121, 45, 84, 111], [105, 110, 45, 114, 101, 112, 108, 121, 45, 116, 111], [83, 117, 98, 106, 101, 99, 116]]
def idL : List (List UInt8 × List UInt8) := [([97, 64, 98], [60, 97, 64, 98, 62]), ([99, 46, 100, 64, 101], [60, 99, 46, 100, 64, 101, 62]), ([120, 32, 121, 64, 122], [60, 34, 120, 32, 121, 34, 64, 122, 62]), ([102, 64, 91, 49, 93], [60, 102, 64, 91, 49, 93, 62]), ([], [119, 111, 114, 100]), ([], [60, 97, 32, 98, 64, 99, 62]), ([], [60, 64, 62])]
def wsL : List (List UInt8) := [[32], [13, 10, 32], [9], [10, 9]]
def endL : List (List UInt8) := [[13, 10], [10]]
def bodyL : List (List UInt8) := [[13, 10, 60, 105, 110, 64, 98, 111, 100, 121, 62], [], [10, 82, 101, 102, 101, 114, 101, 110, 99, 101, 115, 58, 32, 60, 105, 110, 64, 98, 111, 100, 121, 62]]
theorem names_spec (T : Tops C) (q : ∀ N ps h', Keep h h' → h.get? N = none → PL h' N (bvals ps) → ps.map (·.1) = nameL → Q (.ref N) h') :
    W C c (k + 1) m (PySem.call (.ref 301) []) h Q X := by
  refine w_fn T.toTopOk T.f_law_names.2 (binds := []) (fun _ _ _ _ _ _ _ _ => BindsTo.of_eq rfl) (locs (by kernel_rfl)) (by decide +kernel) (by kernel_rfl) (by kernel_rfl) (by kernel_rfl) rfl fun cd L h₁ kp hL => ?_
  refine s_body (rfl : B 47 = _ :: _) ?_
  k_subL
  refine w_newListP (szl (by simp)) fun N h₂ kp2 nN bN pl => ?_
  exact q N [([77, 101, 115, 115, 97, 103, 101, 45, 73, 68], _), ([109, 101, 115, 115, 97, 103, 101, 45, 105, 100], _), ([82, 101, 102, 101, 114, 101, 110, 99, 101, 115], _), ([82, 69, 70, 69, 82, 69, 78, 67, 69, 83], _), ([73, 110, 45, 82, 101, 112, 108, 121, 45, 84, 111], _), ([105, 110, 45, 114, 101, 112, 108, 121, 45, 116, 111], _), ([83, 117, 98, 106, 101, 99, 116], _)] _ (kp.trans kp2) (new_none kp nN) pl rfl
/-- a pair of the menu -/
def IdAt (h : Heap) (v : Value) (p : List UInt8 × List UInt8) : Prop := ∃ b t u, v = .ref b ∧ h.IsTuple b #[.str (txt (codes p.1)) t, .bytes p.2.toArray u]
theorem IdAt.keep {h h' : Heap} {v : Value} {p : List UInt8 × List UInt8} (x : IdAt h v p) (k : Keep h h') : IdAt h' v p := by
  obtain ⟨b, t, u, e, y⟩ := x
  exact ⟨b, t, u, e, le_isTuple k.le y⟩
theorem idS0 : Str.ofString "a@b" = txt (codes [97, 64, 98]) := by decide +kernel
theorem idS1 : Str.ofString "c.d@e" = txt (codes [99, 46, 100, 64, 101]) := by decide +kernel
theorem idS2 : Str.ofString "x y@z" = txt (codes [120, 32, 121, 64, 122]) := by decide +kernel
theorem idS3 : Str.ofString "f@\x5b1]" = txt (codes [102, 64, 91, 49, 93]) := by decide +kernel
theorem idSn : Str.ofString "" = txt (codes []) := by decide +kernel
theorem ids_spec (T : Tops C) (q : ∀ N (items : List Value) h', Keep h h' → h.get? N = none → PL h' N items → items.length = 7 → (∀ (i : Nat) p, idL[i]? = some p → ∃ v, items[i]? = some v ∧ IdAt h' v p) → Q (.ref N) h') :
    W C c (k + 1) m (PySem.call (.ref 308) []) h Q X := by
  refine w_fn T.toTopOk T.f_law_ids.2 (binds := []) (fun _ _ _ _ _ _ _ _ => BindsTo.of_eq rfl) (locs (by kernel_rfl)) (by decide +kernel) (by kernel_rfl) (by kernel_rfl) (by kernel_rfl) rfl fun cd L h₁ kp hL => ?_
  have e48 : B 48 = _ :: _ := rfl
  with_reducible refine s_body e48 ?_
  k_subL
  refine w_newTuple (szl (by simp)) fun a0 g0 kp0 _ y0 => ?_
  k_subL
  refine w_newTuple (szl (by simp)) fun a1 g1 kp1 _ y1 => ?_
  k_subL
  refine w_newTuple (szl (by simp)) fun a2 g2 kp2 _ y2 => ?_
  k_subL
  refine w_newTuple (szl (by simp)) fun a3 g3 kp3 _ y3 => ?_
  k_subL
  refine w_newTuple (szl (by simp)) fun a4 g4 kp4 _ y4 => ?_
  k_subL
  refine w_newTuple (szl (by simp)) fun a5 g5 kp5 _ y5 => ?_
  k_subL
  refine w_newTuple (szl (by simp)) fun a6 g6 kp6 _ y6 => ?_
  k_subL
  refine w_newListP (szl (by simp)) fun N h₂ kp7 nN bN pl => ?_
  rw [idS0] at y0
  have z0 : IdAt h₂ (.ref a0) ([97, 64, 98], [60, 97, 64, 98, 62]) := IdAt.keep ⟨_, _, _, rfl, y0⟩ ((((((kp1.trans kp2).trans kp3).trans kp4).trans kp5).trans kp6).trans kp7)
  rw [idS1] at y1
  have z1 : IdAt h₂ (.ref a1) ([99, 46, 100, 64, 101], [60, 99, 46, 100, 64, 101, 62]) := IdAt.keep ⟨_, _, _, rfl, y1⟩ (((((kp2.trans kp3).trans kp4).trans kp5).trans kp6).trans kp7)
  rw [idS2] at y2
  have z2 : IdAt h₂ (.ref a2) ([120, 32, 121, 64, 122], [60, 34, 120, 32, 121, 34, 64, 122, 62]) := IdAt.keep ⟨_, _, _, rfl, y2⟩ ((((kp3.trans kp4).trans kp5).trans kp6).trans kp7)
  rw [idS3] at y3
  have z3 : IdAt h₂ (.ref a3) ([102, 64, 91, 49, 93], [60, 102, 64, 91, 49, 93, 62]) := IdAt.keep ⟨_, _, _, rfl, y3⟩ (((kp4.trans kp5).trans kp6).trans kp7)
  rw [idSn] at y4
  have z4 : IdAt h₂ (.ref a4) ([], [119, 111, 114, 100]) := IdAt.keep ⟨_, _, _, rfl, y4⟩ ((kp5.trans kp6).trans kp7)
  rw [idSn] at y5
  have z5 : IdAt h₂ (.ref a5) ([], [60, 97, 32, 98, 64, 99, 62]) := IdAt.keep ⟨_, _, _, rfl, y5⟩ (kp6.trans kp7)
  rw [idSn] at y6
  have z6 : IdAt h₂ (.ref a6) ([], [60, 64, 62]) := IdAt.keep ⟨_, _, _, rfl, y6⟩ kp7
  refine q N _ _ ((((((((kp.trans kp0).trans kp1).trans kp2).trans kp3).trans kp4).trans kp5).trans kp6).trans kp7) (new_none (((((((kp.trans kp0).trans kp1).trans kp2).trans kp3).trans kp4).trans kp5).trans kp6) nN) pl rfl fun i p hp => ?_
  match i, hp with
  | 0, hp => cases hp; exact ⟨_, rfl, z0⟩
  | 1, hp => cases hp; exact ⟨_, rfl, z1⟩
  | 2, hp => cases hp; exact ⟨_, rfl, z2⟩
  | 3, hp => cases hp; exact ⟨_, rfl, z3⟩
  | 4, hp => cases hp; exact ⟨_, rfl, z4⟩
  | 5, hp => cases hp; exact ⟨_, rfl, z5⟩
  | 6, hp => cases hp; exact ⟨_, rfl, z6⟩
  | (i + 7), hp => cases hp
end
-- G18
section
variable {C : Cx} {c : Fc} {k : Nat} {m : Loc} {h : Heap} {X : Addr → Heap → Prop} {Q : Value → Heap → Prop}
theorem Pot.lists {P D : Addr} {n : Nat} (p : Pot C h P D n) : ∀ l ∈ [P, D], ∃ y, h.IsList l y := fun l hl => by
  rcases List.mem_cons.mp hl with rfl | hl
  · obtain ⟨s, ts, tn, e⟩ := p.pot; exact ⟨_, e⟩
  · rw [List.mem_singleton] at hl; subst hl
    obtain ⟨items, e, _⟩ := p.cells; exact ⟨_, e⟩
theorem list_ne {h : Heap} {N l : Addr} {y : Array Value} (n : h.get? N = none) (x : h.IsList l y) : N ≠ l := fun z => by
  obtain ⟨o, e, _⟩ := x
  rw [z, e] at n; cases n
theorem Pot.fresh {P D N : Addr} {n : Nat} (p : Pot C h P D n) (nN : h.get? N = none) : N ∉ [P, D] := fun z => by
  obtain ⟨y, hy⟩ := p.lists _ z
  exact list_ne nN hy rfl
theorem PL.fresh {N l : Addr} {items : List Value} (p : PL h l items) (nN : h.get? N = none) : N ≠ l := list_ne nN p.list
theorem bv_item {ps : List (List UInt8 × Tok)} {L : List (List UInt8)} (e : ps.map (·.1) = L) {v : Nat} (hv : v < L.length) : ∃ t, (bvals ps)[v]? = some (.bytes (L[v]'hv).toArray t) := by
  subst e
  have hv' : v < ps.length := by simpa using hv
  refine ⟨ps[v].2, ?_⟩
  simp [bvals, List.getElem?_eq_getElem hv']
theorem LeN.leB {S : List Addr} {D : Addr} {h₀ h h' : Heap} (x : LeN S h₀ h) (y : LeB D h h') (n : h₀.get? D = none) : LeN S h₀ h' := fun b o hb e hn hc =>
  let ⟨_, e₁⟩ := x b o hb e hn hc
  let ⟨sl, e₂⟩ := y.le b _ (fun z => by rw [z, n] at e; cases e) e₁ hn hc
  ⟨sl, e₂⟩
theorem IdAt.n {S : List Addr} {h h' : Heap} {v : Value} {p : List UInt8 × List UInt8} (x : IdAt h v p) (l : LeN S h h') (hS : ∀ a ∈ S, ∃ y, h.IsList a y) : IdAt h' v p := by
  obtain ⟨b, t, u, e, y⟩ := x
  exact ⟨b, t, u, e, l.tuple (tuple_notin hS y) y⟩
/-- a field as the law builds it: its name, its parts (an id of the menu behind white), its end -/
structure Fd where
  nm : List UInt8
  parts : List ((List UInt8 × List UInt8) × List UInt8)
  fin : List UInt8
def partOct (p : (List UInt8 × List UInt8) × List UInt8) : List UInt8 := p.2 ++ p.1.2
def partsOct (ps : List ((List UInt8 × List UInt8) × List UInt8)) : List UInt8 := ps.flatMap partOct
def partIds (ps : List ((List UInt8 × List UInt8) × List UInt8)) : List (List UInt8) := (ps.map (·.1.1)).filter (fun v => v ≠ [])
def fdOct (f : Fd) : List UInt8 := f.nm ++ [58] ++ partsOct f.parts ++ f.fin
def fdTold (f : Fd) : List Nat × List (List UInt8) := ((codes f.nm).map low, partIds f.parts)
structure FdOk (f : Fd) : Prop where
  nm : f.nm ∈ nameL
  parts : ∀ p ∈ f.parts, p.1 ∈ idL ∧ p.2 ∈ wsL
  len : f.parts.length ≤ 3
  fin : f.fin ∈ endL
theorem nameL_len : ∀ x ∈ nameL, x.length ≤ 11 := by decide
theorem idL_len : ∀ x ∈ idL, x.2.length ≤ 9 ∧ x.1.length ≤ 5 := by decide
theorem wsL_len : ∀ x ∈ wsL, x.length ≤ 3 := by decide
theorem endL_len : ∀ x ∈ endL, x.length ≤ 2 := by decide
theorem partsOct_len (ps : List ((List UInt8 × List UInt8) × List UInt8)) (hp : ∀ p ∈ ps, p.1 ∈ idL ∧ p.2 ∈ wsL) : (partsOct ps).length ≤ 12 * ps.length := by
  induction ps with
  | nil => simp [partsOct]
  | cons p ps ih =>
    have h1 := idL_len _ (hp p (.head _)).1
    have h2 := wsL_len _ (hp p (.head _)).2
    have h3 := ih fun q hq => hp q (.tail _ hq)
    simp only [partsOct, partOct, List.flatMap_cons, List.length_append, List.length_cons] at h3 ⊢
    omega
theorem fdOct_len {f : Fd} (ok : FdOk f) : (fdOct f).length ≤ 50 := by
  have h1 := nameL_len _ ok.nm
  have h2 := partsOct_len _ ok.parts
  have h3 := endL_len _ ok.fin
  have h4 := ok.len
  simp only [fdOct, List.length_append, List.length_cons, List.length_nil]
  omega
theorem partIds_snoc (ps : List ((List UInt8 × List UInt8) × List UInt8)) (p : (List UInt8 × List UInt8) × List UInt8) : partIds (ps ++ [p]) = partIds ps ++ (if p.1.1 = [] then [] else [p.1.1]) := by
  unfold partIds
  rw [List.map_append, List.filter_append]
  congr 1
  by_cases h : p.1.1 = [] <;> simp [h]
theorem partIds_len (ps : List ((List UInt8 × List UInt8) × List UInt8)) : (partIds ps).length ≤ ps.length := by
  unfold partIds
  exact Nat.le_trans (List.length_filter_le _ _) (by simp)
end
-- G19
section
variable {C : Cx} {c : Fc} {k : Nat} {m : Loc} {h : Heap} {X : Addr → Heap → Prop} {Q : Value → Heap → Prop}
abbrev fLF (cd : Value) (L : Addr) (below : List Env) : Fc := Fc.fn "_law_field" (SC 49) 313 cd L below
theorem in2 {P D TL : Addr} : ∀ a ∈ [P, D], a ∈ [P, D, TL] := fun a ha => by
  rcases List.mem_cons.mp ha with rfl | ha
  · exact .head _
  · rw [List.mem_singleton] at ha; subst ha; exact .tail _ (.head _)
/-- the end of _law_field: what it tells, what it gives -/
theorem law_field_end (T : Tops C) {P D TL F : Addr} {n : Nat} {ts : List (List Nat × List (List UInt8))} {nm : List UInt8} {parts : List ((List UInt8 × List UInt8) × List UInt8)} {t u : Tok} {cd : Value} {L : Addr} {below : List Env} {h₀ : Heap}
    (hnm : nm ∈ nameL) (hpa : ∀ p ∈ parts, p.1 ∈ idL ∧ p.2 ∈ wsL) (hpl : parts.length ≤ 3) (hn : n ≤ 1000) (bTL : C.base.get? TL = none) (hTL : TL ∉ [P, D]) (htsl : ts.length ≤ 1000)
    (pot : Pot C h P D n) (told : Told [P, D, TL] h TL ts) (hF : F ∉ [P, D, TL]) (slF : SL h F (txts (partIds parts))) (ln : LeN [P, D, TL] h₀ h) {Y : Loc → Addr → Heap → Prop}
    (q : ∀ f t h', LeN [P, D, TL] h₀ h' → Pot C h' P D (n + 1) → FdOk f → Told [P, D, TL] h' TL (ts ++ [fdTold f]) → Q (.bytes (fdOct f).toArray t) h') :
    S C (fLF cd L below) (k + 1) [("octets", .bytes (nm ++ [58] ++ partsOct parts).toArray t), ("found", .ref F), ("name", .bytes nm.toArray u), ("pot", .ref P), ("told_ids", .ref TL)] (execs ((B 49).drop 4) (fLF cd L below).env) h (fun _ h' => Q .none h') Q Y := by
  have e49 : (B 49).drop 4 = _ :: _ := rfl
  with_reducible refine s_body e49 ?_
  have nl := nameL_len _ hnm
  have pl := partsOct_len _ hpa
  obtain ⟨items, plT, hil, -⟩ := id told
  k_subL
  refine ⟨_, _, rfl, plT, ?_⟩
  k_subL
  refine w_comp (fun _ => true) (fun i v w => ∃ u, w = .str ⟨#[low (nm.getD i 0).toNat]⟩ u) (by decide +kernel) (by kernel_rfl) (by decide +kernel) (by decide +kernel) (by kernel_rfl) (fun _ => rfl) ?_
  k_subL
  refine w_iterB fun I h₂ St kp2 nI it st => ⟨I, _, _, _, _, rfl, kp2, nI, it, st, trivial, szl (by omega), ?_, ?_⟩
  · rintro L' i v h₄ hi ⟨b, u, hb, rfl⟩ le4 _
    refine w_tst0 ⟨Le.refl _, rfl, fun _ => ?_⟩
    have := u8_lt b
    rw [getD_of hb]
    refine gc_chr T (w_args_cons (w_ifexp ?_) (by kernel_rfl)) (by kernel_rfl) (by kernel_rfl) (by kernel_rfl) (by kernel_rfl)
    refine' tb_use ?y ?_
    case y => k_allIn
    refine ⟨fun z => ?_, fun z => ?_⟩
    · simp only [Bool.and_eq_true, decide_eq_true_eq] at z
      k_subL
      refine p_chr (by omega) (by omega) fun t => ⟨Le.refl _, t, ?_⟩
      rw [low, if_pos (by omega)]; rfl
    · simp only [Bool.and_eq_false_iff, decide_eq_false_iff_not] at z
      k_subL
      refine p_chr (by omega) (by omega) fun t => ⟨Le.refl _, t, ?_⟩
      rw [low, if_neg (by omega)]; rfl
  · intro Dn ys h₃ le3 nDn r hDn
    obtain ⟨ps, rfl, e2⟩ := r.strs (fun i => low (nm.getD i 0).toNat) (fun _ _ _ e => e)
    rw [range_codes] at e2
    have le03 := kp2.le.trans le3
    k_subL
    refine p_joinC hDn e2 (by simp; omega) fun tj => ?_
    k_subL
    refine w_newTuple (szl (by simp)) fun b h₄ kp4 _ ht => ?_
    have le04 := le03.trans kp4.le
    refine ⟨_, plT.le le04, bTL, szl (by omega), fun h₅ le5 pl5 => ?_⟩
    have told5 := (told.le le04).push (f := ((codes nm).map low, partIds parts)) le5 (plT.le le04) pl5 ht (slF.le le04) hF (.tail _ (.tail _ (.head _)))
    have pot5 : Pot C h₅ P D n := (pot.le le04).stays (S := [TL]) (le5.n (.head _)) (fun z => hTL (by rw [List.mem_singleton] at z; rw [← z]; exact .head _)) (fun z => hTL (by rw [List.mem_singleton] at z; rw [← z]; exact .tail _ (.head _)))
    have ln5 : LeN [P, D, TL] h₀ h₅ := (ln.trans le04.n).trans (le5.n (.tail _ (.tail _ (.head _))))
    k_subL
    refine w_newListP (szl (by simp)) fun V h₆ kp6 nV bV plV => ?_
    have pot6 := pot5.le kp6.le
    have told6 := told5.le kp6.le
    k_subL
    refine draw_spec T (lim := 2) pot6 hn (by decide) (by decide) fun v tv h₇ ln7 pot7 hv => ?_
    have plV7 := ln7.pl (pot5.fresh nV) plV
    have told7 := told6.n ln7 in2 hTL pot6.lists
    have hvL : v < endL.length := hv
    obtain ⟨te, he⟩ := bv_item (ps := [([13, 10], _), ([10], _)]) (L := endL) rfl hvL
    refine w_tailL plV7.list (p_itemL plV7.list (by omega) (by omega) (by rw [Int.toNat_natCast]; exact he) ?_)
    have hfin : endL[v] ∈ endL := List.getElem_mem hvL
    have el := endL_len _ hfin
    refine p_addB (by simp only [List.length_append, List.length_cons, List.length_nil]; omega) fun t₈ => ?_
    exact q ⟨nm, parts, endL[v]⟩ _ _ ((ln5.trans kp6.le.n).trans (ln7.mono in2)) pot7 ⟨hnm, hpa, hpl, hfin⟩ told7
end
-- G20
section
variable {C : Cx} {c : Fc} {k : Nat} {m : Loc} {h : Heap} {X : Addr → Heap → Prop} {Q : Value → Heap → Prop}
theorem txt_truth (v : List UInt8) : (((txt (codes v)).length : Int) != 0) = decide (v ≠ []) := by
  have e : (txt (codes v)).length = v.length := by show (codes v).toArray.size = _; simp
  rw [e]
  cases v with
  | nil => rfl
  | cons a l => simp; omega
/-- one turn of _law_field's loop -/
def LFInv (C : Cx) (P D TL F : Addr) (n : Nat) (nm : List UInt8) (u : Tok) (h₀ : Heap) (i : Nat) (m' : Loc) (h' : Heap) : Prop :=
  ∃ (parts : List ((List UInt8 × List UInt8) × List UInt8)) (to : Tok) (ps : List (Str × Tok)), m' = ([("octets", .bytes (nm ++ [58] ++ partsOct parts).toArray to), ("found", .ref F), ("name", .bytes nm.toArray u), ("pot", .ref P), ("told_ids", .ref TL)] : Loc) ∧
    parts.length = i ∧ (∀ p ∈ parts, p.1 ∈ idL ∧ p.2 ∈ wsL) ∧ LeN [P, D] h₀ h' ∧ Pot C h' P D (n + 2 * i) ∧ PL h' F (strValues ps) ∧ ps.map (·.1) = txts (partIds parts)
def bodyOfF (b : List Stmt) (i : Nat) : List Stmt := match b[i]? with
  | some (.For _ _ b _ _) => b
  | _ => []
theorem law_field_turn (T : Tops C) {P D TL F : Addr} {n i : Nat} {nm : List UInt8} {u : Tok} {cd : Value} {L : Addr} {below : List Env} {h₀ : Heap} {v : Value} {m₁ : Loc} {h₃ h₄ : Heap} {R : Value → Heap → Prop} {Y : Loc → Addr → Heap → Prop}
    (hnm : nm ∈ nameL) (hn : n ≤ 980) (hi : i < 3) (hF : F ∉ [P, D]) (bF : C.base.get? F = none) (nF : h₀.get? F = none) (iv : LFInv C P D TL F n nm u h₀ i m₁ h₃) (le : Le h₃ h₄) :
    S C (fLF cd L below) (k + 1) (("turn", v) :: m₁) (execs (bodyOfF (B 49) 3) (fLF cd L below).env) h₄ (fun m₅ h₅ => True ∧ ∃ m₆, Sub m₅ m₆ ∧ LFInv C P D TL F n nm u h₀ (i + 1) m₆ h₅) R Y := by
  obtain ⟨parts, to, ps, rfl, hpl, hpa, ln, pot, plF, hps⟩ := iv
  have e49 : bodyOfF (B 49) 3 = _ :: _ := rfl
  with_reducible refine s_body e49 ?_
  have nl := nameL_len _ hnm
  have pl := partsOct_len _ hpa
  have pot := pot.le le
  have plF := plF.le le
  have ln := ln.trans le.n
  k_subL
  refine ids_spec T fun N items h₅ kp5 nN plN hlen hit => ?_
  have pot5 := pot.le kp5.le
  k_subL
  refine draw_spec T (lim := 7) pot5 (by omega) (by decide) (by decide) fun v1 tv1 h₆ ln6 pot6 hv1 => ?_
  have plN6 := ln6.pl (pot.fresh nN) plN
  have plF6 := ln6.pl hF (plF.le kp5.le)
  have hv1L : v1 < idL.length := hv1
  obtain ⟨w1, hw1, hid⟩ := hit v1 _ (List.getElem?_eq_getElem hv1L)
  have hid6 := hid.n ln6 pot5.lists
  obtain ⟨pr, hpr⟩ : ∃ pr, pr = idL[v1] := ⟨_, rfl⟩
  have hprm : pr ∈ idL := by rw [hpr]; exact List.getElem_mem hv1L
  rw [← hpr] at hid6
  obtain ⟨b, tb, ub, rfl, htb⟩ := hid6
  refine w_tailL plN6.list (p_itemL plN6.list (by omega) (by omega) (by rw [Int.toNat_natCast]; exact hw1) ⟨b, _, _, rfl, htb, fun h₇ le7 => ?_⟩)
  have pot7 := pot6.le le7
  have plF7 := plF6.le le7
  have ln7 : LeN [P, D] h₀ h₇ := ((ln.trans kp5.le.n).trans ln6).trans le7.n
  have il := idL_len _ hprm
  k_subL
  refine w_newListP (szl (by simp)) fun V h₈ kp8 nV bV plV => ?_
  have pot8 := pot7.le kp8.le
  k_subL
  refine draw_spec T (lim := 4) pot8 (by omega) (by decide) (by decide) fun v2 tv2 h₉ ln9 pot9 hv2 => ?_
  have plV9 := ln9.pl (pot7.fresh nV) plV
  have plF9 := ln9.pl hF (plF7.le kp8.le)
  have hv2L : v2 < wsL.length := hv2
  obtain ⟨tw, hw2⟩ := bv_item (ps := [([32], _), ([13, 10, 32], _), ([9], _), ([10, 9], _)]) (L := wsL) rfl hv2L
  obtain ⟨ws, hws⟩ : ∃ ws, ws = wsL[v2] := ⟨_, rfl⟩
  have hwsm : ws ∈ wsL := by rw [hws]; exact List.getElem_mem hv2L
  rw [← hws] at hw2
  have wl := wsL_len _ hwsm
  refine w_tailL plV9.list (p_itemL plV9.list (by omega) (by omega) (by rw [Int.toNat_natCast]; exact hw2) ?_)
  refine p_addB (by simp only [List.length_append, List.length_cons, List.length_nil]; omega) fun t₁₀ => ?_
  k_subL
  refine p_addB (by simp only [List.length_append, List.length_cons, List.length_nil]; omega) fun t₁₁ h₁₀ le10 => ?_
  have eo : nm ++ [58] ++ partsOct parts ++ ws ++ pr.2 = nm ++ [58] ++ partsOct (parts ++ [(pr, ws)]) := by simp [partsOct, partOct]
  rw [eo]
  have hpa' : ∀ p ∈ parts ++ [(pr, ws)], p.1 ∈ idL ∧ p.2 ∈ wsL := fun p hp => by
    rcases List.mem_append.mp hp with hp | hp
    · exact hpa p hp
    · rw [List.mem_singleton] at hp; subst hp; exact ⟨hprm, hwsm⟩
  have pot10 : Pot C h₁₀ P D (n + 2 * (i + 1)) := pot9.le le10
  have plF10 := plF9.le le10
  have ln10 : LeN [P, D] h₀ h₁₀ := ((ln7.trans kp8.le.n).trans ln9).trans le10.n
  have hpsl : ps.length ≤ parts.length := by have := congrArg List.length hps; have := partIds_len parts; simp at *; omega
  refine s_cons (s_if ?_)
  refine w_tval ?_ (by kernel_rfl)
  k_subL
  refine p_truthyS (szl (by show (codes pr.1).toArray.size ≤ _; simp; omega)) ?_
  rw [txt_truth]
  refine ⟨fun z => ?_, fun z => ?_⟩
  · have z := of_decide_eq_true z
    k_subL
    refine ⟨_, _, rfl, plF10, ?_⟩
    k_subL
    refine ⟨_, plF10, bF, szl (by simp [strValues]; omega), fun h₁₁ le11 plF11 => ?_⟩
    have plF11 : PL h₁₁ F (strValues (ps ++ [(txt (codes pr.1), tb)])) := by simpa [strValues] using plF11
    refine s_nil (Sub.refl _) (s_nil (Sub.refl _) ⟨trivial, _, (by lcg_sub : Sub _ [("octets", _), ("found", _), ("name", _), ("pot", _), ("told_ids", _)]), parts ++ [(pr, ws)], t₁₁, _, rfl, by simp [hpl], hpa', ln10.leB le11 nF, ?_, plF11, ?_⟩)
    · exact pot10.stays (S := [F]) (le11.n (.head _)) (fun z => hF (by rw [List.mem_singleton] at z; rw [← z]; exact .head _)) (fun z => hF (by rw [List.mem_singleton] at z; rw [← z]; exact .tail _ (.head _)))
    · rw [partIds_snoc, if_neg z]; simp [hps]
  · have z : pr.1 = [] := Classical.not_not.mp (of_decide_eq_false z)
    refine s_nil (Sub.refl _) (s_nil (Sub.refl _) ⟨trivial, _, (by lcg_sub : Sub _ [("octets", _), ("found", _), ("name", _), ("pot", _), ("told_ids", _)]), parts ++ [(pr, ws)], t₁₁, ps, rfl, by simp [hpl], hpa', ln10, pot10, plF10, ?_⟩)
    rw [partIds_snoc, if_pos z, List.append_nil]; exact hps
end
-- G21
section
variable {C : Cx} {c : Fc} {k : Nat} {m : Loc} {h : Heap} {X : Addr → Heap → Prop} {Q : Value → Heap → Prop}
theorem law_field_spec (T : Tops C) {P D TL : Addr} {n : Nat} {ts : List (List Nat × List (List UInt8))} (hn : n ≤ 900) (bTL : C.base.get? TL = none) (hTL : TL ∉ [P, D]) (htsl : ts.length ≤ 1000) (pot : Pot C h P D n) (told : Told [P, D, TL] h TL ts)
    (q : ∀ f t h' n', LeN [P, D, TL] h h' → Pot C h' P D n' → n' ≤ n + 9 → FdOk f → Told [P, D, TL] h' TL (ts ++ [fdTold f]) → Q (.bytes (fdOct f).toArray t) h') :
    W C c (k + 2) m (PySem.call (.ref 313) [.ref P, .ref TL]) h Q X := by
  refine w_fn T.toTopOk T.f_law_field.2 (binds := [("pot", .ref P), ("told_ids", .ref TL)]) (fun _ _ _ _ _ _ _ _ => BindsTo.of_eq rfl) (locs (by kernel_rfl)) (by decide +kernel) (by kernel_rfl) (by kernel_rfl) (by kernel_rfl) rfl fun cd L h₁ kp hL => ?_
  have e49 : B 49 = _ :: _ := rfl
  with_reducible refine s_body e49 ?_
  have pot1 := pot.le kp.le
  have told1 := told.le kp.le
  k_subL
  refine names_spec T fun N psN h₂ kp2 nN plN hpsN => ?_
  have pot2 := pot1.le kp2.le
  have told2 := told1.le kp2.le
  k_subL
  refine draw_spec T (lim := 7) pot2 (by omega) (by decide) (by decide) fun v1 tv1 h₃ ln3 pot3 hv1 => ?_
  have plN3 := ln3.pl (pot1.fresh nN) plN
  have told3 := told2.n ln3 in2 hTL pot2.lists
  have hvL : v1 < nameL.length := hv1
  obtain ⟨tn, hni⟩ := bv_item hpsN hvL
  obtain ⟨nm, hnme⟩ : ∃ nm, nm = nameL[v1] := ⟨_, rfl⟩
  have hnm : nm ∈ nameL := by rw [hnme]; exact List.getElem_mem hvL
  rw [← hnme] at hni
  have nl := nameL_len _ hnm
  refine w_tailL plN3.list (p_itemL plN3.list (by omega) (by omega) (by rw [Int.toNat_natCast]; exact hni) fun h₄ le4 => ?_)
  have pot4 := pot3.le le4
  have told4 := told3.le le4
  have ln4 : LeN [P, D, TL] h h₄ := ((kp.trans kp2).le.n.trans (ln3.mono in2)).trans le4.n
  k_subL
  refine p_addB (e := [58]) (by simp; omega) fun t₅ h₅ le5 => ?_
  have pot5 := pot4.le le5
  have told5 := told4.le le5
  k_subL
  refine w_newListP (szl (by simp)) fun F h₆ kp6 nF bF plF h₇ le7 => ?_
  have pot6 := pot5.le kp6.le
  have told6 := told5.le kp6.le
  have hF : F ∉ [P, D] := pot5.fresh nF
  have hF3 : F ∉ [P, D, TL] := fun z => by
    obtain ⟨items, plT, _⟩ := told5
    rcases List.mem_cons.mp z with rfl | z
    · exact hF (.head _)
    · rcases List.mem_cons.mp z with rfl | z
      · exact hF (.tail _ (.head _))
      · rw [List.mem_singleton] at z
        exact plT.fresh nF z
  refine s_cons (s_for (Live.fn (by kernel_rfl)) (by kernel_rfl) (fun _ => rfl) (LFInv C P D TL F (n + 2) nm tn h₅) ?_)
  k_subL
  have pot7 := pot6.le le7
  refine draw_spec T (lim := 4) pot7 (by omega) (by decide) (by decide) fun v2 tv2 h₈ ln8 pot8 hv2 => ?_
  have plF8 := ln8.pl hF (plF.le le7)
  have ln58 : LeN [P, D] h₅ h₈ := ((kp6.le.trans le7).n).trans ln8
  k_subL
  refine p_range fun r h₉ _ _ _ kp9 hr => ?_
  refine w_iterR (by omega) hr fun I h₁₀ St kp10 nI it st => ⟨I, _, _, _, _, _, rfl, nI, it, st, trivial, (by lcg_sub : Sub _ [("octets", _), ("found", _), ("name", _), ("pot", _), ("told_ids", _)]), ?_, ?_, ?_⟩
  · have kk := (kp9.trans kp10).le
    refine ⟨[], t₅, [], by simp [partsOct], rfl, (fun p hp => by cases hp), ln58.trans kk.n, pot8.le kk, plF8.le kk, rfl⟩
  · rintro i v m₁ h₁₁ hi _ _ iv h₁₂ le12 _
    exact law_field_turn T hnm (by omega) (by omega) hF bF nF iv le12
  · rintro m₁ h₁₁ ⟨parts, to, ps, rfl, hpl, hpa, ln11, pot11, plF11, hps⟩ h₁₂ le12
    have told11 := told5.n (ln11.trans le12.n) in2 hTL pot5.lists
    exact law_field_end T (n := n + 2 + 2 * v2) hnm hpa (by omega) (by omega) bTL hTL htsl (pot11.le le12) told11 hF3 (SL.of (plF11.le le12) hps) (h₀ := h) (((ln4.trans le5.n).trans (ln11.mono in2)).trans le12.n)
      fun f t h' lnf potf okf toldf => q f t h' _ lnf potf (by omega) okf toldf
end
-- G22
section
variable {C : Cx} {c : Fc} {k : Nat} {m : Loc} {h : Heap} {X : Addr → Heap → Prop} {Q : Value → Heap → Prop}
theorem all_true (n : Nat) : (List.range n).all (fun _ => true) = true := by rw [List.all_eq_true]; exact fun _ _ => rfl
theorem sl_items {A : Around} {s : Shared} {pa pb : List (Str × Tok)} (e : pa.map (·.1) = pb.map (·.1)) : ∀ j (h1 : j < (strValues pa).toArray.size) (h2 : j < (strValues pb).toArray.size), SeqAt.EqAt A s (strValues pa).toArray[j] (strValues pb).toArray[j] true := fun j h1 h2 => by
  have h1' : j < pa.length := by simpa [strValues] using h1
  have h2' : j < pb.length := by simpa [strValues] using h2
  have e1 : (strValues pa).toArray[j] = .str pa[j].1 pa[j].2 := by simp [strValues]
  have e2 : (strValues pb).toArray[j] = .str pb[j].1 pb[j].2 := by simp [strValues]
  have e3 : pa[j].1 = pb[j].1 := by
    have := congrArg (·[j]?) e
    simp only [List.getElem?_map, List.getElem?_eq_getElem h1', List.getElem?_eq_getElem h2', Option.map_some] at this
    exact Option.some.inj this
  rw [e1, e2, e3]
  have := SeqAt.EqAt.str_str (A := A) (s := s) pb[j].1 pa[j].2 pb[j].1 pb[j].2
  rw [beq_self_eq_true] at this
  exact this
theorem sl_size {pa pb : List (Str × Tok)} (e : pa.map (·.1) = pb.map (·.1)) : (strValues pa).toArray.size = (strValues pb).toArray.size := by
  have := congrArg List.length e
  simpa [strValues] using this
theorem sl_eqAt {A : Around} {s : Shared} {D E : Addr} {ss : List Str} (hD : SL s.heap D ss) (hE : SL s.heap E ss) (hu : A.units < cLine) : SeqAt.EqAt A s (.ref D) (.ref E) true := by
  by_cases hne : D = E
  · subst hne; exact SeqAt.EqAt.same _
  · obtain ⟨pa, ha, ea⟩ := hD
    obtain ⟨pb, hb, eb⟩ := hE
    have e : pa.map (·.1) = pb.map (·.1) := ea.trans eb.symm
    have := SeqAt.RcAt.lists (A := A) (s := s) (e := fun _ => true) ha hb (sl_size e) hu (sl_items e)
    rw [all_true] at this
    exact SeqAt.EqAt.of_refs hne this
theorem p_neSL {D E : Addr} {ss : List Str} (hD : SL h D ss) (hE : SL h E ss) (q : Q (.bool false) h) : W C c k m (compareOp .NotEq (.ref D) (.ref E)) h Q X :=
  W.same (v := fun _ => .bool false) (fun _ => q) fun A s E' Q' hA hh r => by
    subst hh
    obtain ⟨pa, ha, ea⟩ := hD
    obtain ⟨pb, hb, eb⟩ := hE
    have e : pa.map (·.1) = pb.map (·.1) := ea.trans eb.symm
    have := SeqAt.RcNeAt.lists (A := A) (s := s) (e := fun _ => true) ha hb (sl_size e) (units_lt hA) (sl_items e)
    rw [all_true] at this
    exact this C.prog C.w E' Q' (r 0 _)
theorem units_lt1 {A : Around} {outer : List Env} (hA : Room A outer k) : A.in1.units < cLine := by
  have := hA.units
  show A.units + 1 < 9900
  omega
theorem t2_items {A : Around} {outer : List Env} (hA : Room A outer k) {s : Shared} {x : Str} {t u : Tok} {D E : Addr} {ss : List Str} (hD : SL s.heap D ss) (hE : SL s.heap E ss) :
    ∀ j (h1 : j < (#[.str x t, .ref D] : Array Value).size) (h2 : j < (#[.str x u, .ref E] : Array Value).size), SeqAt.EqAt A.in1 s (#[.str x t, .ref D] : Array Value)[j] (#[.str x u, .ref E] : Array Value)[j] true := fun j h1 h2 => by
  match j, h1, h2 with
  | 0, _, _ =>
    have := SeqAt.EqAt.str_str (A := A.in1) (s := s) x t x u
    rw [beq_self_eq_true] at this
    exact this
  | 1, _, _ => exact sl_eqAt hD hE (units_lt1 hA)
theorem p_neT {r r' D E : Addr} {x : Str} {t u : Tok} {ss : List Str} (h1 : h.IsTuple r #[.str x t, .ref D]) (h2 : h.IsTuple r' #[.str x u, .ref E]) (hD : SL h D ss) (hE : SL h E ss) (q : Q (.bool false) h) : W C c k m (compareOp .NotEq (.ref r) (.ref r')) h Q X :=
  W.same (v := fun _ => .bool false) (fun _ => q) fun A s E' Q' hA hh r => by
    subst hh
    have := SeqAt.RcNeAt.tuples (A := A) (s := s) (e := fun _ => true) h1 h2 (units_lt hA) (t2_items hA hD hE)
    exact this C.prog C.w E' Q' (r 0 _)
theorem p_eqT {r r' D E : Addr} {x : Str} {t u : Tok} {ss : List Str} (h1 : h.IsTuple r #[.str x t, .ref D]) (h2 : h.IsTuple r' #[.str x u, .ref E]) (hD : SL h D ss) (hE : SL h E ss) (q : Q (.bool true) h) : W C c k m (compareOp .Eq (.ref r) (.ref r')) h Q X :=
  W.same (v := fun _ => .bool true) (fun _ => q) fun A s E' Q' hA hh r =>by
    subst hh
    have := SeqAt.RcAt.tuples (A := A) (s := s) (e := fun _ => true) h1 h2 (units_lt hA) (t2_items hA hD hE)
    exact this C.prog C.w E' Q' (r 0 _)
end
-- G23
section
variable {C : Cx} {c : Fc} {k : Nat} {m : Loc} {h : Heap} {X : Addr → Heap → Prop} {Q : Value → Heap → Prop}
/-- how an id of the menu is written -/
def wr (v : List UInt8) : List UInt8 := ((idL.find? (fun p => p.1 == v)).map (·.2)).getD []
def againOct (own refs : List (List UInt8)) : List UInt8 :=
  [77, 101, 115, 115, 97, 103, 101, 45, 73, 68, 58, 32] ++ joinB [32] ((own.take 1).map wr) ++ [13, 10, 82, 101, 102, 101, 114, 101, 110, 99, 101, 115, 58, 32] ++ joinB [32] (refs.map wr) ++ [13, 10, 13, 10]
/-- what is true of the octets that the law builds: no program in sight -/
structure LawFacts (fs : List Fd) (bd : List UInt8) : Prop where
  spans : ∃ flds, Spans (fs.flatMap fdOct ++ bd) 0 flds ∧ ∀ w ∈ [wMsg, wRef, wRep, wSub], IdsOf flds w (firstTold (fs.map fdTold) w)
  again : ∃ flds, Spans (againOct (firstTold (fs.map fdTold) wMsg) (refsOf (firstTold (fs.map fdTold) wRef) (firstTold (fs.map fdTold) wRep))) 0 flds ∧ IdsOf flds wMsg ((firstTold (fs.map fdTold) wMsg).take 1) ∧
    IdsOf flds wRef (refsOf (firstTold (fs.map fdTold) wRef) (firstTold (fs.map fdTold) wRep)) ∧ IdsOf flds wRep []
  good : ∀ w, ∀ v ∈ firstTold (fs.map fdTold) w, Wrt v (wr v)
  few : ∀ w, (firstTold (fs.map fdTold) w).length ≤ 3
  wrlen : ∀ v, (wr v).length ≤ 9
theorem joinB_small (ids : List (List UInt8)) (hw : ∀ v, (wr v).length ≤ 9) (hn : ids.length ≤ 3) : ((ids.map wr).map (·.length)).sum + ids.length ≤ 30 ∧ (joinB [32] (ids.map wr)).length ≤ 30 := by
  have h1 : ((ids.map wr).map (·.length)).sum ≤ 9 * ids.length := by
    clear hn
    induction ids with
    | nil => simp
    | cons v ids ih => simp only [List.map_cons, List.sum_cons, List.length_cons]; have := hw v; omega
  have h2 := joinB_len [32] (ids.map wr)
  simp only [List.length_cons, List.length_nil, List.length_map] at h2
  exact ⟨by omega, by omega⟩
theorem refsOf_len {a b : List (List UInt8)} (h1 : a.length ≤ 3) (h2 : b.length ≤ 3) : (refsOf a b).length ≤ 3 := by
  unfold refsOf; split
  · rw [List.length_take]; omega
  · exact h1
theorem refsOf_mem {a b : List (List UInt8)} {v : List UInt8} (h : v ∈ refsOf a b) : v ∈ a ∨ v ∈ b := by
  unfold refsOf at h; split at h
  · exact .inr (List.mem_of_mem_take h)
  · exact .inl h
theorem refsOf_nil (a : List (List UInt8)) : refsOf a [] = a := by
  unfold refsOf; split
  · rename_i e; rw [e]; rfl
  · rfl
theorem headS_take (a : List (List UInt8)) : headS (a.take 1) = headS a := by cases a <;> rfl
/-- own[0] if own else '' -/
theorem w_ownHead {A : Addr} {own : List (List UInt8)} {p1 p2 p3 p4 p5 p6 : Pos} {kd kd2 : Nat} (hn : m.lookup (Str.ofString "own") = some (Value.ref A)) (hk : c.env.scope.kind = .function) (hl : c.env.kindOf "own" = some .local) (sl : SL h A (txts own)) (hz : own.length ≤ 1000) (q : ∀ t, Q (.str (headS own) t) h)
    (he : PySem.isTrue (.Name "own" p1) c.env (eval (.Name "own" p1) c.env) = (do let v ← eval (.Name "own" p1) c.env; standAt (Expr.Name "own" p1).pos; holding [v] (truthy v))) :
    W C c k m (eval (.IfExp (.Name "own" p1) (.Subscript (.Name "own" p2) (.Constant (.int 0) kd p3) p4) (.Constant (.str "") kd2 p5) p6) c.env) h Q X := by
  obtain ⟨ps, hD, hps⟩ := sl
  have hlen : ps.length = own.length := by have := congrArg List.length hps; simpa using this
  refine w_ifexp (w_tval (w_name hn (p_truthyL hD (szl (by simp [strValues]; omega)) ?_) hk hl (by decide)) he)
  cases ps with
  | nil =>
    have ho : own = [] := List.eq_nil_of_length_eq_zero hlen.symm
    subst ho
    exact ⟨fun z => (nomatch z), fun _ => w_str fun t => q t⟩
  | cons p ps =>
    have hh : headS own = p.1 := by unfold headS; rw [← hps]; rfl
    rw [hh] at q
    exact ⟨fun _ => w_sub (w_name hn (w_int fun t => w_tailL hD (p_itemL hD (by decide) (by decide) rfl (q p.2))) hk hl (by decide)), fun z => (nomatch z)⟩
/-- [own[0]] if own else [] -/
theorem w_ownList {A : Addr} {own : List (List UInt8)} {p1 p2 p3 p4 p5 p6 p7 : Pos} {kd : Nat} (hn : m.lookup (Str.ofString "own") = some (Value.ref A)) (hk : c.env.scope.kind = .function) (hl : c.env.kindOf "own" = some .local) (sl : SL h A (txts own)) (hz : own.length ≤ 1000) (q : ∀ E h', Keep h h' → SL h' E (txts (own.take 1)) → Q (.ref E) h')
    (he : PySem.isTrue (.Name "own" p1) c.env (eval (.Name "own" p1) c.env) = (do let v ← eval (.Name "own" p1) c.env; standAt (Expr.Name "own" p1).pos; holding [v] (truthy v)))
    (hs : starEach [.Subscript (.Name "own" p2) (.Constant (.int 0) kd p3) p4] c.env = (false, eval (.Subscript (.Name "own" p2) (.Constant (.int 0) kd p3) p4) c.env) :: starEach [] c.env) :
    W C c k m (eval (.IfExp (.Name "own" p1) (.List [.Subscript (.Name "own" p2) (.Constant (.int 0) kd p3) p4] p5) (.List [] p6) p7) c.env) h Q X := by
  obtain ⟨ps, hD, hps⟩ := sl
  have hlen : ps.length = own.length := by have := congrArg List.length hps; simpa using this
  refine w_ifexp (w_tval (w_name hn (p_truthyL hD (szl (by simp [strValues]; omega)) ?_) hk hl (by decide)) he)
  cases ps with
  | nil =>
    have ho : own = [] := List.eq_nil_of_length_eq_zero hlen.symm
    subst ho
    exact ⟨fun z => (nomatch z), fun _ => w_list (w_args_nil (w_newListP (szl (by simp)) fun E h' kp _ _ pl => q E h' kp ⟨[], pl.list, rfl⟩))⟩
  | cons p ps =>
    refine ⟨fun _ => w_list (w_args_cons (w_sub (w_name hn (w_int fun t => w_tailL hD (p_itemL hD (by decide) (by decide) (x := .str p.1 p.2) rfl ?_)) hk hl (by decide))) hs), fun z => (nomatch z)⟩
    refine w_args_nil (w_newListP (szl (by simp)) fun E h' kp _ _ pl => q E h' kp ⟨[p], pl.list, ?_⟩)
    cases own with
    | nil => simp at hlen
    | cons v vs => simp at hps ⊢; exact hps.1
/-- a text list, copied -/
theorem p_listSL {D : Addr} {ss : List Str} (sl : SL h D ss) (hz : ss.length ≤ 1000000) (q : ∀ E h', Keep h h' → SL h' E ss → Q (.ref E) h') : W C c k m (call (.type "list") [.ref D]) h Q X := by
  obtain ⟨ps, hD, hps⟩ := sl
  have hlen : ps.length = ss.length := by have := congrArg List.length hps; simpa using this
  exact p_listCopy hD (szl (by simp [strValues]; omega)) fun E h' kp _ hE => q E h' kp ⟨ps, hE, hps⟩
end
-- G24
section
variable {C : Cx} {c : Fc} {k : Nat} {m : Loc} {h : Heap} {X : Addr → Heap → Prop} {Q : Value → Heap → Prop}
abbrev fLaw (a : Addr) (cd : Value) (L : Addr) (below : List Env) : Fc := Fc.fn "law" (SC 51) a cd L below
/-- the last three statements: written, told again, the same -/
theorem law_z (T : Tops C) {a : Addr} {cd : Value} {L : Addr} {below : List Env} {R HE E A FL TL : Addr} {own refs : List (List UInt8)} {flds2 : List (List UInt8 × List UInt8)} {u : Tok} {Y : Loc → Addr → Heap → Prop}
    (hR : h.IsTuple R #[.str (headS own) u, .ref HE]) (sHE : SL h HE (txts refs)) (sE : SL h E (txts refs)) (sA : SL h A (txts own)) (ho : own.length ≤ 3) (hr : refs.length ≤ 3)
    (go : ∀ v ∈ own, Wrt v (wr v)) (gr : ∀ v ∈ refs, Wrt v (wr v)) (hw : ∀ v, (wr v).length ≤ 9) (sp : Spans (againOct own refs) 0 flds2) (i1 : IdsOf flds2 wMsg (own.take 1)) (i2 : IdsOf flds2 wRef refs) (i3 : IdsOf flds2 wRep [])
    (q : ∀ h', Q (.bool true) h') :
    S C (fLaw a cd L below) (k + 7) [("heard", .ref R), ("references", .ref E), ("own", .ref A), ("fields", .ref FL), ("told_ids", .ref TL)] (execs ((B 51).drop 12) (fLaw a cd L below).env) h (fun _ h' => Q .none h') Q Y := by
  have e51 : (B 51).drop 12 = _ :: _ := rfl
  with_reducible refine s_body e51 ?_
  have ht1 : (own.take 1).length ≤ 3 := by rw [List.length_take]; omega
  obtain ⟨z1, z2⟩ := joinB_small (own.take 1) hw ht1
  obtain ⟨z3, z4⟩ := joinB_small refs hw hr
  refine s_cons ?_
  refine s_assign (Live.fn (by kernel_rfl)) (by kernel_rfl) rfl ?_
  refine w_binop (w_binop (w_binop (w_binop (w_bytes fun t₀ => ?_))))
  refine gc_write_ids T (w_args_cons ?_ (by kernel_rfl)) (by kernel_rfl) (by kernel_rfl) (by kernel_rfl) (by kernel_rfl)
  refine w_ownList (by lcg_off) (by kernel_rfl) (by kernel_rfl) sA (by omega) (fun W h₁ kp1 sW => ?_) (by kernel_rfl) (by kernel_rfl)
  refine w_args_nil ?_
  refine write_ids_spec T (wr := wr) sW (fun v hv => go v (List.mem_of_mem_take hv)) (by omega) (by omega) fun t₂ h₂ le2 => ?_
  refine p_addB (d := [77, 101, 115, 115, 97, 103, 101, 45, 73, 68, 58, 32]) (by simp only [List.length_cons, List.length_nil]; omega) fun t₃ => ?_
  k_subL
  refine p_addB (e := [13, 10, 82, 101, 102, 101, 114, 101, 110, 99, 101, 115, 58, 32]) (by simp only [List.length_append, List.length_cons, List.length_nil]; omega) fun t₄ => ?_
  k_subL
  have le02 := kp1.le.trans le2
  refine write_ids_spec T (wr := wr) (sE.le le02) gr (by omega) (by omega) fun t₅ h₃ le3 => ?_
  refine p_addB (by simp only [List.length_append, List.length_cons, List.length_nil]; omega) fun t₆ => ?_
  k_subL
  refine p_addB (e := [13, 10, 13, 10]) (by simp only [List.length_append, List.length_cons, List.length_nil]; omega) fun t₇ h₄ le4 => ?_
  have le04 := (le02.trans le3).trans le4
  have hsz : (againOct own refs).length ≤ 16777216 := by
    unfold againOct
    simp only [List.length_append, List.length_cons, List.length_nil]; omega
  k_subL
  refine read_fields_spec T (d := againOct own refs) hsz sp fun D R2 x h₅ le5 ht5 fl5 => ?_
  k_subL
  refine w_tailT ht5 (p_itemT (i := 0) ht5 (by decide) rfl ?_)
  k_subL
  refine thread_ids_spec T fl5 (sp.fsz hsz) i1 i2 i3 fun R3 E3 u3 h₆ le6 ht6 sl6 h₇ le7 => ?_
  rw [headS_take] at ht6
  rw [refsOf_nil] at sl6
  have le07 := ((le04.trans le5).trans le6).trans le7
  have ht7 := le_isTuple le7 ht6
  have sl7 := sl6.le le7
  have hR7 := le_isTuple le07 hR
  k_subL
  refine w_tailT ht7 (p_itemT (i := 0) ht7 (by decide) rfl ?_)
  k_subL
  refine w_tailT ht7 (p_itemT (i := 1) ht7 (by decide) rfl ?_)
  k_subL
  refine p_listSL sl7 (by simp; omega) fun L1 h₈ kp8 s8 => ?_
  k_subL
  refine w_newTuple (szl (by simp)) fun T1 h₉ kp9 _ ht9 => ?_
  have hR9 := le_isTuple (kp8.trans kp9).le hR7
  k_subL
  refine w_tailT hR9 (p_itemT (i := 0) hR9 (by decide) rfl ?_)
  k_subL
  refine w_tailT hR9 (p_itemT (i := 1) hR9 (by decide) rfl ?_)
  k_subL
  refine p_listSL (sHE.le (le07.trans (kp8.trans kp9).le)) (by simp; omega) fun L2 h₁₀ kp10 s10 => ?_
  k_subL
  refine w_newTuple (szl (by simp)) fun T2 h₁₁ kp11 _ ht11 => ?_
  exact p_eqT (le_isTuple (kp10.trans kp11).le ht9) ht11 (s8.le ((kp9.trans kp10).trans kp11).le) (s10.le kp11.le) (q _)
end
-- G25
section
variable {C : Cx} {c : Fc} {k : Nat} {m : Loc} {h : Heap} {X : Addr → Heap → Prop} {Q : Value → Heap → Prop}
theorem words_ok : ∀ w ∈ [wMsg, wRef, wRep, wSub], w.length ≤ 16777216 ∧ ∀ x ∈ w, x < 1114000 := by decide
/-- the tests in the middle: what is heard is what was told, name by name -/
theorem law_y (T : Tops C) {a : Addr} {cd : Value} {L : Addr} {below : List Env} {R HE E A FL TL : Addr} {XX : List Addr} {own refs : List (List UInt8)} {flds flds2 : List (List UInt8 × List UInt8)} {ts : List (List Nat × List (List UInt8))} {u : Tok}
    (hR : h.IsTuple R #[.str (headS own) u, .ref HE]) (sHE : SL h HE (txts refs)) (sE : SL h E (txts refs)) (sA : SL h A (txts own)) (fl : Fl h FL flds) (fz : FSz flds) (told : Told XX h TL ts) (ho : own.length ≤ 3) (hr : refs.length ≤ 3)
    (few : ∀ w, (firstTold ts w).length ≤ 3) (ids : ∀ w ∈ [wMsg, wRef, wRep, wSub], IdsOf flds w (firstTold ts w))
    (go : ∀ v ∈ own, Wrt v (wr v)) (gr : ∀ v ∈ refs, Wrt v (wr v)) (hw : ∀ v, (wr v).length ≤ 9) (sp : Spans (againOct own refs) 0 flds2) (i1 : IdsOf flds2 wMsg (own.take 1)) (i2 : IdsOf flds2 wRef refs) (i3 : IdsOf flds2 wRep [])
    (q : ∀ h', Q (.bool true) h') :
    S C (fLaw a cd L below) (k + 7) [("heard", .ref R), ("references", .ref E), ("own", .ref A), ("fields", .ref FL), ("told_ids", .ref TL)] (execs ((B 51).drop 10) (fLaw a cd L below).env) h (fun _ h' => Q .none h') Q (fun _ _ _ => False) := by
  have e51 : (B 51).drop 10 = _ :: _ := rfl
  with_reducible refine s_body e51 ?_
  refine s_cons (s_if (w_tcmp ?_ (by kernel_rfl)))
  k_subL
  refine w_tailT hR (p_itemT (i := 0) hR (by decide) rfl ?_)
  k_subL
  refine w_tailT hR (p_itemT (i := 1) hR (by decide) rfl ?_)
  k_subL
  refine p_listSL sHE (by simp; omega) fun L1 h₁ kp1 s1 => ?_
  k_subL
  refine w_newTuple (szl (by simp)) fun T1 h₂ kp2 _ ht2 => ?_
  refine w_tuple (w_args_cons (w_ownHead (by lcg_off) (by kernel_rfl) (by kernel_rfl) (sA.le (kp1.trans kp2).le) (by omega) (fun t₃ => ?_) (by kernel_rfl)) (by kernel_rfl))
  k_subL
  refine w_newTuple (szl (by simp)) fun T2 h₃ kp3 _ ht3 => ?_
  have kk := ((kp1.trans kp2).trans kp3).le
  refine p_neT (le_isTuple kp3.le ht2) ht3 (s1.le (kp2.trans kp3).le) (sE.le kk) ?_
  k_subL
  refine ⟨fun z => (nomatch z), fun _ => s_nil (Sub.refl _) ?_⟩
  have told3 := told.le kk
  have fl3 := fl.le kk
  refine s_cons (s_for (Live.fn (by kernel_rfl)) (by kernel_rfl) (fun _ => rfl) (fun i m' h' => m' = ([("heard", .ref R), ("references", .ref E), ("own", .ref A), ("fields", .ref FL), ("told_ids", .ref TL)] : Loc) ∧ Le h h') ?_)
  k_subL
  refine w_newListP (szl (by simp)) fun WL h₄ kp4 _ _ plW => ?_
  have hword : ∀ (ws : List Value) (i : Nat) (v : Value) (t1 t2 t3 t4 : Tok), ws = [.str (Str.ofString "message-id") t1, .str (Str.ofString "references") t2, .str (Str.ofString "in-reply-to") t3, .str (Str.ofString "subject") t4] → ws[i]? = some v → ∃ w t, w ∈ [wMsg, wRef, wRep, wSub] ∧ v = .str (txt w) t := fun ws i v t1 t2 t3 t4 e hv => by
    subst e
    have hm := List.mem_of_getElem? hv
    simp only [List.mem_cons, List.not_mem_nil, or_false] at hm
    rcases hm with rfl | rfl | rfl | rfl
    · exact ⟨wMsg, _, .head _, by rw [wMsg_eq]⟩
    · exact ⟨wRef, _, .tail _ (.head _), by rw [wRef_eq]⟩
    · exact ⟨wRep, _, .tail _ (.tail _ (.head _)), by rw [wRep_eq]⟩
    · exact ⟨wSub, _, .tail _ (.tail _ (.tail _ (.head _))), by rw [wSub_eq]⟩
  refine w_iterL plW.list fun I h₅ St kp5 nI it st gl => ⟨I, _, _, _, _, _, rfl, nI, it, st, gl, by lcg_sub, ⟨rfl, kk.trans (kp4.trans kp5).le⟩, ?_, ?_⟩
  · rintro i v m₁ h₆ hi hv g6 ⟨rfl, le6⟩ h₇ le7 g7
    obtain ⟨w, tw, hwm, rfl⟩ := hword _ i v _ _ _ _ rfl hv
    obtain ⟨wz, wl⟩ := words_ok w hwm
    have le := le6.trans le7
    refine s_cons (s_if (w_tcmp ?_ (by kernel_rfl)))
    k_subL
    refine ids_in_spec T (fl.le le) fz wz wl rfl (ids w hwm) fun D1 h₈ le8 s8 => ?_
    have hf := few w
    k_subL
    refine p_listSL s8 (by simp; omega) fun L2 h₉ kp9 s9 => ?_
    k_subL
    have le9 := (le.trans le8).trans kp9.le
    refine law_first_spec T (told.le le9) rfl fun E2 h₁₀ le10 s10 => ?_
    refine p_neSL (s9.le le10) s10 ?_
    k_subL
    exact ⟨fun z => (nomatch z), fun _ => s_nil (Sub.refl _) (s_nil (Sub.refl _) ⟨le_isList ((le8.trans kp9.le).trans le10) g7, _, by lcg_sub, rfl, le9.trans le10⟩)⟩
  · rintro m₁ h₆ ⟨rfl, le6⟩ h₇ le7
    have le := le6.trans le7
    exact law_z T (le_isTuple le hR) (sHE.le le) (sE.le le) (sA.le le) ho hr go gr hw sp i1 i2 i3 q
end
-- G26
section
variable {C : Cx} {c : Fc} {k : Nat} {m : Loc} {h : Heap} {X : Addr → Heap → Prop} {Q : Value → Heap → Prop}
/-- the middle: read, told, heard -/
theorem law_x (T : Tops C) {a : Addr} {cd : Value} {L : Addr} {below : List Env} {TL : Addr} {XX : List Addr} {fs : List Fd} {bd : List UInt8} {t : Tok}
    (hz : (fs.flatMap fdOct ++ bd).length ≤ 16777216) (told : Told XX h TL (fs.map fdTold)) (LF : LawFacts fs bd) (q : ∀ h', Q (.bool true) h') :
    S C (fLaw a cd L below) (k + 7) [("octets", .bytes (fs.flatMap fdOct ++ bd).toArray t), ("told_ids", .ref TL)] (execs ((B 51).drop 5) (fLaw a cd L below).env) h (fun _ h' => Q .none h') Q (fun _ _ _ => False) := by
  have e51 : (B 51).drop 5 = _ :: _ := rfl
  with_reducible refine s_body e51 ?_
  obtain ⟨flds, sp, ids⟩ := LF.spans
  obtain ⟨flds2, sp2, i1, i2, i3⟩ := LF.again
  have few := LF.few
  k_subL
  refine read_fields_spec T hz sp fun FL R2 x h₁ le1 ht1 fl1 => ?_
  k_subL
  refine w_tailT ht1 (p_itemT (i := 0) ht1 (by decide) rfl fun h₂ le2 => ?_)
  have le02 := le1.trans le2
  k_subL
  refine law_first_spec T (told.le le02) wMsg_eq fun A h₃ le3 sA h₄ le4 => ?_
  k_subL
  refine law_first_spec T (told.le ((le02.trans le3).trans le4)) wRef_eq fun E h₅ le5 sE h₆ le6 => ?_
  have le26 := ((le3.trans le4).trans le5).trans le6
  have fl6 := fl1.le (le2.trans le26)
  have told6 := told.le (le02.trans le26)
  have sA6 := ((sA.le le4).le le5).le le6
  have sE6 := sE.le le6
  obtain ⟨own, hown⟩ : ∃ own, own = firstTold (fs.map fdTold) wMsg := ⟨_, rfl⟩
  obtain ⟨rf, hrf⟩ : ∃ rf, rf = firstTold (fs.map fdTold) wRef := ⟨_, rfl⟩
  obtain ⟨rp, hrp⟩ : ∃ rp, rp = firstTold (fs.map fdTold) wRep := ⟨_, rfl⟩
  have fo : own.length ≤ 3 := hown ▸ few wMsg
  have ff : rf.length ≤ 3 := hrf ▸ few wRef
  have fp : rp.length ≤ 3 := hrp ▸ few wRep
  have go : ∀ v ∈ own, Wrt v (wr v) := hown ▸ LF.good wMsg
  have gf : ∀ v ∈ rf, Wrt v (wr v) := hrf ▸ LF.good wRef
  have gp : ∀ v ∈ rp, Wrt v (wr v) := hrp ▸ LF.good wRep
  have j1 := ids wMsg (.head _)
  have j2 := ids wRef (.tail _ (.head _))
  have j3 := ids wRep (.tail _ (.tail _ (.head _)))
  rw [← hown] at sA6 i1 j1
  rw [← hown, ← hrf, ← hrp] at sp2
  rw [← hrf] at sE6 j2
  rw [← hrf, ← hrp] at i2
  rw [← hrp] at j3
  have last : ∀ (E : Addr) (h₇ : Heap) (mm : Loc), Sub mm [("references", .ref E), ("own", .ref A), ("fields", .ref FL), ("told_ids", .ref TL)] → Le h₆ h₇ → SL h₇ E (txts (refsOf rf rp)) →
      S C (fLaw a cd L below) (k + 7) mm (execs ((B 51).drop 9) (fLaw a cd L below).env) h₇ (fun _ h' => Q .none h') Q (fun _ _ _ => False) := fun E h₇ mm su le7 sE7 => by
    refine S.sub ?_ su
    have e51 : (B 51).drop 9 = _ :: _ := rfl
    with_reducible refine s_body e51 ?_
    k_subL
    refine thread_ids_spec T (fl6.le le7) (sp.fsz hz) j1 j2 j3 fun R HE u h₈ le8 hR sHE h₉ le9 => ?_
    have le79 := le8.trans le9
    have le69 := le7.trans le79
    exact law_y T (le_isTuple le9 hR) (sHE.le le9) (sE7.le le79) (sA6.le le69) (fl6.le le69) (sp.fsz hz) (told6.le le69) fo (refsOf_len ff fp) few ids go (fun v hv => (refsOf_mem hv).elim (gf v) (gp v)) LF.wrlen sp2 i1 i2 i3 q
  obtain ⟨pr, hlR, hpr⟩ := id sE6
  have hlen : pr.length = rf.length := by have := congrArg List.length hpr; simpa using this
  k_subL
  refine w_newListP (szl (by simp)) fun N h₇ kp7 nN bN pl => ?_
  refine p_eqNil (le_isList kp7.le hlR) pl.list ?_
  k_subL
  cases rf with
  | nil =>
    have : pr = [] := List.eq_nil_of_length_eq_zero hlen
    subst this
    refine ⟨fun _ => ?_, fun z => (nomatch z)⟩
    k_subL
    refine law_first_spec T (told6.le kp7.le) wRep_eq fun P h₈ le8 slP => ?_
    rw [← hrp] at slP
    k_subL
    intro sl h₉ kp9 hsl
    obtain ⟨pp, hlP, hpp⟩ := slP
    have hplen : pp.length = rp.length := by have := congrArg List.length hpp; simpa using this
    have hlP := le_isList kp9.le hlP
    refine w_tailL hlP (p_sliceL hlP hsl .none (.int _ _) (szl (by simp [strValues]; omega)) fun V h₁₀ kp10 nV hV h₁₁ le11 => ?_)
    rw [slice_to1] at hV
    have le' := ((kp7.le.trans le8).trans (kp9.trans kp10).le).trans le11
    refine s_nil (Sub.refl _) (last V h₁₁ _ (by lcg_sub) le' (SL.le ⟨pp.take 1, ?_, ?_⟩ le11))
    · rw [show strValues (pp.take 1) = (strValues pp).take 1 from by simp [strValues]]; exact hV
    · simp [refsOf, hpp]
  | cons r rf =>
    refine ⟨fun z => ?_, fun _ => ?_⟩
    · cases pr with
      | nil => simp at hlen
      | cons _ _ => exact nomatch z
    · exact s_nil (Sub.refl _) (last E _ _ (by lcg_sub) kp7.le (sE6.le kp7.le))
/-- the law's octets are few -/
theorem flat_len : ∀ (fs : List Fd), (∀ f ∈ fs, FdOk f) → (fs.flatMap fdOct).length ≤ 50 * fs.length
  | [], _ => by simp
  | f :: fs, h => by
    have h1 := fdOct_len (h f (.head _))
    have h2 := flat_len fs fun g hg => h g (.tail _ hg)
    simp only [List.flatMap_cons, List.length_append, List.length_cons]
    omega
theorem bodyL_len : ∀ x ∈ bodyL, x.length ≤ 30 := by decide
theorem law_spec (T : Tops C) {a sc : Addr} {items : List Value} (hf : FnAt C a "law" (PA 51) (B 51) (SC 51) .none .none) (hs : h.IsList sc items.toArray) (hi : Ints items) (hz : items.length ≤ 1000)
    (LF : ∀ fs bd, (∀ f ∈ fs, FdOk f) → fs.length ≤ 6 → bd ∈ bodyL → LawFacts fs bd) (q : ∀ h', Q (.bool true) h') :
    W C c (k + 8) m (PySem.call (.ref a) [.ref sc]) h Q X := by
  refine w_fn T.toTopOk hf (binds := [("script", .ref sc)]) (fun _ _ _ _ _ _ _ _ => BindsTo.of_eq rfl) (locs (by kernel_rfl)) (by decide +kernel) (by kernel_rfl) (by kernel_rfl) (by kernel_rfl) rfl fun cd L h₁ kp hL => ?_
  have e51 : B 51 = _ :: _ := rfl
  with_reducible refine s_body e51 ?_
  k_subL
  refine pot_spec T (le_isList kp.le hs) hi hz fun P D h₂ le2 pot h₃ le3 => ?_
  have pot3 := pot.le le3
  k_subL
  refine w_newListP (szl (by simp)) fun TL h₄ kp4 nTL bTL pl h₅ le5 => ?_
  have hTL : TL ∉ [P, D] := pot3.fresh nTL
  have pot5 := (pot3.le kp4.le).le le5
  have pl5 := pl.le le5
  k_subL
  intro h₆ le6
  have pot6 := pot5.le le6
  have pl6 := pl5.le le6
  refine s_cons (s_for (Live.fn (by kernel_rfl)) (by kernel_rfl) (fun _ => rfl) (fun i m' h' => ∃ (fs : List Fd) (to : Tok) (n' : Nat), m' = ([("octets", .bytes (fs.flatMap fdOct).toArray to), ("told_ids", .ref TL), ("pot", .ref P)] : Loc) ∧ fs.length = i ∧ (∀ f ∈ fs, FdOk f) ∧
    Pot C h' P D n' ∧ n' ≤ 1 + 9 * i ∧ Told [P, D, TL] h' TL (fs.map fdTold)) ?_)
  k_subL
  refine draw_spec T (lim := 7) pot6 (by omega) (by decide) (by decide) fun v1 tv1 h₇ ln7 pot7 hv1 => ?_
  have pl7 := ln7.pl hTL pl6
  k_subL
  refine p_range fun r h₈ _ _ _ kp8 hr => ?_
  refine w_iterR (by omega) hr fun I h₉ St kp9 nI it st => ⟨I, _, _, _, _, _, rfl, nI, it, st, trivial, (by lcg_sub : Sub _ [("octets", _), ("told_ids", _), ("pot", _)]), ?_, ?_, ?_⟩
  · have kk := (kp8.trans kp9).le
    exact ⟨[], _, 1, rfl, rfl, (fun f hf => by cases hf), pot7.le kk, by omega, ⟨[], pl7.le kk, rfl, fun i f e => by cases e⟩⟩
  · rintro i v m₁ h₁₀ hi' _ _ ⟨fs, to, n', rfl, hfl, hfo, pot10, hn10, told10⟩ h₁₁ le11 _
    have fl := flat_len fs hfo
    k_subL
    refine law_field_spec T (by omega) bTL hTL (by simp; omega) (pot10.le le11) (told10.le le11) fun f tf h₁₂ n2 ln12 pot12 hn12 okf told12 => ?_
    have flf := fdOct_len okf
    refine p_addB (by omega) fun t₁₃ h₁₃ le13 => ?_
    refine s_nil (Sub.refl _) ⟨trivial, _, (by lcg_sub : Sub _ [("octets", _), ("told_ids", _), ("pot", _)]), fs ++ [f], t₁₃, n2, by simp, by simp [hfl], ?_, pot12.le le13, by omega, by simpa using told12.le le13⟩
    intro g hg
    rcases List.mem_append.mp hg with hg | hg
    · exact hfo g hg
    · rw [List.mem_singleton] at hg; subst hg; exact okf
  · rintro m₁ h₁₀ ⟨fs, to, n', rfl, hfl, hfo, pot10, hn10, told10⟩ h₁₁ le11
    have fl := flat_len fs hfo
    have pot11 := pot10.le le11
    have told11 := told10.le le11
    k_subL
    refine w_newListP (szl (by simp)) fun V h₁₂ kp12 nV bV plV => ?_
    have pot12 := pot11.le kp12.le
    k_subL
    refine draw_spec T (lim := 3) pot12 (by omega) (by decide) (by decide) fun v2 tv2 h₁₃ ln13 pot13 hv2 => ?_
    have plV13 := ln13.pl (pot11.fresh nV) plV
    have told13 := (told11.le kp12.le).n ln13 in2 hTL pot12.lists
    have hvL : v2 < bodyL.length := hv2
    obtain ⟨te, he⟩ := bv_item (ps := [([13, 10, 60, 105, 110, 64, 98, 111, 100, 121, 62], _), ([], _), ([10, 82, 101, 102, 101, 114, 101, 110, 99, 101, 115, 58, 32, 60, 105, 110, 64, 98, 111, 100, 121, 62], _)]) (L := bodyL) rfl hvL
    refine w_tailL plV13.list (p_itemL plV13.list (by omega) (by omega) (by rw [Int.toNat_natCast]; exact he) ?_)
    have hbd : bodyL[v2] ∈ bodyL := List.getElem_mem hvL
    have bl := bodyL_len _ hbd
    refine p_addB (by omega) fun t₁₄ h₁₄ le14 => ?_
    exact S.sub (law_x T (by rw [List.length_append]; omega) (told13.le le14) (LF fs _ hfo (by omega) hbd) q) (by lcg_sub)
end
-- Z1
section
def fdOf (K : Frag) (f : Addr) : Option FuncData := match K.lookup f with
  | some ⟨_, _, .func fd, _⟩ => some fd
  | _ => none
/-- what a def's object tells -/
structure FnTold where
  qual : Str
  params : Arguments
  body : FuncBody
  scope : Scope
  globals : Addr
  closure : List (Str × Addr)
  dV : Value
  kV : Value
  builtins : Addr
def tellFn (fd : FuncData) : FnTold := ⟨fd.qualname, fd.params, fd.body, fd.scope, fd.globals, fd.closure, fd.defaults, fd.kwdefaults, fd.builtins⟩
theorem FnAt.of {C : Cx} {f : Addr} {qual : Str} {params : Arguments} {body : List Stmt} {scope : Scope} {dV kV : Value}
    (e : (fdOf C.K f).map tellFn = some ⟨qual, params, FuncBody.stmts body, scope, mainGlobals, [], dV, kV, builtinsNs⟩) (hc : (fdOf C.K f).map (fun fd => codeIn C.K fd.code qual) = some true) : FnAt C f qual params body scope dV kV := by
  unfold fdOf at e hc
  split at e
  · rename_i oc od fd osl ho
    rw [ho] at hc
    obtain ⟨name, q, p, b, sc, gl, cl, d, kw, doc, pm, an, cd, ct, bl⟩ := fd
    simp only [Option.map_some, tellFn, Option.some.injEq, FnTold.mk.injEq] at e hc
    obtain ⟨rfl, rfl, rfl, rfl, rfl, rfl, rfl, rfl, rfl⟩ := e
    exact ⟨oc, od, osl, name, doc, pm, an, cd, ct, ho, hc⟩
  · cases e
section
variable {C : Cx} {P : Params}
theorem z_field (hK : C.K = KX P) : FieldOk C where
  makes := by rw [hK]; kernel_rfl
  init := by rw [hK]; kernel_rfl
  initT := by rw [hK]; kernel_rfl
  sa := by rw [hK]; kernel_rfl
  over := by rw [hK]; kernel_rfl
  takeN := by rw [hK]; kernel_rfl
  takeR := by rw [hK]; kernel_rfl
  dict := by rw [hK]; kernel_rfl
  ga := by rw [hK]; kernel_rfl
  fn := by rw [hK]; kernel_rfl
  fr := by rw [hK]; kernel_rfl
  word := by rw [hK]; kernel_rfl
  wordT := by rw [hK]; kernel_rfl
  f88 := FnAt.of (by rw [hK]; kernel_rfl) (by rw [hK]; kernel_rfl)
  f93 := FnAt.of (by rw [hK]; kernel_rfl) (by rw [hK]; kernel_rfl)
  keepWord := by rw [hK]; kernel_rfl
theorem z_fault (hK : C.K = KX P) : FaultOk C where
  obj := ⟨_, _, _, _, _, _, _, _, _, _, _, _, _, by rw [hK]; rfl⟩
  init := by rw [hK]; kernel_rfl
  initT := by rw [hK]; kernel_rfl
  sa := by rw [hK]; kernel_rfl
  what := by rw [hK]; kernel_rfl
  at_ := by rw [hK]; kernel_rfl
  call := by rw [hK]; kernel_rfl
  typ := by rw [hK]; kernel_rfl
  dflt := ⟨_, _, _, by rw [hK]; rfl, rfl⟩
  excInit := by rw [hK]; kernel_rfl
  f36 := FnAt.of (by rw [hK]; kernel_rfl) (by rw [hK]; kernel_rfl)
theorem z_f_lower_code (hK : C.K = KX P) (T : TopOk C) : (C.mg "lower_code" = some (.ref 68) ∧ keepIn C.K (.ref 68) = true) ∧ FnAt C 68 "lower_code" (PA 5) (B 5) (SC 5) .none .none :=
  ⟨⟨mg_of T.k T.g (by rw [hK]; kernel_rfl), by rw [hK]; kernel_rfl⟩, FnAt.of (by rw [hK]; kernel_rfl) (by rw [hK]; kernel_rfl)⟩
theorem z_f_lower_text (hK : C.K = KX P) (T : TopOk C) : (C.mg "lower_text" = some (.ref 73) ∧ keepIn C.K (.ref 73) = true) ∧ FnAt C 73 "lower_text" (PA 6) (B 6) (SC 6) .none .none :=
  ⟨⟨mg_of T.k T.g (by rw [hK]; kernel_rfl), by rw [hK]; kernel_rfl⟩, FnAt.of (by rw [hK]; kernel_rfl) (by rw [hK]; kernel_rfl)⟩
theorem z_f_line_at (hK : C.K = KX P) (T : TopOk C) : (C.mg "line_at" = some (.ref 114) ∧ keepIn C.K (.ref 114) = true) ∧ FnAt C 114 "line_at" (PA 10) (B 10) (SC 10) .none .none :=
  ⟨⟨mg_of T.k T.g (by rw [hK]; kernel_rfl), by rw [hK]; kernel_rfl⟩, FnAt.of (by rw [hK]; kernel_rfl) (by rw [hK]; kernel_rfl)⟩
theorem z_f_is_name (hK : C.K = KX P) (T : TopOk C) : (C.mg "is_name" = some (.ref 121) ∧ keepIn C.K (.ref 121) = true) ∧ FnAt C 121 "is_name" (PA 11) (B 11) (SC 11) .none .none :=
  ⟨⟨mg_of T.k T.g (by rw [hK]; kernel_rfl), by rw [hK]; kernel_rfl⟩, FnAt.of (by rw [hK]; kernel_rfl) (by rw [hK]; kernel_rfl)⟩
theorem z_f_colon_in (hK : C.K = KX P) (T : TopOk C) : (C.mg "colon_in" = some (.ref 128) ∧ keepIn C.K (.ref 128) = true) ∧ FnAt C 128 "colon_in" (PA 12) (B 12) (SC 12) .none .none :=
  ⟨⟨mg_of T.k T.g (by rw [hK]; kernel_rfl), by rw [hK]; kernel_rfl⟩, FnAt.of (by rw [hK]; kernel_rfl) (by rw [hK]; kernel_rfl)⟩
theorem z_f_read_spans (hK : C.K = KX P) (T : TopOk C) : (C.mg "read_spans" = some (.ref 136) ∧ keepIn C.K (.ref 136) = true) ∧ FnAt C 136 "read_spans" (PA 13) (B 13) (SC 13) (.ref 129) .none :=
  ⟨⟨mg_of T.k T.g (by rw [hK]; kernel_rfl), by rw [hK]; kernel_rfl⟩, FnAt.of (by rw [hK]; kernel_rfl) (by rw [hK]; kernel_rfl)⟩
theorem z_f_read_fields (hK : C.K = KX P) (T : TopOk C) : (C.mg "read_fields" = some (.ref 142) ∧ keepIn C.K (.ref 142) = true) ∧ FnAt C 142 "read_fields" (PA 14) (B 14) (SC 14) (.ref 137) .none :=
  ⟨⟨mg_of T.k T.g (by rw [hK]; kernel_rfl), by rw [hK]; kernel_rfl⟩, FnAt.of (by rw [hK]; kernel_rfl) (by rw [hK]; kernel_rfl)⟩
theorem z_f_rows_of (hK : C.K = KX P) (T : TopOk C) : (C.mg "rows_of" = some (.ref 149) ∧ keepIn C.K (.ref 149) = true) ∧ FnAt C 149 "rows_of" (PA 15) (B 15) (SC 15) .none .none :=
  ⟨⟨mg_of T.k T.g (by rw [hK]; kernel_rfl), by rw [hK]; kernel_rfl⟩, FnAt.of (by rw [hK]; kernel_rfl) (by rw [hK]; kernel_rfl)⟩
theorem z_f_unfolded (hK : C.K = KX P) (T : TopOk C) : (C.mg "unfolded" = some (.ref 156) ∧ keepIn C.K (.ref 156) = true) ∧ FnAt C 156 "unfolded" (PA 16) (B 16) (SC 16) .none .none :=
  ⟨⟨mg_of T.k T.g (by rw [hK]; kernel_rfl), by rw [hK]; kernel_rfl⟩, FnAt.of (by rw [hK]; kernel_rfl) (by rw [hK]; kernel_rfl)⟩
theorem z_f_first_body (hK : C.K = KX P) (T : TopOk C) : (C.mg "first_body" = some (.ref 163) ∧ keepIn C.K (.ref 163) = true) ∧ FnAt C 163 "first_body" (PA 17) (B 17) (SC 17) .none .none :=
  ⟨⟨mg_of T.k T.g (by rw [hK]; kernel_rfl), by rw [hK]; kernel_rfl⟩, FnAt.of (by rw [hK]; kernel_rfl) (by rw [hK]; kernel_rfl)⟩
theorem z_f_is_atom_code (hK : C.K = KX P) (T : TopOk C) : (C.mg "is_atom_code" = some (.ref 171) ∧ keepIn C.K (.ref 171) = true) ∧ FnAt C 171 "is_atom_code" (PA 22) (B 22) (SC 22) .none .none :=
  ⟨⟨mg_of T.k T.g (by rw [hK]; kernel_rfl), by rw [hK]; kernel_rfl⟩, FnAt.of (by rw [hK]; kernel_rfl) (by rw [hK]; kernel_rfl)⟩
theorem z_f_line_end (hK : C.K = KX P) (T : TopOk C) : (C.mg "line_end" = some (.ref 178) ∧ keepIn C.K (.ref 178) = true) ∧ FnAt C 178 "line_end" (PA 23) (B 23) (SC 23) .none .none :=
  ⟨⟨mg_of T.k T.g (by rw [hK]; kernel_rfl), by rw [hK]; kernel_rfl⟩, FnAt.of (by rw [hK]; kernel_rfl) (by rw [hK]; kernel_rfl)⟩
theorem z_f_inside_at (hK : C.K = KX P) (T : TopOk C) : (C.mg "inside_at" = some (.ref 185) ∧ keepIn C.K (.ref 185) = true) ∧ FnAt C 185 "inside_at" (PA 24) (B 24) (SC 24) .none .none :=
  ⟨⟨mg_of T.k T.g (by rw [hK]; kernel_rfl), by rw [hK]; kernel_rfl⟩, FnAt.of (by rw [hK]; kernel_rfl) (by rw [hK]; kernel_rfl)⟩
theorem z_f_closed_at (hK : C.K = KX P) (T : TopOk C) : (C.mg "closed_at" = some (.ref 192) ∧ keepIn C.K (.ref 192) = true) ∧ FnAt C 192 "closed_at" (PA 25) (B 25) (SC 25) .none .none :=
  ⟨⟨mg_of T.k T.g (by rw [hK]; kernel_rfl), by rw [hK]; kernel_rfl⟩, FnAt.of (by rw [hK]; kernel_rfl) (by rw [hK]; kernel_rfl)⟩
theorem z_f_escaped_octets (hK : C.K = KX P) (T : TopOk C) : (C.mg "escaped_octets" = some (.ref 206) ∧ keepIn C.K (.ref 206) = true) ∧ FnAt C 206 "escaped_octets" (PA 27) (B 27) (SC 27) .none .none :=
  ⟨⟨mg_of T.k T.g (by rw [hK]; kernel_rfl), by rw [hK]; kernel_rfl⟩, FnAt.of (by rw [hK]; kernel_rfl) (by rw [hK]; kernel_rfl)⟩
theorem z_f_is_run_code (hK : C.K = KX P) (T : TopOk C) : (C.mg "is_run_code" = some (.ref 213) ∧ keepIn C.K (.ref 213) = true) ∧ FnAt C 213 "is_run_code" (PA 32) (B 32) (SC 32) .none .none :=
  ⟨⟨mg_of T.k T.g (by rw [hK]; kernel_rfl), by rw [hK]; kernel_rfl⟩, FnAt.of (by rw [hK]; kernel_rfl) (by rw [hK]; kernel_rfl)⟩
theorem z_f_is_run (hK : C.K = KX P) (T : TopOk C) : (C.mg "is_run" = some (.ref 218) ∧ keepIn C.K (.ref 218) = true) ∧ FnAt C 218 "is_run" (PA 33) (B 33) (SC 33) .none .none :=
  ⟨⟨mg_of T.k T.g (by rw [hK]; kernel_rfl), by rw [hK]; kernel_rfl⟩, FnAt.of (by rw [hK]; kernel_rfl) (by rw [hK]; kernel_rfl)⟩
theorem z_f_run_at (hK : C.K = KX P) (T : TopOk C) : (C.mg "run_at" = some (.ref 225) ∧ keepIn C.K (.ref 225) = true) ∧ FnAt C 225 "run_at" (PA 34) (B 34) (SC 34) .none .none :=
  ⟨⟨mg_of T.k T.g (by rw [hK]; kernel_rfl), by rw [hK]; kernel_rfl⟩, FnAt.of (by rw [hK]; kernel_rfl) (by rw [hK]; kernel_rfl)⟩
theorem z_f_check_plain (hK : C.K = KX P) (T : TopOk C) : (C.mg "check_plain" = some (.ref 232) ∧ keepIn C.K (.ref 232) = true) ∧ FnAt C 232 "check_plain" (PA 35) (B 35) (SC 35) .none .none :=
  ⟨⟨mg_of T.k T.g (by rw [hK]; kernel_rfl), by rw [hK]; kernel_rfl⟩, FnAt.of (by rw [hK]; kernel_rfl) (by rw [hK]; kernel_rfl)⟩
theorem z_f_id_at (hK : C.K = KX P) (T : TopOk C) : (C.mg "id_at" = some (.ref 237) ∧ keepIn C.K (.ref 237) = true) ∧ FnAt C 237 "id_at" (PA 36) (B 36) (SC 36) .none .none :=
  ⟨⟨mg_of T.k T.g (by rw [hK]; kernel_rfl), by rw [hK]; kernel_rfl⟩, FnAt.of (by rw [hK]; kernel_rfl) (by rw [hK]; kernel_rfl)⟩
theorem z_f_read_ids (hK : C.K = KX P) (T : TopOk C) : (C.mg "read_ids" = some (.ref 251) ∧ keepIn C.K (.ref 251) = true) ∧ FnAt C 251 "read_ids" (PA 38) (B 38) (SC 38) .none .none :=
  ⟨⟨mg_of T.k T.g (by rw [hK]; kernel_rfl), by rw [hK]; kernel_rfl⟩, FnAt.of (by rw [hK]; kernel_rfl) (by rw [hK]; kernel_rfl)⟩
theorem z_f_sides_of (hK : C.K = KX P) (T : TopOk C) : (C.mg "sides_of" = some (.ref 256) ∧ keepIn C.K (.ref 256) = true) ∧ FnAt C 256 "sides_of" (PA 39) (B 39) (SC 39) .none .none :=
  ⟨⟨mg_of T.k T.g (by rw [hK]; kernel_rfl), by rw [hK]; kernel_rfl⟩, FnAt.of (by rw [hK]; kernel_rfl) (by rw [hK]; kernel_rfl)⟩
theorem z_f_id_octets (hK : C.K = KX P) (T : TopOk C) : (C.mg "id_octets" = some (.ref 263) ∧ keepIn C.K (.ref 263) = true) ∧ FnAt C 263 "id_octets" (PA 40) (B 40) (SC 40) .none .none :=
  ⟨⟨mg_of T.k T.g (by rw [hK]; kernel_rfl), by rw [hK]; kernel_rfl⟩, FnAt.of (by rw [hK]; kernel_rfl) (by rw [hK]; kernel_rfl)⟩
theorem z_f_write_ids (hK : C.K = KX P) (T : TopOk C) : (C.mg "write_ids" = some (.ref 268) ∧ keepIn C.K (.ref 268) = true) ∧ FnAt C 268 "write_ids" (PA 41) (B 41) (SC 41) .none .none :=
  ⟨⟨mg_of T.k T.g (by rw [hK]; kernel_rfl), by rw [hK]; kernel_rfl⟩, FnAt.of (by rw [hK]; kernel_rfl) (by rw [hK]; kernel_rfl)⟩
theorem z_f_ids_in (hK : C.K = KX P) (T : TopOk C) : (C.mg "ids_in" = some (.ref 275) ∧ keepIn C.K (.ref 275) = true) ∧ FnAt C 275 "ids_in" (PA 42) (B 42) (SC 42) .none .none :=
  ⟨⟨mg_of T.k T.g (by rw [hK]; kernel_rfl), by rw [hK]; kernel_rfl⟩, FnAt.of (by rw [hK]; kernel_rfl) (by rw [hK]; kernel_rfl)⟩
theorem z_f_thread_ids (hK : C.K = KX P) (T : TopOk C) : (C.mg "thread_ids" = some (.ref 282) ∧ keepIn C.K (.ref 282) = true) ∧ FnAt C 282 "thread_ids" (PA 43) (B 43) (SC 43) .none .none :=
  ⟨⟨mg_of T.k T.g (by rw [hK]; kernel_rfl), by rw [hK]; kernel_rfl⟩, FnAt.of (by rw [hK]; kernel_rfl) (by rw [hK]; kernel_rfl)⟩
theorem z_f_law_pot (hK : C.K = KX P) (T : TopOk C) : (C.mg "_law_pot" = some (.ref 287) ∧ keepIn C.K (.ref 287) = true) ∧ FnAt C 287 "_law_pot" (PA 45) (B 45) (SC 45) .none .none :=
  ⟨⟨mg_of T.k T.g (by rw [hK]; kernel_rfl), by rw [hK]; kernel_rfl⟩, FnAt.of (by rw [hK]; kernel_rfl) (by rw [hK]; kernel_rfl)⟩
theorem z_f_law_draw (hK : C.K = KX P) (T : TopOk C) : (C.mg "_law_draw" = some (.ref 294) ∧ keepIn C.K (.ref 294) = true) ∧ FnAt C 294 "_law_draw" (PA 46) (B 46) (SC 46) .none .none :=
  ⟨⟨mg_of T.k T.g (by rw [hK]; kernel_rfl), by rw [hK]; kernel_rfl⟩, FnAt.of (by rw [hK]; kernel_rfl) (by rw [hK]; kernel_rfl)⟩
theorem z_f_law_names (hK : C.K = KX P) (T : TopOk C) : (C.mg "_law_names" = some (.ref 301) ∧ keepIn C.K (.ref 301) = true) ∧ FnAt C 301 "_law_names" (PA 47) (B 47) (SC 47) .none .none :=
  ⟨⟨mg_of T.k T.g (by rw [hK]; kernel_rfl), by rw [hK]; kernel_rfl⟩, FnAt.of (by rw [hK]; kernel_rfl) (by rw [hK]; kernel_rfl)⟩
theorem z_f_law_ids (hK : C.K = KX P) (T : TopOk C) : (C.mg "_law_ids" = some (.ref 308) ∧ keepIn C.K (.ref 308) = true) ∧ FnAt C 308 "_law_ids" (PA 48) (B 48) (SC 48) .none .none :=
  ⟨⟨mg_of T.k T.g (by rw [hK]; kernel_rfl), by rw [hK]; kernel_rfl⟩, FnAt.of (by rw [hK]; kernel_rfl) (by rw [hK]; kernel_rfl)⟩
theorem z_f_law_field (hK : C.K = KX P) (T : TopOk C) : (C.mg "_law_field" = some (.ref 313) ∧ keepIn C.K (.ref 313) = true) ∧ FnAt C 313 "_law_field" (PA 49) (B 49) (SC 49) .none .none :=
  ⟨⟨mg_of T.k T.g (by rw [hK]; kernel_rfl), by rw [hK]; kernel_rfl⟩, FnAt.of (by rw [hK]; kernel_rfl) (by rw [hK]; kernel_rfl)⟩
theorem z_f_law_first (hK : C.K = KX P) (T : TopOk C) : (C.mg "_law_first" = some (.ref 320) ∧ keepIn C.K (.ref 320) = true) ∧ FnAt C 320 "_law_first" (PA 50) (B 50) (SC 50) .none .none :=
  ⟨⟨mg_of T.k T.g (by rw [hK]; kernel_rfl), by rw [hK]; kernel_rfl⟩, FnAt.of (by rw [hK]; kernel_rfl) (by rw [hK]; kernel_rfl)⟩
theorem z_c_WHITE (hK : C.K = KX P) (T : TopOk C) : C.mg "WHITE" = some (.ref 74) := mg_of T.k T.g (by rw [hK]; kernel_rfl)
theorem z_c_ATOM_SIGNS (hK : C.K = KX P) (T : TopOk C) : C.mg "ATOM_SIGNS" = some (.bytes #[33, 35, 36, 37, 38, 39, 42, 43, 45, 47, 61, 63, 94, 95, 96, 123, 124, 125, 126] 403) := mg_of T.k T.g (by rw [hK]; kernel_rfl)
theorem z_c_NEVER_ESCAPED (hK : C.K = KX P) (T : TopOk C) : C.mg "NEVER_ESCAPED" = some (.ref 164) := mg_of T.k T.g (by rw [hK]; kernel_rfl)
theorem z_c_QUOTE (hK : C.K = KX P) (T : TopOk C) : C.mg "QUOTE" = some (.int 34 472) := mg_of T.k T.g (by rw [hK]; kernel_rfl)
theorem z_c_BRACKET (hK : C.K = KX P) (T : TopOk C) : C.mg "BRACKET" = some (.int 40 474) := mg_of T.k T.g (by rw [hK]; kernel_rfl)
theorem z_c_LESS (hK : C.K = KX P) (T : TopOk C) : C.mg "LESS" = some (.int 60 476) := mg_of T.k T.g (by rw [hK]; kernel_rfl)
theorem z_c_Field (hK : C.K = KX P) (T : TopOk C) : C.mg "Field" = some (.ref 103) := mg_of T.k T.g (by rw [hK]; kernel_rfl)
theorem z_c_WordFault (hK : C.K = KX P) (T : TopOk C) : C.mg "WordFault" = some (.ref 59) := mg_of T.k T.g (by rw [hK]; kernel_rfl)
theorem z_c_PostError (hK : C.K = KX P) (T : TopOk C) : C.mg "PostError" = some (.ref 46) := mg_of T.k T.g (by rw [hK]; kernel_rfl)
theorem z_white (hK : C.K = KX P) (T : TopOk C) : ∃ t u, C.base.IsTuple 74 #[.int 32 t, .int 9 u] := ⟨_, _, _, T.k _ _ (by rw [hK]; rfl), rfl, _, rfl⟩
theorem z_dfl_spans (hK : C.K = KX P) : ∃ o n t u, C.K.lookup 129 = some o ∧ o.data = .seq #[.int 0 t, .int (-1) u] n := ⟨_, _, _, _, by rw [hK]; rfl, rfl⟩
theorem z_dfl_fields (hK : C.K = KX P) : ∃ o n t u, C.K.lookup 137 = some o ∧ o.data = .seq #[.int 0 t, .int (-1) u] n := ⟨_, _, _, _, by rw [hK]; rfl, rfl⟩
theorem z_never (hK : C.K = KX P) (T : TopOk C) : ∃ t u v, C.base.IsTuple 164 #[.int 0 t, .int 10 u, .int 13 v] := ⟨_, _, _, _, T.k _ _ (by rw [hK]; rfl), rfl, _, rfl⟩
theorem z_keepField (hK : C.K = KX P) : keepIn C.K (.ref 103) = true := by rw [hK]; kernel_rfl
theorem z_keepFault (hK : C.K = KX P) : keepIn C.K (.ref 59) = true := by rw [hK]; kernel_rfl
theorem z_b_len (hK : C.K = KX P) (T : TopOk C) : C.mg "len" = none := mg_none_of T.k T.g (by rw [hK]; kernel_rfl)
theorem z_b_range (hK : C.K = KX P) (T : TopOk C) : C.mg "range" = none := mg_none_of T.k T.g (by rw [hK]; kernel_rfl)
theorem z_b_ord (hK : C.K = KX P) (T : TopOk C) : C.mg "ord" = none := mg_none_of T.k T.g (by rw [hK]; kernel_rfl)
theorem z_b_chr (hK : C.K = KX P) (T : TopOk C) : C.mg "chr" = none := mg_none_of T.k T.g (by rw [hK]; kernel_rfl)
theorem z_b_int (hK : C.K = KX P) (T : TopOk C) : C.mg "int" = none := mg_none_of T.k T.g (by rw [hK]; kernel_rfl)
theorem z_b_abs (hK : C.K = KX P) (T : TopOk C) : C.mg "abs" = none := mg_none_of T.k T.g (by rw [hK]; kernel_rfl)
theorem z_b_list (hK : C.K = KX P) (T : TopOk C) : C.mg "list" = none := mg_none_of T.k T.g (by rw [hK]; kernel_rfl)
theorem z_b_bytes (hK : C.K = KX P) (T : TopOk C) : C.mg "bytes" = none := mg_none_of T.k T.g (by rw [hK]; kernel_rfl)
theorem z_b_Exception (hK : C.K = KX P) (T : TopOk C) : C.mg "Exception" = none := mg_none_of T.k T.g (by rw [hK]; kernel_rfl)
theorem tops_of (hK : C.K = KX P) (T : TopOk C) : Tops C where
  toTopOk := T
  field := z_field hK
  fault := z_fault hK
  f_lower_code := z_f_lower_code hK T
  f_lower_text := z_f_lower_text hK T
  f_line_at := z_f_line_at hK T
  f_is_name := z_f_is_name hK T
  f_colon_in := z_f_colon_in hK T
  f_read_spans := z_f_read_spans hK T
  f_read_fields := z_f_read_fields hK T
  f_rows_of := z_f_rows_of hK T
  f_unfolded := z_f_unfolded hK T
  f_first_body := z_f_first_body hK T
  f_is_atom_code := z_f_is_atom_code hK T
  f_line_end := z_f_line_end hK T
  f_inside_at := z_f_inside_at hK T
  f_closed_at := z_f_closed_at hK T
  f_escaped_octets := z_f_escaped_octets hK T
  f_is_run_code := z_f_is_run_code hK T
  f_is_run := z_f_is_run hK T
  f_run_at := z_f_run_at hK T
  f_check_plain := z_f_check_plain hK T
  f_id_at := z_f_id_at hK T
  f_read_ids := z_f_read_ids hK T
  f_sides_of := z_f_sides_of hK T
  f_id_octets := z_f_id_octets hK T
  f_write_ids := z_f_write_ids hK T
  f_ids_in := z_f_ids_in hK T
  f_thread_ids := z_f_thread_ids hK T
  f_law_pot := z_f_law_pot hK T
  f_law_draw := z_f_law_draw hK T
  f_law_names := z_f_law_names hK T
  f_law_ids := z_f_law_ids hK T
  f_law_field := z_f_law_field hK T
  f_law_first := z_f_law_first hK T
  c_WHITE := z_c_WHITE hK T
  c_ATOM_SIGNS := z_c_ATOM_SIGNS hK T
  c_NEVER_ESCAPED := z_c_NEVER_ESCAPED hK T
  c_QUOTE := z_c_QUOTE hK T
  c_BRACKET := z_c_BRACKET hK T
  c_LESS := z_c_LESS hK T
  c_Field := z_c_Field hK T
  c_WordFault := z_c_WordFault hK T
  c_PostError := z_c_PostError hK T
  white := z_white hK T
  dfl_spans := z_dfl_spans hK
  dfl_fields := z_dfl_fields hK
  never := z_never hK T
  keepField := z_keepField hK
  keepFault := z_keepFault hK
  b_len := z_b_len hK T
  b_range := z_b_range hK T
  b_ord := z_b_ord hK T
  b_chr := z_b_chr hK T
  b_int := z_b_int hK T
  b_abs := z_b_abs hK T
  b_list := z_b_list hK T
  b_bytes := z_b_bytes hK T
  b_Exception := z_b_Exception hK T
end
end
-- P1
section
/-- no line's end in it -/
def Plain (x : List UInt8) : Prop := ∀ c ∈ x, c ≠ 10 ∧ c ≠ 13
theorem Plain.app {x y : List UInt8} (a : Plain x) (b : Plain y) : Plain (x ++ y) := fun c hc => (List.mem_append.mp hc).elim (a c) (b c)
theorem Plain.cons {c : UInt8} {y : List UInt8} (h1 : c ≠ 10) (h2 : c ≠ 13) (b : Plain y) : Plain (c :: y) := fun d hd => (List.mem_cons.mp hd).elim (fun e => e ▸ ⟨h1, h2⟩) (b d)
theorem findLF {x r : List UInt8} (hx : ∀ c ∈ x, c ≠ 10) : (x ++ r).findIdx? (· == 10) = (r.findIdx? (· == 10)).map (· + x.length) := by
  rw [List.findIdx?_append]
  have : x.findIdx? (· == 10) = none := by
    rw [List.findIdx?_eq_none_iff]
    intro c hc
    simpa using hx c hc
  rw [this]
  simp
theorem line_lf {x r : List UInt8} (hx : Plain x) : lineLen (x ++ 10 :: r) = (x.length, x.length + 1) := by
  unfold lineLen
  rw [findLF fun c hc => (hx c hc).1]
  have e : (10 :: r : List UInt8).findIdx? (· == 10) = some 0 := by simp [List.findIdx?_cons]
  rw [e]
  simp only [Option.map_some, Nat.zero_add]
  rw [if_neg]
  rintro ⟨h0, h1⟩
  have hlt : x.length - 1 < x.length := by omega
  rw [List.getD_eq_getElem?_getD, List.getElem?_append_left hlt, List.getElem?_eq_getElem hlt] at h1
  exact (hx _ (List.getElem_mem hlt)).2 h1
theorem line_crlf {x r : List UInt8} (hx : Plain x) : lineLen (x ++ 13 :: 10 :: r) = (x.length, x.length + 2) := by
  unfold lineLen
  rw [findLF fun c hc => (hx c hc).1]
  have e : (13 :: 10 :: r : List UInt8).findIdx? (· == 10) = some 1 := by simp [List.findIdx?_cons]
  rw [e]
  simp only [Option.map_some]
  rw [if_pos]
  · simp; omega
  · refine ⟨by omega, ?_⟩
    have : 1 + x.length - 1 = x.length := by omega
    rw [this, List.getD_eq_getElem?_getD, List.getElem?_append_right (Nat.le_refl _), Nat.sub_self]; rfl
theorem line_ge {x r : List UInt8} (hx : Plain x) : x.length ≤ (lineLen (x ++ r)).1 := by
  unfold lineLen
  rw [findLF fun c hc => (hx c hc).1]
  cases e : r.findIdx? (· == 10) with
  | none => simp
  | some i =>
    simp only [Option.map_some]
    split
    · rename_i h
      obtain ⟨h0, h1⟩ := h
      rcases Nat.eq_zero_or_pos i with q | q
      · subst q
        exfalso
        simp only [Nat.zero_add] at h0 h1
        have hlt : x.length - 1 < x.length := by omega
        rw [List.getD_eq_getElem?_getD, List.getElem?_append_left hlt, List.getElem?_eq_getElem hlt] at h1
        exact (hx _ (List.getElem_mem hlt)).2 h1
      · simp; omega
    · simp
/-- a field's octets behind its colon: folded lines go on with white -/
inductive Raw : List UInt8 → Prop
  | nil : Raw []
  | ch {c : UInt8} {r : List UInt8} : c ≠ 10 → c ≠ 13 → Raw r → Raw (c :: r)
  | lf {w : UInt8} {r : List UInt8} : isW w = true → Raw r → Raw (10 :: w :: r)
  | crlf {w : UInt8} {r : List UInt8} : isW w = true → Raw r → Raw (13 :: 10 :: w :: r)
theorem Raw.plain {x r : List UInt8} (hx : Plain x) (h : Raw r) : Raw (x ++ r) := by
  induction x with
  | nil => exact h
  | cons c x ih => exact .ch (hx c (.head _)).1 (hx c (.head _)).2 (ih fun d hd => hx d (.tail _ hd))
theorem isW_plain {w : UInt8} (h : isW w = true) : w ≠ 10 ∧ w ≠ 13 := ⟨fun e => by subst e; exact absurd h (by decide), fun e => by subst e; exact absurd h (by decide)⟩
theorem drop_getElem {d r : List UInt8} {n : Nat} (e : d.drop n = r) : d[n]? = r.head? := by
  have := List.getElem?_drop (xs := d) (i := n) (j := 0)
  rw [e] at this
  rw [List.head?_eq_getElem?]; simpa using this.symm
/-- the folds of a field -/
theorem fold_raw {d fin rest : List UInt8} (hfin : fin ∈ endL) (hrest : ∀ x, rest.head? = some x → isW x = false) {raw : List UInt8} (hr : Raw raw) :
    ∀ (x : List UInt8) (n : Nat), Plain x → d.drop n = x ++ (raw ++ (fin ++ rest)) → Fold d (n + (lineLen (d.drop n)).1) (n + (lineLen (d.drop n)).2) (n + (x ++ raw).length) (n + (x ++ raw).length + fin.length) := by
  induction hr with
  | nil =>
    intro x n hx e
    have e2 : lineLen (d.drop n) = (x.length, x.length + fin.length) := by
      rw [e, List.nil_append]
      simp only [endL, List.mem_cons, List.not_mem_nil, or_false] at hfin
      rcases hfin with rfl | rfl
      · exact line_crlf hx
      · exact line_lf hx
    rw [e2, List.append_nil]
    dsimp only
    have e3 : n + (x.length + fin.length) = n + x.length + fin.length := by omega
    rw [e3]
    refine .done fun y hy => hrest y ?_
    have e4 : d.drop (n + x.length + fin.length) = rest := by
      have := drop_app (drop_app (l := x) (r := fin ++ rest) (by simpa using e))
      exact this
    rw [← drop_getElem e4]; exact hy
  | @ch c r h1 h2 _ ih =>
    intro x n hx e
    have := ih (x ++ [c]) n (hx.app (Plain.cons h1 h2 fun _ h => by cases h)) (by rw [e]; simp)
    have e2 : (x ++ c :: r) = (x ++ [c] ++ r) := by simp
    rw [e2]; exact this
  | @lf w r hw _ ih =>
    intro x n hx e
    have e2 : lineLen (d.drop n) = (x.length, x.length + 1) := by
      rw [e]; exact line_lf hx
    rw [e2]
    dsimp only
    have e3 : d.drop (n + (x.length + 1)) = [w] ++ (r ++ (fin ++ rest)) := by
      have := drop_app (l := x ++ [10]) (r := w :: (r ++ (fin ++ rest))) (a := n) (by rw [e]; simp)
      simpa using this
    refine .more (x := w) (by rw [drop_getElem e3]; rfl) hw ?_
    have := ih [w] (n + (x.length + 1)) (Plain.cons (isW_plain hw).1 (isW_plain hw).2 fun _ h => by cases h) e3
    have e4 : n + (x.length + 1) + ([w] ++ r).length = n + (x ++ 10 :: w :: r).length := by simp; omega
    rw [e4] at this; exact this
  | @crlf w r hw _ ih =>
    intro x n hx e
    have e2 : lineLen (d.drop n) = (x.length, x.length + 2) := by
      rw [e]; exact line_crlf hx
    rw [e2]
    dsimp only
    have e3 : d.drop (n + (x.length + 2)) = [w] ++ (r ++ (fin ++ rest)) := by
      have := drop_app (l := x ++ [13, 10]) (r := w :: (r ++ (fin ++ rest))) (a := n) (by rw [e]; simp)
      simpa using this
    refine .more (x := w) (by rw [drop_getElem e3]; rfl) hw ?_
    have := ih [w] (n + (x.length + 2)) (Plain.cons (isW_plain hw).1 (isW_plain hw).2 fun _ h => by cases h) e3
    have e4 : n + (x.length + 2) + ([w] ++ r).length = n + (x ++ 13 :: 10 :: w :: r).length := by simp; omega
    rw [e4] at this; exact this
/-- a field: name, raw, end -/
structure Fl3 where
  nm : List UInt8
  raw : List UInt8
  fin : List UInt8
def f3Oct (f : Fl3) : List UInt8 := f.nm ++ 58 :: (f.raw ++ f.fin)
structure F3Ok (f : Fl3) : Prop where
  nm : f.nm ∈ nameL
  raw : Raw f.raw
  fin : f.fin ∈ endL
theorem nameL_ok : ∀ x ∈ nameL, isName x = true ∧ (∀ c ∈ x, c ≠ 10 ∧ c ≠ 13 ∧ c ≠ 58) ∧ 0 < x.length ∧ (∀ y, x.head? = some y → isW y = false) := by decide +kernel
/-- what may stand behind the fields -/
def BodyOk (bd : List UInt8) : Prop := bd = [] ∨ (0 < bd.length ∧ (lineLen bd).1 = 0 ∧ ∀ y, bd.head? = some y → isW y = false)
theorem rest_head {fs : List Fl3} {bd : List UInt8} (hf : ∀ f ∈ fs, F3Ok f) (hb : BodyOk bd) : ∀ x, (fs.flatMap f3Oct ++ bd).head? = some x → isW x = false := fun x hx => by
  cases fs with
  | nil =>
    rcases hb with rfl | ⟨_, _, h⟩
    · cases hx
    · exact h x hx
  | cons f fs =>
    obtain ⟨h1, h2, h3, h4⟩ := nameL_ok _ (hf f (.head _)).nm
    refine h4 x ?_
    obtain ⟨c, nm, e⟩ := List.exists_cons_of_ne_nil (List.ne_nil_of_length_pos h3)
    rw [List.flatMap_cons, f3Oct, e] at hx
    rw [e]; simpa using hx
theorem spans_of {bd : List UInt8} (hb : BodyOk bd) (d : List UInt8) : ∀ (fs : List Fl3) (n : Nat), n ≤ d.length → (∀ f ∈ fs, F3Ok f) → d.drop n = fs.flatMap f3Oct ++ bd → Spans d n (fs.map fun f => (f.nm, f.raw))
  | [], n, hn, _, e => by
    rw [List.flatMap_nil, List.nil_append] at e
    have hl := congrArg List.length e
    rw [List.length_drop] at hl
    rcases hb with rfl | ⟨h0, h1, _⟩
    · have : n = d.length := by simp at hl; omega
      rw [this]; exact .stop
    · exact .blank (by omega) (by rw [e]; exact h1)
  | f :: fs, n, hn, hf, e => by
    obtain ⟨hnm, hraw, hfin⟩ := hf f (.head _)
    obtain ⟨h1, h2, h3, h4⟩ := nameL_ok _ hnm
    have hrest := rest_head (fs := fs) (bd := bd) (fun g hg => hf g (.tail _ hg)) hb
    have e1 : d.drop n = (f.nm ++ [58]) ++ (f.raw ++ (f.fin ++ (fs.flatMap f3Oct ++ bd))) := by rw [e, List.flatMap_cons, f3Oct]; simp
    have hx : Plain (f.nm ++ [58]) := fun c hc => by
      rcases List.mem_append.mp hc with hc | hc
      · exact ⟨(h2 c hc).1, (h2 c hc).2.1⟩
      · rw [List.mem_singleton] at hc; subst hc; decide
    have hge : (f.nm ++ [58]).length ≤ (lineLen (d.drop n)).1 := by rw [e1]; exact line_ge hx
    have hlen := congrArg List.length e1
    simp only [List.length_drop, List.length_append, List.length_cons, List.length_nil] at hlen hge
    have fold := fold_raw hfin hrest hraw (f.nm ++ [58]) n hx e1
    have e2 : d.drop (n + ((f.nm ++ [58]) ++ f.raw).length + f.fin.length) = fs.flatMap f3Oct ++ bd := by
      refine drop_app (drop_app ?_)
      rw [e1]; simp
    have ih := spans_of hb d fs (n + ((f.nm ++ [58]) ++ f.raw).length + f.fin.length) (by simp only [List.length_append, List.length_cons, List.length_nil]; omega) (fun g hg => hf g (.tail _ hg)) e2
    have sp := Spans.field (a := n) (i := f.nm.length) (by omega) (by omega) (by
      rw [List.drop_take, show n + (lineLen (d.drop n)).1 - n = (lineLen (d.drop n)).1 by omega]
      obtain ⟨k, hk⟩ : ∃ k, (lineLen (d.drop n)).1 = f.nm.length + (k + 1) := ⟨(lineLen (d.drop n)).1 - f.nm.length - 1, by omega⟩
      rw [hk]
      have : (d.drop n).take (f.nm.length + (k + 1)) = f.nm ++ 58 :: ((f.raw ++ (f.fin ++ (fs.flatMap f3Oct ++ bd))).take k) := by
        rw [e1, List.append_assoc, List.take_length_add_append]; rfl
      rw [this, List.findIdx?_append]
      have hn : f.nm.findIdx? (· == 58) = none := by
        rw [List.findIdx?_eq_none_iff]
        intro c hc
        simpa using (h2 c hc).2.2
      rw [hn]
      simp [List.findIdx?_cons]) (by
      have : (d.drop n).take f.nm.length = f.nm := by rw [e1, List.append_assoc, List.take_left]
      rw [this]; exact h1) fold ih
    have e3 : (d.drop n).take f.nm.length = f.nm := by rw [e1, List.append_assoc, List.take_left]
    have e4 : (d.drop (n + f.nm.length + 1)).take (n + ((f.nm ++ [58]) ++ f.raw).length - (n + f.nm.length + 1)) = f.raw := by
      have q1 : d.drop (n + (f.nm ++ [58]).length) = f.raw ++ (f.fin ++ (fs.flatMap f3Oct ++ bd)) := drop_app e1
      have q2 : n + f.nm.length + 1 = n + (f.nm ++ [58]).length := by simp; omega
      rw [q2, q1]
      have q3 : n + ((f.nm ++ [58]) ++ f.raw).length - (n + (f.nm ++ [58]).length) = f.raw.length := by simp only [List.length_append]; omega
      rw [q3, List.take_left]
    rw [e3, e4] at sp
    exact sp
end
-- P2
section
/-- the white of a part, without its line's end -/
def wOf (ws : List UInt8) : UInt8 := ws.getLast?.getD 32
theorem ws_cases {ws : List UInt8} (h : ws ∈ wsL) : (ws = [wOf ws] ∨ ws = [10, wOf ws] ∨ ws = [13, 10, wOf ws]) ∧ isW (wOf ws) = true := by
  simp only [wsL, List.mem_cons, List.not_mem_nil, or_false] at h
  rcases h with rfl | rfl | rfl | rfl <;> decide
theorem piece_plain : ∀ p ∈ idL, Plain p.2 := by
  have : ∀ p ∈ idL, ∀ c ∈ p.2, c ≠ 10 ∧ c ≠ 13 := by decide +kernel
  exact this
theorem piece_head : ∀ p ∈ idL, (∀ y, p.2.head? = some y → isW y = false) ∧ p.2 ≠ [] ∧ (∀ y, p.2.getLast? = some y → isW y = false) := by decide +kernel
abbrev Parts := List ((List UInt8 × List UInt8) × List UInt8)
def PartsOk (ps : Parts) : Prop := ∀ p ∈ ps, p.1 ∈ idL ∧ p.2 ∈ wsL
theorem raw_parts : ∀ (ps : Parts), PartsOk ps → Raw (partsOct ps)
  | [], _ => .nil
  | (p, ws) :: ps, h => by
    obtain ⟨h1, h2⟩ : p ∈ idL ∧ ws ∈ wsL := h _ (.head _)
    have ih := raw_parts ps fun q hq => h q (.tail _ hq)
    have ihp : Raw (p.2 ++ partsOct ps) := ih.plain (piece_plain p h1)
    obtain ⟨hc, hw⟩ := ws_cases h2
    obtain ⟨n1, n2⟩ := isW_plain hw
    have e : partsOct ((p, ws) :: ps) = ws ++ (p.2 ++ partsOct ps) := by simp [partsOct, partOct]
    rw [e]
    rcases hc with hc | hc | hc
    · rw [hc]; exact .ch n1 n2 ihp
    · rw [hc]; exact .lf hw ihp
    · rw [hc]; exact .crlf hw ihp
/-- the parts on one line -/
def lineOf (ps : Parts) : List UInt8 := ps.flatMap fun p => wOf p.2 :: p.1.2
theorem unl_plain {x r : List UInt8} (hx : Plain x) : unl (x ++ r) = x ++ unl r := by
  induction x with
  | nil => rfl
  | cons c x ih =>
    obtain ⟨h1, h2⟩ := hx c (.head _)
    rw [List.cons_append, unl, if_neg h1, if_neg (fun z => h2 z.1), ih fun d hd => hx d (.tail _ hd)]; rfl
theorem unl_parts : ∀ (ps : Parts), PartsOk ps → unl (partsOct ps) = lineOf ps
  | [], _ => rfl
  | (p, ws) :: ps, h => by
    obtain ⟨h1, h2⟩ : p ∈ idL ∧ ws ∈ wsL := h _ (.head _)
    have ih := unl_parts ps fun q hq => h q (.tail _ hq)
    obtain ⟨hc, hw⟩ := ws_cases h2
    obtain ⟨n1, n2⟩ := isW_plain hw
    have e : partsOct ((p, ws) :: ps) = ws ++ (p.2 ++ partsOct ps) := by simp [partsOct, partOct]
    have e2 : lineOf ((p, ws) :: ps) = wOf ws :: (p.2 ++ lineOf ps) := by simp [lineOf]
    have e3 : unl (wOf ws :: (p.2 ++ partsOct ps)) = wOf ws :: (p.2 ++ lineOf ps) := by
      have := unl_plain (x := wOf ws :: p.2) (r := partsOct ps) (Plain.cons n1 n2 (piece_plain p h1))
      rw [ih] at this; exact this
    rw [e, e2]
    obtain ⟨w, hwe⟩ : ∃ w, w = wOf ws := ⟨_, rfl⟩
    rw [← hwe] at hc e3 ⊢
    rcases hc with hc | hc | hc
    · rw [hc]; exact e3
    · rw [hc]
      show unl (10 :: (w :: (p.2 ++ partsOct ps))) = _
      rw [unl, if_pos rfl]; exact e3
    · rw [hc]
      show unl (13 :: 10 :: (w :: (p.2 ++ partsOct ps))) = _
      rw [unl, if_neg (by decide), if_pos ⟨rfl, rfl⟩, unl, if_pos rfl]; exact e3
theorem contains_W (x : UInt8) : ([32, 9] : List UInt8).contains x = isW x := by
  unfold isW
  rw [List.contains_cons, List.contains_cons, List.contains_nil, Bool.or_false]
theorem strip_id {d : List UInt8} (h1 : ∀ y, d.head? = some y → isW y = false) (h2 : ∀ y, d.getLast? = some y → isW y = false) : strip [32, 9] d = d := by
  unfold strip
  have e1 : d.dropWhile ([32, 9] : List UInt8).contains = d := by
    cases d with
    | nil => rfl
    | cons c d => rw [List.dropWhile_cons, contains_W, h1 c rfl]; rfl
  rw [e1]
  have e2 : d.reverse.dropWhile ([32, 9] : List UInt8).contains = d.reverse := by
    cases hr : d.reverse with
    | nil => rfl
    | cons c r =>
      have : d.getLast? = some c := by rw [List.getLast?_eq_head?_reverse, hr]; rfl
      rw [List.dropWhile_cons, contains_W, h2 c this]; rfl
  rw [e2, List.reverse_reverse]
theorem strip_white {w : UInt8} {d : List UInt8} (hw : isW w = true) : strip [32, 9] (w :: d) = strip [32, 9] d := by
  unfold strip
  rw [List.dropWhile_cons, contains_W, hw]; rfl
theorem line_last : ∀ (ps : Parts), PartsOk ps → ∀ (x : List UInt8), x ≠ [] → (∀ y, x.getLast? = some y → isW y = false) → ∀ y, (x ++ lineOf ps).getLast? = some y → isW y = false
  | [], _, x, hx, hl => by rw [show lineOf [] = [] from rfl, List.append_nil]; exact hl
  | (p, ws) :: ps, h, x, hx, hl => by
    obtain ⟨h1, h2⟩ : p ∈ idL ∧ ws ∈ wsL := h _ (.head _)
    obtain ⟨p1, p2, p3⟩ := piece_head p h1
    have e2 : x ++ lineOf ((p, ws) :: ps) = (x ++ wOf ws :: p.2) ++ lineOf ps := by simp [lineOf]
    rw [e2]
    refine line_last ps (fun q hq => h q (.tail _ hq)) _ (by simp) fun y hy => p3 y ?_
    rw [List.getLast?_append, List.getLast?_cons] at hy
    cases hp : p.2.getLast? with
    | none => rw [List.getLast?_eq_none_iff] at hp; exact absurd hp p2
    | some z => rw [hp] at hy; simpa using hy
/-- what a field of parts reads as -/
def readOf : Parts → List UInt8
  | [] => []
  | (p, _) :: ps => p.2 ++ lineOf ps
theorem body_parts (ps : Parts) (h : PartsOk ps) : bodyOfRaw (partsOct ps) = readOf ps := by
  unfold bodyOfRaw
  rw [unl_parts ps h]
  cases ps with
  | nil => rfl
  | cons q ps =>
    obtain ⟨p, ws⟩ := q
    obtain ⟨h1, h2⟩ : p ∈ idL ∧ ws ∈ wsL := h _ (.head _)
    obtain ⟨p1, p2, p3⟩ := piece_head p h1
    have e2 : lineOf ((p, ws) :: ps) = wOf ws :: (p.2 ++ lineOf ps) := by simp [lineOf]
    rw [e2, strip_white (ws_cases h2).2]
    refine strip_id (fun y hy => p1 y ?_) (line_last ps (fun q hq => h q (.tail _ hq)) _ p2 p3)
    obtain ⟨c, r, e⟩ := List.exists_cons_of_ne_nil p2
    rw [e] at hy ⊢
    simpa using hy
/-- the ids of one piece -/
def pieceIds (p : List UInt8 × List UInt8) : List (List UInt8) := if p.1 = [] then [] else [p.1]
theorem leftRun {v : List UInt8} (h1 : 0 < v.length) (h2 : (v.all runCode) = true) : LeftOk v v := .inl ⟨rfl, h1, fun x hx => List.all_eq_true.mp h2 x hx⟩
theorem rightRun {v : List UInt8} (h1 : 0 < v.length) (h2 : (v.all runCode) = true) : RightOk v v := .inl ⟨rfl, h1, fun x hx => List.all_eq_true.mp h2 x hx⟩
theorem quiet_dec {v : List UInt8} (h : ∀ x ∈ v, x ≠ 0 ∧ x ≠ 10 ∧ x ≠ 13 ∧ x ≠ 92) : ∀ x ∈ v, quiet x := h
theorem toks_piece : ∀ p ∈ idL, ∀ (r : List UInt8) (ids : List (List UInt8)), Toks r ids → Toks (p.2 ++ r) (pieceIds p ++ ids) := by
  intro p hp r ids h
  simp only [idL, List.mem_cons, List.not_mem_nil, or_false] at hp
  rcases hp with rfl | rfl | rfl | rfl | rfl | rfl | rfl
  · exact Toks.id (lo := [97]) (lv := [97]) (ro := [98]) (rv := [98]) (leftRun (by decide) (by decide +kernel)) (rightRun (by decide) (by decide +kernel)) (by decide +kernel) h
  · exact Toks.id (lo := [99, 46, 100]) (lv := [99, 46, 100]) (ro := [101]) (rv := [101]) (leftRun (by decide) (by decide +kernel)) (rightRun (by decide) (by decide +kernel)) (by decide +kernel) h
  · exact Toks.id (lo := [34, 120, 32, 121, 34]) (lv := [120, 32, 121]) (ro := [122]) (rv := [122]) (.inr ⟨rfl, by unfold quiet; decide⟩) (rightRun (by decide) (by decide +kernel)) (by decide +kernel) h
  · exact Toks.id (lo := [102]) (lv := [102]) (ro := [91, 49, 93]) (rv := [91, 49, 93]) (leftRun (by decide) (by decide +kernel)) (.inr ⟨[49], rfl, rfl, by unfold quiet; decide⟩) (by decide +kernel) h
  · exact .skip (by decide) (by decide) (by decide) (.skip (by decide) (by decide) (by decide) (.skip (by decide) (by decide) (by decide) (.skip (by decide) (by decide) (by decide) h)))
  · have t : Toks ([97] ++ 32 :: ([98, 64, 99, 62] ++ r)) ids := .skip (by decide) (by decide) (by decide) (.skip (by decide) (by decide) (by decide) (.skip (by decide) (by decide) (by decide) (.skip (by decide) (by decide) (by decide) (.skip (by decide) (by decide) (by decide) (.skip (by decide) (by decide) (by decide) h)))))
    exact Toks.bad2 (run := [97]) (y := 32) (by decide +kernel) (by decide) (by decide +kernel) (by decide) t
  · exact Toks.bad1 (y := 64) (by decide +kernel) (by decide) (.skip (by decide) (by decide) (by decide) (.skip (by decide) (by decide) (by decide) h))
theorem partIds_cons (p : (List UInt8 × List UInt8) × List UInt8) (ps : Parts) : partIds (p :: ps) = pieceIds p.1 ++ partIds ps := by
  unfold partIds pieceIds
  rw [List.map_cons, List.filter_cons]
  by_cases h : p.1.1 = [] <;> simp [h]
theorem isW_skip {w : UInt8} (h : isW w = true) : w ≠ 60 ∧ w ≠ 34 ∧ w ≠ 40 := ⟨fun e => by subst e; exact absurd h (by decide), fun e => by subst e; exact absurd h (by decide), fun e => by subst e; exact absurd h (by decide)⟩
theorem toks_line : ∀ (ps : Parts), PartsOk ps → Toks (lineOf ps) (partIds ps)
  | [], _ => .nil
  | (p, ws) :: ps, h => by
    obtain ⟨h1, h2⟩ : p ∈ idL ∧ ws ∈ wsL := h _ (.head _)
    have ih := toks_line ps fun q hq => h q (.tail _ hq)
    have e2 : lineOf ((p, ws) :: ps) = wOf ws :: (p.2 ++ lineOf ps) := by simp [lineOf]
    obtain ⟨n1, n2, n3⟩ := isW_skip (ws_cases h2).2
    rw [e2, partIds_cons]
    exact .skip n1 n2 n3 (toks_piece p h1 _ _ ih)
theorem toks_read (ps : Parts) (h : PartsOk ps) : Toks (bodyOfRaw (partsOct ps)) (partIds ps) := by
  rw [body_parts ps h]
  cases ps with
  | nil => exact .nil
  | cons q ps =>
    obtain ⟨p, ws⟩ := q
    rw [partIds_cons]
    exact toks_piece p (h _ (.head _)).1 _ _ (toks_line ps fun q hq => h q (.tail _ hq))
end
-- P3
section
open PySem
theorem words_low : ∀ w ∈ [wMsg, wRef, wRep, wSub], w.map low = w := by decide
theorem idsOf_told (fs : List Fd) (hf : ∀ f ∈ fs, FdOk f) (w : List Nat) (hw : w.map low = w) : IdsOf (fs.map fun f => (f.nm, partsOct f.parts)) w (firstTold (fs.map fdTold) w) := by
  unfold IdsOf firstBody firstTold
  rw [List.find?_map, List.find?_map]
  have e : (isWord w ∘ fun f : Fd => (f.nm, partsOct f.parts)) = ((fun t : List Nat × List (List UInt8) => t.1 == w) ∘ fdTold) := by
    funext f
    show ((codes f.nm).map low == w.map low) = ((codes f.nm).map low == w)
    rw [hw]
  rw [e]
  cases hq : fs.find? ((fun t : List Nat × List (List UInt8) => t.1 == w) ∘ fdTold) with
  | none => rfl
  | some f =>
    have hm := List.mem_of_find?_eq_some hq
    exact toks_read f.parts (hf f hm).parts
theorem body_ok : ∀ b ∈ bodyL, BodyOk b := by
  intro b hb
  simp only [bodyL, List.mem_cons, List.not_mem_nil, or_false] at hb
  rcases hb with rfl | rfl | rfl
  · exact .inr (by decide +kernel)
  · exact .inl rfl
  · exact .inr (by decide +kernel)
def f3 (f : Fd) : Fl3 := ⟨f.nm, partsOct f.parts, f.fin⟩
theorem f3_oct (fs : List Fd) : (fs.map f3).flatMap f3Oct = fs.flatMap fdOct := by
  rw [List.flatMap_map]
  congr 1
  funext f
  simp [f3Oct, f3, fdOct]
/-- an id that the law may tell -/
def GoodId (v : List UInt8) : Prop := v ≠ [] ∧ (v, wr v) ∈ idL ∧ Wrt v (wr v)
theorem good_menu : ∀ p ∈ idL, p.1 ≠ [] → GoodId p.1 := by
  intro p hp hne
  simp only [idL, List.mem_cons, List.not_mem_nil, or_false] at hp
  rcases hp with rfl | rfl | rfl | rfl | rfl | rfl | rfl
  · refine ⟨by decide, by decide +kernel, [97], [98], [97], [98], ⟨by decide +kernel, by decide +kernel, .inl (by decide +kernel), .inl (by decide +kernel), by decide⟩, by decide, by decide +kernel⟩
  · refine ⟨by decide, by decide +kernel, [99, 46, 100], [101], [99, 46, 100], [101], ⟨by decide +kernel, by decide +kernel, .inl (by decide +kernel), .inl (by decide +kernel), by decide⟩, by decide, by decide +kernel⟩
  · refine ⟨by decide, by decide +kernel, [120, 32, 121], [122], [34, 120, 32, 121, 34], [122], ⟨by decide +kernel, by decide +kernel, .inr (by decide +kernel), .inl (by decide +kernel), by decide⟩, by decide, by decide +kernel⟩
  · refine ⟨by decide, by decide +kernel, [102], [91, 49, 93], [102], [91, 49, 93], ⟨by decide +kernel, by decide +kernel, .inl (by decide +kernel), .inr (by decide +kernel), by decide⟩, by decide, by decide +kernel⟩
  · exact absurd rfl hne
  · exact absurd rfl hne
  · exact absurd rfl hne
theorem good_parts {ps : Parts} (h : PartsOk ps) : ∀ v ∈ partIds ps, GoodId v := fun v hv => by
  unfold partIds at hv
  rw [List.mem_filter, List.mem_map] at hv
  obtain ⟨⟨p, hp, rfl⟩, hne⟩ := hv
  exact good_menu _ (h p hp).1 (by simpa using hne)
theorem told_of (fs : List Fd) (w : List Nat) : firstTold (fs.map fdTold) w = [] ∨ ∃ f ∈ fs, firstTold (fs.map fdTold) w = partIds f.parts := by
  unfold firstTold
  rw [List.find?_map]
  cases hq : fs.find? ((fun t : List Nat × List (List UInt8) => t.1 == w) ∘ fdTold) with
  | none => exact .inl rfl
  | some f => exact .inr ⟨f, List.mem_of_find?_eq_some hq, rfl⟩
theorem good_told {fs : List Fd} (hf : ∀ f ∈ fs, FdOk f) (w : List Nat) : ∀ v ∈ firstTold (fs.map fdTold) w, GoodId v := fun v hv => by
  rcases told_of fs w with e | ⟨f, hm, e⟩
  · rw [e] at hv; cases hv
  · rw [e] at hv; exact good_parts (hf f hm).parts v hv
theorem few_told {fs : List Fd} (hf : ∀ f ∈ fs, FdOk f) (w : List Nat) : (firstTold (fs.map fdTold) w).length ≤ 3 := by
  rcases told_of fs w with e | ⟨f, hm, e⟩
  · rw [e]; exact Nat.zero_le _
  · rw [e]; exact Nat.le_trans (partIds_len _) (hf f hm).len
theorem wr_len (v : List UInt8) : (wr v).length ≤ 9 := by
  unfold wr
  cases hq : idL.find? (fun p => p.1 == v) with
  | none => exact Nat.zero_le _
  | some p => exact (idL_len _ (List.mem_of_find?_eq_some hq)).1
/-- ids as they are written again -/
def backRaw (ids : List (List UInt8)) : List UInt8 := 32 :: joinB [32] (ids.map wr)
def backParts (ids : List (List UInt8)) : Parts := ids.map fun v => ((v, wr v), [32])
theorem back_eq (v : List UInt8) (ids : List (List UInt8)) : backRaw (v :: ids) = partsOct (backParts (v :: ids)) := by
  simp [backRaw, backParts, partsOct, partOct, joinB, List.flatMap_map]
theorem back_ok {ids : List (List UInt8)} (h : ∀ v ∈ ids, GoodId v) : PartsOk (backParts ids) := fun p hp => by
  obtain ⟨v, hv, rfl⟩ := List.mem_map.mp hp
  exact ⟨(h v hv).2.1, show [32] ∈ wsL by decide⟩
theorem back_ids {ids : List (List UInt8)} (h : ∀ v ∈ ids, GoodId v) : partIds (backParts ids) = ids := by
  unfold partIds backParts
  rw [List.map_map]
  have : ids.map ((fun p : (List UInt8 × List UInt8) × List UInt8 => p.1.1) ∘ fun v => ((v, wr v), [32])) = ids := List.map_id' ids
  rw [this, List.filter_eq_self]
  intro v hv
  simpa using (h v hv).1
theorem back_raw {ids : List (List UInt8)} (h : ∀ v ∈ ids, GoodId v) : Raw (backRaw ids) := by
  cases ids with
  | nil => exact .ch (by decide) (by decide) .nil
  | cons v ids => rw [back_eq]; exact raw_parts _ (back_ok h)
theorem back_toks {ids : List (List UInt8)} (h : ∀ v ∈ ids, GoodId v) : Toks (bodyOfRaw (backRaw ids)) ids := by
  cases ids with
  | nil =>
    rw [show bodyOfRaw (backRaw []) = [] from by decide +kernel]
    exact .nil
  | cons v ids =>
    rw [back_eq]
    have := toks_read _ (back_ok h)
    rw [back_ids h] at this
    exact this
abbrev nMsg : List UInt8 := [77, 101, 115, 115, 97, 103, 101, 45, 73, 68]
abbrev nRef : List UInt8 := [82, 101, 102, 101, 114, 101, 110, 99, 101, 115]
theorem again_spans {own refs : List (List UInt8)} (ho : ∀ v ∈ own, GoodId v) (hr : ∀ v ∈ refs, GoodId v) : Spans (againOct own refs) 0 [(nMsg, backRaw (own.take 1)), (nRef, backRaw refs)] := by
  have e : (againOct own refs).drop 0 = ([⟨nMsg, backRaw (own.take 1), [13, 10]⟩, ⟨nRef, backRaw refs, [13, 10]⟩] : List Fl3).flatMap f3Oct ++ [13, 10] := by
    simp [againOct, f3Oct, backRaw]
  have hb : BodyOk [13, 10] := .inr (by decide +kernel)
  refine spans_of hb _ _ 0 (Nat.zero_le _) (fun f hf => ?_) e
  simp only [List.mem_cons, List.not_mem_nil, or_false] at hf
  rcases hf with rfl | rfl
  · exact ⟨show nMsg ∈ nameL by decide, back_raw fun v hv => ho v (List.mem_of_mem_take hv), show [13, 10] ∈ endL by decide⟩
  · exact ⟨show nRef ∈ nameL by decide, back_raw hr, show [13, 10] ∈ endL by decide⟩
theorem law_facts (fs : List Fd) (bd : List UInt8) (hf : ∀ f ∈ fs, FdOk f) (hb : bd ∈ bodyL) : LawFacts fs bd := by
  have hrefs : ∀ v ∈ refsOf (firstTold (fs.map fdTold) wRef) (firstTold (fs.map fdTold) wRep), GoodId v := fun v hv => (refsOf_mem hv).elim (good_told hf _ v) (good_told hf _ v)
  refine ⟨⟨_, ?_, fun w hw => idsOf_told fs hf w (words_low w hw)⟩, ⟨_, again_spans (good_told hf _) hrefs, ?_, ?_, ?_⟩, fun w v hv => (good_told hf w v hv).2.2, few_told hf, wr_len⟩
  · have := spans_of (body_ok bd hb) (fs.flatMap fdOct ++ bd) (fs.map f3) 0 (Nat.zero_le _) (fun g hg => ?_) (by rw [f3_oct]; rfl)
    · rw [List.map_map] at this
      exact this
    · obtain ⟨f, hm, rfl⟩ := List.mem_map.mp hg
      exact ⟨(hf f hm).nm, raw_parts _ (hf f hm).parts, (hf f hm).fin⟩
  · have e : ∀ a b, firstBody [(nMsg, a), (nRef, b)] wMsg = some (bodyOfRaw a) := fun a b => by
      unfold firstBody
      rw [List.find?_cons, show isWord wMsg (nMsg, a) = true from (show ((codes nMsg).map low == wMsg.map low) = true by decide +kernel)]; rfl
    unfold IdsOf
    rw [e]
    exact back_toks fun v hv => good_told hf _ v (List.mem_of_mem_take hv)
  · have e : ∀ a b, firstBody [(nMsg, a), (nRef, b)] wRef = some (bodyOfRaw b) := fun a b => by
      unfold firstBody
      rw [List.find?_cons, show isWord wRef (nMsg, a) = false from (show ((codes nMsg).map low == wRef.map low) = false by decide +kernel), List.find?_cons, show isWord wRef (nRef, b) = true from (show ((codes nRef).map low == wRef.map low) = true by decide +kernel)]; rfl
    unfold IdsOf
    rw [e]
    exact back_toks hrefs
  · have e : ∀ a b, firstBody [(nMsg, a), (nRef, b)] wRep = none := fun a b => by
      unfold firstBody
      rw [List.find?_cons, show isWord wRep (nMsg, a) = false from (show ((codes nMsg).map low == wRep.map low) = false by decide +kernel), List.find?_cons, show isWord wRep (nRef, b) = false from (show ((codes nRef).map low == wRep.map low) = false by decide +kernel)]; rfl
    unfold IdsOf
    rw [e]
end
-- Z2
section
theorem ints_of {vs : List Value} {ns : List Int} (h : IntsAre vs ns) : Ints vs := by
  induction h with
  | nil => intro v hv; cases hv
  | cons n t _ ih =>
    intro v hv
    rcases List.mem_cons.mp hv with rfl | hv
    · exact ⟨n, t, rfl⟩
    · exact ih v hv
abbrev topEnv : Env := { scope := default, locals := mainGlobals, globals := mainGlobals, cells := [], qual := "", func := none, code := .none, frame := none, builtins := builtinsNs }
abbrev topFc : Fc := ⟨topEnv, [], "dict", rfl, rfl⟩
def clsAt (K : Frag) (a : Addr) : Option Value := (K.lookup a).map (·.cls)
theorem law_runs {prog : Program} {w : World} {s₁ : Shared} {mg mb : Str → Option Value} (T₀ : TopOk ⟨prog, w, KX w.params, s₁.heap, s₁.os, mg, mb⟩) (hgens : s₁.gens = #[]) {sc : Addr} {vs : List Value} {ns : List Int} (hl : s₁.heap.IsList sc vs.toArray) (hi : IntsAre vs ns) (hn : ¬ (63 : Int) < ns.length) :
    wpAny (model prog w) callerA (PySem.call (.ref 327) [.ref sc]) (fun v s' => v = .bool true ∧ (∀ b o, s₁.heap.get? b = some o → s'.heap.get? b = some o) ∧ s'.os = s₁.os ∧ s'.gens = #[]) (fun _ _ => False) s₁ := by
  have T : Tops ⟨prog, w, KX w.params, s₁.heap, s₁.os, mg, mb⟩ := tops_of rfl T₀
  have hf : FnAt ⟨prog, w, KX w.params, s₁.heap, s₁.os, mg, mb⟩ 327 "law" (PA 51) (B 51) (SC 51) .none .none := FnAt.of (by kernel_rfl) (by kernel_rfl)
  have hc : clsAt (KX w.params) mainGlobals = some (.type "dict") := by kernel_rfl
  have hlen := hi.length
  have run := law_spec (c := topFc) (k := 0) (m := []) (X := fun _ _ => False) (Q := fun v _ => v = .bool true) T hf hl (ints_of hi) (by omega) (fun fs bd h1 _ h3 => law_facts fs bd h1 h3) (fun _ => rfl)
  refine wpAny_mono (run callerA s₁ ⟨rfl, by decide, by decide, rfl⟩ ⟨hgens, rfl, fun _ _ e => e, trivial⟩ rfl ⟨⟨mg, T₀.g, fun _ _ e => by cases e⟩, ?_⟩) (fun v s' q => ?_) (fun e s' q => ?_)
  · unfold clsAt at hc
    obtain ⟨o, ho, e⟩ := Option.map_eq_some_iff.mp hc
    exact ⟨o, T₀.k _ _ ho, e⟩
  · exact ⟨q.2.2.2, q.1.stays, q.1.os, q.1.gens⟩
  · obtain ⟨_, _, _, _, _, q⟩ := q
    exact q.elim
theorem zz : PySem.Challenge.rw_no0374_01.Holds := by
  refine hd ?_
  intro w s₀ s₁ mg mb G Y a o pm cd doc dV kV h1 h2 h3 h4 h5 h6 args vals as hpre hlay hrd hwell hsys
  have hlaw : nsIn (KX w.params) mainGlobals "law" = some (some (.ref 327)) := by kernel_rfl
  have K : (KX w.params).In s₁.heap := kIn_of Y
  have ha : a = 327 := by
    have e1 := mg_of K G.T.g hlaw
    have e2 := h5.symm.trans e1
    cases e2; rfl
  subst ha
  clear h1 h2 h3 h4 h5 hlaw
  have T₀ : TopOk ⟨PySem.Challenge.rw_no0374_01.row.prog, w, KX w.params, s₁.heap, s₁.os, mg, mb⟩ := ⟨G.T.g, G.T.b, G.T.nolimit, K, G.T.builtins⟩
  wrow_args hpre hlay hrd hwell hsys
  rename_i xs _ _ _ _ _ _ _ sc vs _ hl _ _ _ hi _ hn _
  refine wpAny_mono (law_runs T₀ h6 hl hi hn) (fun v s' q => ?_) (fun _ _ q => q.elim)
  obtain ⟨rfl, k1, k2, k3⟩ := q
  refine GoodW.toG ⟨.inl ⟨_, .bool true, [], rfl, fun cls => rfl, .bool true, ?_, fun _ => ⟨.nil, fun _ ha => nomatch ha⟩⟩, k1, k2, k3⟩
  wrow_post
end
end Mine
theorem PySem.Challenge.cw_no0374_01_holds : PySem.Challenge.rw_no0374_01.Holds :=
  Mine.zz
