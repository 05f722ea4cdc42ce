import PyProof.Rows.All
import Wide.All
import OpenK.AllK
import Wide.FinOn
import HandS.ForMost
import HandS.Exc
import HandS.ExcOwn
import HandS.WordsExc
import HandS.CallSlots
import HandS.IsInst
import HandS.Wide
import HandS.Deep
import HandS.ExcCtx
import HandS.Hot
import HandS.HotCalls
import HandS.ExcInit
import HandS.ExcInitHot
import HandS.ExcField
import HandS.ExcIs
import HandS.Defaults
import HandS.DictComp
import HandS.Nested
import HandS.Flow
import KE.KExcIs
import HandS.TupAny
import HandS.Style
import KE.GoesEnum
import HandS.Ends
import HandS.Conv
import PyProof.Rows.StrCountLaw
import PySem.Challenge.RW_ownleft_k02_places_and_signs
set_option Elab.async false
set_option linter.all false
set_option autoImplicit false
set_option maxRecDepth 100000
set_option maxHeartbeats 1000000
namespace VM
open PySem PySem.Spec PyProof.Rows L2

/-! ### data -/
inductive D where
  | non | bl (b : Bool) | int (i : Int) | str (x : Str)
  | tup (xs : List D) | lst (xs : List D) | fl (xs : List D)
  | dct (kvs : List (D × D))
  | obj (c : Str) (fs : List (Str × D))
  deriving Inhabited

mutual
def Rp (K : PySem.W.Frag) (F : Hp) : D → V → Prop
  | .non, v => v = .non
  | .bl b, v => v = .bl b
  | .int i, v => v = .int i
  | .str x, v => v = .str x
  | .tup ds, v => ∃ a vs, v = .ref a ∧ SqT K F a vs ∧ RpL K F ds vs
  | .lst ds, v => ∃ a vs, v = .ref a ∧ F a = some (.lst vs) ∧ RpL K F ds vs
  | .fl ds, v => ∃ a vs, v = .ref a ∧ SqL K F a vs ∧ RpL K F ds vs
  | .dct _, _ => False
  | .obj _ _, _ => False
def RpL (K : PySem.W.Frag) (F : Hp) : List D → List V → Prop
  | [], vs => vs = []
  | d :: ds, vs => ∃ v r, vs = v :: r ∧ Rp K F d v ∧ RpL K F ds r
end

section
variable {K : PySem.W.Frag} {F F' H : Hp}
theorem sqT_mono {a : Addr} {xs : List V} (e : Same F F') (h : SqT K F a xs) : SqT K F' a xs := by
  rcases h with (h | ⟨o, h⟩) | h
  · exact .inl (.inl (e _ _ h))
  · exact .inl (.inr ⟨o, e _ _ h⟩)
  · exact .inr h
mutual
theorem Rp.mono (e : Same F F') : ∀ (d : D) (v : V), Rp K F d v → Rp K F' d v
  | .non, _, h => h
  | .bl _, _, h => h
  | .int _, _, h => h
  | .str _, _, h => h
  | .tup ds, v, h => by
    obtain ⟨a, vs, rfl, h1, h2⟩ := h
    exact ⟨a, vs, rfl, sqT_mono e h1, RpL.mono e ds vs h2⟩
  | .lst ds, v, h => by
    obtain ⟨a, vs, rfl, h1, h2⟩ := h
    exact ⟨a, vs, rfl, e _ _ h1, RpL.mono e ds vs h2⟩
  | .fl ds, v, h => by
    obtain ⟨a, vs, rfl, h1, h2⟩ := h
    exact ⟨a, vs, rfl, e.seq h1, RpL.mono e ds vs h2⟩
  | .dct _, _, h => h
  | .obj _ _, _, h => h
theorem RpL.mono (e : Same F F') : ∀ (ds : List D) (vs : List V), RpL K F ds vs → RpL K F' ds vs
  | [], vs, h => h
  | d :: ds, vs, h => by
    obtain ⟨v, r, rfl, h1, h2⟩ := h
    exact ⟨v, r, rfl, Rp.mono e d v h1, RpL.mono e ds r h2⟩
end
theorem RpL.length : ∀ {ds : List D} {vs : List V}, RpL K F ds vs → ds.length = vs.length
  | [], vs, h => by cases h; rfl
  | d :: ds, vs, h => by
    obtain ⟨v, r, rfl, _, h2⟩ := h
    simp [RpL.length h2]
theorem RpL.get : ∀ {ds : List D} {vs : List V} (i : Nat) (d : D), RpL K F ds vs → ds[i]? = some d → ∃ v, vs[i]? = some v ∧ Rp K F d v
  | [], vs, i, d, h, e => by simp at e
  | d0 :: ds, vs, i, d, h, e => by
    obtain ⟨v, r, rfl, h1, h2⟩ := h
    cases i with
    | zero => simp at e; subst e; exact ⟨v, rfl, h1⟩
    | succ i => exact RpL.get (ds := ds) (vs := r) i d h2 (by simpa using e)
theorem RpL.get' : ∀ {ds : List D} {vs : List V} (i : Nat) (v : V), RpL K F ds vs → vs[i]? = some v → ∃ d, ds[i]? = some d ∧ Rp K F d v := fun {ds vs} i v h e => by
  have hl := h.length
  obtain ⟨hi, _⟩ := List.getElem?_eq_some_iff.mp e
  have : ds[i]? = some ds[i] := List.getElem?_eq_getElem (by omega)
  obtain ⟨v', e', h'⟩ := h.get i _ this
  rw [e] at e'; cases e'
  exact ⟨_, this, h'⟩
theorem RpL.append : ∀ {ds es : List D} {vs us : List V}, RpL K F ds vs → RpL K F es us → RpL K F (ds ++ es) (vs ++ us)
  | [], es, vs, us, h, h' => by cases h; exact h'
  | d :: ds, es, vs, us, h, h' => by
    obtain ⟨v, r, rfl, h1, h2⟩ := h
    exact ⟨v, r ++ us, rfl, h1, RpL.append h2 h'⟩
theorem RpL.set : ∀ {ds : List D} {vs : List V} {d : D} {v : V} (i : Nat), RpL K F ds vs → Rp K F d v → RpL K F (ds.set i d) (vs.set i v)
  | [], vs, d, v, i, h, _ => by cases h; exact rfl
  | d0 :: ds, vs, d, v, i, h, hv => by
    obtain ⟨v0, r, rfl, h1, h2⟩ := h
    cases i with
    | zero => exact ⟨v, r, rfl, hv, h2⟩
    | succ i => exact ⟨v0, _, rfl, h1, RpL.set i h2 hv⟩
theorem RpL.take : ∀ {ds : List D} {vs : List V} (n : Nat), RpL K F ds vs → RpL K F (ds.take n) (vs.take n)
  | _, _, 0, _ => rfl
  | [], vs, n + 1, h => by cases h; exact rfl
  | d :: ds, vs, n + 1, h => by
    obtain ⟨v, r, rfl, h1, h2⟩ := h
    exact ⟨v, _, rfl, h1, RpL.take n h2⟩
theorem RpL.drop : ∀ {ds : List D} {vs : List V} (n : Nat), RpL K F ds vs → RpL K F (ds.drop n) (vs.drop n)
  | _, _, 0, h => h
  | [], vs, n + 1, h => by cases h; exact rfl
  | d :: ds, vs, n + 1, h => by
    obtain ⟨v, r, rfl, h1, h2⟩ := h
    exact RpL.drop (ds := ds) n h2
theorem RpL.one {d : D} {v : V} (h : Rp K F d v) : RpL K F [d] [v] := ⟨v, [], rfl, h, rfl⟩
end

/-! ### slots -/
structure Exn where
  c : Str
  fs : List (Str × D)
inductive Sl where
  | un | pl (d : D) | ow (d : D) | io (k : Nat) (d : D) | ex (x : Exn)
  deriving Inhabited
abbrev SV := List Sl

/-- the module's names; the exception that is in hand -/
structure MX where
  mg : Str → Option Value
  hx : Option (Addr × Obj)
def _root_.L2.Cx.mx (X : Cx) : MX := ⟨X.mg, if X.calm = true then none else X.pn.head?⟩

/-- a frame's ghost: what is protected, where the frozen part is fixed, the in-out objects -/
structure G where
  K : PySem.W.Frag
  pH : Hp
  fx : Addr → Prop
  F0 : Hp
  io : Nat → Option Addr
  mx : MX

/-- an owned object at p -/
def OwnP (K : PySem.W.Frag) (F H : Hp) (d : D) (p : Addr) : Prop := F p = none ∧ match d with
  | .lst ds => ∃ vs, H p = some (.lst vs) ∧ RpL K F ds vs
  | _ => False

/-- how an exception is represented: its class, the dict's fields -/
def ErrOk (K : PySem.W.Frag) (mg : Str → Option Value) (F : Hp) (x : Exn) (cls : Value) (dd : Option Addr) : Prop :=
  ∃ C, mg x.c = some (.ref C) ∧ cls = .ref C ∧ ((x.fs = [] ∧ dd = none) ∨ ∃ a vs, dd = some a ∧ F a = some (.xd ((x.fs.map (·.1)).zip vs)) ∧ RpL K F (x.fs.map (·.2)) vs)

theorem ErrOk.mono {K : PySem.W.Frag} {mg : Str → Option Value} {F F' : Hp} {x : Exn} {cls : Value} {dd : Option Addr} (e : Same F F') (h : ErrOk K mg F x cls dd) : ErrOk K mg F' x cls dd := by
  obtain ⟨C, h1, h2, h3⟩ := h
  refine ⟨C, h1, h2, ?_⟩
  rcases h3 with h3 | ⟨a, vs, h4, h5, h6⟩
  · exact .inl h3
  · exact .inr ⟨a, vs, h4, e _ _ h5, RpL.mono e _ _ h6⟩
def SlOk (g : G) (F H : Hp) (ov : Option (Option V)) : Sl → Prop
  | .un => True
  | .pl d => ∃ v, ov = some (some v) ∧ Rp g.K F d v
  | .ow d => ∃ p, ov = some (some (.ref p)) ∧ ¬ g.fx p ∧ OwnP g.K F H d p
  | .io k d => ∃ p, ov = some (some (.ref p)) ∧ g.io k = some p ∧ OwnP g.K F H d p
  | .ex x => ∃ a oe d cls, ov = some (some (.ref a)) ∧ g.mx.hx = some (a, oe) ∧ Zc cls d oe ∧ (∃ vs, oe.data = .fields vs) ∧ ErrOk g.K g.mx.mg F x cls d

theorem SlOk.exm {g : G} {F F' H H' : Hp} {ov : Option (Option V)} {x : Exn} (e : Same F F') (h : SlOk g F H ov (.ex x)) : SlOk g F' H' ov (.ex x) := by
  obtain ⟨a, oe, d, cls, h1, h2, h3, h4, h5⟩ := h
  exact ⟨a, oe, d, cls, h1, h2, h3, h4, h5.mono e⟩
def Ref (σ : L2.St) (sv : SV) (i : Nat) (p : Addr) : Prop := (∃ s, sv[i]? = some s ∧ ((∃ d, s = .ow d) ∨ ∃ k d, s = .io k d)) ∧ σ[i]? = some (some (.ref p))

structure Rl (g : G) (F H : Hp) (σ : L2.St) (sv : SV) : Prop where
  sub : Same F H
  kH : Same g.pH H
  kF : ∀ a, g.fx a → F a = g.F0 a
  fxH : ∀ a, g.fx a → H a ≠ none
  pf : ∀ a o, g.pH a = some o → g.fx a
  ion : ∀ k p, g.io k = some p → g.pH p = none ∧ g.fx p
  len : sv.length = σ.length
  sl : ∀ (i : Nat) (s : Sl), sv[i]? = some s → SlOk g F H σ[i]? s
  dj : ∀ (i j : Nat) (p : Addr), Ref σ sv i p → Ref σ sv j p → i = j

inductive R (α : Type) where
  | ok (a : α) (s : SV) | err (x : Exn) (s : SV) | bad
abbrev M (α : Type) := SV → R α
@[simp] def R.bind {α β : Type} (r : R α) (f : α → SV → R β) : R β := match r with
  | .ok a s => f a s
  | .err x s => .err x s
  | .bad => .bad

abbrev WX' := Value → Option Addr → L2.St → Hp → Prop

def PostG {α β : Type} (mg : MX) (g : G) (F : Hp) (σ : L2.St) (r : R α) (W : WX') (Rel : G → Hp → Hp → L2.St → SV → α → β → Prop) (Q : β → Hp → Prop) : Prop := match r with
  | .ok a sv' => ∀ b F' H', Same F F' → Rl g F' H' σ sv' → Rel g F' H' σ sv' a b → Q b H'
  | .err x sv' => ∀ cls dd F' H', Same F F' → Rl g F' H' σ sv' → ErrOk g.K mg.mg F' x cls dd → W cls dd σ H'
  | .bad => False
def RelE (g : G) (F' _H' : Hp) (_ : L2.St) (_ : SV) (d : D) (v : V) : Prop := Rp g.K F' d v
def RelO' (g : G) (F' H' : Hp) (σ : L2.St) (sv : SV) (d : D) (v : V) : Prop := ∃ p, v = .ref p ∧ ¬ g.fx p ∧ OwnP g.K F' H' d p ∧ ∀ i, ¬ Ref σ sv i p
def RelT (_ : G) (_F' _H' : Hp) (_ : L2.St) (_ : SV) (b : Bool) (c : Bool) : Prop := c = b
def tG {α β : Type} (K : PySem.W.Frag) (mg : MX) (W : WX') (Rel : G → Hp → Hp → L2.St → SV → α → β → Prop) (m : M α) : L2.St → Hp → (β → Hp → Prop) → Prop :=
  fun σ H Q => ∃ g F sv, (g.K = K ∧ g.mx = mg) ∧ Rl g F H σ sv ∧ PostG mg g F σ (m sv) W Rel Q
abbrev tE (K : PySem.W.Frag) (mg : MX) (W : WX') (m : M D) : TE := tG K mg W RelE m
abbrev tO (K : PySem.W.Frag) (mg : MX) (W : WX') (m : M D) : TE := tG K mg W RelO' m
abbrev tT (K : PySem.W.Frag) (mg : MX) (W : WX') (m : M Bool) : TT := tG K mg W RelT m

theorem PostG.bind {α β γ δ : Type} {mg : MX} {g : G} {F : Hp} {σ : L2.St} {r : R α} {k : α → SV → R γ} {W : WX'} {Rel1 : G → Hp → Hp → L2.St → SV → α → β → Prop} {Rel2 : G → Hp → Hp → L2.St → SV → γ → δ → Prop} {Q : δ → Hp → Prop} {Q1 : β → Hp → Prop}
    (h : PostG mg g F σ (r.bind k) W Rel2 Q)
    (kk : ∀ a sv1 b F1 H1, Same F F1 → Rl g F1 H1 σ sv1 → Rel1 g F1 H1 σ sv1 a b → PostG mg g F1 σ (k a sv1) W Rel2 Q → Q1 b H1) : PostG mg g F σ r W Rel1 Q1 := by
  cases r with
  | ok a s =>
    intro b F1 H1 e rl rel
    refine kk a s b F1 H1 e rl rel ?_
    have h' : PostG mg g F σ (k a s) W Rel2 Q := h
    revert h'
    cases k a s with
    | ok c s2 => exact fun h' d F2 H2 e2 => h' d F2 H2 (e.trans e2)
    | err x s2 => exact fun h' cls dd F2 H2 e2 => h' cls dd F2 H2 (e.trans e2)
    | bad => exact fun h' => h'
  | err x s => exact h
  | bad => exact h

abbrev SE (X : Cx) (W : WX') (e : Expr) (m : M D) : Prop := PE X e (tE X.K X.mx W m)
abbrev SO (X : Cx) (W : WX') (e : Expr) (m : M D) : Prop := PE X e (tO X.K X.mx W m)
abbrev ST (X : Cx) (W : WX') (e : Expr) (m : M Bool) : Prop := PT X e (tT X.K X.mx W m)

theorem pe_imp {X : Cx} {e : Expr} {t t' : TE} (h : PE X e t) (k : ∀ σ H Q, t' σ H Q → t σ H Q) : PE X e t' := ⟨fun pins s σ H Q I q => h.run pins s σ H Q I (k σ H Q q)⟩
theorem pt_imp {X : Cx} {e : Expr} {t t' : TT} (h : PT X e t) (k : ∀ σ H Q, t' σ H Q → t σ H Q) : PT X e t' := ⟨fun pins s σ H Q I q => h.run pins s σ H Q I (k σ H Q q)⟩
theorem pw_imp {X : Cx} {e : Expr} {t t' : TT} (h : PW X e t) (k : ∀ σ H Q, t' σ H Q → t σ H Q) : PW X e t' := ⟨fun w pins s σ H Q I q => h.run w pins s σ H Q I (k σ H Q q)⟩

section
variable {g : G} {F H F' H' : Hp} {σ : L2.St} {sv : SV}
theorem same_upd {H : Hp} {p : Addr} {o : HO} (h : H p = none) : Same H (upd H p o) := fun b x e => by
  rw [upd_ne (ne_of_none e h)]
  exact e
theorem OwnP.monoF {K : PySem.W.Frag} {d : D} {p : Addr} (h : OwnP K F H d p) (e : Same F F') (hp : F' p = none) : OwnP K F' H d p := by
  obtain ⟨_, h⟩ := h
  refine ⟨hp, ?_⟩
  cases d with
  | lst ds =>
    obtain ⟨vs, h1, h2⟩ := h
    exact ⟨vs, h1, RpL.mono e ds vs h2⟩
  | _ => exact h
theorem OwnP.monoH {K : PySem.W.Frag} {d : D} {p : Addr} (h : OwnP K F H d p) (e : H' p = H p) : OwnP K F H' d p := by
  obtain ⟨hp, h⟩ := h
  refine ⟨hp, ?_⟩
  cases d with
  | lst ds =>
    obtain ⟨vs, h1, h2⟩ := h
    exact ⟨vs, e.trans h1, h2⟩
  | _ => exact h
theorem OwnP.nn {K : PySem.W.Frag} {d : D} {p : Addr} (h : OwnP K F H d p) : H p ≠ none := by
  obtain ⟨_, h⟩ := h
  cases d with
  | lst ds =>
    obtain ⟨vs, h1, h2⟩ := h
    rw [h1]; exact fun z => nomatch z
  | _ => exact False.elim h

/-- a slot that owns p -/
theorem Rl.own (r : Rl g F H σ sv) {i : Nat} {p : Addr} (h : Ref σ sv i p) : F p = none ∧ H p ≠ none ∧ g.pH p = none := by
  obtain ⟨⟨s, e1, e2⟩, e3⟩ := h
  have q := r.sl i s e1
  rcases e2 with ⟨d, rfl⟩ | ⟨k, d, rfl⟩
  · obtain ⟨p', e4, nf, o⟩ := q
    rw [e3] at e4; cases e4
    refine ⟨o.1, o.nn, ?_⟩
    cases hh : g.pH p with
    | none => rfl
    | some x => exact absurd (r.pf _ _ hh) nf
  · obtain ⟨p', e4, nf, o⟩ := q
    rw [e3] at e4; cases e4
    exact ⟨o.1, o.nn, (r.ion _ _ nf).1⟩
/-- the heap grows at a place that nobody has: laid open, frozen at once -/
theorem Rl.lay (r : Rl g F H σ sv) {p : Addr} {o : HO} (n : H p = none) : Rl g (upd F p o) (upd H p o) σ sv := by
  have nF : F p = none := r.sub.free n
  have sF : Same F (upd F p o) := same_upd nF
  have ne : ∀ i q, Ref σ sv i q → q ≠ p := fun i q h e => by
    have := (r.own h).2.1
    rw [e] at this
    exact this n
  refine ⟨fun a u e => ?_, r.kH.trans (same_upd n), fun a ha => ?_, fun a ha => ?_, r.pf, r.ion, r.len, fun i s e => ?_, r.dj⟩
  · by_cases h : a = p
    · subst h; rw [upd_same] at e ⊢; exact e
    · rw [upd_ne h] at e ⊢; exact r.sub a u e
  · have : a ≠ p := fun e => by subst e; exact r.fxH _ ha n
    rw [upd_ne this]; exact r.kF a ha
  · have : a ≠ p := fun e => by subst e; exact r.fxH _ ha n
    rw [upd_ne this]; exact r.fxH a ha
  · have q := r.sl i s e
    cases s with
    | un => trivial
    | ex x => exact SlOk.exm (by first | exact sF | exact s1 | exact Same.refl _ | assumption) q
    | pl d =>
      obtain ⟨v, e1, h⟩ := q
      exact ⟨v, e1, Rp.mono sF d v h⟩
    | ow d =>
      obtain ⟨q', e1, nf, o'⟩ := q
      have hne := ne i q' ⟨⟨_, e, .inl ⟨d, rfl⟩⟩, e1⟩
      exact ⟨q', e1, nf, (o'.monoF sF (by rw [upd_ne hne]; exact o'.1)).monoH (upd_ne hne)⟩
    | io k d =>
      obtain ⟨q', e1, nf, o'⟩ := q
      have hne := ne i q' ⟨⟨_, e, .inr ⟨k, d, rfl⟩⟩, e1⟩
      exact ⟨q', e1, nf, (o'.monoF sF (by rw [upd_ne hne]; exact o'.1)).monoH (upd_ne hne)⟩
/-- .. laid open, not frozen -/
theorem Rl.layO (r : Rl g F H σ sv) {p : Addr} {o : HO} (n : H p = none) : Rl g F (upd H p o) σ sv := by
  have ne : ∀ i q, Ref σ sv i q → q ≠ p := fun i q h e => by
    have := (r.own h).2.1
    rw [e] at this
    exact this n
  refine ⟨r.sub.trans (same_upd n), r.kH.trans (same_upd n), r.kF, fun a ha => ?_, r.pf, r.ion, r.len, fun i s e => ?_, r.dj⟩
  · have : a ≠ p := fun e => by subst e; exact r.fxH _ ha n
    rw [upd_ne this]; exact r.fxH a ha
  · have q := r.sl i s e
    cases s with
    | un => trivial
    | ex x => exact SlOk.exm (by first | exact sF | exact s1 | exact Same.refl _ | assumption) q
    | pl d => exact q
    | ow d =>
      obtain ⟨q', e1, nf, o'⟩ := q
      have hne := ne i q' ⟨⟨_, e, .inl ⟨d, rfl⟩⟩, e1⟩
      exact ⟨q', e1, nf, o'.monoH (upd_ne hne)⟩
    | io k d =>
      obtain ⟨q', e1, nf, o'⟩ := q
      have hne := ne i q' ⟨⟨_, e, .inr ⟨k, d, rfl⟩⟩, e1⟩
      exact ⟨q', e1, nf, o'.monoH (upd_ne hne)⟩
theorem Rl.noRef (r : Rl g F H σ sv) {p : Addr} (n : H p = none) : ∀ i, ¬ Ref σ sv i p := fun i h => (r.own h).2.1 n
theorem Rl.nofx (r : Rl g F H σ sv) {p : Addr} (n : H p = none) : ¬ g.fx p := fun h => r.fxH _ h n
/-- an object that no slot owns is frozen -/
theorem Rl.frz (r : Rl g F H σ sv) {p : Addr} {o : HO} (nf : ¬ g.fx p) (nF : F p = none) (hH : H p = some o) (nr : ∀ i, ¬ Ref σ sv i p) : Rl g (upd F p o) H σ sv := by
  have sF : Same F (upd F p o) := same_upd nF
  refine ⟨fun a u e => ?_, r.kH, fun a ha => ?_, r.fxH, r.pf, r.ion, r.len, fun i s e => ?_, r.dj⟩
  · by_cases h : a = p
    · subst h; rw [upd_same] at e; rw [hH]; exact e
    · rw [upd_ne h] at e; exact r.sub a u e
  · have : a ≠ p := fun e => by subst e; exact nf ha
    rw [upd_ne this]; exact r.kF a ha
  · have q := r.sl i s e
    cases s with
    | un => trivial
    | ex x => exact SlOk.exm (by first | exact sF | exact s1 | exact Same.refl _ | assumption) q
    | pl d =>
      obtain ⟨v, e1, h⟩ := q
      exact ⟨v, e1, Rp.mono sF d v h⟩
    | ow d =>
      obtain ⟨q', e1, nf', o'⟩ := q
      have hne : q' ≠ p := fun z => nr i (by subst z; exact ⟨⟨_, e, .inl ⟨d, rfl⟩⟩, e1⟩)
      exact ⟨q', e1, nf', o'.monoF sF (by rw [upd_ne hne]; exact o'.1)⟩
    | io k d =>
      obtain ⟨q', e1, nf', o'⟩ := q
      have hne : q' ≠ p := fun z => nr i (by subst z; exact ⟨⟨_, e, .inr ⟨k, d, rfl⟩⟩, e1⟩)
      exact ⟨q', e1, nf', o'.monoF sF (by rw [upd_ne hne]; exact o'.1)⟩
/-- a slot is forgotten -/
theorem Rl.forget (r : Rl g F H σ sv) (i : Nat) : Rl g F H σ (sv.set i .un) := by
  have rr : ∀ j p, Ref σ (sv.set i .un) j p → Ref σ sv j p := fun j p ⟨⟨s, e1, e2⟩, e3⟩ => by
    by_cases h : i = j
    · subst h
      by_cases hl : i < sv.length
      · rw [List.getElem?_set_self hl] at e1
        cases e1
        rcases e2 with ⟨d, z⟩ | ⟨k, d, z⟩ <;> cases z
      · rw [List.getElem?_eq_none (by simp; omega)] at e1; cases e1
    · rw [List.getElem?_set_ne h] at e1
      exact ⟨⟨s, e1, e2⟩, e3⟩
  refine ⟨r.sub, r.kH, r.kF, r.fxH, r.pf, r.ion, by simp [r.len], fun j s e => ?_, fun j k p a b => r.dj j k p (rr _ _ a) (rr _ _ b)⟩
  by_cases h : i = j
  · subst h
    by_cases hl : i < sv.length
    · rw [List.getElem?_set_self hl] at e
      cases e
      trivial
    · rw [List.getElem?_eq_none (by simp; omega)] at e; cases e
  · rw [List.getElem?_set_ne h] at e
    exact r.sl j s e
/-- a slot of plain value -/
theorem Rl.setPl (r : Rl g F H σ sv) (i : Nat) {d : D} {v : V} (h : Rp g.K F d v) : Rl g F H (σ.set i (some v)) (sv.set i (.pl d)) := by
  have rr : ∀ j p, Ref (σ.set i (some v)) (sv.set i (.pl d)) j p → j ≠ i ∧ Ref σ sv j p := fun j p ⟨⟨s, e1, e2⟩, e3⟩ => by
    by_cases h : i = j
    · subst h
      by_cases hl : i < sv.length
      · rw [List.getElem?_set_self hl] at e1
        cases e1
        rcases e2 with ⟨d, z⟩ | ⟨k, d, z⟩ <;> cases z
      · rw [List.getElem?_eq_none (by simp; omega)] at e1; cases e1
    · rw [List.getElem?_set_ne h] at e1 e3
      exact ⟨Ne.symm h, ⟨s, e1, e2⟩, e3⟩
  refine ⟨r.sub, r.kH, r.kF, r.fxH, r.pf, r.ion, by simp [r.len], fun j s e => ?_, fun j k p a b => r.dj j k p (rr _ _ a).2 (rr _ _ b).2⟩
  by_cases hj : i = j
  · subst hj
    by_cases hl : i < sv.length
    · rw [List.getElem?_set_self hl] at e
      cases e
      refine ⟨v, ?_, h⟩
      rw [List.getElem?_set_self (by rw [← r.len]; exact hl)]
    · rw [List.getElem?_eq_none (by simp; omega)] at e; cases e
  · rw [List.getElem?_set_ne hj] at e
    rw [List.getElem?_set_ne hj]
    exact r.sl j s e
/-- a slot of an owned object -/
theorem Rl.setOw (r : Rl g F H σ sv) (i : Nat) {d : D} {p : Addr} (nf : ¬ g.fx p) (h : OwnP g.K F H d p) (nr : ∀ i, ¬ Ref σ sv i p) : Rl g F H (σ.set i (some (.ref p))) (sv.set i (.ow d)) := by
  have rr : ∀ j q, Ref (σ.set i (some (.ref p))) (sv.set i (.ow d)) j q → (j = i ∧ q = p) ∨ (j ≠ i ∧ q ≠ p ∧ Ref σ sv j q) := fun j q ⟨⟨s, e1, e2⟩, e3⟩ => by
    by_cases h : i = j
    · subst h
      by_cases hl : i < sv.length
      · rw [List.getElem?_set_self (by rw [← r.len]; exact hl)] at e3
        cases e3
        exact .inl ⟨rfl, rfl⟩
      · rw [List.getElem?_eq_none (by simp; omega)] at e1; cases e1
    · rw [List.getElem?_set_ne h] at e1 e3
      have z : Ref σ sv j q := ⟨⟨s, e1, e2⟩, e3⟩
      exact .inr ⟨Ne.symm h, fun w => nr j (by rw [← w]; exact z), z⟩
  refine ⟨r.sub, r.kH, r.kF, r.fxH, r.pf, r.ion, by simp [r.len], fun j s e => ?_, fun j k q a b => ?_⟩
  · by_cases hj : i = j
    · subst hj
      by_cases hl : i < sv.length
      · rw [List.getElem?_set_self hl] at e
        cases e
        refine ⟨p, ?_, nf, h⟩
        rw [List.getElem?_set_self (by rw [← r.len]; exact hl)]
      · rw [List.getElem?_eq_none (by simp; omega)] at e; cases e
    · rw [List.getElem?_set_ne hj] at e
      rw [List.getElem?_set_ne hj]
      exact r.sl j s e
  · rcases rr j q a with ⟨rfl, rfl⟩ | ⟨h1, h2, h3⟩
    · rcases rr k q b with ⟨rfl, _⟩ | ⟨_, h2, _⟩
      · rfl
      · exact absurd rfl h2
    · rcases rr k q b with ⟨_, rfl⟩ | ⟨_, _, h4⟩
      · exact absurd rfl h2
      · exact r.dj j k q h3 h4
end
end VM

set_option Elab.async false
set_option linter.all false
set_option autoImplicit false
set_option maxRecDepth 100000
set_option maxHeartbeats 200000
namespace VM
open PySem PySem.Spec PyProof.Rows L2

/-! ### two-place operations on data -/
def m2 (f : D → D → Option D) (ma mb : M D) : M D := fun sv => (ma sv).bind fun a s1 => (mb s1).bind fun b s2 => match f a b with
  | some d => .ok d s2
  | none => .bad
def m1 (f : D → Option D) (ma : M D) : M D := fun sv => (ma sv).bind fun a s1 => match f a with
  | some d => .ok d s1
  | none => .bad
def O2 (K : PySem.W.Frag) (r : R2) (f : D → D → Option D) : Prop :=
  ∀ (g : G) (F H : Hp) (σ : L2.St) (sv : SV) (a b d : D) (x y : V) (Q : VK), g.K = K → Rl g F H σ sv → f a b = some d → Rp K F a x → Rp K F b y →
    (∀ v F' H', Same F F' → Rl g F' H' σ sv → Rp K F' d v → Q v H') → r x y H Q
def O1 (K : PySem.W.Frag) (r : V → Hp → VK → Prop) (f : D → Option D) : Prop :=
  ∀ (g : G) (F H : Hp) (σ : L2.St) (sv : SV) (a d : D) (x : V) (Q : VK), g.K = K → Rl g F H σ sv → f a = some d → Rp K F a x →
    (∀ v F' H', Same F F' → Rl g F' H' σ sv → Rp K F' d v → Q v H') → r x H Q
theorem O2.or {K : PySem.W.Frag} {r r' : R2} {f f' : D → D → Option D} (h : O2 K r f) (h' : O2 K r' f') : O2 K (fun x y H Q => r x y H Q ∨ r' x y H Q) (fun a b => (f a b).or (f' a b)) := by
  intro g F H σ sv a b d x y Q hK rl e ha hb q
  dsimp only at e
  cases e1 : f a b with
  | some d' =>
    rw [e1] at e
    cases (show d' = d by simpa using e)
    exact .inl (h g F H σ sv a b d x y Q hK rl e1 ha hb q)
  | none =>
    rw [e1] at e
    exact .inr (h' g F H σ sv a b d x y Q hK rl (by simpa using e) ha hb q)
theorem OpR.or {X : Cx} {f : Value → Value → Sem Value} {r r' : R2} (h : OpR X f r) (h' : OpR X f r') : OpR X f (fun x y H Q => r x y H Q ∨ r' x y H Q) := by
  intro pins s σ H x y v u Q I rx ry q
  rcases q with q | q
  · exact h pins s σ H x y v u Q I rx ry q
  · exact h' pins s σ H x y v u Q I rx ry q

section
variable {K : PySem.W.Frag} {mg : MX} {W : WX'}
theorem tg_op2 {r : R2} {f : D → D → Option D} (hf : O2 K r f) {ma mb : M D} {σ : L2.St} {H : Hp} {Q : VK} (h : tE K mg W (m2 f ma mb) σ H Q) : tOp r (tE K mg W ma) (tE K mg W mb) σ H Q := by
  obtain ⟨g, F, sv, hK, rl, h⟩ := h
  refine ⟨g, F, sv, hK, rl, PostG.bind h fun a s1 x F1 H1 e1 rl1 rp1 h1 => ?_⟩
  refine ⟨g, F1, s1, hK, rl1, PostG.bind h1 fun b s2 y F2 H2 e2 rl2 rp2 h2 => ?_⟩
  obtain ⟨hK, hMx⟩ := hK; subst hK
  cases e : f a b with
  | none => rw [e] at h2; exact False.elim h2
  | some d =>
    rw [e] at h2
    exact hf g F2 H2 σ s2 a b d x y Q rfl rl2 e (Rp.mono e2 a x rp1) rp2 fun v F' H' e3 rl3 rp3 => h2 v F' H' e3 rl3 rp3
theorem tg_op1 {r : V → Hp → VK → Prop} {f : D → Option D} (hf : O1 K r f) {ma : M D} {σ : L2.St} {H : Hp} {Q : VK} (h : tE K mg W (m1 f ma) σ H Q) : tUn r (tE K mg W ma) σ H Q := by
  obtain ⟨g, F, sv, hK, rl, h⟩ := h
  refine ⟨g, F, sv, hK, rl, PostG.bind h fun a s1 x F1 H1 e1 rl1 rp1 h1 => ?_⟩
  obtain ⟨hK, hMx⟩ := hK; subst hK
  cases e : f a with
  | none => rw [e] at h1; exact False.elim h1
  | some d =>
    rw [e] at h1
    exact hf g F1 H1 σ s1 a d x Q rfl rl1 e rp1 fun v F' H' e3 rl3 rp3 => h1 v F' H' e3 rl3 rp3
end
/-- a pure operation: nothing is laid -/
theorem o2_pure {K : PySem.W.Frag} {r : R2} {f : D → D → Option D} (h : ∀ (F H : Hp) (a b d : D) (x y : V) (Q : VK), Same F H → f a b = some d → Rp K F a x → Rp K F b y → (∀ v, Rp K F d v → Q v H) → r x y H Q) : O2 K r f :=
  fun g F H σ sv a b d x y Q _ rl e ha hb q => h F H a b d x y Q rl.sub e ha hb fun v rv => q v F H (Same.refl F) rl rv
theorem o1_pure {K : PySem.W.Frag} {r : V → Hp → VK → Prop} {f : D → Option D} (h : ∀ (F H : Hp) (a d : D) (x : V) (Q : VK), Same F H → f a = some d → Rp K F a x → (∀ v, Rp K F d v → Q v H) → r x H Q) : O1 K r f :=
  fun g F H σ sv a d x Q _ rl e ha q => h F H a d x Q rl.sub e ha fun v rv => q v F H (Same.refl F) rl rv

/-! #### arithmetic -/
def dI2 (c : Int → Int → Option D) : D → D → Option D
  | .int i, .int j => c i j
  | _, _ => none
theorem o2_int {K : PySem.W.Frag} {C : Int → Int → Prop} {gg : Int → Int → V} {c : Int → Int → Option D} (hc : ∀ i j d, c i j = some d → C i j) (hg : ∀ i j d F v, c i j = some d → v = gg i j → Rp K F d v) : O2 K (rI C gg) (dI2 c) :=
  o2_pure fun F H a b d x y Q _ e ha hb q => by
    cases a <;> try (cases e; done)
    cases b <;> try (cases e; done)
    rename_i i j
    exact ⟨i, j, ha, hb, hc i j d e, q _ (hg i j d F _ e rfl)⟩
def cSub (i j : Int) : Option D := some (.int (i - j))
def cAdd (i j : Int) : Option D := some (.int (i + j))
def cMul (i j : Int) : Option D := if (-(2 ^ 64) < i ∧ i < 2 ^ 64) ∨ (-(2 ^ 64) < j ∧ j < 2 ^ 64) then some (.int (i * j)) else none
def cDiv (i j : Int) : Option D := if 0 < j ∧ j < 1073741824 then some (.int (i / j)) else none
def cMod (i j : Int) : Option D := if 0 < j then some (.int (i % j)) else none
def cPow (i j : Int) : Option D := if 0 ≤ j ∧ j ≤ 1000000 ∧ i.natAbs < 2 ^ 64 then some (.int (i ^ j.toNat)) else none
theorem op_toI {X : Cx} {f : Value → Value → Sem Value} {g : Int → Int → V} (h : OpR X f (rI0 g)) : OpR X f (rI (fun _ _ => True) g) := by
  intro pins s σ H x y v u Q I rx ry q
  obtain ⟨i, j, e1, e2, _, q⟩ := q
  exact h pins s σ H x y v u Q I rx ry ⟨i, j, e1, e2, q⟩
section
variable {K : PySem.W.Frag}
theorem o2_subI : O2 K (rI (fun _ _ => True) fun i j => .int (i - j)) (dI2 cSub) := o2_int (fun _ _ _ _ => trivial) fun i j d F v e ev => by cases e; exact ev
theorem o2_addI : O2 K (rI (fun _ _ => True) fun i j => .int (i + j)) (dI2 cAdd) := o2_int (fun _ _ _ _ => trivial) fun i j d F v e ev => by cases e; exact ev
theorem o2_mulI : O2 K (rI CMul fun i j => .int (i * j)) (dI2 cMul) := o2_int (fun i j d e => by
    unfold cMul at e
    split at e
    · assumption
    · cases e) fun i j d F v e ev => by
    unfold cMul at e
    split at e
    · cases e; exact ev
    · cases e
theorem o2_divI : O2 K (rI CDiv fun i j => .int (i / j)) (dI2 cDiv) := o2_int (fun i j d e => by
    unfold cDiv at e
    split at e
    · assumption
    · cases e) fun i j d F v e ev => by
    unfold cDiv at e
    split at e
    · cases e; exact ev
    · cases e
theorem o2_modI : O2 K (rI (fun _ j => 0 < j) fun i j => .int (i % j)) (dI2 cMod) := o2_int (fun i j d e => by
    unfold cMod at e
    split at e
    · assumption
    · cases e) fun i j d F v e ev => by
    unfold cMod at e
    split at e
    · cases e; exact ev
    · cases e
theorem o2_powI : O2 K (rI CPow fun i j => .int (i ^ j.toNat)) (dI2 cPow) := o2_int (fun i j d e => by
    unfold cPow at e
    split at e
    · assumption
    · cases e) fun i j d F v e ev => by
    unfold cPow at e
    split at e
    · cases e; exact ev
    · cases e
end
/-- + : ints, texts, lists, tuples -/
def dAdd : D → D → Option D
  | .int i, .int j => some (.int (i + j))
  | .str a, .str b => if a.length + b.length ≤ sizeLine then some (.str (a ++ b)) else none
  | .lst xs, .lst ys => if xs.length + ys.length ≤ sizeLine then some (.lst (xs ++ ys)) else none
  | .tup xs, .tup ys => if xs.length + ys.length ≤ sizeLine then some (.tup (xs ++ ys)) else none
  | _, _ => none
def rAddA (K : PySem.W.Frag) : R2 := fun x y H Q =>
  (((rI (fun _ _ => True) fun i j => .int (i + j)) x y H Q ∨ (∃ i j, x = .str i ∧ y = .str j ∧ i.length + j.length ≤ sizeLine ∧ Q (.str (i ++ j)) H)) ∨ rCat x y H Q) ∨ rCatA K x y H Q
theorem op_addA {X : Cx} : OpR X (binaryOp .Add) (rAddA X.K) := OpR.or (OpR.or (OpR.or (op_toI op_add) op_add_str) op_cat) op_catA
theorem o2_addA {K : PySem.W.Frag} : O2 K (rAddA K) dAdd := by
  intro g F H σ sv a b d x y Q hK rl e ha hb q
  subst hK
  cases a <;> cases b <;> try (cases e; done)
  · rename_i i j
    cases e
    exact .inl (.inl (.inl ⟨i, j, ha, hb, trivial, q _ F H (Same.refl F) rl rfl⟩))
  · rename_i i j
    simp only [dAdd] at e
    split at e
    · cases e
      exact .inl (.inl (.inr ⟨i, j, ha, hb, by assumption, q _ F H (Same.refl F) rl rfl⟩))
    · cases e
  · rename_i xs ys
    simp only [dAdd] at e
    split at e
    · cases e
      rename_i hz
      obtain ⟨a, vs, rfl, h1, h2⟩ := ha
      obtain ⟨b, us, rfl, h3, h4⟩ := hb
      refine .inr ⟨a, b, vs, us, rfl, rfl, sqT_mono rl.sub h1, sqT_mono rl.sub h3, by rw [← h2.length, ← h4.length]; exact hz, fun z => ?_, fun z z2 => ?_, fun z z2 p hp => ?_⟩
      · subst z
        have : xs = [] := List.length_eq_zero_iff.mp h2.length
        subst this
        exact q _ F H (Same.refl F) rl ⟨b, us, rfl, h3, h4⟩
      · subst z2
        have : ys = [] := List.length_eq_zero_iff.mp h4.length
        subst this
        refine q _ F H (Same.refl F) rl ⟨a, vs, rfl, h1, ?_⟩
        rw [List.append_nil]; exact h2
      · have sF : Same F (upd F p (.tup (vs ++ us))) := same_upd (rl.sub.free hp)
        exact q _ _ _ sF (rl.lay hp) ⟨p, _, rfl, .inl (.inl upd_same), (RpL.mono sF _ _ h2).append (RpL.mono sF _ _ h4)⟩
    · cases e
  · rename_i xs ys
    simp only [dAdd] at e
    split at e
    · cases e
      rename_i hz
      obtain ⟨a, vs, rfl, h1, h2⟩ := ha
      obtain ⟨b, us, rfl, h3, h4⟩ := hb
      refine .inl (.inr ⟨a, b, vs, us, rfl, rfl, rl.sub _ _ h1, rl.sub _ _ h3, by rw [← h2.length, ← h4.length]; exact hz, fun p hp => ?_⟩)
      have sF : Same F (upd F p (.lst (vs ++ us))) := same_upd (rl.sub.free hp)
      exact q _ _ _ sF (rl.lay hp) ⟨p, _, rfl, upd_same, (RpL.mono sF _ _ h2).append (RpL.mono sF _ _ h4)⟩
    · cases e

/-! #### comparisons -/
mutual
def py : D → Option PyData
  | .non => some .none
  | .bl b => some (.bool b)
  | .int i => some (.int i)
  | .str x => some (.str x)
  | .tup xs => (pyL xs).map .tuple
  | .lst xs => (pyL xs).map .list
  | .fl xs => (pyL xs).map .list
  | .dct _ => none
  | .obj _ _ => none
def pyL : List D → Option (List PyData)
  | [] => some []
  | d :: ds => match py d, pyL ds with
    | some p, some ps => some (p :: ps)
    | _, _ => none
end
section
variable {K : PySem.W.Frag} {F H : Hp}
mutual
theorem dp_of (e : Same F H) : ∀ (d : D) (v : V) (p : PyData), Rp K F d v → py d = some p → Dp K H v p
  | .non, v, p, h, q => by cases h; cases q; exact .non
  | .bl b, v, p, h, q => by cases h; cases q; exact .bl b
  | .int i, v, p, h, q => by cases h; cases q; exact .int i
  | .str x, v, p, h, q => by cases h; cases q; exact .str x
  | .tup ds, v, p, h, q => by
    obtain ⟨a, vs, rfl, h1, h2⟩ := h
    simp only [py, Option.map_eq_some_iff] at q
    obtain ⟨ps, q1, rfl⟩ := q
    exact .tup (sqT_mono e h1) (dpL_of e ds vs ps h2 q1)
  | .lst ds, v, p, h, q => by
    obtain ⟨a, vs, rfl, h1, h2⟩ := h
    simp only [py, Option.map_eq_some_iff] at q
    obtain ⟨ps, q1, rfl⟩ := q
    exact .lst (.inl (.inl (e _ _ h1))) (dpL_of e ds vs ps h2 q1)
  | .fl ds, v, p, h, q => by
    obtain ⟨a, vs, rfl, h1, h2⟩ := h
    simp only [py, Option.map_eq_some_iff] at q
    obtain ⟨ps, q1, rfl⟩ := q
    exact .lst (e.seq h1) (dpL_of e ds vs ps h2 q1)
  | .dct _, v, p, h, q => by cases q
  | .obj _ _, v, p, h, q => by cases q
theorem dpL_of (e : Same F H) : ∀ (ds : List D) (vs : List V) (ps : List PyData), RpL K F ds vs → pyL ds = some ps → DpAll K H vs ps
  | [], vs, ps, h, q => by
    cases h
    simp only [pyL, Option.some.injEq] at q
    subst q
    exact .nil
  | d :: ds, vs, ps, h, q => by
    obtain ⟨v, r, rfl, h1, h2⟩ := h
    unfold pyL at q
    cases e1 : py d with
    | none => rw [e1] at q; cases q
    | some p =>
      cases e2 : pyL ds with
      | none => rw [e1, e2] at q; cases q
      | some ps' =>
        rw [e1, e2] at q
        cases q
        exact .cons (dp_of e d v p h1 e1) (dpL_of e ds r ps' h2 e2)
end
end
def eqP (a b : D) : Option Bool := match py a, py b with
  | some p, some q => if SeqAt.shaped p = true ∧ SeqAt.shaped q = true then some (PyData.eqv p q) else none
  | _, _ => none
def eqD : D → D → Option Bool
  | .str x, .str y => some (decide (x = y))
  | .int i, .int j => some (decide (i = j))
  | .bl i, .bl j => some (decide (i = j))
  | a, b => eqP a b
def dEq (a b : D) : Option D := (eqD a b).map .bl
def dNe (a b : D) : Option D := (eqD a b).map fun c => .bl !c
def rEqA (K : PySem.W.Frag) : R2 := fun x y H Q => rEq x y H Q ∨ rEqD K x y H Q
def rNeA (K : PySem.W.Frag) : R2 := fun x y H Q => rNe x y H Q ∨ rNeD K x y H Q
theorem op_eqA {X : Cx} (hu : X.A.units + 64 < cLine) : OpR X (compareOp .Eq) (rEqA X.K) := OpR.or op_eq (op_eqD hu)
theorem op_neA {X : Cx} (hu : X.A.units + 64 < cLine) : OpR X (compareOp .NotEq) (rNeA X.K) := OpR.or op_ne (op_neD hu)
theorem eqP_of {K : PySem.W.Frag} {F H : Hp} {a b : D} {x y : V} {c : Bool} (e : eqP a b = some c) (s : Same F H) (ha : Rp K F a x) (hb : Rp K F b y) :
    ∃ p q, Dp K H x p ∧ Dp K H y q ∧ SeqAt.shaped p = true ∧ SeqAt.shaped q = true ∧ PyData.eqv p q = c := by
  unfold eqP at e
  cases e1 : py a with
  | none => rw [e1] at e; cases e
  | some p =>
    cases e2 : py b with
    | none => rw [e1, e2] at e; cases e
    | some q =>
      rw [e1, e2] at e
      dsimp only at e
      split at e
      · rename_i hs
        cases e
        exact ⟨p, q, dp_of s a x p ha e1, dp_of s b y q hb e2, hs.1, hs.2, rfl⟩
      · cases e
theorem eqD_cases {a b : D} {c : Bool} (e : eqD a b = some c) :
    (∃ x y, a = .str x ∧ b = .str y ∧ c = decide (x = y)) ∨ (∃ i j, a = .int i ∧ b = .int j ∧ c = decide (i = j)) ∨ (∃ i j, a = .bl i ∧ b = .bl j ∧ c = decide (i = j)) ∨ eqP a b = some c := by
  unfold eqD at e
  split at e
  · cases e; exact .inl ⟨_, _, rfl, rfl, rfl⟩
  · cases e; exact .inr (.inl ⟨_, _, rfl, rfl, rfl⟩)
  · cases e; exact .inr (.inr (.inl ⟨_, _, rfl, rfl, rfl⟩))
  · exact .inr (.inr (.inr e))
theorem o2_eqA {K : PySem.W.Frag} : O2 K (rEqA K) dEq := o2_pure fun F H a b d x y Q s e ha hb q => by
  unfold dEq at e
  obtain ⟨c, e1, rfl⟩ := Option.map_eq_some_iff.mp e
  rcases eqD_cases e1 with ⟨i, j, rfl, rfl, rfl⟩ | ⟨i, j, rfl, rfl, rfl⟩ | ⟨i, j, rfl, rfl, rfl⟩ | e2
  · cases ha; cases hb
    exact .inl ⟨rfl, q _ (by show V.bl _ = V.bl _; congr 1; simp)⟩
  · cases ha; cases hb
    exact .inl ⟨rfl, q _ (by show V.bl _ = V.bl _; congr 1; simp)⟩
  · cases ha; cases hb
    exact .inl ⟨rfl, q _ (by show V.bl _ = V.bl _; congr 1; simp)⟩
  · obtain ⟨p, p', h1, h2, h3, h4, rfl⟩ := eqP_of e2 s ha hb
    exact .inr ⟨p, p', h1, h2, h3, h4, q _ rfl⟩
theorem o2_neA {K : PySem.W.Frag} : O2 K (rNeA K) dNe := o2_pure fun F H a b d x y Q s e ha hb q => by
  unfold dNe at e
  obtain ⟨c, e1, rfl⟩ := Option.map_eq_some_iff.mp e
  rcases eqD_cases e1 with ⟨i, j, rfl, rfl, rfl⟩ | ⟨i, j, rfl, rfl, rfl⟩ | ⟨i, j, rfl, rfl, rfl⟩ | e2
  · cases ha; cases hb
    exact .inl ⟨rfl, q _ (by show V.bl _ = V.bl _; congr 1; simp)⟩
  · cases ha; cases hb
    exact .inl ⟨rfl, q _ (by show V.bl _ = V.bl _; congr 1; simp)⟩
  · cases ha; cases hb
    exact .inl ⟨rfl, q _ (by show V.bl _ = V.bl _; congr 1; simp)⟩
  · obtain ⟨p, p', h1, h2, h3, h4, rfl⟩ := eqP_of e2 s ha hb
    exact .inr ⟨p, p', h1, h2, h3, h4, q _ rfl⟩
/-- order of ints and texts -/
def dCmp (ci : Int → Int → Bool) (cs : List Nat → List Nat → Bool) : D → D → Option D
  | .int i, .int j => some (.bl (ci i j))
  | .str x, .str y => some (.bl (cs x.cps.toList y.cps.toList))
  | _, _ => none
def rCmp (ci : Int → Int → Bool) (cs : List Nat → List Nat → Bool) : R2 := fun x y H Q => (rI0 fun i j => .bl (ci i j)) x y H Q ∨ (∃ i j, x = .str i ∧ y = .str j ∧ Q (.bl (cs i.cps.toList j.cps.toList)) H)
theorem o2_cmp {K : PySem.W.Frag} {ci : Int → Int → Bool} {cs : List Nat → List Nat → Bool} : O2 K (rCmp ci cs) (dCmp ci cs) := o2_pure fun F H a b d x y Q s e ha hb q => by
  cases a <;> cases b <;> try (cases e; done)
  · cases e; exact .inl ⟨_, _, ha, hb, q _ rfl⟩
  · cases e; exact .inr ⟨_, _, ha, hb, q _ rfl⟩
def csLt (a b : List Nat) : Bool := decide (a < b)
def csLe (a b : List Nat) : Bool := !decide (b < a)
def ciLt (i j : Int) : Bool := decide (i < j)
def ciLe (i j : Int) : Bool := decide (i ≤ j)
def ciGt (i j : Int) : Bool := decide (j < i)
def ciGe (i j : Int) : Bool := decide (j ≤ i)
theorem op_ltA {X : Cx} : OpR X (compareOp .Lt) (rCmp ciLt csLt) := OpR.or op_lt op_lt_str
theorem op_leI {X : Cx} : OpR X (compareOp .LtE) (rI0 fun i j => .bl (ciLe i j)) := op_le
theorem op_gtI {X : Cx} : OpR X (compareOp .Gt) (rI0 fun i j => .bl (ciGt i j)) := op_gt
theorem op_geI {X : Cx} : OpR X (compareOp .GtE) (rI0 fun i j => .bl (ciGe i j)) := op_ge
def dCI (ci : Int → Int → Bool) : D → D → Option D
  | .int i, .int j => some (.bl (ci i j))
  | _, _ => none
theorem o2_ci {K : PySem.W.Frag} {ci : Int → Int → Bool} : O2 K (rI0 fun i j => .bl (ci i j)) (dCI ci) := o2_pure fun F H a b d x y Q s e ha hb q => by
  cases a <;> cases b <;> try (cases e; done)
  cases e; exact ⟨_, _, ha, hb, q _ rfl⟩
/-- in, not in -/
def strIn (x y : Str) : Bool := !(Builtin.Str.occurrences y x 0 y.length 1).isEmpty
def flatD : D → Bool
  | .non => true
  | .bl _ => true
  | .int _ => true
  | .str _ => true
  | _ => false
def eqF : D → D → Bool
  | .non, .non => true
  | .bl a, .bl b => a == b
  | .bl a, .int b => (if a then 1 else 0) == b
  | .int a, .bl b => a == (if b then 1 else 0)
  | .int a, .int b => a == b
  | .str a, .str b => a == b
  | _, _ => false
def inF (x : D) (xs : List D) : Bool := xs.any fun y => eqF y x
def inSeq (x : D) (xs : List D) : Option Bool := if flatD x = true ∧ xs.all flatD = true then some (inF x xs) else none
def inP (x : D) (xs : List D) : Option Bool := match py x, pyL xs with
  | some p, some ps => if SeqAt.shaped p = true ∧ SeqAt.shaped (.list ps) = true then some (ps.any fun z => PyData.eqv z p) else none
  | _, _ => none
def inD : D → D → Option Bool
  | .str x, .str y => some (strIn x y)
  | x, .tup xs => inSeq x xs
  | x, .lst xs => (inSeq x xs).or (inP x xs)
  | x, .fl xs => (inSeq x xs).or (inP x xs)
  | _, _ => none
def dIn (a b : D) : Option D := (inD a b).map .bl
def dNotIn (a b : D) : Option D := (inD a b).map fun c => .bl !c
theorem flat_rel {K : PySem.W.Frag} {F : Hp} {d : D} {v : V} (h : Rp K F d v) (f : flatD d = true) : flatV v = true := by
  cases d <;> first | (cases h; rfl) | (cases f)
theorem eq_rel {K : PySem.W.Frag} {F : Hp} {d e : D} {v u : V} (h : Rp K F d v) (f : flatD d = true) (h' : Rp K F e u) (f' : flatD e = true) : eqV v u = eqF d e := by
  cases d <;> first | (cases f; done) | skip
  all_goals cases e <;> first | (cases f'; done) | skip
  all_goals (cases h; cases h'; rfl)
theorem flatL_rel {K : PySem.W.Frag} {F : Hp} : ∀ {ds : List D} {vs : List V}, RpL K F ds vs → ds.all flatD = true → vs.all flatV = true
  | [], vs, h, _ => by cases h; rfl
  | d :: ds, vs, h, f => by
    obtain ⟨v, r, rfl, h1, h2⟩ := h
    simp only [List.all_cons, Bool.and_eq_true] at f ⊢
    exact ⟨flat_rel h1 f.1, flatL_rel h2 f.2⟩
theorem in_rel {K : PySem.W.Frag} {F : Hp} {d : D} {v : V} (h : Rp K F d v) (f : flatD d = true) : ∀ {ds : List D} {vs : List V}, RpL K F ds vs → ds.all flatD = true → inV v vs = inF d ds
  | [], vs, h, _ => by cases h; rfl
  | e :: ds, vs, h', f' => by
    obtain ⟨u, r, rfl, h1, h2⟩ := h'
    simp only [List.all_cons, Bool.and_eq_true] at f'
    show (eqV u v || inV v r) = (eqF e d || inF d ds)
    rw [eq_rel h1 f'.1 h f, in_rel h f h2 f'.2]
def rInA (K : PySem.W.Frag) : R2 := fun x y H Q => ((∃ i j, x = .str i ∧ y = .str j ∧ Q (.bl (!(Builtin.Str.occurrences j i 0 j.length 1).isEmpty)) H) ∨ rIn K false x y H Q) ∨ rInD K x y H Q
def rNotInA (K : PySem.W.Frag) : R2 := fun x y H Q => ((∃ i j, x = .str i ∧ y = .str j ∧ Q (.bl (!(!(Builtin.Str.occurrences j i 0 j.length 1).isEmpty))) H) ∨ rIn K true x y H Q) ∨ rNotInD K x y H Q
theorem op_inA {X : Cx} (hu : X.A.units + 65 < cLine) : OpR X (compareOp .In) (rInA X.K) := OpR.or (OpR.or op_in_str op_in_seq) (op_inD hu)
theorem op_notInA {X : Cx} (hu : X.A.units + 65 < cLine) : OpR X (compareOp .NotIn) (rNotInA X.K) := OpR.or (OpR.or op_notIn_str op_notIn_seq) (op_notInD hu)
theorem inSeq_of {K : PySem.W.Frag} {F H : Hp} {a : D} {xs : List D} {x : V} {vs : List V} {c : Bool} (e : inSeq a xs = some c) (ha : Rp K F a x) (hx : RpL K F xs vs) : flatV x = true ∧ vs.all flatV = true ∧ inV x vs = c := by
  unfold inSeq at e
  split at e
  · rename_i hf
    cases e
    exact ⟨flat_rel ha hf.1, flatL_rel hx hf.2, in_rel ha hf.1 hx hf.2⟩
  · cases e
theorem inP_of {K : PySem.W.Frag} {F H : Hp} {a : D} {xs : List D} {x : V} {p : Addr} {vs : List V} {c : Bool} (e : inP a xs = some c) (s : Same F H) (ha : Rp K F a x) (hp : SqL K H p vs) (hx : RpL K F xs vs) :
    ∃ q qs, Dp K H x q ∧ Dp K H (.ref p) (.list qs) ∧ SeqAt.shaped q = true ∧ SeqAt.shaped (.list qs) = true ∧ (qs.any fun z => PyData.eqv z q) = c := by
  unfold inP at e
  cases e1 : py a with
  | none => rw [e1] at e; cases e
  | some q =>
    cases e2 : pyL xs with
    | none => rw [e1, e2] at e; cases e
    | some qs =>
      rw [e1, e2] at e
      dsimp only at e
      split at e
      · rename_i hs
        cases e
        exact ⟨q, qs, dp_of s a x q ha e1, .lst hp (dpL_of s xs vs qs hx e2), hs.1, hs.2, rfl⟩
      · cases e
def InC (K : PySem.W.Frag) (H : Hp) (x y : V) (c : Bool) : Prop :=
    (∃ i j, x = .str i ∧ y = .str j ∧ (!(Builtin.Str.occurrences j i 0 j.length 1).isEmpty) = c) ∨
    (∃ p xs, y = .ref p ∧ (SqL K H p xs ∨ SqT K H p xs) ∧ flatV x = true ∧ xs.all flatV = true ∧ inV x xs = c) ∨
    (∃ q qs, Dp K H x q ∧ Dp K H y (.list qs) ∧ SeqAt.shaped q = true ∧ SeqAt.shaped (.list qs) = true ∧ (qs.any fun z => PyData.eqv z q) = c)
theorem inL_of {K : PySem.W.Frag} {F H : Hp} {a : D} {x : V} {c : Bool} (s : Same F H) (ha : Rp K F a x) {xs : List D} {p : Addr} {vs : List V} (e : (inSeq a xs).or (inP a xs) = some c) (h1 : SqL K H p vs) (h2 : RpL K F xs vs) : InC K H x (.ref p) c := by
  cases e1 : inSeq a xs with
  | some c' =>
    rw [e1] at e
    cases (show c' = c by simpa using e)
    obtain ⟨h3, h4, h5⟩ := inSeq_of (H := H) e1 ha h2
    exact .inr (.inl ⟨p, vs, rfl, .inl h1, h3, h4, h5⟩)
  | none =>
    rw [e1] at e
    exact .inr (.inr (inP_of (by simpa using e) s ha h1 h2))
theorem inD_of {K : PySem.W.Frag} {F H : Hp} {a b : D} {x y : V} {c : Bool} (e : inD a b = some c) (s : Same F H) (ha : Rp K F a x) (hb : Rp K F b y) : InC K H x y c := by
  unfold inD at e
  split at e
  · cases e; cases ha; cases hb
    exact .inl ⟨_, _, rfl, rfl, rfl⟩
  · obtain ⟨p, vs, rfl, h1, h2⟩ := hb
    obtain ⟨h3, h4, h5⟩ := inSeq_of (H := H) e ha h2
    exact .inr (.inl ⟨p, vs, rfl, .inr (sqT_mono s h1), h3, h4, h5⟩)
  · obtain ⟨p, vs, rfl, h1, h2⟩ := hb
    exact inL_of s ha e (.inl (.inl (s _ _ h1))) h2
  · obtain ⟨p, vs, rfl, h1, h2⟩ := hb
    exact inL_of s ha e (s.seq h1) h2
  · cases e
theorem o2_inA {K : PySem.W.Frag} : O2 K (rInA K) dIn := o2_pure fun F H a b d x y Q s e ha hb q => by
  unfold dIn at e
  obtain ⟨c, e1, rfl⟩ := Option.map_eq_some_iff.mp e
  rcases inD_of e1 s ha hb with ⟨i, j, rfl, rfl, rfl⟩ | ⟨p, xs, rfl, h1, h2, h3, rfl⟩ | ⟨u, us, h1, h2, h3, h4, rfl⟩
  · exact .inl (.inl ⟨i, j, rfl, rfl, q _ rfl⟩)
  · exact .inl (.inr ⟨p, xs, rfl, h1, h2, h3, q _ rfl⟩)
  · exact .inr ⟨u, us, h1, h2, h3, h4, q _ rfl⟩
theorem o2_notInA {K : PySem.W.Frag} : O2 K (rNotInA K) dNotIn := o2_pure fun F H a b d x y Q s e ha hb q => by
  unfold dNotIn at e
  obtain ⟨c, e1, rfl⟩ := Option.map_eq_some_iff.mp e
  rcases inD_of e1 s ha hb with ⟨i, j, rfl, rfl, rfl⟩ | ⟨p, xs, rfl, h1, h2, h3, rfl⟩ | ⟨u, us, h1, h2, h3, h4, rfl⟩
  · exact .inl (.inl ⟨i, j, rfl, rfl, q _ rfl⟩)
  · exact .inl (.inr ⟨p, xs, rfl, h1, h2, h3, q _ rfl⟩)
  · exact .inr ⟨u, us, h1, h2, h3, h4, q _ rfl⟩
/-- is None, is not None -/
def isNon : D → Bool
  | .non => true
  | _ => false
def dIs : D → D → Option D
  | a, .non => some (.bl (isNon a))
  | .bl a, .bl b => some (.bl (decide (a = b)))
  | _, _ => none
def dIsNot : D → D → Option D
  | a, .non => some (.bl !(isNon a))
  | .bl a, .bl b => some (.bl !(decide (a = b)))
  | _, _ => none
theorem isNon_rel {K : PySem.W.Frag} {F : Hp} {d : D} {v : V} (h : Rp K F d v) : decide (v = .non) = isNon d := by
  cases d with
  | non => cases h; rfl
  | bl b => cases h; rfl
  | int b => cases h; rfl
  | str b => cases h; rfl
  | tup ds => obtain ⟨a, vs, rfl, _⟩ := h; rfl
  | lst ds => obtain ⟨a, vs, rfl, _⟩ := h; rfl
  | fl ds => obtain ⟨a, vs, rfl, _⟩ := h; rfl
  | dct _ => exact False.elim h
  | obj _ _ => exact False.elim h
end VM

set_option Elab.async false
set_option linter.all false
set_option autoImplicit false
set_option maxRecDepth 100000
set_option maxHeartbeats 400000
namespace VM
open PySem PySem.Spec PyProof.Rows L2

/-! ### expressions -/
section
variable {X : Cx} {W : WX'} {a b c e : Expr} {pos : Pos} {ma mb m : M D} {mt mu : M Bool}
def mC (d : D) : M D := fun sv => .ok d sv
theorem se_const {d : D} {v : V} (h : PE X e (tC v)) (r : ∀ F, Rp X.K F d v) : SE X W e (mC d) := pe_imp h fun σ H Q q => by
  obtain ⟨g, F, sv, hK, rl, q⟩ := q
  exact q v F H (Same.refl F) rl (by show Rp g.K F d v; rw [hK.1]; exact r F)
theorem se_int {i j pos} : SE X W (.Constant (.int i) j pos) (mC (.int i)) := se_const pe_int fun _ => rfl
theorem se_bl {b j pos} : SE X W (.Constant (.bool b) j pos) (mC (.bl b)) := se_const pe_bl fun _ => rfl
theorem se_non {j pos} : SE X W (.Constant .none j pos) (mC .non) := se_const pe_non fun _ => rfl
theorem se_str {x j pos} : SE X W (.Constant (.str x) j pos) (mC (.str x)) := se_const pe_str fun _ => rfl
/-- a slot of plain value is read -/
def mRd (i : Nat) : M D := fun sv => match sv[i]? with
  | some (.pl d) => .ok d sv
  | _ => .bad
/-- a slot is read for good: what it owns is frozen -/
def mMv (i : Nat) : M D := fun sv => match sv[i]? with
  | some (.pl d) => .ok d sv
  | some (.ow d) => .ok d (sv.set i (.pl d))
  | _ => .bad
/-- what a slot owns is taken -/
def mTk (i : Nat) : M D := fun sv => match sv[i]? with
  | some (.ow d) => .ok d (sv.set i .un)
  | _ => .bad
theorem Rl.at {g : G} {F H : Hp} {σ : L2.St} {sv : SV} (rl : Rl g F H σ sv) {i : Nat} {s : Sl} (h : sv[i]? = some s) : SlOk g F H σ[i]? s := rl.sl i s h
theorem se_rd {i : Nat} {x : Str} {pos : Pos} (h : PE X (.Name x pos) (tVar i)) : SE X W (.Name x pos) (mRd i) := pe_imp h fun σ H Q q => by
  obtain ⟨g, F, sv, hK, rl, q⟩ := q
  unfold mRd at q
  split at q
  · rename_i d hd
    obtain ⟨v, e1, hv⟩ := rl.at hd
    exact ⟨v, e1, q v F H (Same.refl F) rl hv⟩
  · exact False.elim q
theorem set_self {α : Type} {xs : List α} {i : Nat} {x : α} (h : xs[i]? = some x) : xs.set i x = xs := by
  apply List.ext_getElem?
  intro j
  by_cases e : i = j
  · subst e
    rw [List.getElem?_set_self (List.getElem?_eq_some_iff.mp h).1, h]
  · rw [List.getElem?_set_ne e]
theorem Rl.take {g : G} {F H : Hp} {σ : L2.St} {sv : SV} {i : Nat} {d : D} (rl : Rl g F H σ sv) (h : sv[i]? = some (.ow d)) :
    ∃ p, σ[i]? = some (some (.ref p)) ∧ ¬ g.fx p ∧ OwnP g.K F H d p ∧ Rl g F H σ (sv.set i .un) ∧ ∀ j, ¬ Ref σ (sv.set i .un) j p := by
  obtain ⟨p, e1, nf, o⟩ := rl.at h
  refine ⟨p, e1, nf, o, rl.forget i, fun j hj => ?_⟩
  have hi : i < sv.length := (List.getElem?_eq_some_iff.mp h).1
  obtain ⟨⟨s, e2, e3⟩, e4⟩ := hj
  by_cases hij : i = j
  · subst hij
    rw [List.getElem?_set_self hi] at e2
    cases e2
    rcases e3 with ⟨_, z⟩ | ⟨_, _, z⟩ <;> cases z
  · rw [List.getElem?_set_ne hij] at e2
    exact hij (rl.dj i j p ⟨⟨_, h, .inl ⟨d, rfl⟩⟩, e1⟩ ⟨⟨s, e2, e3⟩, e4⟩)
theorem OwnP.rep {K : PySem.W.Frag} {F H : Hp} {d : D} {p : Addr} (o : OwnP K F H d p) : ∃ u, H p = some u ∧ Rp K (upd F p u) d (.ref p) := by
  obtain ⟨n, o⟩ := o
  cases d with
  | lst ds =>
    obtain ⟨vs, h1, h2⟩ := o
    exact ⟨_, h1, p, vs, rfl, upd_same, RpL.mono (same_upd n) _ _ h2⟩
  | _ => exact False.elim o
/-- an owned object that is in no slot is frozen -/
theorem Rl.freeze {g : G} {F H : Hp} {σ : L2.St} {sv : SV} {d : D} {p : Addr} (rl : Rl g F H σ sv) (nf : ¬ g.fx p) (o : OwnP g.K F H d p) (nr : ∀ i, ¬ Ref σ sv i p) :
    ∃ F', Same F F' ∧ Rl g F' H σ sv ∧ Rp g.K F' d (.ref p) := by
  obtain ⟨u, h1, h2⟩ := o.rep
  exact ⟨_, same_upd o.1, rl.frz nf o.1 h1 nr, h2⟩
theorem se_mv {i : Nat} {x : Str} {pos : Pos} (h : PE X (.Name x pos) (tVar i)) : SE X W (.Name x pos) (mMv i) := pe_imp h fun σ H Q q => by
  obtain ⟨g, F, sv, hK, rl, q⟩ := q
  unfold mMv at q
  split at q
  · rename_i d hd
    obtain ⟨v, e1, hv⟩ := rl.at hd
    exact ⟨v, e1, q v F H (Same.refl F) rl hv⟩
  · rename_i d hd
    obtain ⟨p, e1, nf, o, rl1, nr⟩ := rl.take hd
    obtain ⟨F', s1, rl2, rp⟩ := rl1.freeze nf o nr
    refine ⟨.ref p, e1, q _ F' H s1 ?_ rp⟩
    have rl3 := rl2.setPl i rp
    rw [set_self e1, List.set_set] at rl3
    exact rl3
  · exact False.elim q
theorem so_tk {i : Nat} {x : Str} {pos : Pos} (h : PE X (.Name x pos) (tVar i)) : SO X W (.Name x pos) (mTk i) := pe_imp h fun σ H Q q => by
  obtain ⟨g, F, sv, hK, rl, q⟩ := q
  unfold mTk at q
  split at q
  · rename_i d hd
    obtain ⟨p, e1, nf, o, rl1, nr⟩ := rl.take hd
    exact ⟨.ref p, e1, q _ F H (Same.refl F) rl1 ⟨p, rfl, nf, o, nr⟩⟩
  · exact False.elim q
/-- an owned value, frozen -/
theorem se_of (h : SO X W e m) : SE X W e m := pe_imp h fun σ H Q q => by
  obtain ⟨g, F, sv, hK, rl, q⟩ := q
  refine ⟨g, F, sv, hK, rl, ?_⟩
  revert q
  cases m sv with
  | ok d s =>
    intro q v F1 H1 e1 rl1 r1
    obtain ⟨p, rfl, nf, o, nr⟩ := r1
    obtain ⟨F', s1, rl2, rp⟩ := rl1.freeze nf o nr
    exact q _ F' H1 (e1.trans s1) rl2 rp
  | err x s => exact fun q => q
  | bad => exact fun q => q

/-! #### operators -/
theorem se_op {op : Operator} {r : R2} {f : D → D → Option D} (ho : OpR X (binaryOp op) r) (hf : O2 X.K r f) (ha : SE X W a ma) (hb : SE X W b mb) : SE X W (.BinOp a op b pos) (m2 f ma mb) := pe_imp (pe_op ho ha hb) fun σ H Q q => tg_op2 hf q
theorem se_cmp {op : CmpOp} {r : R2} {f : D → D → Option D} (ho : OpR X (compareOp op) r) (hf : O2 X.K r f) (ha : SE X W a ma) (hb : SE X W b mb) (hm : behindInMarks op b = false) : SE X W (.Compare a [op] [b] pos) (m2 f ma mb) := pe_imp (pe_cmpR ho ha hb hm) fun σ H Q q => tg_op2 hf q
theorem se_un {op : UnaryOp} {r : V → Hp → VK → Prop} {f : D → Option D} (ho : UnR X (unaryOp op) r) (hf : O1 X.K r f) (ha : SE X W a ma) : SE X W (.UnaryOp op a pos) (m1 f ma) := pe_imp (pe_un ho ha) fun σ H Q q => tg_op1 hf q
theorem se_add (ha : SE X W a ma) (hb : SE X W b mb) : SE X W (.BinOp a .Add b pos) (m2 dAdd ma mb) := se_op op_addA o2_addA ha hb
theorem se_sub (ha : SE X W a ma) (hb : SE X W b mb) : SE X W (.BinOp a .Sub b pos) (m2 (dI2 cSub) ma mb) := se_op (op_toI op_sub) o2_subI ha hb
theorem se_mul (ha : SE X W a ma) (hb : SE X W b mb) : SE X W (.BinOp a .Mult b pos) (m2 (dI2 cMul) ma mb) := se_op op_mul o2_mulI ha hb
theorem se_div (ha : SE X W a ma) (hb : SE X W b mb) : SE X W (.BinOp a .FloorDiv b pos) (m2 (dI2 cDiv) ma mb) := se_op op_fdiv o2_divI ha hb
theorem se_mod (ha : SE X W a ma) (hb : SE X W b mb) : SE X W (.BinOp a .Mod b pos) (m2 (dI2 cMod) ma mb) := se_op op_mod o2_modI ha hb
theorem se_pow (ha : SE X W a ma) (hb : SE X W b mb) : SE X W (.BinOp a .Pow b pos) (m2 (dI2 cPow) ma mb) := se_op op_pow o2_powI ha hb
theorem se_eq (hu : X.A.units + 65 < cLine) (ha : SE X W a ma) (hb : SE X W b mb) : SE X W (.Compare a [.Eq] [b] pos) (m2 dEq ma mb) := se_cmp (op_eqA (by omega)) o2_eqA ha hb (nomark _)
theorem se_ne (hu : X.A.units + 65 < cLine) (ha : SE X W a ma) (hb : SE X W b mb) : SE X W (.Compare a [.NotEq] [b] pos) (m2 dNe ma mb) := se_cmp (op_neA (by omega)) o2_neA ha hb (nomark _)
theorem se_lt (ha : SE X W a ma) (hb : SE X W b mb) : SE X W (.Compare a [.Lt] [b] pos) (m2 (dCmp ciLt csLt) ma mb) := se_cmp op_ltA o2_cmp ha hb (nomark _)
theorem se_le (ha : SE X W a ma) (hb : SE X W b mb) : SE X W (.Compare a [.LtE] [b] pos) (m2 (dCI ciLe) ma mb) := se_cmp op_leI o2_ci ha hb (nomark _)
theorem se_gt (ha : SE X W a ma) (hb : SE X W b mb) : SE X W (.Compare a [.Gt] [b] pos) (m2 (dCI ciGt) ma mb) := se_cmp op_gtI o2_ci ha hb (nomark _)
theorem se_ge (ha : SE X W a ma) (hb : SE X W b mb) : SE X W (.Compare a [.GtE] [b] pos) (m2 (dCI ciGe) ma mb) := se_cmp op_geI o2_ci ha hb (nomark _)
theorem se_in (hu : X.A.units + 65 < cLine) (ha : SE X W a ma) (hb : SE X W b mb) (hm : behindInMarks .In b = false := by rfl) : SE X W (.Compare a [.In] [b] pos) (m2 dIn ma mb) := se_cmp (op_inA hu) o2_inA ha hb hm
theorem se_notIn (hu : X.A.units + 65 < cLine) (ha : SE X W a ma) (hb : SE X W b mb) (hm : behindInMarks .NotIn b = false := by rfl) : SE X W (.Compare a [.NotIn] [b] pos) (m2 dNotIn ma mb) := se_cmp (op_notInA hu) o2_notInA ha hb hm
theorem o2_is {K : PySem.W.Frag} : O2 K (fun x y H Q => (y = .non ∧ Q (.bl (decide (x = .non))) H) ∨ rIsB x y H Q) dIs := o2_pure fun F H a b d x y Q s e ha hb q => by
  unfold dIs at e
  split at e
  · cases e; cases hb
    exact .inl ⟨rfl, q _ (congrArg V.bl (isNon_rel ha))⟩
  · cases e; cases ha; cases hb
    exact .inr ⟨_, _, rfl, rfl, q _ rfl⟩
  · cases e
theorem o2_isNot {K : PySem.W.Frag} : O2 K (fun x y H Q => (y = .non ∧ Q (.bl (!decide (x = .non))) H) ∨ rNotB x y H Q) dIsNot := o2_pure fun F H a b d x y Q s e ha hb q => by
  unfold dIsNot at e
  split at e
  · cases e; cases hb
    exact .inl ⟨rfl, q _ (by show V.bl _ = V.bl _; rw [isNon_rel ha])⟩
  · cases e; cases ha; cases hb
    exact .inr ⟨_, _, rfl, rfl, q _ rfl⟩
  · cases e
theorem se_is (ha : SE X W a ma) (hb : SE X W b mb) : SE X W (.Compare a [.Is] [b] pos) (m2 dIs ma mb) := se_cmp (OpR.or op_isN op_isBl) o2_is ha hb (nomark _)
theorem se_isNot (ha : SE X W a ma) (hb : SE X W b mb) : SE X W (.Compare a [.IsNot] [b] pos) (m2 dIsNot ma mb) := se_cmp (OpR.or op_notN op_notBl) o2_isNot ha hb (nomark _)
def dNeg : D → Option D
  | .int i => some (.int (-i))
  | _ => none
theorem o1_neg {K : PySem.W.Frag} : O1 K (rU fun i => .int (-i)) dNeg := o1_pure fun F H a d x Q s e ha q => by
  cases a <;> try (cases e; done)
  cases e; exact ⟨_, ha, q _ rfl⟩
theorem se_neg (ha : SE X W a ma) : SE X W (.UnaryOp .USub a pos) (m1 dNeg ma) := se_un un_neg o1_neg ha

/-! #### tests -/
def mB (m : M D) : M Bool := fun sv => (m sv).bind fun d s => match d with
  | .bl b => .ok b s
  | _ => .bad
def mV (m : M Bool) : M D := fun sv => (m sv).bind fun b s => .ok (.bl b) s
def mNot (m : M Bool) : M Bool := fun sv => (m sv).bind fun b s => .ok (!b) s
def mAnd (ma mb : M Bool) : M Bool := fun sv => (ma sv).bind fun b s => if b = true then mb s else .ok false s
def mOr (ma mb : M Bool) : M Bool := fun sv => (ma sv).bind fun b s => if b = true then .ok true s else mb s
theorem tg_bl {K : PySem.W.Frag} {mg : MX} {σ : L2.St} {H : Hp} {Q : Bool → Hp → Prop} (h : tT K mg W (mB m) σ H Q) : tE K mg W m σ H fun x H1 => ∃ k, x = .bl k ∧ Q k H1 := by
  obtain ⟨g, F, sv, hK, rl, h⟩ := h
  refine ⟨g, F, sv, hK, rl, PostG.bind h fun d s1 x F1 H1 e1 rl1 rp1 h1 => ?_⟩
  cases d with
  | bl b => exact ⟨b, rp1, h1 b F1 H1 (Same.refl F1) rl1 rfl⟩
  | _ => exact False.elim h1
theorem st_val (h : SE X W e m) (he : ∀ whole, isTrue e X.env whole = (do let v ← whole; standAt e.pos; holding [v] (truthy v)) := by intro _; rfl) : ST X W e (mB m) := pt_imp (pt_val h he) fun σ H Q q => tg_bl q
theorem st_cmp {op : CmpOp} {r : R2} {f : D → D → Option D} (ho : OpR X (compareOp op) r) (hf : O2 X.K r f) (ha : SE X W a ma) (hb : SE X W b mb) (hm : behindInMarks op b = false) : ST X W (.Compare a [op] [b] pos) (mB (m2 f ma mb)) := pt_imp (pt_cmpR ho ha hb hm) fun σ H Q q => tg_op2 hf (tg_bl q)
theorem st_eq (hu : X.A.units + 65 < cLine) (ha : SE X W a ma) (hb : SE X W b mb) : ST X W (.Compare a [.Eq] [b] pos) (mB (m2 dEq ma mb)) := st_cmp (op_eqA (by omega)) o2_eqA ha hb (nomark _)
theorem st_ne (hu : X.A.units + 65 < cLine) (ha : SE X W a ma) (hb : SE X W b mb) : ST X W (.Compare a [.NotEq] [b] pos) (mB (m2 dNe ma mb)) := st_cmp (op_neA (by omega)) o2_neA ha hb (nomark _)
theorem st_lt (ha : SE X W a ma) (hb : SE X W b mb) : ST X W (.Compare a [.Lt] [b] pos) (mB (m2 (dCmp ciLt csLt) ma mb)) := st_cmp op_ltA o2_cmp ha hb (nomark _)
theorem st_le (ha : SE X W a ma) (hb : SE X W b mb) : ST X W (.Compare a [.LtE] [b] pos) (mB (m2 (dCI ciLe) ma mb)) := st_cmp op_leI o2_ci ha hb (nomark _)
theorem st_gt (ha : SE X W a ma) (hb : SE X W b mb) : ST X W (.Compare a [.Gt] [b] pos) (mB (m2 (dCI ciGt) ma mb)) := st_cmp op_gtI o2_ci ha hb (nomark _)
theorem st_ge (ha : SE X W a ma) (hb : SE X W b mb) : ST X W (.Compare a [.GtE] [b] pos) (mB (m2 (dCI ciGe) ma mb)) := st_cmp op_geI o2_ci ha hb (nomark _)
theorem st_in (hu : X.A.units + 65 < cLine) (ha : SE X W a ma) (hb : SE X W b mb) (hm : behindInMarks .In b = false := by rfl) : ST X W (.Compare a [.In] [b] pos) (mB (m2 dIn ma mb)) := st_cmp (op_inA hu) o2_inA ha hb hm
theorem st_notIn (hu : X.A.units + 65 < cLine) (ha : SE X W a ma) (hb : SE X W b mb) (hm : behindInMarks .NotIn b = false := by rfl) : ST X W (.Compare a [.NotIn] [b] pos) (mB (m2 dNotIn ma mb)) := st_cmp (op_notInA hu) o2_notInA ha hb hm
theorem st_is (ha : SE X W a ma) (hb : SE X W b mb) : ST X W (.Compare a [.Is] [b] pos) (mB (m2 dIs ma mb)) := st_cmp (OpR.or op_isN op_isBl) o2_is ha hb (nomark _)
theorem st_isNot (ha : SE X W a ma) (hb : SE X W b mb) : ST X W (.Compare a [.IsNot] [b] pos) (mB (m2 dIsNot ma mb)) := st_cmp (OpR.or op_notN op_notBl) o2_isNot ha hb (nomark _)
theorem st_not (h : ST X W a mt) : ST X W (.UnaryOp .Not a pos) (mNot mt) := pt_imp (pt_not h) fun σ H Q q => by
  obtain ⟨g, F, sv, hK, rl, q⟩ := q
  refine ⟨g, F, sv, hK, rl, PostG.bind q fun b s1 c F1 H1 e1 rl1 rp1 h1 => ?_⟩
  cases rp1
  exact h1 _ F1 H1 (Same.refl F1) rl1 rfl
abbrev SW (X : Cx) (W : WX') (e : Expr) (m : M Bool) : Prop := PW X e (tT X.K X.mx W m)
variable {rest : List Expr}
theorem sw_and1 (h : ST X W a mt) : SW X W (.BoolOp .And [a] pos) mt := pw_and1 h
theorem sw_or1 (h : ST X W a mt) : SW X W (.BoolOp .Or [a] pos) mt := pw_or1 h
theorem sw_and (ha : ST X W a mt) (hb : SW X W (.BoolOp .And (b :: rest) pos) mu) : SW X W (.BoolOp .And (a :: b :: rest) pos) (mAnd mt mu) := pw_imp (pw_and ha hb) fun σ H Q q => by
  obtain ⟨g, F, sv, hK, rl, q⟩ := q
  refine ⟨g, F, sv, hK, rl, PostG.bind q fun c s1 c' F1 H1 e1 rl1 rp1 h1 => ?_⟩
  cases rp1
  cases c with
  | true => exact ⟨g, F1, s1, hK, rl1, h1⟩
  | false => exact h1 false F1 H1 (Same.refl F1) rl1 rfl
theorem sw_or (ha : ST X W a mt) (hb : SW X W (.BoolOp .Or (b :: rest) pos) mu) : SW X W (.BoolOp .Or (a :: b :: rest) pos) (mOr mt mu) := pw_imp (pw_or ha hb) fun σ H Q q => by
  obtain ⟨g, F, sv, hK, rl, q⟩ := q
  refine ⟨g, F, sv, hK, rl, PostG.bind q fun c s1 c' F1 H1 e1 rl1 rp1 h1 => ?_⟩
  cases rp1
  cases c with
  | true => exact h1 true F1 H1 (Same.refl F1) rl1 rfl
  | false => exact ⟨g, F1, s1, hK, rl1, h1⟩
/-- and, or, not as values (of bools) -/
theorem se_one {op : BoolOp} (h : SE X W a ma) : SE X W (.BoolOp op [a] pos) ma := pe_one h
def mAndV (ma mb : M D) : M D := fun sv => (ma sv).bind fun d s => match d with
  | .bl c => if c = true then mb s else .ok (.bl false) s
  | _ => .bad
theorem se_and (ha : SE X W a ma) (hb : SE X W (.BoolOp .And (b :: rest) pos) mb) : SE X W (.BoolOp .And (a :: b :: rest) pos) (mAndV ma mb) := pe_imp (pe_and ha hb) fun σ H Q q => by
  obtain ⟨g, F, sv, hK, rl, q⟩ := q
  refine ⟨g, F, sv, hK, rl, PostG.bind q fun d s1 x F1 H1 e1 rl1 rp1 h1 => ?_⟩
  cases d with
  | bl c =>
    refine ⟨c, rp1, ?_⟩
    cases c with
    | true => exact ⟨g, F1, s1, hK, rl1, h1⟩
    | false => exact h1 _ F1 H1 (Same.refl F1) rl1 rfl
  | _ => exact False.elim h1
def mOrV (ma mb : M D) : M D := fun sv => (ma sv).bind fun d s => match d with
  | .bl c => if c = true then .ok (.bl true) s else mb s
  | _ => .bad
theorem se_or (ha : SE X W a ma) (hb : SE X W (.BoolOp .Or (b :: rest) pos) mb) : SE X W (.BoolOp .Or (a :: b :: rest) pos) (mOrV ma mb) := pe_imp (pe_or ha hb) fun σ H Q q => by
  obtain ⟨g, F, sv, hK, rl, q⟩ := q
  refine ⟨g, F, sv, hK, rl, PostG.bind q fun d s1 x F1 H1 e1 rl1 rp1 h1 => ?_⟩
  cases d with
  | bl c =>
    refine ⟨c, rp1, ?_⟩
    cases c with
    | true => exact h1 _ F1 H1 (Same.refl F1) rl1 rfl
    | false => exact ⟨g, F1, s1, hK, rl1, h1⟩
  | _ => exact False.elim h1
def dNot : D → Option D
  | .bl b => some (.bl !b)
  | _ => none
theorem se_not (ha : SE X W a ma) : SE X W (.UnaryOp .Not a pos) (m1 dNot ma) := pe_imp (pe_not ha) fun σ H Q q => by
  obtain ⟨g, F, sv, hK, rl, q⟩ := q
  refine ⟨g, F, sv, hK, rl, PostG.bind q fun d s1 x F1 H1 e1 rl1 rp1 h1 => ?_⟩
  cases d with
  | bl c => exact ⟨c, rp1, h1 _ F1 H1 (Same.refl F1) rl1 rfl⟩
  | _ => exact False.elim h1
def mIf (t : M Bool) (ma mb : M D) : M D := fun sv => (t sv).bind fun b s => if b = true then ma s else mb s
theorem se_if (hc : ST X W c mt) (ha : SE X W a ma) (hb : SE X W b mb) : SE X W (.IfExp c a b pos) (mIf mt ma mb) := pe_imp (pe_ifExp hc ha hb) fun σ H Q q => by
  obtain ⟨g, F, sv, hK, rl, q⟩ := q
  refine ⟨g, F, sv, hK, rl, PostG.bind q fun c s1 c' F1 H1 e1 rl1 rp1 h1 => ?_⟩
  cases rp1
  cases c with
  | true => exact ⟨g, F1, s1, hK, rl1, h1⟩
  | false => exact ⟨g, F1, s1, hK, rl1, h1⟩

/-! #### subscripts -/
def dIx : D → D → Option D
  | .tup xs, .int i => atI xs i
  | .lst xs, .int i => atI xs i
  | .fl xs, .int i => atI xs i
  | .str z, .int i => if z.length ≤ sizeLine then (atI z.cps.toList i).map fun c => .str ⟨#[c]⟩ else none
  | _, _ => none
theorem atI_rel {K : PySem.W.Frag} {F : Hp} {ds : List D} {vs : List V} {i : Int} {d : D} (h : RpL K F ds vs) (e : atI ds i = some d) : ∃ v, atI vs i = some v ∧ Rp K F d v := by
  unfold atI at e ⊢
  rw [← h.length]
  cases hx : ixN ds.length i with
  | none => rw [hx] at e; cases e
  | some j =>
    rw [hx] at e
    exact h.get j d e
theorem o2_ix {K : PySem.W.Frag} : O2 K (rIx K) dIx := o2_pure fun F H a b d x y Q s e ha hb q => by
  unfold dIx at e
  split at e
  · obtain ⟨p, vs, rfl, h1, h2⟩ := ha
    obtain ⟨v, e1, rv⟩ := atI_rel h2 e
    exact .inr (.inl ⟨p, vs, _, v, rfl, hb, sqT_mono s h1, e1, q v rv⟩)
  · obtain ⟨p, vs, rfl, h1, h2⟩ := ha
    obtain ⟨v, e1, rv⟩ := atI_rel h2 e
    exact .inl ⟨p, vs, _, v, rfl, hb, .inl (.inl (s _ _ h1)), e1, q v rv⟩
  · obtain ⟨p, vs, rfl, h1, h2⟩ := ha
    obtain ⟨v, e1, rv⟩ := atI_rel h2 e
    exact .inl ⟨p, vs, _, v, rfl, hb, s.seq h1, e1, q v rv⟩
  · split at e
    · obtain ⟨c, e1, rfl⟩ := Option.map_eq_some_iff.mp e
      exact .inr (.inr ⟨_, _, c, ha, hb, by assumption, e1, q _ rfl⟩)
    · cases e
  · cases e
theorem se_ix (ha : SE X W a ma) (hb : SE X W b mb) (hs : PlainIx b := by exact fun _ _ => rfl) : SE X W (.Subscript a b pos) (m2 dIx ma mb) := pe_imp (pe_ix ix_seq ha hb hs) fun σ H Q q => tg_op2 o2_ix q

/-! #### slices -/
abbrev MO := M (Option Int)
def RelOI (_ : G) (_ _ : Hp) (_ : L2.St) (_ : SV) (a b : Option Int) : Prop := b = a
abbrev SP' (X : Cx) (W : WX') (e : Option Expr) (m : MO) : Prop := PO X e (tG X.K X.mx W RelOI m)
def moN : MO := fun sv => .ok none sv
def moS (m : M D) : MO := fun sv => (m sv).bind fun d s => match d with
  | .int i => .ok (some i) s
  | _ => .bad
theorem po_imp {eo : Option Expr} {t t' : TO} (h : PO X eo t) (k : ∀ σ H Q, t' σ H Q → t σ H Q) : PO X eo t' := ⟨fun pins s σ H Q I q => h.run pins s σ H Q I (k σ H Q q)⟩
theorem sp_none : SP' X W none moN := po_imp po_none fun σ H Q q => by
  obtain ⟨g, F, sv, hK, rl, q⟩ := q
  exact q none F H (Same.refl F) rl rfl
theorem sp_some (h : SE X W a ma) : SP' X W (some a) (moS ma) := po_imp (po_some h) fun σ H Q q => by
  obtain ⟨g, F, sv, hK, rl, q⟩ := q
  refine ⟨g, F, sv, hK, rl, PostG.bind q fun d s1 x F1 H1 e1 rl1 rp1 h1 => ?_⟩
  cases d with
  | int i => exact ⟨i, rp1, h1 _ F1 H1 (Same.refl F1) rl1 rfl⟩
  | _ => exact False.elim h1
def cutD {α : Type} (xs : List α) (lo hi : Option Int) : List α := (xs.drop (HT.sIx xs.length 0 lo)).take (HT.sIx xs.length xs.length hi - HT.sIx xs.length 0 lo)
def dSl : D → Option Int → Option Int → Option D
  | .tup xs, lo, hi => some (.tup (cutD xs lo hi))
  | .lst xs, lo, hi => some (.lst (cutD xs lo hi))
  | .fl xs, lo, hi => some (.lst (cutD xs lo hi))
  | .str z, lo, hi => if z.length ≤ sizeLine then some (.str (cutS z lo hi)) else none
  | _, _, _ => none
def mSl (m : M D) (ml mh : MO) : M D := fun sv => (m sv).bind fun d s1 => (ml s1).bind fun lo s2 => (mh s2).bind fun hi s3 => match dSl d lo hi with
  | some r => .ok r s3
  | none => .bad
def rSlAll (K : PySem.W.Frag) : V → Option Int → Option Int → Hp → VK → Prop := fun x lo hi H Q => (rSlL K x lo hi H Q ∨ rSlA K x lo hi H Q) ∨ rSlS x lo hi H Q
theorem sl_all : SlR X (rSlAll X.K) := SlR.or (SlR.or sl_list sl_tupA) sl_str
theorem cut_rel {K : PySem.W.Frag} {F : Hp} {ds : List D} {vs : List V} (lo hi : Option Int) (h : RpL K F ds vs) : RpL K F (cutD ds lo hi) (cutV vs lo hi) := by
  unfold cutD cutV
  rw [← h.length]
  exact (h.drop _).take _
theorem se_slice {eo eu : Option Expr} {p2 : Pos} {ml mh : MO} (ha : SE X W a ma) (hl : SP' X W eo ml) (hu : SP' X W eu mh) : SE X W (.Subscript a (.Slice eo eu none p2) pos) (mSl ma ml mh) := pe_imp (pe_slice sl_all ha hl hu) fun σ H Q q => by
  obtain ⟨g, F, sv, hK, rl, q⟩ := q
  refine ⟨g, F, sv, hK, rl, PostG.bind q fun d s1 x F1 H1 e1 rl1 rp1 h1 => ?_⟩
  refine ⟨g, F1, s1, hK, rl1, PostG.bind h1 fun lo s2 lo' F2 H2 e2 rl2 rp2 h2 => ?_⟩
  refine ⟨g, F2, s2, hK, rl2, PostG.bind h2 fun hi s3 hi' F3 H3 e3 rl3 rp3 h3 => ?_⟩
  cases rp2; cases rp3
  have rp : Rp g.K F3 d x := Rp.mono (e2.trans e3) _ _ rp1
  rw [← hK.1]
  have list : ∀ {ds : List D} {p : Addr} {vs : List V}, x = .ref p → SqL g.K H3 p vs → RpL g.K F3 ds vs → PostG X.mx g F3 σ (.ok (.lst (cutD ds lo hi)) s3) W RelE Q → rSlAll g.K x lo hi H3 Q := fun {ds p vs} ex h4 h5 h6 => by
    refine .inl (.inl ⟨p, vs, ex, h4, fun l hl => ?_⟩)
    have sF : Same F3 (upd F3 l (.lst (cutV vs lo hi))) := same_upd (rl3.sub.free hl)
    exact h6 _ _ _ sF (rl3.lay hl) ⟨l, _, rfl, upd_same, RpL.mono sF _ _ (cut_rel lo hi h5)⟩
  cases d with
  | tup ds =>
    obtain ⟨p, vs, rfl, h4, h5⟩ := rp
    have h5' := cut_rel lo hi h5
    refine .inl (.inr ⟨p, vs, rfl, sqT_mono rl3.sub h4, fun w => ?_, fun w l hl => ?_⟩)
    · refine h3 _ F3 H3 (Same.refl F3) rl3 ⟨p, vs, rfl, h4, ?_⟩
      have : cutV vs lo hi = vs := by
        unfold cutV
        rw [w.1, w.2]
        simp
      rwa [this] at h5'
    · have sF : Same F3 (upd F3 l (.tup (cutV vs lo hi))) := same_upd (rl3.sub.free hl)
      exact h3 _ _ _ sF (rl3.lay hl) ⟨l, _, rfl, .inl (.inl upd_same), RpL.mono sF _ _ h5'⟩
  | lst ds =>
    obtain ⟨p, vs, rfl, h4, h5⟩ := rp
    exact list rfl (.inl (.inl (rl3.sub _ _ h4))) h5 h3
  | fl ds =>
    obtain ⟨p, vs, rfl, h4, h5⟩ := rp
    exact list rfl (rl3.sub.seq h4) h5 h3
  | str z =>
    have h3' : PostG X.mx g F3 σ (match dSl (.str z) lo hi with | some r => .ok r s3 | none => .bad) W RelE Q := h3
    simp only [dSl] at h3'
    split at h3'
    · rename_i r hr
      split at hr
      · cases hr
        exact .inr ⟨z, rp, by assumption, h3' _ F3 H3 (Same.refl F3) rl3 rfl⟩
      · cases hr
    · exact False.elim h3'
  | _ => exact False.elim h3

/-! #### arguments, displays -/
def RelL (g : G) (F' _H' : Hp) (_ : L2.St) (_ : SV) (ds : List D) (vs : List V) : Prop := RpL g.K F' ds vs
abbrev SA (X : Cx) (W : WX') (es : List Expr) (m : M (List D)) : Prop := PA X es (tG X.K X.mx W RelL m)
theorem pa_imp {es : List Expr} {t t' : TA} (h : PA X es t) (k : ∀ σ H Q, t' σ H Q → t σ H Q) : PA X es t' := ⟨fun p pins s σ H Q I q => h.run p pins s σ H Q I (k σ H Q q)⟩
def mNil : M (List D) := fun sv => .ok [] sv
def mCons (m : M D) (ms : M (List D)) : M (List D) := fun sv => (m sv).bind fun d s1 => (ms s1).bind fun ds s2 => .ok (d :: ds) s2
variable {es : List Expr} {ms : M (List D)}
theorem sa_nil : SA X W [] mNil := pa_imp pa_nil fun σ H Q q => by
  obtain ⟨g, F, sv, hK, rl, q⟩ := q
  exact q [] F H (Same.refl F) rl rfl
theorem sa_cons (ha : SE X W e m) (hr : SA X W es ms) (hs : starEach (e :: es) X.env = (false, eval e X.env) :: starEach es X.env := by rfl) : SA X W (e :: es) (mCons m ms) := pa_imp (pa_cons ha hr hs) fun σ H Q q => by
  obtain ⟨g, F, sv, hK, rl, q⟩ := q
  refine ⟨g, F, sv, hK, rl, PostG.bind q fun d s1 x F1 H1 e1 rl1 rp1 h1 => ?_⟩
  refine ⟨g, F1, s1, hK, rl1, PostG.bind h1 fun ds s2 xs F2 H2 e2 rl2 rp2 h2 => ?_⟩
  exact h2 _ F2 H2 (Same.refl F2) rl2 ⟨x, xs, rfl, Rp.mono e2 _ _ rp1, rp2⟩
def mTup (ms : M (List D)) : M D := fun sv => (ms sv).bind fun ds s => if ds.length ≤ sizeLine then .ok (.tup ds) s else .bad
def mLst (ms : M (List D)) : M D := fun sv => (ms sv).bind fun ds s => if ds.length ≤ sizeLine then .ok (.lst ds) s else .bad
theorem se_tup {x1} (h : SA X W es ms) : SE X W (.Tuple es x1 pos) (mTup ms) := pe_imp (pe_tup h) fun σ H Q q => by
  obtain ⟨g, F, sv, hK, rl, q⟩ := q
  refine ⟨g, F, sv, hK, rl, PostG.bind q fun ds s1 vs F1 H1 e1 rl1 rp1 h1 => ?_⟩
  split at h1
  · refine ⟨by rw [← RpL.length rp1]; assumption, fun p hp => ?_⟩
    have sF : Same F1 (upd F1 p (.tup vs)) := same_upd (rl1.sub.free hp)
    exact h1 _ _ _ sF (rl1.lay hp) ⟨p, _, rfl, .inl (.inl upd_same), RpL.mono sF _ _ rp1⟩
  · exact False.elim h1
theorem so_lst (h : SA X W es ms) : SO X W (.List es pos) (mLst ms) := pe_imp (pe_lst h) fun σ H Q q => by
  obtain ⟨g, F, sv, hK, rl, q⟩ := q
  refine ⟨g, F, sv, hK, rl, PostG.bind q fun ds s1 vs F1 H1 e1 rl1 rp1 h1 => ?_⟩
  split at h1
  · refine ⟨by rw [← RpL.length rp1]; assumption, fun p hp => ?_⟩
    exact h1 _ _ _ (Same.refl F1) (rl1.layO hp) ⟨p, rfl, rl1.nofx hp, ⟨rl1.sub.free hp, vs, upd_same, rp1⟩, fun i hi => rl1.noRef hp i hi⟩
  · exact False.elim h1
theorem se_lst (h : SA X W es ms) : SE X W (.List es pos) (mLst ms) := se_of (so_lst h)
/-- xs * k: a new list -/
def dRep : D → D → Option D
  | .lst xs, .int k => if -(2 ^ 63) ≤ k ∧ k < 2 ^ 63 ∧ xs.length * k.toNat ≤ sizeLine then some (.lst (List.replicate k.toNat xs).flatten) else none
  | _, _ => none
theorem rep_rel {K : PySem.W.Frag} {F : Hp} {ds : List D} {vs : List V} (h : RpL K F ds vs) : ∀ n : Nat, RpL K F (List.replicate n ds).flatten (List.replicate n vs).flatten
  | 0 => rfl
  | n + 1 => by
    rw [List.replicate_succ, List.replicate_succ, List.flatten_cons, List.flatten_cons]
    exact h.append (rep_rel h n)
theorem so_rep (ha : SE X W a ma) (hb : SE X W b mb) : SO X W (.BinOp a .Mult b pos) (m2 dRep ma mb) := pe_imp (pe_op op_rep ha hb) fun σ H Q q => by
  obtain ⟨g, F, sv, hK, rl, q⟩ := q
  refine ⟨g, F, sv, hK, rl, PostG.bind q fun d s1 x F1 H1 e1 rl1 rp1 h1 => ?_⟩
  refine ⟨g, F1, s1, hK, rl1, PostG.bind h1 fun d2 s2 y F2 H2 e2 rl2 rp2 h2 => ?_⟩
  cases hd : dRep d d2 with
  | none => rw [hd] at h2; exact False.elim h2
  | some r =>
    rw [hd] at h2
    unfold dRep at hd
    split at hd
    · split at hd
      · rename_i hz
        cases hd
        obtain ⟨p, vs, rfl, h4, h5⟩ := (Rp.mono e2 _ _ rp1 : Rp g.K F2 (.lst _) x)
        refine ⟨p, _, vs, rfl, rp2, rl2.sub _ _ h4, hz.1, hz.2.1, by rw [← h5.length]; exact hz.2.2, fun l hl => ?_⟩
        exact h2 _ _ _ (Same.refl F2) (rl2.layO hl) ⟨l, rfl, rl2.nofx hl, ⟨rl2.sub.free hl, _, upd_same, rep_rel h5 _⟩, fun i hi => rl2.noRef hl i hi⟩
      · cases hd
    · cases hd
theorem se_rep (ha : SE X W a ma) (hb : SE X W b mb) : SE X W (.BinOp a .Mult b pos) (m2 dRep ma mb) := se_of (so_rep ha hb)
end
end VM

set_option Elab.async false
set_option linter.all false
set_option autoImplicit false
set_option maxRecDepth 100000
set_option maxHeartbeats 400000
namespace VM
open PySem PySem.Spec PyProof.Rows L2

/-! ### built-ins called with values -/
def OC (K : PySem.W.Frag) (r : List V → Hp → VK → Prop) (f : List D → Option D) : Prop :=
  ∀ (g : G) (F H : Hp) (σ : L2.St) (sv : SV) (ds : List D) (d : D) (vs : List V) (Q : VK), g.K = K → Rl g F H σ sv → f ds = some d → RpL K F ds vs →
    (∀ v F' H', Same F F' → Rl g F' H' σ sv → Rp K F' d v → Q v H') → r vs H Q
/-- .. whose answer is a new, owned object -/
def OCO (K : PySem.W.Frag) (r : List V → Hp → VK → Prop) (f : List D → Option D) : Prop :=
  ∀ (g : G) (F H : Hp) (σ : L2.St) (sv : SV) (ds : List D) (d : D) (vs : List V) (Q : VK), g.K = K → Rl g F H σ sv → f ds = some d → RpL K F ds vs →
    (∀ v F' H', Same F F' → Rl g F' H' σ sv → RelO' g F' H' σ sv d v → Q v H') → r vs H Q
def mCall1 (f : List D → Option D) (ms : M (List D)) : M D := fun sv => (ms sv).bind fun ds s => match f ds with
  | some d => .ok d s
  | none => .bad
theorem oc_pure {K : PySem.W.Frag} {r : List V → Hp → VK → Prop} {f : List D → Option D} (h : ∀ (F H : Hp) (ds : List D) (d : D) (vs : List V) (Q : VK), Same F H → f ds = some d → RpL K F ds vs → (∀ v, Rp K F d v → Q v H) → r vs H Q) : OC K r f :=
  fun g F H σ sv ds d vs Q _ rl e hv q => h F H ds d vs Q rl.sub e hv fun v rv => q v F H (Same.refl F) rl rv
theorem OC.or {K : PySem.W.Frag} {r r' : List V → Hp → VK → Prop} {f f' : List D → Option D} (h : OC K r f) (h' : OC K r' f') : OC K (fun x H Q => r x H Q ∨ r' x H Q) (fun a => (f a).or (f' a)) := by
  intro g F H σ sv ds d vs Q hK rl e hv q
  dsimp only at e
  cases e1 : f ds with
  | some d' =>
    rw [e1] at e
    cases (show d' = d by simpa using e)
    exact .inl (h g F H σ sv ds d vs Q hK rl e1 hv q)
  | none =>
    rw [e1] at e
    exact .inr (h' g F H σ sv ds d vs Q hK rl (by simpa using e) hv q)
section
variable {X : Cx} {W : WX'} {x : Str} {p pos : Pos} {e : Expr} {es : List Expr} {ms : M (List D)} {id T : String} {r : List V → Hp → VK → Prop} {f : List D → Option D}
theorem tg_call {K : PySem.W.Frag} {mg : MX} (hf : OC K r f) {σ : L2.St} {H : Hp} {Q : VK} (h : tE K mg W (mCall1 f ms) σ H Q) : tCB r (tG K mg W RelL ms) σ H Q := by
  obtain ⟨g, F, sv, hK, rl, h⟩ := h
  refine ⟨g, F, sv, hK, rl, PostG.bind h fun ds s1 vs F1 H1 e1 rl1 rp1 h1 => ?_⟩
  obtain ⟨hK, hMx⟩ := hK; subst hK
  cases hd : f ds with
  | none => rw [hd] at h1; exact False.elim h1
  | some d =>
    rw [hd] at h1
    exact hf g F1 H1 σ s1 ds d vs Q rfl rl1 hd rp1 fun v F' H' e3 rl3 rp3 => h1 v F' H' e3 rl3 rp3
theorem tg_callO {K : PySem.W.Frag} {mg : MX} (hf : OCO K r f) {σ : L2.St} {H : Hp} {Q : VK} (h : tO K mg W (mCall1 f ms) σ H Q) : tCB r (tG K mg W RelL ms) σ H Q := by
  obtain ⟨g, F, sv, hK, rl, h⟩ := h
  refine ⟨g, F, sv, hK, rl, PostG.bind h fun ds s1 vs F1 H1 e1 rl1 rp1 h1 => ?_⟩
  obtain ⟨hK, hMx⟩ := hK; subst hK
  cases hd : f ds with
  | none => rw [hd] at h1; exact False.elim h1
  | some d =>
    rw [hd] at h1
    exact hf g F1 H1 σ s1 ds d vs Q rfl rl1 hd rp1 fun v F' H' e3 rl3 rp3 => h1 v F' H' e3 rl3 rp3
theorem se_callB (hc : CallR X (.builtin id) r) (hf : OC X.K r f) (hg : Gl X x) (hm : X.mg x = none) (hv : bootBuiltins x = some (.builtin id)) (ha : SA X W (e :: es) ms) (hn : x ≠ "__name__" := by decide) (hdb : (x == ("__debug__" : Str)) = false := by decide)
    (h1 : starEach (e :: es) X.env = (false, eval e X.env) :: starEach es X.env := by rfl) (h2 : (backTo pos (starEach es X.env)).any (·.1) = false := by rfl) : SE X W (.Call (.Name x p) (e :: es) [] pos) (mCall1 f ms) :=
  pe_imp (pe_callB hc hg hm hv ha hn hdb h1 h2) fun σ H Q q => tg_call hf q
theorem so_callB (hc : CallR X (.builtin id) r) (hf : OCO X.K r f) (hg : Gl X x) (hm : X.mg x = none) (hv : bootBuiltins x = some (.builtin id)) (ha : SA X W (e :: es) ms) (hn : x ≠ "__name__" := by decide) (hdb : (x == ("__debug__" : Str)) = false := by decide)
    (h1 : starEach (e :: es) X.env = (false, eval e X.env) :: starEach es X.env := by rfl) (h2 : (backTo pos (starEach es X.env)).any (·.1) = false := by rfl) : SO X W (.Call (.Name x p) (e :: es) [] pos) (mCall1 f ms) :=
  pe_imp (pe_callB hc hg hm hv ha hn hdb h1 h2) fun σ H Q q => tg_callO hf q
theorem se_callTy (hc : CallR X (.type T) r) (hf : OC X.K r f) (hg : Gl X x) (hm : X.mg x = none) (hv : bootBuiltins x = some (.type T)) (ha : SA X W (e :: es) ms) (hn : x ≠ "__name__" := by decide) (hdb : (x == ("__debug__" : Str)) = false := by decide)
    (h1 : starEach (e :: es) X.env = (false, eval e X.env) :: starEach es X.env := by rfl) (h2 : (backTo pos (starEach es X.env)).any (·.1) = false := by rfl) : SE X W (.Call (.Name x p) (e :: es) [] pos) (mCall1 f ms) :=
  pe_imp (pe_callTy hc hg hm hv ha hn hdb h1 h2) fun σ H Q q => tg_call hf q
theorem so_callTy (hc : CallR X (.type T) r) (hf : OCO X.K r f) (hg : Gl X x) (hm : X.mg x = none) (hv : bootBuiltins x = some (.type T)) (ha : SA X W (e :: es) ms) (hn : x ≠ "__name__" := by decide) (hdb : (x == ("__debug__" : Str)) = false := by decide)
    (h1 : starEach (e :: es) X.env = (false, eval e X.env) :: starEach es X.env := by rfl) (h2 : (backTo pos (starEach es X.env)).any (·.1) = false := by rfl) : SO X W (.Call (.Name x p) (e :: es) [] pos) (mCall1 f ms) :=
  pe_imp (pe_callTy hc hg hm hv ha hn hdb h1 h2) fun σ H Q q => tg_callO hf q

/-! #### len, int, tuple, list, min, max, sorted, repr -/
def dLen : List D → Option D
  | [.tup xs] => some (.int xs.length)
  | [.lst xs] => some (.int xs.length)
  | [.fl xs] => some (.int xs.length)
  | [.str z] => if z.length ≤ sizeLine then some (.int z.length) else none
  | _ => none
def dInt : List D → Option D
  | [.int i] => some (.int i)
  | [.bl b] => some (.int (if b then 1 else 0))
  | _ => none
def dTuple : List D → Option D
  | [.tup xs] => some (.tup xs)
  | [.lst xs] => some (.tup xs)
  | [.fl xs] => some (.tup xs)
  | _ => none
def dList : List D → Option D
  | [.tup xs] => some (.lst xs)
  | [.lst xs] => some (.lst xs)
  | [.fl xs] => some (.lst xs)
  | _ => none
def dMin2 : List D → Option D
  | [.int i, .int j] => some (.int (if j < i then j else i))
  | _ => none
def dMax2 : List D → Option D
  | [.int i, .int j] => some (.int (if j > i then j else i))
  | _ => none
theorem RpL.one_inv {K : PySem.W.Frag} {F : Hp} {d : D} {vs : List V} (h : RpL K F [d] vs) : ∃ v, vs = [v] ∧ Rp K F d v := by
  obtain ⟨v, r, rfl, h1, rfl⟩ := h
  exact ⟨v, rfl, h1⟩
theorem oc_len {K : PySem.W.Frag} : OC K (fun xs H Q => (∃ p ys, xs = [.ref p] ∧ (SqL K H p ys ∨ SqT K H p ys) ∧ Q (.int ys.length) H) ∨ (∃ z, xs = [.str z] ∧ z.length ≤ sizeLine ∧ Q (.int z.length) H)) dLen := oc_pure fun F H ds d vs Q s e hv q => by
  unfold dLen at e
  split at e
  · cases e
    obtain ⟨v, rfl, p, us, rfl, h1, h2⟩ := hv.one_inv
    exact .inl ⟨p, us, rfl, .inr (sqT_mono s h1), q _ (by rw [← h2.length]; rfl)⟩
  · cases e
    obtain ⟨v, rfl, p, us, rfl, h1, h2⟩ := hv.one_inv
    exact .inl ⟨p, us, rfl, .inl (.inl (.inl (s _ _ h1))), q _ (by rw [← h2.length]; rfl)⟩
  · cases e
    obtain ⟨v, rfl, p, us, rfl, h1, h2⟩ := hv.one_inv
    exact .inl ⟨p, us, rfl, .inl (s.seq h1), q _ (by rw [← h2.length]; rfl)⟩
  · split at e
    · cases e
      obtain ⟨v, rfl, h1⟩ := hv.one_inv
      cases h1
      exact .inr ⟨_, rfl, by assumption, q _ rfl⟩
    · cases e
  · cases e
theorem oc_int {K : PySem.W.Frag} : OC K (fun xs H Q => (∃ i, xs = [V.int i] ∧ Q (.int i) H) ∨ ∃ k, xs = [V.bl k] ∧ Q (.int (if k then 1 else 0)) H) dInt := oc_pure fun F H ds d vs Q s e hv q => by
  unfold dInt at e
  split at e
  · cases e
    obtain ⟨v, rfl, h1⟩ := hv.one_inv
    cases h1
    exact .inl ⟨_, rfl, q _ rfl⟩
  · cases e
    obtain ⟨v, rfl, h1⟩ := hv.one_inv
    cases h1
    exact .inr ⟨_, rfl, q _ rfl⟩
  · cases e
theorem oc_tuple {K : PySem.W.Frag} : OC K (fun xs H Q => ∃ p ys, xs = [V.ref p] ∧ ((SqL K H p ys ∧ ∀ l, H l = none → Q (.ref l) (upd H l (.tup ys))) ∨ (SqT K H p ys ∧ Q (.ref p) H))) dTuple := by
  intro g F H σ sv ds d vs Q hK rl e hv q
  have list : ∀ {xs : List D} {p : Addr} {us : List V}, SqL K H p us → RpL K F xs us → d = .tup xs → ∃ p' ys, [V.ref p] = [V.ref p'] ∧ ((SqL K H p' ys ∧ ∀ l, H l = none → Q (.ref l) (upd H l (.tup ys))) ∨ (SqT K H p' ys ∧ Q (.ref p') H)) := fun {xs p us} h1 h2 ed => by
    subst ed
    refine ⟨p, us, rfl, .inl ⟨h1, fun l hl => ?_⟩⟩
    have sF : Same F (upd F l (.tup us)) := same_upd (rl.sub.free hl)
    exact q _ _ _ sF (rl.lay hl) ⟨l, _, rfl, .inl (.inl upd_same), RpL.mono sF _ _ h2⟩
  unfold dTuple at e
  split at e
  · cases e
    obtain ⟨v, rfl, p, us, rfl, h1, h2⟩ := hv.one_inv
    exact ⟨p, us, rfl, .inr ⟨sqT_mono rl.sub h1, q _ F H (Same.refl F) rl ⟨p, us, rfl, h1, h2⟩⟩⟩
  · cases e
    obtain ⟨v, rfl, p, us, rfl, h1, h2⟩ := hv.one_inv
    exact list (.inl (.inl (rl.sub _ _ h1))) h2 rfl
  · cases e
    obtain ⟨v, rfl, p, us, rfl, h1, h2⟩ := hv.one_inv
    exact list (rl.sub.seq h1) h2 rfl
  · cases e
theorem oc_list {K : PySem.W.Frag} : OCO K (fun xs H Q => ∃ p ys, xs = [V.ref p] ∧ (SqL K H p ys ∨ SqT K H p ys) ∧ ∀ l, H l = none → Q (.ref l) (upd H l (.lst ys))) dList := by
  intro g F H σ sv ds d vs Q hK rl e hv q
  subst hK
  have fin : ∀ {xs : List D} {us : List V}, RpL g.K F xs us → d = .lst xs → ∀ l, H l = none → Q (.ref l) (upd H l (.lst us)) := fun {xs us} h2 ed l hl => by
    subst ed
    exact q _ F _ (Same.refl F) (rl.layO hl) ⟨l, rfl, rl.nofx hl, ⟨rl.sub.free hl, us, upd_same, h2⟩, fun i hi => rl.noRef hl i hi⟩
  unfold dList at e
  split at e
  · cases e
    obtain ⟨v, rfl, p, us, rfl, h1, h2⟩ := hv.one_inv
    exact ⟨p, us, rfl, .inr (sqT_mono rl.sub h1), fin h2 rfl⟩
  · cases e
    obtain ⟨v, rfl, p, us, rfl, h1, h2⟩ := hv.one_inv
    exact ⟨p, us, rfl, .inl (.inl (.inl (rl.sub _ _ h1))), fin h2 rfl⟩
  · cases e
    obtain ⟨v, rfl, p, us, rfl, h1, h2⟩ := hv.one_inv
    exact ⟨p, us, rfl, .inl (rl.sub.seq h1), fin h2 rfl⟩
  · cases e
theorem RpL.two_inv {K : PySem.W.Frag} {F : Hp} {d e : D} {vs : List V} (h : RpL K F [d, e] vs) : ∃ v u, vs = [v, u] ∧ Rp K F d v ∧ Rp K F e u := by
  obtain ⟨v, r, rfl, h1, u, r', rfl, h2, rfl⟩ := h
  exact ⟨v, u, rfl, h1, h2⟩
theorem oc_min2 {K : PySem.W.Frag} : OC K (fun xs H Q => ∃ i j, xs = [V.int i, V.int j] ∧ Q (.int (if j < i then j else i)) H) dMin2 := oc_pure fun F H ds d vs Q s e hv q => by
  unfold dMin2 at e
  split at e
  · cases e
    obtain ⟨v, u, rfl, h1, h2⟩ := hv.two_inv
    cases h1; cases h2
    exact ⟨_, _, rfl, q _ rfl⟩
  · cases e
theorem oc_max2 {K : PySem.W.Frag} : OC K (fun xs H Q => ∃ i j, xs = [V.int i, V.int j] ∧ Q (.int (if j > i then j else i)) H) dMax2 := oc_pure fun F H ds d vs Q s e hv q => by
  unfold dMax2 at e
  split at e
  · cases e
    obtain ⟨v, u, rfl, h1, h2⟩ := hv.two_inv
    cases h1; cases h2
    exact ⟨_, _, rfl, q _ rfl⟩
  · cases e
theorem se_len (hg : Gl X "len") (hm : X.mg "len" = none) (ha : SA X W (e :: es) ms)
    (h1 : starEach (e :: es) X.env = (false, eval e X.env) :: starEach es X.env := by rfl) (h2 : (backTo pos (starEach es X.env)).any (·.1) = false := by rfl) : SE X W (.Call (.Name "len" p) (e :: es) [] pos) (mCall1 dLen ms) :=
  se_callB (CallR.or call_len_seq call_len_str) oc_len hg hm PySem.boot_len ha (by decide) (by decide) h1 h2
theorem boot_int' : bootBuiltins "int" = some (.type "int") := by decide +kernel
theorem boot_tuple' : bootBuiltins "tuple" = some (.type "tuple") := by decide +kernel
theorem boot_list' : bootBuiltins "list" = some (.type "list") := by decide +kernel
theorem boot_min' : bootBuiltins "min" = some (.builtin "min") := by decide +kernel
theorem boot_max' : bootBuiltins "max" = some (.builtin "max") := by decide +kernel
theorem boot_sorted' : bootBuiltins "sorted" = some (.builtin "sorted") := by decide +kernel
theorem boot_repr' : bootBuiltins "repr" = some (.builtin "repr") := by decide +kernel
theorem boot_isinstance' : bootBuiltins "isinstance" = some (.builtin "isinstance") := by decide +kernel
theorem se_intc (hg : Gl X "int") (hm : X.mg "int" = none) (ha : SA X W (e :: es) ms)
    (h1 : starEach (e :: es) X.env = (false, eval e X.env) :: starEach es X.env := by rfl) (h2 : (backTo pos (starEach es X.env)).any (·.1) = false := by rfl) : SE X W (.Call (.Name "int" p) (e :: es) [] pos) (mCall1 dInt ms) :=
  se_callTy call_int1 oc_int hg hm boot_int' ha (by decide) (by decide) h1 h2
theorem se_tuplec (hg : Gl X "tuple") (hm : X.mg "tuple" = none) (ha : SA X W (e :: es) ms)
    (h1 : starEach (e :: es) X.env = (false, eval e X.env) :: starEach es X.env := by rfl) (h2 : (backTo pos (starEach es X.env)).any (·.1) = false := by rfl) : SE X W (.Call (.Name "tuple" p) (e :: es) [] pos) (mCall1 dTuple ms) :=
  se_callTy call_tuple_of oc_tuple hg hm boot_tuple' ha (by decide) (by decide) h1 h2
theorem so_listc (hg : Gl X "list") (hm : X.mg "list" = none) (ha : SA X W (e :: es) ms)
    (h1 : starEach (e :: es) X.env = (false, eval e X.env) :: starEach es X.env := by rfl) (h2 : (backTo pos (starEach es X.env)).any (·.1) = false := by rfl) : SO X W (.Call (.Name "list" p) (e :: es) [] pos) (mCall1 dList ms) :=
  so_callTy call_list_of oc_list hg hm boot_list' ha (by decide) (by decide) h1 h2
theorem se_min (hc : X.calm = true) (hg : Gl X "min") (hm : X.mg "min" = none) (ha : SA X W (e :: es) ms)
    (h1 : starEach (e :: es) X.env = (false, eval e X.env) :: starEach es X.env := by rfl) (h2 : (backTo pos (starEach es X.env)).any (·.1) = false := by rfl) : SE X W (.Call (.Name "min" p) (e :: es) [] pos) (mCall1 dMin2 ms) :=
  se_callB (call_min2 hc) oc_min2 hg hm boot_min' ha (by decide) (by decide) h1 h2
theorem se_max (hc : X.calm = true) (hg : Gl X "max") (hm : X.mg "max" = none) (ha : SA X W (e :: es) ms)
    (h1 : starEach (e :: es) X.env = (false, eval e X.env) :: starEach es X.env := by rfl) (h2 : (backTo pos (starEach es X.env)).any (·.1) = false := by rfl) : SE X W (.Call (.Name "max" p) (e :: es) [] pos) (mCall1 dMax2 ms) :=
  se_callB (call_max2 hc) oc_max2 hg hm boot_max' ha (by decide) (by decide) h1 h2

/-- sorted of a list of texts -/
def leS (a b : Str) : Bool := !ltCps b.cps.toList a.cps.toList
def sortS (xs : List Str) : List Str := xs.mergeSort leS
theorem lt_irr : ∀ a : List Nat, ltCps a a = false
  | [] => rfl
  | x :: a => by simp [ltCps, lt_irr a]
theorem lt_tri : ∀ a b : List Nat, ltCps a b = false → ltCps b a = false → a = b
  | [], [], _, _ => rfl
  | [], _ :: _, h, _ => by cases h
  | _ :: _, [], _, h => by cases h
  | x :: a, y :: b, h, h' => by
    simp only [ltCps, Bool.or_eq_false_iff, Bool.and_eq_false_iff, decide_eq_false_iff_not, beq_eq_false_iff_ne] at h h'
    have e : x = y := by omega
    subst e
    have h2 : ltCps a b = false := by rcases h.2 with z | z; exact absurd rfl z; exact z
    have h3 : ltCps b a = false := by rcases h'.2 with z | z; exact absurd rfl z; exact z
    rw [lt_tri a b h2 h3]
theorem lt_trans' : ∀ a b c : List Nat, ltCps a b = true → ltCps b c = true → ltCps a c = true
  | [], [], _, h, _ => by cases h
  | [], _ :: _, [], _, h => by cases h
  | [], _ :: _, _ :: _, _, _ => rfl
  | _ :: _, [], _, h, _ => by cases h
  | _ :: _, _ :: _, [], _, h => by cases h
  | x :: a, y :: b, z :: c, h, h' => by
    simp only [ltCps, Bool.or_eq_true, Bool.and_eq_true, decide_eq_true_eq, beq_iff_eq] at h h' ⊢
    rcases h with h | ⟨h, h2⟩
    · rcases h' with h' | ⟨h', h3⟩
      · exact .inl (by omega)
      · exact .inl (by omega)
    · rcases h' with h' | ⟨h', h3⟩
      · exact .inl (by omega)
      · exact .inr ⟨by omega, lt_trans' a b c h2 h3⟩
theorem le_trans' (a b c : Str) (h : leS a b = true) (h' : leS b c = true) : leS a c = true := by
  unfold leS at *
  simp only [Bool.not_eq_true'] at *
  cases e : ltCps c.cps.toList a.cps.toList with
  | false => rfl
  | true =>
    -- a <= b, b <= c, c < a
    cases e1 : ltCps a.cps.toList b.cps.toList with
    | true =>
      have := lt_trans' _ _ _ e e1
      rw [this] at h'; cases h'
    | false =>
      have := lt_tri _ _ e1 h
      rw [← this, e] at h'; cases h'
theorem le_total' (a b : Str) : (leS a b || leS b a) = true := by
  unfold leS
  cases e : ltCps b.cps.toList a.cps.toList with
  | false => simp
  | true =>
    cases e1 : ltCps a.cps.toList b.cps.toList with
    | false => simp
    | true =>
      have := lt_trans' _ _ _ e e1
      rw [lt_irr] at this; cases this
theorem str_ext {a b : Str} (h : a.cps.toList = b.cps.toList) : a = b := by
  cases a; cases b
  congr 1
  exact Array.ext' h
theorem le_anti (a b : Str) (h : leS a b = true) (h' : leS b a = true) : a = b := by
  unfold leS at *
  simp only [Bool.not_eq_true'] at *
  exact str_ext (lt_tri _ _ h' h)
theorem rising_pw : ∀ (p : Str) (xs : List Str), risingS p xs = true → (∀ x ∈ xs, leS p x = true) ∧ xs.Pairwise fun a b => leS a b = true
  | _, [], _ => ⟨fun _ h => (nomatch h), .nil⟩
  | p, x :: xs, h => by
    simp only [risingS, Bool.and_eq_true] at h
    obtain ⟨h1, h2⟩ := rising_pw x xs h.2
    have hp : leS p x = true := h.1
    exact ⟨fun y hy => by
      rcases List.mem_cons.mp hy with rfl | hy
      · exact hp
      · exact le_trans' _ _ _ hp (h1 y hy), .cons h1 h2⟩
theorem sorted_pw {xs : List Str} (h : sortedS xs = true) : xs.Pairwise fun a b => leS a b = true := by
  cases xs with
  | nil => exact .nil
  | cons x xs =>
    obtain ⟨h1, h2⟩ := rising_pw x xs h
    exact .cons h1 h2
theorem sort_unique {xs ys : List Str} (hp : ys.Perm xs) (hs : sortedS ys = true) : ys = sortS xs := by
  refine List.Perm.eq_of_pairwise (fun a b _ _ h1 h2 => le_anti a b h1 h2) (sorted_pw hs) ?_ (hp.trans (List.mergeSort_perm _ _).symm)
  exact List.pairwise_mergeSort le_trans' le_total' xs
def txts : List D → Option (List Str)
  | [] => some []
  | .str x :: r => (txts r).map (x :: ·)
  | _ => none
def dSorted : List D → Option D
  | [.lst xs] => match txts xs with
    | some ss => if ss.length < 64 then some (.lst ((sortS ss).map .str)) else none
    | none => none
  | _ => none
theorem strs_eq : ∀ {xs : List D} {ss : List Str}, txts xs = some ss → xs = ss.map .str
  | [], ss, h => by cases h; rfl
  | .str x :: r, ss, h => by
    simp only [txts, Option.map_eq_some_iff] at h
    obtain ⟨t, h1, rfl⟩ := h
    rw [strs_eq h1]; rfl
  | .non :: _, _, h => by cases h
  | .bl _ :: _, _, h => by cases h
  | .int _ :: _, _, h => by cases h
  | .tup _ :: _, _, h => by cases h
  | .lst _ :: _, _, h => by cases h
  | .fl _ :: _, _, h => by cases h
  | .dct _ :: _, _, h => by cases h
  | .obj _ _ :: _, _, h => by cases h
theorem strs_map (ss : List Str) : txts (ss.map .str) = some ss := by
  induction ss with
  | nil => rfl
  | cons x r ih => simp [txts, ih]
theorem rel_strs {K : PySem.W.Frag} {F : Hp} : ∀ {ss : List Str} {vs : List V}, RpL K F (ss.map .str) vs → vs = ss.map .str
  | [], vs, h => by cases h; rfl
  | x :: ss, vs, h => by
    obtain ⟨v, r, rfl, h1, h2⟩ := h
    cases h1
    rw [rel_strs h2]; rfl
theorem strs_rel {K : PySem.W.Frag} {F : Hp} : ∀ (ss : List Str), RpL K F (ss.map .str) (ss.map .str)
  | [] => rfl
  | x :: ss => ⟨_, _, rfl, rfl, strs_rel ss⟩
theorem oc_sorted {K : PySem.W.Frag} : OCO K (rSortedS K) dSorted := by
  intro g F H σ sv ds d vs Q hK rl e hv q
  subst hK
  unfold dSorted at e
  split at e
  · split at e
    · rename_i xs ss hs
      split at e
      · rename_i hz
        cases e
        obtain ⟨v, rfl, p, us, rfl, h1, h2⟩ := hv.one_inv
        have ex := strs_eq hs
        subst ex
        have eu := rel_strs h2
        subst eu
        refine ⟨p, ss, rfl, .inl (.inl (rl.sub _ _ h1)), hz, fun ys l hp hso hl => ?_⟩
        have ey := sort_unique hp hso
        subst ey
        exact q _ F _ (Same.refl F) (rl.layO hl) ⟨l, rfl, rl.nofx hl, ⟨rl.sub.free hl, _, upd_same, strs_rel _⟩, fun i hi => rl.noRef hl i hi⟩
      · cases e
    · cases e
  · cases e
theorem so_sorted (hg : Gl X "sorted") (hm : X.mg "sorted" = none) (ha : SA X W (e :: es) ms)
    (h1 : starEach (e :: es) X.env = (false, eval e X.env) :: starEach es X.env := by rfl) (h2 : (backTo pos (starEach es X.env)).any (·.1) = false := by rfl) : SO X W (.Call (.Name "sorted" p) (e :: es) [] pos) (mCall1 dSorted ms) :=
  so_callB cr_sortedS oc_sorted hg hm boot_sorted' ha (by decide) (by decide) h1 h2

/-- repr of data -/
def reprOk (q : PyData) : Bool := q.showable && !q.hasDict && decide (q.depth ≤ 60) && decide (q.shown.length ≤ sizeLine)
def dRepr : List D → Option D
  | [d] => match py d with
    | some q => if reprOk q = true then some (.str q.shown) else none
    | none => none
  | _ => none
def rRepr (K : PySem.W.Frag) : List V → Hp → VK → Prop := fun xs H Q => ∃ v d, xs = [v] ∧ Dp K H v d ∧ reprOk d = true ∧ Q (.str d.shown) H
theorem call_repr (hu : X.A.units + 64 < cLine) (hg : X.A.guards = some []) : CallR X (.builtin "repr") (rRepr X.K) := by
  intro pins s σ H xs us Q I r h
  obtain ⟨v, d, rfl, hd, hok, q⟩ := h
  unfold reprOk at hok
  simp only [Bool.and_eq_true, Bool.not_eq_true', decide_eq_true_eq] at hok
  obtain ⟨⟨⟨o1, o2⟩, o3⟩, o4⟩ := hok
  obtain ⟨u, rfl, ru⟩ := vals1 r
  cases hd with
  | non =>
    cases ru
    exact PySem.P.repr_of_none ⟨.str _, H, I.tok _, ⟨_, rfl⟩, by simpa only [PyData.shown] using q⟩
  | bl b =>
    cases ru
    refine PySem.P.repr_of_bool ⟨.str _, H, I.tok _, ⟨_, rfl⟩, by simpa only [PyData.shown] using q⟩
  | int i =>
    obtain ⟨t, rfl⟩ := ru
    refine PySem.P.repr_of_int (by simpa [PyData.showable] using o1) ⟨.str _, H, I.tok _, ⟨_, rfl⟩, by simpa only [PyData.shown] using q⟩
  | str x =>
    obtain ⟨t, rfl⟩ := ru
    refine PySem.P.repr_of_str ⟨.str _, H, I.tok _, ⟨_, rfl⟩, by simpa only [PyData.shown] using q⟩ (by simpa only [PyData.shown] using o4)
  | @lst a xs ds hs ha =>
    cases ru
    obtain ⟨as, rd⟩ := Dp.reads I (.list ds) (.ref a) (.ref a) (.lst hs ha) rfl
    exact repr_of_reads' rd o1 (PyData.noDict_hsm o2) hg (by omega) (fun _ _ e => e) (fun h' u tk hk => ⟨.str _, H, I.kept hk, ⟨_, rfl⟩, q⟩) o4
  | @tup a xs ds hs ha =>
    cases ru
    obtain ⟨as, rd⟩ := Dp.reads I (.tuple ds) (.ref a) (.ref a) (.tup hs ha) rfl
    exact repr_of_reads' rd o1 (PyData.noDict_hsm o2) hg (by omega) (fun _ _ e => e) (fun h' u tk hk => ⟨.str _, H, I.kept hk, ⟨_, rfl⟩, q⟩) o4
theorem oc_repr {K : PySem.W.Frag} : OC K (rRepr K) dRepr := oc_pure fun F H ds d vs Q s e hv q => by
  unfold dRepr at e
  split at e
  · rename_i d0
    split at e
    · rename_i q0 hq
      split at e
      · rename_i hok
        cases e
        obtain ⟨v, rfl, h1⟩ := hv.one_inv
        exact ⟨v, q0, rfl, dp_of s d0 v q0 h1 hq, hok, q _ rfl⟩
      · cases e
    · cases e
  · cases e
theorem se_repr (hu : X.A.units + 64 < cLine) (hgd : X.A.guards = some []) (hg : Gl X "repr") (hm : X.mg "repr" = none) (ha : SA X W (e :: es) ms)
    (h1 : starEach (e :: es) X.env = (false, eval e X.env) :: starEach es X.env := by rfl) (h2 : (backTo pos (starEach es X.env)).any (·.1) = false := by rfl) : SE X W (.Call (.Name "repr" p) (e :: es) [] pos) (mCall1 dRepr ms) :=
  se_callB (call_repr hu hgd) oc_repr hg hm boot_repr' ha (by decide) (by decide) h1 h2

/-! #### isinstance -/
def tn : D → String
  | .non => "NoneType"
  | .bl _ => "bool"
  | .int _ => "int"
  | .str _ => "str"
  | .tup _ => "tuple"
  | .lst _ => "list"
  | .fl _ => "list"
  | .dct _ => "dict"
  | .obj _ _ => "object"
theorem tyX_of {K : PySem.W.Frag} {F H : Hp} {d : D} {v : V} (s : Same F H) (h : Rp K F d v) : TyX K H v (.type (tn d)) := by
  have sqt : ∀ {a : Addr} {xs : List V}, SqT K H a xs → TyX K H (.ref a) (.type "tuple") := fun {a xs} h => by
    rcases h with (h | ⟨o, h⟩) | ⟨o, its, n, h1, h2, _⟩
    · exact .base (.tup h)
    · exact .fTuple h
    · exact .kTuple h1 h2
  cases d with
  | non => cases h; exact .base .non
  | bl b => cases h; exact .base (.bl b)
  | int i => cases h; exact .base (.int i)
  | str x => cases h; exact .base (.str x)
  | tup ds =>
    obtain ⟨a, vs, rfl, h1, h2⟩ := h
    exact sqt (sqT_mono s h1)
  | lst ds =>
    obtain ⟨a, vs, rfl, h1, h2⟩ := h
    exact .base (.lst (s _ _ h1))
  | fl ds =>
    obtain ⟨a, vs, rfl, h1, h2⟩ := h
    rcases s.seq h1 with (h | ⟨o, h⟩) | ⟨o, its, n, h1, h2, _⟩
    · exact .base (.lst h)
    · exact .base (.frz h)
    · exact .kList h1 h2
  | dct _ => exact False.elim h
  | obj _ _ => exact False.elim h
def isi (T : String) (d : D) : Option D := (kitB (tn d) T).map .bl
theorem se_isi {T : String} {y : Str} {py : Pos} {m : M D} (hg : Gl X "isinstance") (hm : X.mg "isinstance" = none) (hgT : Gl X y) (hmT : X.mg y = none) (hvT : bootBuiltins y = some (.type T)) (ha : SE X W e m) (hn : y ≠ "__name__" := by decide) (hdb : (y == ("__debug__" : Str)) = false := by decide)
    (h1 : starEach [e, .Name y py] X.env = (false, eval e X.env) :: starEach [.Name y py] X.env := by rfl) (h2 : (backTo pos (starEach [.Name y py] X.env)).any (·.1) = false := by rfl) :
    SE X W (.Call (.Name "isinstance" p) [e, .Name y py] [] pos) (m1 (isi T) m) :=
  pe_imp (pe_callB call_isi hg hm boot_isinstance' (pa_cons ha (pa_cons (pe_bltn (v := .ty T) hgT hmT hvT rfl hn hdb) pa_nil) h1) (by decide) (by decide) h1 h2) fun σ H Q q => by
    obtain ⟨g, F, sv, hK, rl, q⟩ := q
    refine ⟨g, F, sv, hK, rl, PostG.bind q fun d s1 v F1 H1 e1 rl1 rp1 h1 => ?_⟩
    rw [← hK.1]
    cases hd : isi T d with
    | none => rw [hd] at h1; exact False.elim h1
    | some r =>
      rw [hd] at h1
      unfold isi at hd
      obtain ⟨b, hb, rfl⟩ := Option.map_eq_some_iff.mp hd
      exact ⟨v, .ty T, .type (tn d), .type T, b, rfl, .ty T, tyX_of rl1.sub rp1, kit_ty hb, h1 _ F1 H1 (Same.refl F1) rl1 rfl⟩
end
end VM

set_option Elab.async false
set_option linter.all false
set_option autoImplicit false
set_option maxRecDepth 100000
set_option maxHeartbeats 400000
namespace VM
open PySem PySem.Spec PyProof.Rows L2

/-! ### statements -/
inductive O where
  | nx (s : SV) | rt (d : D) (s : SV) | ro (d : D) (s : SV) | bk (s : SV) | ct (s : SV) | err (x : Exn) (s : SV) | bad
abbrev MS := SV → O

def PostS (mg : MX) (g : G) (F : Hp) (o : O) (W : WX') (Dn : Ends) : Prop := match o with
  | .nx sv' => ∀ σ' F' H', Same F F' → Rl g F' H' σ' sv' → Dn.nx σ' H'
  | .rt d sv' => ∀ v σ' F' H', Same F F' → Rl g F' H' σ' sv' → Rp g.K F' d v → Dn.rt v H'
  | .ro d sv' => ∀ v σ' F' H', Same F F' → Rl g F' H' σ' sv' → RelO' g F' H' σ' sv' d v → Dn.rt v H'
  | .bk sv' => ∀ σ' F' H', Same F F' → Rl g F' H' σ' sv' → Dn.bk σ' H'
  | .ct sv' => ∀ σ' F' H', Same F F' → Rl g F' H' σ' sv' → Dn.ct σ' H'
  | .err x sv' => ∀ cls dd σ' F' H', Same F F' → Rl g F' H' σ' sv' → ErrOk g.K mg.mg F' x cls dd → W cls dd σ' H'
  | .bad => False
def tS (K : PySem.W.Frag) (mg : MX) (W : WX') (m : MS) : TS := fun Dn σ H => ∃ g F sv, (g.K = K ∧ g.mx = mg) ∧ Rl g F H σ sv ∧ PostS mg g F (m sv) W Dn
abbrev SS (X : Cx) (W : WX') (st : Stmt) (m : MS) : Prop := PS X st (tS X.K X.mx W m)
abbrev SSs (X : Cx) (W : WX') (sts : List Stmt) (m : MS) : Prop := PSs X sts (tS X.K X.mx W m)
theorem ps_imp {X : Cx} {st : Stmt} {t t' : TS} (h : PS X st t) (k : ∀ Dn σ H, t' Dn σ H → t Dn σ H) : PS X st t' := ⟨fun pins s σ H Dn I q => h.run pins s σ H Dn I (k Dn σ H q)⟩
theorem pss_imp {X : Cx} {st : List Stmt} {t t' : TS} (h : PSs X st t) (k : ∀ Dn σ H, t' Dn σ H → t Dn σ H) : PSs X st t' := ⟨fun pins s σ H Dn I q => h.run pins s σ H Dn I (k Dn σ H q)⟩
theorem PostS.mono {mg : MX} {g : G} {F F1 : Hp} {o : O} {W : WX'} {Dn : Ends} (h : PostS mg g F o W Dn) (e : Same F F1) : PostS mg g F1 o W Dn := by
  cases o with
  | nx s => exact fun σ' F' H' e1 => h σ' F' H' (e.trans e1)
  | rt d s => exact fun v σ' F' H' e1 => h v σ' F' H' (e.trans e1)
  | ro d s => exact fun v σ' F' H' e1 => h v σ' F' H' (e.trans e1)
  | bk s => exact fun σ' F' H' e1 => h σ' F' H' (e.trans e1)
  | ct s => exact fun σ' F' H' e1 => h σ' F' H' (e.trans e1)
  | err x s => exact fun c d σ' F' H' e1 => h c d σ' F' H' (e.trans e1)
  | bad => exact h
/-- an expression, then a statement -/
def mBind {α : Type} (m : M α) (k : α → SV → O) : MS := fun sv => match m sv with
  | .ok a s => k a s
  | .err x s => .err x s
  | .bad => .bad
theorem PostS.bind {α β : Type} {mg : MX} {g : G} {F H : Hp} {σ : L2.St} {m : M α} {sv : SV} {k : α → SV → O} {W : WX'} {Rel1 : G → Hp → Hp → L2.St → SV → α → β → Prop} {Dn : Ends} {Q1 : β → Hp → Prop}
    (h : PostS mg g F (mBind m k sv) W Dn)
    (kk : ∀ a sv1 b F1 H1, Same F F1 → Rl g F1 H1 σ sv1 → Rel1 g F1 H1 σ sv1 a b → PostS mg g F1 (k a sv1) W Dn → Q1 b H1) : PostG mg g F σ (m sv) W Rel1 Q1 := by
  unfold mBind at h
  cases hm : m sv with
  | ok a s =>
    rw [hm] at h
    exact fun b F1 H1 e rl rel => kk a s b F1 H1 e rl rel (h.mono e)
  | err x s =>
    rw [hm] at h
    exact fun c d F1 H1 e rl er => h c d σ F1 H1 e rl er
  | bad => rw [hm] at h; exact h

section
variable {X : Cx} {W : WX'} {a b e : Expr} {st : Stmt} {sts body orelse : List Stmt} {pos : Pos} {m : M D} {mt : M Bool} {ms mu : MS}
def mSkip : MS := fun sv => .nx sv
def mSeq (a b : MS) : MS := fun sv => match a sv with
  | .nx s => b s
  | o => o
theorem ss_nil : SSs X W [] mSkip := pss_imp pss_nil fun Dn σ H q => by
  obtain ⟨g, F, sv, hK, rl, q⟩ := q
  exact q σ F H (Same.refl F) rl
theorem ss_one (h : SS X W st ms) : SSs X W [st] ms := pss_one h
theorem ss_cons (h : SS X W st ms) (hr : SSs X W sts mu) : SSs X W (st :: sts) (mSeq ms mu) := pss_imp (pss_cons h hr) fun Dn σ H q => by
  obtain ⟨g, F, sv, hK, rl, q⟩ := q
  refine ⟨g, F, sv, hK, rl, ?_⟩
  revert q
  unfold mSeq
  cases ms sv with
  | nx s => exact fun q σ' F' H' e1 rl1 => ⟨g, F', s, hK, rl1, q.mono e1⟩
  | rt d s => exact fun q => q
  | ro d s => exact fun q => q
  | bk s => exact fun q => q
  | ct s => exact fun q => q
  | err x s => exact fun q => q
  | bad => exact fun q => q
theorem ss_pass : SS X W (.Pass pos) mSkip := ps_imp ps_pass fun Dn σ H q => by
  obtain ⟨g, F, sv, hK, rl, q⟩ := q
  exact q σ F H (Same.refl F) rl
theorem ss_break : SS X W (.Break pos) (fun sv => .bk sv) := ps_imp ps_break fun Dn σ H q => by
  obtain ⟨g, F, sv, hK, rl, q⟩ := q
  exact q σ F H (Same.refl F) rl
theorem ss_continue : SS X W (.Continue pos) (fun sv => .ct sv) := ps_imp ps_continue fun Dn σ H q => by
  obtain ⟨g, F, sv, hK, rl, q⟩ := q
  exact q σ F H (Same.refl F) rl
/-- a statement that is never reached -/
theorem ss_never : SS X W st (fun _ => .bad) := ps_imp ps_never fun Dn σ H q => by
  obtain ⟨g, F, sv, hK, rl, q⟩ := q
  exact q
def mDrop (m : M D) : MS := mBind m fun _ s => .nx s
theorem ss_expr (h : SE X W e m) (hs : swapsWith e none pos.line X.env = pure false := by rfl) : SS X W (.Expr e pos) (mDrop m) := ps_imp (ps_expr h hs) fun Dn σ H q => by
  obtain ⟨g, F, sv, hK, rl, q⟩ := q
  exact ⟨g, F, sv, hK, rl, PostS.bind (H := H) q fun d s v F1 H1 e1 rl1 rp1 h1 => h1 σ F1 H1 (Same.refl F1) rl1⟩
def mRet (m : M D) : MS := mBind m fun d s => .rt d s
def mRetO (m : M D) : MS := mBind m fun d s => .ro d s
theorem ss_ret (h : SE X W e m) : SS X W (.Return (some e) pos) (mRet m) := ps_imp (ps_ret h) fun Dn σ H q => by
  obtain ⟨g, F, sv, hK, rl, q⟩ := q
  exact ⟨g, F, sv, hK, rl, PostS.bind (H := H) q fun d s v F1 H1 e1 rl1 rp1 h1 => h1 v σ F1 H1 (Same.refl F1) rl1 rp1⟩
theorem ss_retO (h : SO X W e m) : SS X W (.Return (some e) pos) (mRetO m) := ps_imp (ps_ret h) fun Dn σ H q => by
  obtain ⟨g, F, sv, hK, rl, q⟩ := q
  exact ⟨g, F, sv, hK, rl, PostS.bind (H := H) q fun d s v F1 H1 e1 rl1 rp1 h1 => h1 v σ F1 H1 (Same.refl F1) rl1 rp1⟩
theorem ss_retN : SS X W (.Return none pos) (fun sv => .rt .non sv) := ps_imp ps_retN fun Dn σ H q => by
  obtain ⟨g, F, sv, hK, rl, q⟩ := q
  exact q .non σ F H (Same.refl F) rl rfl
def mIfS (t : M Bool) (a b : MS) : MS := mBind t fun c s => if c = true then a s else b s
theorem ss_if {c : Expr} (hc : ST X W c mt) (ha : SSs X W body ms) (hb : SSs X W orelse mu) : SS X W (.If c body orelse pos) (mIfS mt ms mu) := ps_imp (ps_if hc ha hb) fun Dn σ H q => by
  obtain ⟨g, F, sv, hK, rl, q⟩ := q
  refine ⟨g, F, sv, hK, rl, PostS.bind (H := H) q fun c s c' F1 H1 e1 rl1 rp1 h1 => ?_⟩
  cases rp1
  cases c with
  | true => exact ⟨g, F1, s, hK, rl1, h1⟩
  | false => exact ⟨g, F1, s, hK, rl1, h1⟩

/-! #### targets -/
abbrev MT := D → SV → Option SV
/-- the slots outside of some are as they were -/
def Agree (is : List Nat) (σ σ' : L2.St) : Prop := σ'.length = σ.length ∧ ∀ j, j ∉ is → σ'[j]? = σ[j]?
theorem Agree.refl (is : List Nat) (σ : L2.St) : Agree is σ σ := ⟨rfl, fun _ _ => rfl⟩
theorem Agree.trans {is js : List Nat} {σ σ1 σ2 : L2.St} (a : Agree is σ σ1) (b : Agree js σ1 σ2) : Agree (is ++ js) σ σ2 := ⟨b.1.trans a.1, fun j h => (b.2 j fun z => h (List.mem_append_right _ z)).trans (a.2 j fun z => h (List.mem_append_left _ z))⟩
def tGt (K : PySem.W.Frag) (is : List Nat) (mt : MT) : TG := fun v σ H Q => ∃ g F sv d sv', g.K = K ∧ Rl g F H σ sv ∧ Rp K F d v ∧ mt d sv = some sv' ∧ ∀ σ', Rl g F H σ' sv' → Agree is σ σ' → Q σ' H
def tGts (K : PySem.W.Frag) (is : List Nat) (mt : List D → SV → Option SV) : TGs := fun vs σ H Q => ∃ g F sv ds sv', g.K = K ∧ Rl g F H σ sv ∧ RpL K F ds vs ∧ mt ds sv = some sv' ∧ ∀ σ', Rl g F H σ' sv' → Agree is σ σ' → Q σ' H
abbrev SG (X : Cx) (tg : Expr) (is : List Nat) (mt : MT) : Prop := PG X tg (tGt X.K is mt)
abbrev SGs (X : Cx) (tgs : List Expr) (is : List Nat) (mt : List D → SV → Option SV) : Prop := PGs X tgs (tGts X.K is mt)
def mtN (i : Nat) : MT := fun d sv => some (sv.set i (.pl d))
def mtNil : List D → SV → Option SV := fun ds sv => match ds with
  | [] => some sv
  | _ => none
def mtCons (t : MT) (u : List D → SV → Option SV) : List D → SV → Option SV := fun ds sv => match ds with
  | d :: ds => (t d sv).bind fun s => u ds s
  | [] => none
def mtTup (n : Nat) (u : List D → SV → Option SV) : MT := fun d sv => match d with
  | .tup ds => if ds.length = n then u ds sv else none
  | _ => none
theorem pg_imp {tg : Expr} {t t' : TG} (h : PG X tg t) (k : ∀ v σ H Q, t' v σ H Q → t v σ H Q) : PG X tg t' := ⟨fun pins s σ H v u Q I r q => h.run pins s σ H v u Q I r (k v σ H Q q)⟩
theorem pgs_imp {tg : List Expr} {t t' : TGs} (h : PGs X tg t) (k : ∀ v σ H Q, t' v σ H Q → t v σ H Q) : PGs X tg t' := ⟨fun pins s σ H v u Q I r q => h.run pins s σ H v u Q I r (k v σ H Q q)⟩
theorem sg_name {i : Nat} {x : Str} {pos : Pos} (h : PG X (.Name x pos) (gName i)) : SG X (.Name x pos) [i] (mtN i) := pg_imp h fun v σ H Q q => by
  obtain ⟨g, F, sv, d, sv', hK, rl, rp, e, q⟩ := q
  cases e
  exact q _ (rl.setPl i (by rw [hK]; exact rp)) ⟨by simp, fun j hj => List.getElem?_set_ne (fun z => hj (by simp [z]))⟩
theorem sgs_nil : SGs X [] [] mtNil := pgs_imp pgs_nil fun v σ H Q q => by
  obtain ⟨g, F, sv, ds, sv', hK, rl, rp, e, q⟩ := q
  cases ds with
  | nil => cases e; exact ⟨rp, q σ rl (Agree.refl _ _)⟩
  | cons d ds => cases e
theorem sgs_cons {tg : Expr} {tgs : List Expr} {is js : List Nat} {t : MT} {u : List D → SV → Option SV} (h1 : SG X tg is t) (h2 : SGs X tgs js u) (hs : PGs X (tg :: tgs) (gCons (tGt X.K is t) (tGts X.K js u)) := by exact pgs_cons (by assumption) (by assumption)) : SGs X (tg :: tgs) (is ++ js) (mtCons t u) := pgs_imp hs fun vs σ H Q q => by
  obtain ⟨g, F, sv, ds, sv', hK, rl, rp, e, q⟩ := q
  cases ds with
  | nil => cases e
  | cons d ds =>
    obtain ⟨v, r, rfl, r1, r2⟩ := rp
    simp only [mtCons, Option.bind_eq_some_iff] at e
    obtain ⟨s, e1, e2⟩ := e
    exact ⟨v, r, rfl, g, F, sv, d, s, hK, rl, r1, e1, fun σ' rl' a => ⟨g, F, s, ds, sv', hK, rl', r2, e2, fun σ2 rl2 b => q σ2 rl2 (a.trans b)⟩⟩
theorem sg_tup {es : List Expr} {k n : Nat} {is : List Nat} {u : List D → SV → Option SV} {pos : Pos} (hp : PG X (.Tuple es k pos) (gTup X.K n (tGts X.K is u))) : SG X (.Tuple es k pos) is (mtTup n u) := pg_imp hp fun v σ H Q q => by
  obtain ⟨g, F, sv, d, sv', hK, rl, rp, e, q⟩ := q
  unfold mtTup at e
  split at e
  · split at e
    · obtain ⟨a, vs, rfl, h1, h2⟩ := rp
      exact ⟨a, vs, rfl, sqT_mono rl.sub h1, by rw [← h2.length]; assumption, g, F, sv, _, sv', hK, rl, h2, e, q⟩
    · cases e
  · cases e

/-! #### assignments -/
def mAsg (i : Nat) (m : M D) : MS := mBind m fun d s => .nx (s.set i (.pl d))
def mAsgO (i : Nat) (m : M D) : MS := mBind m fun d s => .nx (s.set i (.ow d))
def mAsgT (t : MT) (m : M D) : MS := mBind m fun d s => match t d s with
  | some s' => .nx s'
  | none => .bad
theorem ss_set {i : Nat} {x : Str} {pos' : Pos} (h : ∀ te, PE X e te → PS X (.Assign [.Name x pos'] e pos) (tAsg te (gName i))) (he : SE X W e m) : SS X W (.Assign [.Name x pos'] e pos) (mAsg i m) := ps_imp (h _ he) fun Dn σ H q => by
  obtain ⟨g, F, sv, hK, rl, q⟩ := q
  exact ⟨g, F, sv, hK, rl, PostS.bind (H := H) q fun d s v F1 H1 e1 rl1 rp1 h1 => h1 _ F1 H1 (Same.refl F1) (rl1.setPl i rp1)⟩
theorem ss_setO {i : Nat} {x : Str} {pos' : Pos} (h : ∀ te, PE X e te → PS X (.Assign [.Name x pos'] e pos) (tAsg te (gName i))) (he : SO X W e m) : SS X W (.Assign [.Name x pos'] e pos) (mAsgO i m) := ps_imp (h _ he) fun Dn σ H q => by
  obtain ⟨g, F, sv, hK, rl, q⟩ := q
  refine ⟨g, F, sv, hK, rl, PostS.bind (H := H) q fun d s v F1 H1 e1 rl1 rp1 h1 => ?_⟩
  obtain ⟨p, rfl, nf, o, nr⟩ := rp1
  exact h1 _ F1 H1 (Same.refl F1) (rl1.setOw i nf o nr)
theorem ss_asgT {tg : Expr} {is : List Nat} {t : MT} (h : ∀ te g, PE X e te → PG X tg g → PS X (.Assign [tg] e pos) (tAsg te g)) (he : SE X W e m) (hg : SG X tg is t) : SS X W (.Assign [tg] e pos) (mAsgT t m) := ps_imp (h _ _ he hg) fun Dn σ H q => by
  obtain ⟨g, F, sv, hK, rl, q⟩ := q
  refine ⟨g, F, sv, hK, rl, PostS.bind (H := H) q fun d s v F1 H1 e1 rl1 rp1 h1 => ?_⟩
  cases ht : t d s with
  | none => rw [ht] at h1; exact False.elim h1
  | some s' =>
    rw [ht] at h1
    exact ⟨g, F1, s, d, s', hK.1, rl1, hK.1 ▸ rp1, ht, fun σ' rl' _ => h1 σ' F1 H1 (Same.refl F1) rl'⟩
end

/-! #### what a slot owns is changed -/
/-- the slot's own object, with new content -/
def reSl : Sl → D → Option Sl
  | .ow _, d => some (.ow d)
  | .io k _, d => some (.io k d)
  | _, _ => none
def slD : Sl → Option D
  | .ow d => some d
  | .io _ d => some d
  | _ => none
theorem Rl.put {g : G} {F H : Hp} {σ : L2.St} {sv : SV} (r : Rl g F H σ sv) {i : Nat} {p : Addr} {s s' : Sl} {d d' : D} {o' : HO} (hs : sv[i]? = some s) (hd : slD s = some d) (hs' : reSl s d' = some s') (hp : σ[i]? = some (some (.ref p)))
    (ho : OwnP g.K F (upd H p o') d' p) : Rl g F (upd H p o') σ (sv.set i s') := by
  have hi : i < sv.length := (List.getElem?_eq_some_iff.mp hs).1
  have ref : Ref σ sv i p := by
    refine ⟨⟨s, hs, ?_⟩, hp⟩
    cases s with
    | ow d => exact .inl ⟨_, rfl⟩
    | io k d => exact .inr ⟨_, _, rfl⟩
    | _ => cases hd
  obtain ⟨nF, nH, nP⟩ := r.own ref
  have nep : ∀ {a : Addr} {o : HO}, g.pH a = some o → a ≠ p := fun e z => by rw [z, nP] at e; cases e
  have neF : ∀ {a : Addr} {o : HO}, F a = some o → a ≠ p := fun e z => by rw [z, nF] at e; cases e
  have rr : ∀ j q, Ref σ (sv.set i s') j q → Ref σ sv j q := fun j q ⟨⟨t, e1, e2⟩, e3⟩ => by
    by_cases h : i = j
    · subst h
      rw [hp] at e3
      cases e3
      exact ref
    · rw [List.getElem?_set_ne h] at e1
      exact ⟨⟨t, e1, e2⟩, e3⟩
  refine ⟨fun a u e => by rw [upd_ne (neF e)]; exact r.sub a u e, fun a u e => by rw [upd_ne (nep e)]; exact r.kH a u e, r.kF, fun a ha => ?_, r.pf, r.ion, by simp [r.len], fun j t e => ?_, fun j k q x y => r.dj j k q (rr _ _ x) (rr _ _ y)⟩
  · by_cases h : a = p
    · rw [h, upd_same]; exact fun z => nomatch z
    · rw [upd_ne h]; exact r.fxH a ha
  · by_cases h : i = j
    · subst h
      rw [List.getElem?_set_self hi] at e
      cases e
      have q := r.sl i s hs
      cases s with
      | ow d =>
        cases hs'
        obtain ⟨p', e1, nf, _⟩ := q
        rw [hp] at e1; cases e1
        exact ⟨p, hp, nf, ho⟩
      | io k d =>
        cases hs'
        obtain ⟨p', e1, nf, _⟩ := q
        rw [hp] at e1; cases e1
        exact ⟨p, hp, nf, ho⟩
      | _ => cases hd
    · rw [List.getElem?_set_ne h] at e
      have q := r.sl j t e
      cases t with
      | un => trivial
      | ex x => exact SlOk.exm (by first | exact sF | exact s1 | exact Same.refl _ | assumption) q
      | pl d => exact q
      | ow d =>
        obtain ⟨q', e1, nf, o'⟩ := q
        have hne : q' ≠ p := fun z => h (r.dj i j p ref (by subst z; exact ⟨⟨_, e, .inl ⟨d, rfl⟩⟩, e1⟩))
        exact ⟨q', e1, nf, o'.monoH (upd_ne hne)⟩
      | io k d =>
        obtain ⟨q', e1, nf, o'⟩ := q
        have hne : q' ≠ p := fun z => h (r.dj i j p ref (by subst z; exact ⟨⟨_, e, .inr ⟨k, d, rfl⟩⟩, e1⟩))
        exact ⟨q', e1, nf, o'.monoH (upd_ne hne)⟩
theorem Rl.ownAt {g : G} {F H : Hp} {σ : L2.St} {sv : SV} (r : Rl g F H σ sv) {i : Nat} {s : Sl} {d : D} (hs : sv[i]? = some s) (hd : slD s = some d) : ∃ p, σ[i]? = some (some (.ref p)) ∧ OwnP g.K F H d p := by
  have q := r.sl i s hs
  cases s with
  | ow d => cases hd; obtain ⟨p, e, _, o⟩ := q; exact ⟨p, e, o⟩
  | io k d => cases hd; obtain ⟨p, e, _, o⟩ := q; exact ⟨p, e, o⟩
  | _ => cases hd
/-- the list that slot i owns -/
def ownL (sv : SV) (i : Nat) : Option (Sl × List D) := match sv[i]? with
  | some s => match slD s with
    | some (.lst xs) => some (s, xs)
    | _ => none
  | none => none
def putL (sv : SV) (i : Nat) (xs : List D) : O := match sv[i]? with
  | some s => match reSl s (.lst xs) with
    | some s' => .nx (sv.set i s')
    | none => .bad
  | none => .bad
theorem ownL_eq {sv : SV} {i : Nat} {s : Sl} {xs : List D} (h : ownL sv i = some (s, xs)) : sv[i]? = some s ∧ slD s = some (.lst xs) := by
  unfold ownL at h
  split at h
  · split at h
    · cases h; exact ⟨by assumption, by assumption⟩
    · cases h
  · cases h
theorem re_of {s : Sl} {d d' : D} (h : slD s = some d) : ∃ s', reSl s d' = some s' := by
  cases s with
  | ow d => exact ⟨_, rfl⟩
  | io k d => exact ⟨_, rfl⟩
  | _ => cases h
section
variable {X : Cx} {W : WX'} {a b e : Expr} {pos : Pos} {m mk : M D}
/-- xs.append(e) -/
def mApp (i : Nat) (m : M D) : MS := fun sv => match ownL sv i with
  | none => .bad
  | some _ => mBind m (fun d s => match ownL s i with
    | some (_, xs) => if xs.length < sizeLine then putL s i (xs ++ [d]) else .bad
    | none => .bad) sv
theorem Rl.lst {g : G} {F H : Hp} {σ : L2.St} {sv : SV} (r : Rl g F H σ sv) {i : Nat} {s : Sl} {xs : List D} (h : ownL sv i = some (s, xs)) : ∃ p vs, σ[i]? = some (some (.ref p)) ∧ F p = none ∧ H p = some (.lst vs) ∧ RpL g.K F xs vs := by
  obtain ⟨h1, h2⟩ := ownL_eq h
  obtain ⟨p, e, nF, vs, e1, e2⟩ := r.ownAt h1 h2
  exact ⟨p, vs, e, nF, e1, e2⟩
theorem putL_post {mg : MX} {g : G} {F H : Hp} {σ : L2.St} {sv : SV} {i : Nat} {s : Sl} {xs ys : List D} {p : Addr} {us : List V} {Dn : Ends} (r : Rl g F H σ sv) (h : ownL sv i = some (s, xs)) (hp : σ[i]? = some (some (.ref p))) (nF : F p = none) (hu : RpL g.K F ys us)
    (q : PostS mg g F (putL sv i ys) W Dn) : Dn.nx σ (upd H p (.lst us)) := by
  obtain ⟨h1, h2⟩ := ownL_eq h
  obtain ⟨s', h3⟩ := re_of (d' := .lst ys) h2
  unfold putL at q
  rw [h1] at q
  dsimp only at q
  rw [h3] at q
  exact q σ F _ (Same.refl F) (r.put h1 h2 h3 hp ⟨nF, us, upd_same, hu⟩)
theorem ss_app {i : Nat} {x : Str} {p1 apos cpos : Pos} (h : ∀ te, PE X e te → PE X (.Call (.Attribute (.Name x p1) "append" apos) [e] [] cpos) (tBM X.K "list" rAppend (tVar i) (tCons te tNil))) (he : SE X W e m)
    (hs : swapsWith (.Call (.Attribute (.Name x p1) "append" apos) [e] [] cpos) none pos.line X.env = pure false := by rfl) : SS X W (.Expr (.Call (.Attribute (.Name x p1) "append" apos) [e] [] cpos) pos) (mApp i m) :=
  ps_imp (ps_expr (h _ he) hs) fun Dn σ H q => by
    obtain ⟨g, F, sv, hK, rl, q⟩ := q
    unfold mApp at q
    split at q
    · exact False.elim q
    · rename_i z h0
      obtain ⟨s0, xs0⟩ := z
      obtain ⟨p, vs, e1, nF, e2, e3⟩ := rl.lst h0
      refine ⟨.ref p, e1, .inl ⟨rfl, vs, .inl (.inl e2)⟩, g, F, sv, hK, rl, PostS.bind (H := H) q fun d s v F1 H1 f1 rl1 rp1 h1 => ?_⟩
      split at h1
      · rename_i s1 xs1 h2
        split at h1
        · rename_i hz
          obtain ⟨p', vs', e1', nF', e2', e3'⟩ := rl1.lst h2
          rw [e1] at e1'; cases e1'
          refine ⟨p, vs', v, rfl, rfl, e2', by rw [← e3'.length]; exact hz, ?_⟩
          exact putL_post rl1 h2 e1 nF' (e3'.append (RpL.one rp1)) h1
        · exact False.elim h1
      · exact False.elim h1
/-- xs[k] = e -/
def mPut (i : Nat) (m mk : M D) : MS := mBind m fun d s1 => match ownL s1 i with
  | none => .bad
  | some _ => mBind mk (fun k s2 => match k, ownL s2 i with
    | .int z, some (_, xs) => match ixN xs.length z with
      | some j => putL s2 i (xs.set j d)
      | none => .bad
    | _, _ => .bad) s1
theorem ss_put {i : Nat} {x : Str} {p1 tpos : Pos} (h : ∀ te ti, PE X e te → PE X b ti → PS X (.Assign [.Subscript (.Name x p1) b tpos] e pos) (tAsg te (gSub (tVar i) ti rSetL))) (he : SE X W e m) (hk : SE X W b mk) :
    SS X W (.Assign [.Subscript (.Name x p1) b tpos] e pos) (mPut i m mk) := ps_imp (h _ _ he hk) fun Dn σ H q => by
  obtain ⟨g, F, sv, hK, rl, q⟩ := q
  refine ⟨g, F, sv, hK, rl, PostS.bind (H := H) q fun d s v F1 H1 f1 rl1 rp1 h1 => ?_⟩
  split at h1
  · exact False.elim h1
  · rename_i z h0
    obtain ⟨s0, xs0⟩ := z
    obtain ⟨p, vs, e1, nF, e2, e3⟩ := rl1.lst h0
    refine ⟨.ref p, e1, g, F1, s, hK, rl1, PostS.bind (H := H1) h1 fun k s2 y F2 H2 f2 rl2 rp2 h2 => ?_⟩
    split at h2
    · rename_i z s1 xs h3
      split at h2
      · rename_i j hj
        obtain ⟨p', vs', e1', nF', e2', e3'⟩ := rl2.lst h3
        rw [e1] at e1'; cases e1'
        refine ⟨p, vs', z, j, rfl, rp2, e2', by rw [← e3'.length]; exact hj, ?_⟩
        exact putL_post rl2 h3 e1 nF' (e3'.set j (Rp.mono f2 _ _ rp1)) h2
      · exact False.elim h2
    · exact False.elim h2
/-- xs.pop() -/
def mPop (i : Nat) : M D := fun sv => match ownL sv i with
  | some (_, xs) => match xs[xs.length - 1]? with
    | some d => match putL sv i xs.dropLast with
      | .nx s' => .ok d s'
      | _ => .bad
    | none => .bad
  | none => .bad
theorem RpL.dropLast {K : PySem.W.Frag} {F : Hp} {ds : List D} {vs : List V} (h : RpL K F ds vs) : RpL K F ds.dropLast vs.dropLast := by
  rw [List.dropLast_eq_take, List.dropLast_eq_take, ← h.length]
  exact h.take _
theorem se_pop {i : Nat} {x : Str} {p1 apos : Pos} (h : PE X (.Call (.Attribute (.Name x p1) "pop" apos) [] [] pos) (tBM0 X.K "list" rPop (tVar i))) : SE X W (.Call (.Attribute (.Name x p1) "pop" apos) [] [] pos) (mPop i) := pe_imp h fun σ H Q q => by
  obtain ⟨g, F, sv, hK, rl, q⟩ := q
  unfold mPop at q
  split at q
  · rename_i s xs h0
    split at q
    · rename_i d hd
      obtain ⟨p, vs, e1, nF, e2, e3⟩ := rl.lst h0
      obtain ⟨v, ev, rv⟩ := e3.get _ _ hd
      refine ⟨.ref p, e1, .inl ⟨rfl, vs, .inl (.inl e2)⟩, p, vs, v, rfl, rfl, e2, by rw [← e3.length]; exact ev, ?_⟩
      obtain ⟨h1, h2⟩ := ownL_eq h0
      obtain ⟨s', h3⟩ := re_of (d' := .lst xs.dropLast) h2
      unfold putL at q
      rw [h1] at q
      dsimp only at q
      rw [h3] at q
      exact q v F _ (Same.refl F) (rl.put h1 h2 h3 e1 ⟨nF, _, upd_same, e3.dropLast⟩) rv
    · exact False.elim q
  · exact False.elim q
end

/-! #### while -/
def whileN (c : M Bool) (b : MS) : Nat → SV → Option O
  | 0, _ => none
  | n + 1, sv => match c sv with
    | .ok false s => some (.nx s)
    | .ok true s => match b s with
      | .nx s' => whileN c b n s'
      | .ct s' => whileN c b n s'
      | .bk s' => some (.nx s')
      | o => some o
    | .err x s => some (.err x s)
    | .bad => some .bad
theorem whileN_succ {c : M Bool} {b : MS} : ∀ {n : Nat} {sv : SV} {o : O}, whileN c b n sv = some o → whileN c b (n + 1) sv = some o
  | 0, _, _, h => by cases h
  | n + 1, sv, o, h => by
    unfold whileN at h ⊢
    cases hc : c sv with
    | ok t s =>
      rw [hc] at h
      cases t with
      | false => exact h
      | true =>
        dsimp only at h ⊢
        cases hb : b s with
        | nx s' => rw [hb] at h; exact whileN_succ h
        | ct s' => rw [hb] at h; exact whileN_succ h
        | bk s' => rw [hb] at h; exact h
        | rt d s' => rw [hb] at h; exact h
        | ro d s' => rw [hb] at h; exact h
        | err x s' => rw [hb] at h; exact h
        | bad => rw [hb] at h; exact h
    | err x s => rw [hc] at h; exact h
    | bad => rw [hc] at h; exact h
theorem whileN_le {c : M Bool} {b : MS} {n m : Nat} {sv : SV} {o : O} (h : whileN c b n sv = some o) (hm : n ≤ m) : whileN c b m sv = some o := by
  induction hm with
  | refl => exact h
  | step _ ih => exact whileN_succ ih
open Classical in
noncomputable def mWhile (c : M Bool) (b : MS) : MS := fun sv => if h : ∃ o, ∃ n, whileN c b n sv = some o then h.choose else .bad
theorem mWhile_of {c : M Bool} {b : MS} {n : Nat} {sv : SV} {o : O} (h : whileN c b n sv = some o) : mWhile c b sv = o := by
  have hx : ∃ o, ∃ n, whileN c b n sv = some o := ⟨o, n, h⟩
  unfold mWhile
  rw [dif_pos hx]
  obtain ⟨k, hk⟩ := hx.choose_spec
  have h1 := whileN_le h (Nat.le_max_left n k)
  have h2 := whileN_le hk (Nat.le_max_right n k)
  rw [h1] at h2
  exact (Option.some.inj h2).symm
theorem mWhile_some {c : M Bool} {b : MS} {sv : SV} (h : mWhile c b sv ≠ .bad) : ∃ n, whileN c b n sv = some (mWhile c b sv) := by
  by_cases hx : ∃ o, ∃ n, whileN c b n sv = some o
  · obtain ⟨o, n, hn⟩ := hx
    exact ⟨n, by rw [mWhile_of hn]; exact hn⟩
  · unfold mWhile at h
    rw [dif_neg hx] at h
    exact absurd rfl h
section
variable {X : Cx} {W : WX'} {c : Expr} {body : List Stmt} {pos : Pos} {mt : M Bool} {mb : MS}
theorem ss_while (hp : PassesOwn (model X.prog X.w) X.A X.env X.xe) (hc : ST X W c mt) (hb : SSs X W body mb) : SS X W (.While c body [] pos) (mWhile mt mb) := ps_imp (ps_while hp hc hb) fun Dn σ H q => by
  obtain ⟨g, F, sv, hK, rl, q⟩ := q
  have nb : mWhile mt mb sv ≠ .bad := fun z => by rw [z] at q; exact q
  obtain ⟨n, hn⟩ := mWhile_some nb
  refine ⟨fun k σ H => ∃ F1 sv o, Same F F1 ∧ Rl g F1 H σ sv ∧ whileN mt mb k sv = some o ∧ PostS X.mx g F1 o W Dn, ⟨n, F, sv, _, Same.refl F, rl, hn, q⟩, ?_⟩
  rintro k σ1 H1 ⟨F1, sv1, o, s1, rl1, hk, q1⟩
  cases k with
  | zero => cases hk
  | succ k =>
    unfold whileN at hk
    refine ⟨g, F1, sv1, hK, rl1, ?_⟩
    cases hc : mt sv1 with
    | err x s => rw [hc] at hk; cases hk; exact fun cls dd F2 H2 e2 rl2 er => q1 cls dd σ1 F2 H2 e2 rl2 er
    | bad => rw [hc] at hk; cases hk; exact q1
    | ok t s =>
      rw [hc] at hk
      intro t' F2 H2 e2 rl2 et
      cases et
      cases t with
      | false => cases hk; exact q1 σ1 F2 H2 e2 rl2
      | true =>
        dsimp only at hk
        refine ⟨fun σ H => ∃ F1 sv o, Same F F1 ∧ Rl g F1 H σ sv ∧ whileN mt mb k sv = some o ∧ PostS X.mx g F1 o W Dn, fun σ' H' hN => ⟨k, Nat.lt_succ_self k, hN⟩, g, F2, s, hK, rl2, ?_⟩
        cases hb : mb s with
        | nx s' => rw [hb] at hk; exact fun σ3 F3 H3 e3 rl3 => ⟨F3, s', o, (s1.trans e2).trans e3, rl3, hk, q1.mono (e2.trans e3)⟩
        | ct s' => rw [hb] at hk; exact fun σ3 F3 H3 e3 rl3 => ⟨F3, s', o, (s1.trans e2).trans e3, rl3, hk, q1.mono (e2.trans e3)⟩
        | bk s' => rw [hb] at hk; cases hk; exact q1.mono e2
        | rt d s' => rw [hb] at hk; cases hk; exact q1.mono e2
        | ro d s' => rw [hb] at hk; cases hk; exact q1.mono e2
        | err x s' => rw [hb] at hk; cases hk; exact q1.mono e2
        | bad => rw [hb] at hk; cases hk; exact q1

/-! #### for -/
structure ItOk (K : PySem.W.Frag) (F : Hp) (ds : List D) (J : It) : Prop where
  go : ∀ i H, i < ds.length → Same F H → J.go i H
  stop : ∀ H, Same F H → J.stop ds.length H
  yld : ∀ i d x H H', ds[i]? = some d → Same F H → J.yld i H x H' → (H' = H ∧ Rp K F d x) ∨ ∃ T vs es, d = .tup es ∧ x = .ref T ∧ H T = none ∧ H' = upd H T (.tup vs) ∧ RpL K F es vs
def RelI (g : G) (F' _H' : Hp) (_ : L2.St) (_ : SV) (ds : List D) (J : It) : Prop := ItOk g.K F' ds J
abbrev SI (X : Cx) (W : WX') (tg iter : Expr) (m : M (List D)) : Prop := PI X tg iter (tG X.K X.mx W RelI m)
def forL (t : MT) (b : MS) : List D → MS
  | [], sv => .nx sv
  | d :: ds, sv => match t d sv with
    | none => .bad
    | some s1 => match b s1 with
      | .nx s2 => forL t b ds s2
      | .ct s2 => forL t b ds s2
      | .bk s2 => .nx s2
      | o => o
def mFor (mi : M (List D)) (t : MT) (b : MS) : MS := mBind mi fun ds s => forL t b ds s
theorem ss_for {tg iter : Expr} {mi : M (List D)} {is : List Nat} {t : MT} (hp : PassesOwn (model X.prog X.w) X.A X.env X.xe) (hc : X.calm = true) (hi : SI X W tg iter mi) (hg : SG X tg is t) (hb : SSs X W body mb)
    (hs : ∀ x, foldedSetIterable iter X.env x = pure x := by intro _; rfl) : SS X W (.For tg iter body [] pos) (mFor mi t mb) := ps_imp (ps_for hp hc hi hg hb hs) fun Dn σ H q => by
  obtain ⟨g, F, sv, hK, rl, q⟩ := q
  refine ⟨g, F, sv, hK, rl, PostS.bind (H := H) q fun ds s J F1 H1 e1 rl1 ok q1 => ?_⟩
  refine ⟨fun i m σ H => m = ds.length - i ∧ i ≤ ds.length ∧ ∃ F2 sv2, Same F1 F2 ∧ Rl g F2 H σ sv2 ∧ PostS X.mx g F2 (forL t mb (ds.drop i) sv2) W Dn, ⟨ds.length, by simp, Nat.zero_le _, F1, s, Same.refl F1, rl1, q1⟩, ?_⟩
  rintro i m σ2 H2 ⟨rfl, hi, F2, sv2, s2, rl2, q2⟩
  have sH : Same F1 H2 := s2.trans rl2.sub
  by_cases hlt : i < ds.length
  · refine .inr ⟨ok.go i H2 hlt sH, fun σ H => ∃ F2 sv2, Same F1 F2 ∧ Rl g F2 H σ sv2 ∧ PostS X.mx g F2 (forL t mb (ds.drop (i + 1)) sv2) W Dn, fun σ' H' hN => ⟨ds.length - (i + 1), by omega, rfl, hlt, hN⟩, fun x H' hy => ?_⟩
    have hd : ds[i]? = some ds[i] := List.getElem?_eq_getElem hlt
    rw [List.drop_eq_getElem_cons hlt] at q2
    unfold forL at q2
    -- the item, represented
    have item : ∃ F3, Same F2 F3 ∧ Rl g F3 H' σ2 sv2 ∧ Rp g.K F3 ds[i] x := by
      rcases ok.yld i _ x H2 H' hd sH hy with ⟨rfl, hr⟩ | ⟨T, vs, es, ed, rfl, hT, rfl, hr⟩
      · exact ⟨F2, Same.refl F2, rl2, Rp.mono s2 _ _ hr⟩
      · have sF : Same F2 (upd F2 T (.tup vs)) := same_upd (rl2.sub.free hT)
        refine ⟨upd F2 T (.tup vs), sF, rl2.lay hT, ?_⟩
        rw [ed]
        exact ⟨T, vs, rfl, .inl (.inl upd_same), RpL.mono (s2.trans sF) _ _ hr⟩
    obtain ⟨F3, s3, rl3, rp3⟩ := item
    cases ht : t ds[i] sv2 with
    | none => rw [ht] at q2; exact False.elim q2
    | some sv3 =>
      rw [ht] at q2
      dsimp only at q2
      refine ⟨g, F3, sv2, ds[i], sv3, hK.1, rl3, hK.1 ▸ rp3, ht, fun σ4 rl4 _ => ⟨g, F3, sv3, hK, rl4, ?_⟩⟩
      cases hb : mb sv3 with
      | nx s' => rw [hb] at q2; exact fun σ5 F5 H5 e5 rl5 => ⟨F5, s', (s2.trans s3).trans e5, rl5, q2.mono (s3.trans e5)⟩
      | ct s' => rw [hb] at q2; exact fun σ5 F5 H5 e5 rl5 => ⟨F5, s', (s2.trans s3).trans e5, rl5, q2.mono (s3.trans e5)⟩
      | bk s' => rw [hb] at q2; exact q2.mono s3
      | rt d s' => rw [hb] at q2; exact q2.mono s3
      | ro d s' => rw [hb] at q2; exact q2.mono s3
      | err x s' => rw [hb] at q2; exact q2.mono s3
      | bad => rw [hb] at q2; exact q2
  · have e : i = ds.length := by omega
    subst e
    rw [List.drop_length] at q2
    exact .inl ⟨ok.stop H2 sH, q2 σ2 F2 H2 (Same.refl F2) rl2⟩
end
end VM

set_option Elab.async false
set_option linter.all false
set_option autoImplicit false
set_option maxRecDepth 100000
set_option maxHeartbeats 400000
namespace VM
open PySem PySem.Spec PyProof.Rows L2

/-! ### what is walked -/
theorem pi_imp {X : Cx} {tg e : Expr} {t t' : TI} (h : PI X tg e t) (k : ∀ σ H R, t' σ H R → t σ H R) : PI X tg e t' := ⟨fun pins s σ H R I q => h.run pins s σ H R I (k σ H R q)⟩
/-- a list, a tuple or a text, as it comes -/
def iSeq (K : PySem.W.Frag) (tl : TE) : TI := fun σ H R => tl σ H fun x H1 =>
  (∃ a, x = .ref a ∧ (∃ xs, SqL K H1 a xs) ∧ R (Itl K a) H1) ∨ (∃ a, x = .ref a ∧ (∃ xs, SqT K H1 a xs) ∧ R (Itt K a) H1) ∨ (∃ z, x = .str z ∧ R (Its z) H1)
theorem pi_seq {X : Cx} {tg l : Expr} {tl : TE} (hl : PE X l tl) : PI X tg l (iSeq X.K tl) := by
  constructor
  intro pins s σ H R I h
  apply thn (hl.run pins s σ H _ I h)
  rintro v s1 ⟨x, H1, I1, r1, ⟨a, rfl, ⟨xs, hq⟩, q⟩ | ⟨a, rfl, ⟨xs, hq⟩, q⟩ | ⟨z, rfl, q⟩⟩
  · cases r1
    obtain ⟨its, rv, pl, hz⟩ := I1.list hq
    exact wpAny_pyIter_list pl.isList (pi_one (tk := s1.toks) I1 _ (turn_list a _) ⟨_, Heap.get?_push_size _ rfl, rfl, rfl⟩ q)
  · cases r1
    obtain ⟨its, rv, pl, hz⟩ := I1.tuple hq
    exact wpAny_pyIter_tuple (show s1.heap.IsTuple a its.toArray from pl) (pi_one (tk := s1.toks) I1 _ (turn_tuple a _) ⟨_, Heap.get?_push_size _ rfl, rfl, rfl⟩ q)
  · obtain ⟨t, rfl⟩ := r1
    cases ha : z.cps.all (· < 128)
    · exact wpAny_pyIter_wide ha (pi_one (tk := s1.toks) I1 _ (turn_str _ z t "str_iterator" (.inr rfl)) ⟨_, Heap.get?_push_size _ rfl, rfl, rfl⟩ q)
    · exact wpAny_pyIter_ascii ha (pi_one (tk := s1.toks) I1 _ (turn_str _ z t "str_ascii_iterator" (.inl rfl)) ⟨_, Heap.get?_push_size _ rfl, rfl, rfl⟩ q)
def itemsD : D → Option (List D)
  | .tup xs => some xs
  | .lst xs => some xs
  | .fl xs => some xs
  | .str z => some (z.cps.toList.map fun c => .str ⟨#[c]⟩)
  | _ => none
def mItems (m : M D) : M (List D) := fun sv => (m sv).bind fun d s => match itemsD d with
  | some ds => .ok ds s
  | none => .bad
section
variable {K : PySem.W.Frag} {F H : Hp}
theorem sqL_in {a : Addr} {xs : List V} (s : Same F H) (h : SqL K F a xs) : SqL K H a xs := s.seq h
/-- two readings of one place agree -/
theorem itl_ok {a : Addr} {vs : List V} {ds : List D} (h : SqL K F a vs) (r : RpL K F ds vs) : ItOk K F ds (Itl K a) where
  go := fun i H hi s => ⟨vs, vs[i]'(by rw [← r.length]; exact hi), s.seq h, List.getElem?_eq_getElem _⟩
  stop := fun H s => ⟨vs, s.seq h, by rw [r.length]; exact Nat.le_refl _⟩
  yld := fun i d x H H' hd s y => by
    obtain ⟨rfl, y⟩ := y
    obtain ⟨v, ev, rv⟩ := r.get i d hd
    have := (y vs (s.seq h)).symm.trans ev
    cases this
    exact .inl ⟨rfl, rv⟩
theorem itt_ok {a : Addr} {vs : List V} {ds : List D} (h : SqT K F a vs) (r : RpL K F ds vs) : ItOk K F ds (Itt K a) where
  go := fun i H hi s => ⟨vs, vs[i]'(by rw [← r.length]; exact hi), sqT_mono s h, List.getElem?_eq_getElem _⟩
  stop := fun H s => ⟨vs, sqT_mono s h, by rw [r.length]; exact Nat.le_refl _⟩
  yld := fun i d x H H' hd s y => by
    obtain ⟨rfl, y⟩ := y
    obtain ⟨v, ev, rv⟩ := r.get i d hd
    have := (y vs (sqT_mono s h)).symm.trans ev
    cases this
    exact .inl ⟨rfl, rv⟩
theorem its_ok {z : Str} : ItOk K F (z.cps.toList.map fun c => D.str ⟨#[c]⟩) (Its z) where
  go := fun i H hi s => by show i < z.cps.size; simpa using hi
  stop := fun H s => by simp [Its]
  yld := fun i d x H H' hd s y => by
    obtain ⟨rfl, c, ec, rfl⟩ := y
    refine .inl ⟨rfl, ?_⟩
    have e : z.cps.toList[i]? = some c := by simpa using ec
    rw [List.getElem?_map, e] at hd
    cases hd
    rfl
theorem itr_ok {lo : Int} {n : Nat} : ItOk K F ((List.range n).map fun i => D.int (lo + (i : Nat))) (Itr lo n) where
  go := fun i H hi s => by show i < n; simpa using hi
  stop := fun H s => by simp [Itr]
  yld := fun i d x H H' hd s y => by
    obtain ⟨rfl, rfl⟩ := y
    refine .inl ⟨rfl, ?_⟩
    rw [List.getElem?_map] at hd
    cases hr : (List.range n)[i]? with
    | none => rw [hr] at hd; cases hd
    | some j =>
      rw [hr] at hd
      cases hd
      have : j = i := by
        have := List.getElem?_eq_some_iff.mp hr
        obtain ⟨h1, h2⟩ := this
        simpa using h2.symm
      subst this
      rfl
end
section
variable {X : Cx} {W : WX'} {tg e : Expr} {m : M D} {p pos : Pos}
theorem si_seq (h : SE X W e m) : SI X W tg e (mItems m) := pi_imp (pi_seq h) fun σ H R q => by
  obtain ⟨g, F, sv, hK, rl, q⟩ := q
  refine ⟨g, F, sv, hK, rl, PostG.bind q fun d s x F1 H1 e1 rl1 rp1 q1 => ?_⟩
  have go : ∀ {ds : List D} {J : It}, itemsD d = some ds → ItOk g.K F1 ds J → R J H1 := fun {ds J} he ok => by
    rw [he] at q1
    exact q1 J F1 H1 (Same.refl F1) rl1 ok
  rw [← hK.1]
  cases d with
  | tup ds => obtain ⟨a, vs, rfl, h1, h2⟩ := rp1; exact .inr (.inl ⟨a, rfl, ⟨vs, sqT_mono rl1.sub h1⟩, go rfl (itt_ok h1 h2)⟩)
  | lst ds => obtain ⟨a, vs, rfl, h1, h2⟩ := rp1; exact .inl ⟨a, rfl, ⟨vs, .inl (.inl (rl1.sub _ _ h1))⟩, go rfl (itl_ok (.inl (.inl h1)) h2)⟩
  | fl ds => obtain ⟨a, vs, rfl, h1, h2⟩ := rp1; exact .inl ⟨a, rfl, ⟨vs, rl1.sub.seq h1⟩, go rfl (itl_ok h1 h2)⟩
  | str z => exact .inr (.inr ⟨z, rp1, go rfl its_ok⟩)
  | _ => exact False.elim q1
def rngs (lo : Int) (n : Nat) : List D := (List.range n).map fun i => D.int (lo + (i : Nat))
def mRng1 (ms : M (List D)) : M (List D) := fun sv => (ms sv).bind fun ds s => match ds with
  | [.int j] => if -(2 ^ 62) ≤ j ∧ j < 2 ^ 62 then .ok (rngs 0 j.toNat) s else .bad
  | _ => .bad
def mRng2 (ms : M (List D)) : M (List D) := fun sv => (ms sv).bind fun ds s => match ds with
  | [.int i, .int j] => if -(2 ^ 62) ≤ i ∧ i < 2 ^ 62 ∧ -(2 ^ 62) ≤ j ∧ j < 2 ^ 62 then .ok (rngs i (j - i).toNat) s else .bad
  | _ => .bad
variable {a b : Expr} {ms : M (List D)}
theorem si_range1 (hg : Gl X "range") (hm : X.mg "range" = none) (ha : SA X W [a] ms) (hs : starEach [a] X.env = [(false, eval a X.env)] := by rfl) : SI X W tg (.Call (.Name "range" p) [a] [] pos) (mRng1 ms) := pi_imp (pi_range1 hg hm ha hs) fun σ H R q => by
  obtain ⟨g, F, sv, hK, rl, q⟩ := q
  refine ⟨g, F, sv, hK, rl, PostG.bind q fun ds s x F1 H1 e1 rl1 rp1 q1 => ?_⟩
  split at q1
  · split at q1
    · obtain ⟨v, rfl, hv⟩ := RpL.one_inv rp1
      cases hv
      rename_i hz
      exact ⟨_, rfl, hz.1, hz.2, q1 _ F1 H1 (Same.refl F1) rl1 itr_ok⟩
    · exact False.elim q1
  · exact False.elim q1
theorem si_range2 (hg : Gl X "range") (hm : X.mg "range" = none) (ha : SA X W [a, b] ms) (hs : starEach [a, b] X.env = [(false, eval a X.env), (false, eval b X.env)] := by rfl) (hs2 : starEach [b] X.env = [(false, eval b X.env)] := by rfl) :
    SI X W tg (.Call (.Name "range" p) [a, b] [] pos) (mRng2 ms) := pi_imp (pi_range2 hg hm ha hs hs2) fun σ H R q => by
  obtain ⟨g, F, sv, hK, rl, q⟩ := q
  refine ⟨g, F, sv, hK, rl, PostG.bind q fun ds s x F1 H1 e1 rl1 rp1 q1 => ?_⟩
  split at q1
  · split at q1
    · obtain ⟨v, u, rfl, hv, hu⟩ := RpL.two_inv rp1
      cases hv; cases hu
      rename_i hz
      exact ⟨_, _, rfl, hz, q1 _ F1 H1 (Same.refl F1) rl1 itr_ok⟩
    · exact False.elim q1
  · exact False.elim q1
end

/-! #### enumerate -/
set_option maxHeartbeats 1000000 in
theorem meets_enum1 {v : Value} {o : Obj} {H : Heap → Prop} (B : Begins v o H) :
    Meets (Builtin.«enumerate.__new__» ⟨[.type "enumerate", v], []⟩) (fun _ R s => H s.heap ∧
      R (.ok (.ret (.ref (s.heap.push o).objs.size))) { s with heap := (s.heap.push o).push { cls := .type "enumerate", data := .fields #[.none, .bool false, .ref s.heap.objs.size, rawInt 0, .none, .none] } }) :=
  .of_wp fun prog w A R s h => by
    obtain ⟨hp, g, d, tk, os⟩ := s
    obtain ⟨h1, h⟩ := h
    have hsub := sub_enumerate
    have q1 : ∀ {A' : Around} {E : Value → Shared → Prop} {Q : Value → Shared → Prop}, Q (.ref hp.objs.size) ⟨hp.push o, g, d, tk, os⟩ → wpAny (model prog w) A' (pyIter v) Q E ⟨hp, g, d, tk, os⟩ :=
      fun q => B.iter prog w _ _ ⟨hp, g, d, tk, os⟩ _ h1 q
    wp_walk using q1
    refine wpAny_stack_any fun st => wpAny_pure ?_
    split
    · rename_i c _ _ _ _ _
      cases (c == Value.type "enumerate")
      · wp_walk using q1
        exact ⟨_, rfl, h⟩
      · wp_walk using q1
        exact ⟨_, rfl, h⟩
    · wp_walk using q1
      exact ⟨_, rfl, h⟩
theorem enum1 {prog : Program} {w : World} {A : Around} {E : Value → Shared → Prop} {s : Shared} {v : Value} {o : Obj} {H : Heap → Prop} {Q : Value → Shared → Prop} (B : Begins v o H) (h1 : H s.heap)
    (h : ∀ h', IsEnum h' (s.heap.objs.size + 1) s.heap.objs.size 0 .none → h'.get? s.heap.objs.size = some o → (∀ b o, s.heap.get? b = some o → h'.get? b = some o) → Q (.ref (s.heap.objs.size + 1)) { s with heap := h' }) :
    wpAny (model prog w) A (call (.type "enumerate") [v]) Q E s := by
  refine callType_new F.called_enumerate (by decide) (F.typeCall_enumerate_1 _) (F.newCall_enumerate_1 _) (fun obj => F.args_object_init_2 obj _) F.entry_enumerate_new (meets_enum1 B) ⟨h1, ?_⟩
  have hz : (s.heap.push o).objs.size = s.heap.objs.size + 1 := Heap.size_push ..
  show _ ∧ _
  rw [hz]
  have he : ((s.heap.push o).push { cls := .type "enumerate", data := .fields #[.none, .bool false, .ref s.heap.objs.size, rawInt 0, .none, .none] }).get? (s.heap.objs.size + 1) = some { cls := .type "enumerate", data := .fields #[.none, .bool false, .ref s.heap.objs.size, rawInt 0, .none, .none] } := by
    have := Heap.get?_push_size (s.heap.push o) (o := { cls := .type "enumerate", data := .fields #[.none, .bool false, .ref s.heap.objs.size, rawInt 0, .none, .none] }) rfl
    rw [hz] at this
    exact this
  exact ⟨⟨_, he, rfl⟩, h _ he (Heap.get?_push_of_some _ (Heap.get?_push_size _ B.free)) fun b o x => Heap.get?_push_of_some _ (Heap.get?_push_of_some _ x)⟩
/-- the tuple at a, each item in a new pair -/
def Iet (K : PySem.W.Frag) (a : Addr) : It :=
  ⟨fun i H => ∃ xs x, SqT K H a xs ∧ xs[i]? = some x, fun i H v H' => ∃ T x, v = .ref T ∧ H T = none ∧ H' = upd H T (.tup [.int (i : Nat), x]) ∧ ∀ xs, SqT K H a xs → xs[i]? = some x, fun i H => ∃ xs, SqT K H a xs ∧ xs.length ≤ i⟩
theorem enum_stop {prog : Program} {w : World} {A : Around} {E : Value → Shared → Prop} {s : Shared} {e it t : Addr} {i : Nat} {c : Int} {items : Array Value} {old : Value} {Q : Option Value → Shared → Prop} (hh : A.in1.handled = none)
    (he : IsEnum s.heap e it c old) (hit : s.heap.IsTupleIter it t i) (ht : s.heap.IsTuple t items) (hx : items[i]? = none) (hQ : ∀ h', Heap.ExtBut it s.heap h' → Q none { s with heap := h' }) : wpAny (model prog w) A (pyNext (.ref e)) Q E s := by
  have hT : s.TypeIs (.ref e) "enumerate" := ⟨_, he, rfl⟩
  unfold pyNext
  refine wpAny_bind (wpAny_attempt (wpAny_callSpecial?_slot (name := Str.ofString "__next__") hT F.slot_enumerate_next (wpAny_call_entry F.slot_enumerate_next hT F.entry_enumerate_next ?_ (F.args_enumerate_next_1 _))))
  show wpAny _ _ (field (.ref e) 2 >>= _) _ _ _
  refine wpAny_bind (wpAny_field he rfl (x := .ref it) rfl (wpAny_bind (wpAny_nextOf_tuple_end hh hit ht hx fun h' x he' hx' => ?_)))
  obtain ⟨o, ho, hc⟩ := hx'
  exact wpAny_bind (wpAny_isInstance (T := "StopIteration") (b := true) ⟨o, ho, hc⟩ isSubtype_stop (wpAny_pure (hQ _ he')))
theorem turn_enumT {P : Program} {w : World} {K : PySem.W.Frag} {elts : List Expr} {kk : Nat} {tpos : Pos} (a e it : Addr) :
    Turn P w K (.Tuple elts kk tpos) (Iet K a) [e, it] e (fun i h => (∃ old, IsEnum h e it ((i : Nat) : Int) old) ∧ h.IsTupleIter it a i ∧ e ≠ it ∧ a ≠ it ∧ a ≠ e) where
  mem := by simp
  obj := by
    rintro i h ⟨⟨old, he⟩, ⟨o, ho, hc, hd⟩, _⟩ b hb
    rcases List.mem_cons.mp hb with rfl | hb
    · exact ⟨_, he, fun v q => nomatch q⟩
    · rw [List.mem_singleton.mp hb]
      exact ⟨o, ho, fun v q => by rw [hd] at q; cases q⟩
  keep := by
    rintro i h h' ⟨⟨old, he⟩, hi, hne, hx⟩ k
    exact ⟨⟨old, k e (by simp) _ he⟩, hi.at fun o q => k it (by simp) o q, hne, hx⟩
  item := by
    intro X hP hw hK hc i pins s σ H E I hf st hg
    subst hP hw hK
    obtain ⟨⟨old, he⟩, hit, hne, hai, hae⟩ := st
    obtain ⟨xs, x, hq, hx⟩ := hg
    obtain ⟨its, rv, pl, hz⟩ := I.tuple hq
    obtain ⟨u, hu, ru⟩ := rv.get hx
    have hl := rv.length
    have hix : i < xs.length := (List.getElem?_eq_some_iff.mp hx).1
    have hel : e < s.heap.objs.size := Heap.lt_size he
    have hil : it < s.heap.objs.size := by obtain ⟨_, q, _⟩ := hit; exact Heap.lt_size q
    have hh : X.A.in1.handled = none := I.ok.hd hc
    have D := Draws.tuple (prog := X.prog) (w := X.w) (A := X.A.in1) hh it a hai its.toArray
    refine wpAny_pyNext_enum_itemD D he ⟨hit, show s.heap.IsTuple a its.toArray from pl⟩ (by simpa [← hl] using hix) hne (by simp [hne, Ne.symm hae]) fun y h' tk hy ho st' hT hsz hk => ?_
    have ey : y = u := by
      have hy' : its.toArray[i]? = some y := hy
      rw [List.getElem?_toArray, hu] at hy'
      exact (Option.some.inj hy').symm
    subst ey
    refine ⟨_, rfl, wpAny_letOwnedTupleGo_enum (s := { s with heap := h', toks := tk + 1 }) ho fun h'' he' sb => ?_⟩
    have hT2 : h''.get? s.heap.objs.size = some { cls := .type "tuple", data := .seq #[.int i tk, y] } := (sb.2 _ (Nat.ne_of_gt hel)).trans hT
    have new : ObjOk X.prog X.w (upd H s.heap.objs.size (.tup [.int (i : Nat), x])) h'' s.heap.objs.size (.tup [.int (i : Nat), x]) :=
      ⟨by show 2 ≤ sizeLine; decide, [.int i tk, y], .cons ⟨_, rfl⟩ (.cons ru .nil), ⟨_, hT2, rfl, _, rfl⟩⟩
    have I1 : Inv X pins σ (upd H s.heap.objs.size (.tup [.int (i : Nat), x])) { s with heap := h'', toks := tk + 1 } :=
      I.turnedNew (ch := [e, it]) (fun b ob hb q => (sb.2 b (fun z => hb (by simp [z]))).trans (hk b ob (fun z => hb (by simp [z])) (fun z => hb (by simp [z])) q)) hf (Nat.le_refl _) new
    have e1 : ((i + 1 : Nat) : Int) = (i : Int) + 1 := by omega
    refine ⟨.ref s.heap.objs.size, _, I1, rfl, ⟨_, x, rfl, I.hok.fresh (Nat.le_refl _), rfl, fun ys hy => by rw [I.tuple_inj hy hq]; exact hx⟩, ⟨⟨y, by rw [e1]; exact he'⟩, st'.1.at fun o q => (sb.2 it (Ne.symm hne)).trans q, hne, hai, hae⟩, fun b hb => ?_⟩
    have hb' : b < s.heap.objs.size := by
      rcases List.mem_cons.mp hb with rfl | hb
      · exact hel
      · rw [List.mem_singleton.mp hb]; exact hil
    rw [upd_ne (Nat.ne_of_lt hb')]
    exact (hf b hb).1
  done := by
    intro X hP hw hK hc i pins s σ H E I hf st hg
    subst hP hw hK
    obtain ⟨⟨old, he⟩, hit, hne, hai, hae⟩ := st
    obtain ⟨xs, hq, hx⟩ := hg
    obtain ⟨its, rv, pl, hz⟩ := I.tuple hq
    have hl := rv.length
    obtain ⟨f0, f1, f2, f3, f4, f5⟩ := hf it (by simp)
    have hh : X.A.in1.handled = none := I.ok.hd hc
    exact enum_stop hh he hit (show s.heap.IsTuple a its.toArray from pl) (by rw [List.getElem?_toArray]; exact List.getElem?_eq_none (by omega)) fun h' eb => ⟨rfl, I.turned (t' := s.toks) (fun b o hb q => eb b o hb q) f0 f1 f3 f4 f5⟩
  self := fun A i s Q E st h => let ⟨⟨_, he⟩, _⟩ := st; wpAny_pyIter_enum he h
/-- enumerate of a list or a tuple, as it comes -/
def iEnumA (K : PySem.W.Frag) (ta : TA) : TI := fun σ H R => ta σ H fun vs H1 => ∃ a, vs = [.ref a] ∧ (((∃ xs, SqL K H1 a xs) ∧ R (Ite K a) H1) ∨ ((∃ xs, SqT K H1 a xs) ∧ R (Iet K a) H1))
theorem pi_enumA {X : Cx} {e : Expr} {ta : TA} {p pos tpos : Pos} {elts : List Expr} {kk : Nat} (hg : Gl X "enumerate") (hm : X.mg "enumerate" = none) (ha : PA X [e] ta) (hs : starEach [e] X.env = [(false, eval e X.env)] := by rfl) :
    PI X (.Tuple elts kk tpos) (.Call (.Name "enumerate" p) [e] [] pos) (iEnumA X.K ta) := by
  constructor
  intro pins s σ H R I h
  refine Call_ (ld_blt I hg hm boot_enumerate (PyProof.Rows.callWith_type1 (thn (ha.run pos pins s σ H _ I h) ?_) hs rfl))
  rintro us s1 ⟨vs, H1, I1, r1, a, rfl, q⟩
  have er := r1.ref1
  subst er
  have two : ∀ b, b ∈ [s1.heap.objs.size + 1, s1.heap.objs.size] → s1.heap.objs.size ≤ b := fun b hb => by
    rcases List.mem_cons.mp hb with rfl | hb
    · exact Nat.le_succ _
    · rw [List.mem_singleton.mp hb]; exact Nat.le_refl _
  rcases q with ⟨⟨xs, hq⟩, q⟩ | ⟨⟨xs, hq⟩, q⟩
  · obtain ⟨its, rv, pl, hz⟩ := I1.list hq
    refine enum1 (begins_list a its.toArray) pl.isList fun h' he ho hk => wpAny_pyIter_enum he ?_
    exact ⟨s1.heap.objs.size + 1, [s1.heap.objs.size + 1, s1.heap.objs.size], _, _, H1, rfl, I1.kept (t' := s1.toks) hk, turn_enum a (s1.heap.objs.size + 1) s1.heap.objs.size, ⟨⟨.none, he⟩, ⟨_, ho, rfl, rfl⟩, Nat.succ_ne_self _⟩,
      fun b hb => I1.fpOk (two b hb) (I1.hok.fresh (two b hb)), q⟩
  · obtain ⟨its, rv, pl, hz⟩ := I1.tuple hq
    have hl : a < s1.heap.objs.size := pl.lt
    refine enum1 (begins_tuple a its.toArray) (show s1.heap.IsTuple a its.toArray from pl) fun h' he ho hk => wpAny_pyIter_enum he ?_
    exact ⟨s1.heap.objs.size + 1, [s1.heap.objs.size + 1, s1.heap.objs.size], _, _, H1, rfl, I1.kept (t' := s1.toks) hk, turn_enumT a (s1.heap.objs.size + 1) s1.heap.objs.size,
      ⟨⟨.none, he⟩, ⟨_, ho, rfl, rfl⟩, Nat.succ_ne_self _, Nat.ne_of_lt hl, Nat.ne_of_lt (Nat.lt_succ_of_lt hl)⟩, fun b hb => I1.fpOk (two b hb) (I1.hok.fresh (two b hb)), q⟩
def enumD : Nat → List D → List D
  | _, [] => []
  | n, d :: ds => .tup [.int (n : Nat), d] :: enumD (n + 1) ds
theorem enumD_len : ∀ (n : Nat) (ds : List D), (enumD n ds).length = ds.length
  | _, [] => rfl
  | n, d :: ds => by simp [enumD, enumD_len (n + 1) ds]
theorem enumD_get : ∀ (n : Nat) (ds : List D) (i : Nat) (d : D), (enumD n ds)[i]? = some d → ∃ e, ds[i]? = some e ∧ d = .tup [.int ((n + i : Nat) : Int), e]
  | _, [], i, d, h => by simp [enumD] at h
  | n, e :: ds, 0, d, h => by simp [enumD] at h; exact ⟨e, rfl, h.symm⟩
  | n, e :: ds, i + 1, d, h => by
    obtain ⟨e', h1, h2⟩ := enumD_get (n + 1) ds i d (by simpa [enumD] using h)
    exact ⟨e', by simpa using h1, by rw [h2]; congr 4; omega⟩
theorem ite_ok {K : PySem.W.Frag} {F : Hp} {a : Addr} {vs : List V} {ds : List D} (h : SqL K F a vs) (r : RpL K F ds vs) : ItOk K F (enumD 0 ds) (Ite K a) where
  go := fun i H hi s => ⟨vs, vs[i]'(by rw [← r.length, ← enumD_len 0 ds]; exact hi), s.seq h, List.getElem?_eq_getElem _⟩
  stop := fun H s => ⟨vs, s.seq h, by rw [enumD_len, r.length]; exact Nat.le_refl _⟩
  yld := fun i d x H H' hd s y => by
    obtain ⟨T, u, rfl, hT, rfl, y⟩ := y
    obtain ⟨e, he, rfl⟩ := enumD_get 0 ds i d hd
    obtain ⟨v, ev, rv⟩ := r.get i e he
    have := (y vs (s.seq h)).symm.trans ev
    cases this
    exact .inr ⟨T, _, _, rfl, rfl, hT, rfl, _, _, rfl, by show V.int _ = V.int _; congr 1; omega, _, _, rfl, rv, rfl⟩
theorem iet_ok {K : PySem.W.Frag} {F : Hp} {a : Addr} {vs : List V} {ds : List D} (h : SqT K F a vs) (r : RpL K F ds vs) : ItOk K F (enumD 0 ds) (Iet K a) where
  go := fun i H hi s => ⟨vs, vs[i]'(by rw [← r.length, ← enumD_len 0 ds]; exact hi), sqT_mono s h, List.getElem?_eq_getElem _⟩
  stop := fun H s => ⟨vs, sqT_mono s h, by rw [enumD_len, r.length]; exact Nat.le_refl _⟩
  yld := fun i d x H H' hd s y => by
    obtain ⟨T, u, rfl, hT, rfl, y⟩ := y
    obtain ⟨e, he, rfl⟩ := enumD_get 0 ds i d hd
    obtain ⟨v, ev, rv⟩ := r.get i e he
    have := (y vs (sqT_mono s h)).symm.trans ev
    cases this
    exact .inr ⟨T, _, _, rfl, rfl, hT, rfl, _, _, rfl, by show V.int _ = V.int _; congr 1; omega, _, _, rfl, rv, rfl⟩
def mEnum (ms : M (List D)) : M (List D) := fun sv => (ms sv).bind fun ds s => match ds with
  | [.tup xs] => .ok (enumD 0 xs) s
  | [.lst xs] => .ok (enumD 0 xs) s
  | [.fl xs] => .ok (enumD 0 xs) s
  | _ => .bad
theorem si_enum {X : Cx} {W : WX'} {e : Expr} {ms : M (List D)} {p pos tpos : Pos} {elts : List Expr} {kk : Nat} (hg : Gl X "enumerate") (hm : X.mg "enumerate" = none) (ha : SA X W [e] ms) (hs : starEach [e] X.env = [(false, eval e X.env)] := by rfl) :
    SI X W (.Tuple elts kk tpos) (.Call (.Name "enumerate" p) [e] [] pos) (mEnum ms) := pi_imp (pi_enumA hg hm ha hs) fun σ H R q => by
  obtain ⟨g, F, sv, hK, rl, q⟩ := q
  refine ⟨g, F, sv, hK, rl, PostG.bind q fun ds s x F1 H1 e1 rl1 rp1 q1 => ?_⟩
  rw [← hK.1]
  split at q1
  · obtain ⟨v, rfl, a, vs, rfl, h1, h2⟩ := RpL.one_inv rp1
    exact ⟨a, rfl, .inr ⟨⟨vs, sqT_mono rl1.sub h1⟩, q1 _ F1 H1 (Same.refl F1) rl1 (iet_ok h1 h2)⟩⟩
  · obtain ⟨v, rfl, a, vs, rfl, h1, h2⟩ := RpL.one_inv rp1
    exact ⟨a, rfl, .inl ⟨⟨vs, .inl (.inl (rl1.sub _ _ h1))⟩, q1 _ F1 H1 (Same.refl F1) rl1 (ite_ok (.inl (.inl h1)) h2)⟩⟩
  · obtain ⟨v, rfl, a, vs, rfl, h1, h2⟩ := RpL.one_inv rp1
    exact ⟨a, rfl, .inl ⟨⟨vs, rl1.sub.seq h1⟩, q1 _ F1 H1 (Same.refl F1) rl1 (ite_ok h1 h2)⟩⟩
  · exact False.elim q1
end VM

set_option Elab.async false
set_option linter.all false
set_option autoImplicit false
set_option maxRecDepth 100000
set_option maxHeartbeats 400000
namespace VM
open PySem PySem.Spec PyProof.Rows L2

/-! ### defs -/
inductive FR where
  | ok (d : D) (o : Option D) | err (x : Exn) (o : Option D) | bad
abbrev Fn := List D → FR

def PostF (K : PySem.W.Frag) (mg : Str → Option Value) (F H : Hp) (ip : Option Addr) (ro : Bool) (r : FR) (Q : VK) (E : XK) : Prop := match r with
  | .ok d o => ∀ v F' H', Same F F' → Same F' H' → (∀ a u, H a = some u → ip ≠ some a → H' a = some u) → (∀ a, H a ≠ none → F' a = F a) → (∀ p, ip = some p → ∃ d', o = some d' ∧ OwnP K F' H' d' p) →
      (if ro = true then ∃ p, v = .ref p ∧ H p = none ∧ OwnP K F' H' d p else Rp K F' d v) → Q v H'
  | .err x o => ∀ cls dd F' H', Same F F' → Same F' H' → (∀ a u, H a = some u → ip ≠ some a → H' a = some u) → (∀ a, H a ≠ none → F' a = F a) → (∀ p, ip = some p → ∃ d', o = some d' ∧ OwnP K F' H' d' p) →
      ErrOk K mg F' x cls dd → E cls dd H'
  | .bad => False
/-- what a def promises: it computes fn; io: the place of the argument that it may change; ro: its answer is new and the caller's -/
def spV (K : PySem.W.Frag) (mg : Str → Option Value) (n : Nat) (io : Option Nat) (ro : Bool) (fn : Fn) : Sp := fun vs H Q E => vs.length = n ∧ match io with
  | none => ∃ F ds, Same F H ∧ RpL K F ds vs ∧ PostF K mg F H none ro (fn ds) Q E
  | some k => ∃ F ds1 d ds2 vs1 p vs2, Same F H ∧ ds1.length = k ∧ vs = vs1 ++ V.ref p :: vs2 ∧ RpL K F ds1 vs1 ∧ OwnP K F H d p ∧ RpL K F ds2 vs2 ∧ PostF K mg F H (some p) ro (fn (ds1 ++ d :: ds2)) Q E

/-- FnOk, where no repr is under way -/
structure FnG (P : Program) (w : World) (K : PySem.W.Frag) (mg : Str → Option Value) (base : Heap) (k : Nat) (f : Addr) (fd : FuncData) (ps : List Str) (sp : Sp) : Prop where
  len : ∀ vs H Q E, sp vs H Q E → vs.length = ps.length
  run : ∀ (A : Around) (outer : List Env) (s : Shared) (H : Hp) (args : Args) (us : List Value) (vs : List V) (Q : VK) (E : XK), A.guards = some [] → Room k A → Env0 P w K mg base A outer s H → BindsTo s fd args (ps.zip us) → Vals vs us → sp vs H Q E →
    codeAny (model P w) A (.call (.ref f) args) (CR (L2N.CX P w) outer P w H s Q E) s
theorem FnG.mono {P : Program} {w : World} {K : PySem.W.Frag} {mg : Str → Option Value} {base : Heap} {j k : Nat} {f : Addr} {fd : FuncData} {ps : List Str} {sp : Sp} (F : FnG P w K mg base j f fd ps sp) (h : j ≤ k) : FnG P w K mg base k f fd ps sp :=
  ⟨F.len, fun A outer s H args us vs Q E hg hr => F.run A outer s H args us vs Q E hg (hr.mono h)⟩

/-- what a body's derivation leans on -/
structure Ctx (X : Cx) (W : WX') (k : Nat) : Prop where
  tk : L2N.Takes X W
  hr : Room k X.A
  hg : X.A.guards = some []
  po : PassesOwn (model X.prog X.w) X.A X.env X.xe
theorem Ctx.u {X : Cx} {W : WX'} {k : Nat} (c : Ctx X W k) : X.A.units + 64 < cLine := by have := c.hr.un; omega
theorem Ctx.u5 {X : Cx} {W : WX'} {k : Nat} (c : Ctx X W k) : X.A.units + 65 < cLine := by have := c.hr.un; omega
abbrev WE0 (E : XK) : WX' := fun cls d _ H => E cls d H

/-- the frame at a def's entry -/
def initA (io : Option Nat) : Nat → List D → SV
  | _, [] => []
  | k, d :: ds => (if io = some k then .io 0 d else .pl d) :: initA io (k + 1) ds
def outS (io : Option Nat) (sv : SV) : Option (Option D) := match io with
  | none => some none
  | some k => match sv[k]? with
    | some (.io _ d) => some (some d)
    | _ => none
def fnOf (n : Nat) (io : Option Nat) (ro : Bool) (body : MS) : Fn := fun ds => match body (initA io 0 ds ++ List.replicate (n - ds.length) .un) with
  | .nx s => match outS io s with
    | some o => if ro = true then .bad else .ok .non o
    | none => .bad
  | .rt d s => match outS io s with
    | some o => if ro = true then .bad else .ok d o
    | none => .bad
  | .ro d s => match outS io s with
    | some o => if ro = true then .ok d o else .bad
    | none => .bad
  | .err x s => match outS io s with
    | some o => .err x o
    | none => .bad
  | _ => .bad
theorem initA_len (io : Option Nat) : ∀ (k : Nat) (ds : List D), (initA io k ds).length = ds.length
  | _, [] => rfl
  | k, d :: ds => by simp [initA, initA_len io (k + 1) ds]
theorem initA_get (io : Option Nat) : ∀ (k : Nat) (ds : List D) (i : Nat), (initA io k ds)[i]? = ds[i]?.map fun d => if io = some (k + i) then .io 0 d else .pl d
  | _, [], i => by simp [initA]
  | k, d :: ds, 0 => by simp [initA]
  | k, d :: ds, i + 1 => by
    simp only [initA, List.getElem?_cons_succ]
    rw [initA_get io (k + 1) ds i]
    have : k + 1 + i = k + (i + 1) := by omega
    rw [this]

theorem rl_init {K : PySem.W.Frag} {mx : MX} {F H : Hp} {N : List Str} {ds : List D} {vs : List V} {io : Option Nat} {ip : Option Addr} (sub : Same F H) (hn : vs.length ≤ N.length) (len : ds.length = vs.length)
    (hp : ∀ i d v, ds[i]? = some d → vs[i]? = some v → if io = some i then ∃ p, ip = some p ∧ v = .ref p ∧ OwnP K F H d p else Rp K F d v) (hio : ∀ p, ip = some p → H p ≠ none) :
    Rl ⟨K, fun a => if ip = some a then none else H a, fun a => H a ≠ none, F, fun _ => ip, mx⟩ F H (start N vs) (initA io 0 ds ++ List.replicate (N.length - ds.length) .un) := by
  have slot : ∀ (i : Nat) (s : Sl), (initA io 0 ds ++ List.replicate (N.length - ds.length) Sl.un)[i]? = some s → s = .un ∨ ∃ d v, ds[i]? = some d ∧ vs[i]? = some v ∧ (start N vs)[i]? = some (some v) ∧ s = if io = some i then .io 0 d else .pl d := fun i s h => by
    by_cases hi : i < ds.length
    · rw [List.getElem?_append_left (by rw [initA_len]; exact hi), initA_get, List.getElem?_eq_getElem hi] at h
      have hv : i < vs.length := by omega
      have e1 : vs[i]? = some vs[i] := List.getElem?_eq_getElem hv
      refine .inr ⟨ds[i], vs[i], List.getElem?_eq_getElem hi, e1, ?_, ?_⟩
      · unfold L2.start
        rw [List.getElem?_append_left (by simpa using hv), List.getElem?_map, e1]
        rfl
      · simpa using (Option.some.inj h).symm
    · rw [List.getElem?_append_right (by rw [initA_len]; omega)] at h
      obtain ⟨_, h2⟩ := List.getElem?_eq_some_iff.mp h
      exact .inl (by simpa using h2.symm)
  refine ⟨sub, fun a o e => ?_, fun a _ => rfl, fun a h => h, fun a o e => ?_, fun k p e => ?_, ?_, fun i s h => ?_, fun i j p hi hj => ?_⟩
  · dsimp only at e
    split at e
    · cases e
    · exact e
  · dsimp only at e
    split at e
    · cases e
    · intro z; rw [z] at e; cases e
  · have e' : ip = some p := e
    refine ⟨by show (if ip = some p then none else H p) = none; rw [if_pos e'], ?_⟩
    exact hio p e' 
  · unfold L2.start
    simp only [List.length_append, List.length_map, List.length_replicate, initA_len]
    omega
  · rcases slot i s h with rfl | ⟨d, v, e1, e2, e3, rfl⟩
    · trivial
    · have q := hp i d v e1 e2
      split
      · rename_i hio
        rw [if_pos hio] at q
        obtain ⟨p, ep, rfl, o⟩ := q
        exact ⟨p, e3, ep, o⟩
      · rename_i hio
        rw [if_neg hio] at q
        exact ⟨v, e3, q⟩
  · have one : ∀ i, Ref (start N vs) (initA io 0 ds ++ List.replicate (N.length - ds.length) Sl.un) i p → io = some i := fun i ⟨⟨s, e1, e2⟩, e3⟩ => by
      rcases slot i s e1 with rfl | ⟨d, v, _, _, _, rfl⟩
      · rcases e2 with ⟨_, z⟩ | ⟨_, _, z⟩ <;> cases z
      · by_cases h : io = some i
        · exact h
        · rw [if_neg h] at e2
          rcases e2 with ⟨_, z⟩ | ⟨_, _, z⟩ <;> cases z
    have h1 := one i hi
    have h2 := one j hj
    rw [h1] at h2
    exact Option.some.inj h2

section
variable {P : Program} {w : World} {K : PySem.W.Frag} {mg : Str → Option Value} {base : Heap}
theorem fin_post {mx : MX} {n : Nat} {io : Option Nat} {ip : Option Addr} {ro : Bool} {body : MS} {ds : List D} {F H : Hp} {Q : VK} {E : XK} {g : G} (eg : g = ⟨K, fun a => if ip = some a then none else H a, fun a => H a ≠ none, F, fun _ => ip, mx⟩) (hio : ∀ p, ip = some p → ∃ k, io = some k)
    (q : PostF K mx.mg F H ip ro (fnOf n io ro body ds) Q E) : PostS mx g F (body (initA io 0 ds ++ List.replicate (n - ds.length) .un)) (WE0 E) { nx := fun _ H' => Q .non H', rt := Q } := by
  subst eg
  have keep : ∀ {F' H' : Hp} {σ' : L2.St} {sv' : SV}, Rl ⟨K, fun a => if ip = some a then none else H a, fun a => H a ≠ none, F, fun _ => ip, mx⟩ F' H' σ' sv' → ∀ a u, H a = some u → ip ≠ some a → H' a = some u := fun rl a u e ne => rl.kH a u (by show (if ip = some a then none else H a) = some u; rw [if_neg ne]; exact e)
  have out : ∀ {F' H' : Hp} {σ' : L2.St} {sv' : SV} {o : Option D}, Rl ⟨K, fun a => if ip = some a then none else H a, fun a => H a ≠ none, F, fun _ => ip, mx⟩ F' H' σ' sv' → outS io sv' = some o → ∀ p, ip = some p → ∃ d', o = some d' ∧ OwnP K F' H' d' p := fun {F' H' σ' sv' o} rl ho p hp => by
    obtain ⟨k, hk⟩ := hio p hp
    subst hk
    unfold outS at ho
    split at ho
    · rename_i z
      cases z
    · rename_i k' z
      cases z
      split at ho
      · rename_i j d hs
        cases ho
        obtain ⟨p', _, e2, o'⟩ := rl.sl _ _ hs
        have e2' : ip = some p' := e2
        rw [hp] at e2'; cases e2'
        exact ⟨d, rfl, o'⟩
      · cases ho
  unfold fnOf at q
  cases hb : body (initA io 0 ds ++ List.replicate (n - ds.length) .un) with
  | nx s =>
    rw [hb] at q
    intro σ' F' H' e rl
    cases ho : outS io s with
    | none => simp only [ho] at q; exact False.elim q
    | some o =>
      simp only [ho] at q
      split at q
      · exact False.elim q
      · rename_i hro
        exact q .non F' H' e rl.sub (keep rl) rl.kF (out rl ho) (by rw [if_neg hro]; rfl)
  | rt d s =>
    rw [hb] at q
    intro v σ' F' H' e rl rp
    cases ho : outS io s with
    | none => simp only [ho] at q; exact False.elim q
    | some o =>
      simp only [ho] at q
      split at q
      · exact False.elim q
      · rename_i hro
        exact q v F' H' e rl.sub (keep rl) rl.kF (out rl ho) (by rw [if_neg hro]; exact rp)
  | ro d s =>
    rw [hb] at q
    intro v σ' F' H' e rl rp
    cases ho : outS io s with
    | none => simp only [ho] at q; exact False.elim q
    | some o =>
      simp only [ho] at q
      split at q
      · rename_i hro
        obtain ⟨p, rfl, nf, o', _⟩ := rp
        have hp : H p = none := by
          cases z : H p with
          | none => rfl
          | some u => exact absurd (show H p ≠ none by rw [z]; exact fun z => nomatch z) nf
        exact q _ F' H' e rl.sub (keep rl) rl.kF (out rl ho) (by rw [if_pos hro]; exact ⟨p, rfl, hp, o'⟩)
      · exact False.elim q
  | err x s =>
    rw [hb] at q
    intro cls dd σ' F' H' e rl er
    cases ho : outS io s with
    | none => simp only [ho] at q; exact False.elim q
    | some o =>
      simp only [ho] at q
      exact q cls dd F' H' e rl.sub (keep rl) rl.kF (out rl ho) er
  | bk s => rw [hb] at q; exact False.elim q
  | ct s => rw [hb] at q; exact False.elim q
  | bad => rw [hb] at q; exact False.elim q
/-- THE RULE for a def -/
theorem fn_ok {x qual : Str} {st : Stmt} {f : Addr} {fd : FuncData} {N ps : List Str} {k n : Nat} {io : Option Nat} {ro : Bool} {body : MS} (F : Fun K x qual st f fd) (S : FnScope N ps (defScope st)) (hn : n = ps.length) (hN : ps.length ≤ N.length)
    (hb : ∀ (cdv : Value) (A : Around) (outer : List Env) (s : Shared) (H : Hp) (E : XK), Ctx (cxOf (L2N.CX P w) P w K mg base N qual (defScope st) f cdv A outer s H E) (WE0 E) k →
      SSs (cxOf (L2N.CX P w) P w K mg base N qual (defScope st) f cdv A outer s H E) (WE0 E) (defBody st) body) :
    FnG P w K mg base (k + 1) f fd ps (spV K mg n io ro (fnOf N.length io ro body)) := by
  obtain ⟨oc, od, kV, doc, pm, an, cdv, ct, osl, rfl, lk, hcd⟩ := F.ex
  subst hn
  have len : ∀ vs H Q E, spV K mg ps.length io ro (fnOf N.length io ro body) vs H Q E → vs.length = ps.length := fun vs H Q E h => h.1
  constructor
  · exact len
  intro A outer s H args us vs Q E hg hr e0 hbd r hsp
  have hl := len _ _ _ _ hsp
  have KX : K.In s.heap := e0.mod.kin.keeps fun b o e => (e0.bs b o e).1
  have lim : s.heap.NoLimit := e0.mod.nolimit.keeps fun b o e => (e0.bs b o e).1
  have kinds : ∀ y ∈ ps.zip us, (defScope st).names.lookup y.1 = some .local ∨ ((defScope st).names.lookup y.1 = some .cell ∧ ((cellsFrom (s.heap.objs.size + 1) (defScope st).names []).lookup y.1).isSome = true) := fun y hy => by
    rcases S.par y.1 (List.of_mem_zip hy).1 with q | q
    · exact .inl q
    · exact .inr ⟨q, PySem.W.cellsFrom_some _ _ _ (.inl q)⟩
  refine codeAny_call_function hr.depth (KX _ _ lk) rfl S.co S.gen rfl (PySem.W.codeRec_of KX hcd) (hbd _ _ _ _ ?_)
  refine wpAny_newFunctionEnv_cells S.kind kinds fun env he s1 x => ?_
  subst he
  refine ⟨lim.keeps x.toInCall.keep, codeAny_func ?_⟩
  have cx : Ctx (cxOf (L2N.CX P w) P w K mg base N qual (defScope st) f cdv A outer s H E) (WE0 E) k := ⟨L2N.takes_of rfl rfl rfl rfl, hr.deeper _, hg, passes_of rfl⟩
  have ht := hb cdv A outer s H E cx
  have I : Inv (cxOf (L2N.CX P w) P w K mg base N qual (defScope st) f cdv A outer s H E) [] (start N vs) H s1 := inv_start S hr.hd e0 hl r x
  have hq : tS K ⟨mg, none⟩ (WE0 E) body { nx := fun _ H' => Q .non H', rt := Q } (start N vs) H := by
    obtain ⟨_, h⟩ := hsp
    cases io with
    | none =>
      obtain ⟨F, ds, sub, rv, q⟩ := h
      have hv : vs.length ≤ N.length := by omega
      refine ⟨_, F, _, (by exact ⟨rfl, rfl⟩), rl_init (mx := ⟨mg, none⟩) (N := N) (io := none) (ip := none) sub hv rv.length (fun i d v e1 e2 => ?_) (fun p hp => nomatch hp), fin_post rfl (fun p hp => nomatch hp) q⟩
      rw [if_neg (by exact fun z => nomatch z)]
      obtain ⟨v', e3, h3⟩ := rv.get i d e1
      rw [e2] at e3; cases e3
      exact h3
    | some j =>
      obtain ⟨F, ds1, d, ds2, vs1, p, vs2, sub, hj, rfl, r1, o, r2, q⟩ := h
      have l1 := r1.length
      have l2 := r2.length
      refine ⟨_, F, _, (by exact ⟨rfl, rfl⟩), rl_init (mx := ⟨mg, none⟩) (N := N) (io := some j) (ip := some p) (ds := ds1 ++ d :: ds2) sub (by omega) (by simp [l1, l2]) (fun i d' v e1 e2 => ?_) (fun p' hp' => by cases hp'; exact o.nn), fin_post rfl (fun _ _ => ⟨j, rfl⟩) q⟩
      rcases Nat.lt_trichotomy i ds1.length with hi | hi | hi
      · rw [if_neg (by intro z; have := Option.some.inj z; omega)]
        rw [List.getElem?_append_left hi] at e1
        rw [List.getElem?_append_left (by omega)] at e2
        obtain ⟨v', e3, h3⟩ := r1.get i d' e1
        rw [e2] at e3; cases e3
        exact h3
      · have e : j = i := by omega
        subst e
        rw [if_pos rfl]
        rw [List.getElem?_append_right (by omega), hi, Nat.sub_self] at e1
        rw [List.getElem?_append_right (by omega), hi, l1, Nat.sub_self] at e2
        cases e1; cases e2
        exact ⟨p, rfl, rfl, o⟩
      · rw [if_neg (by intro z; have := Option.some.inj z; omega)]
        obtain ⟨t, ht⟩ : ∃ t, i - ds1.length = t + 1 := ⟨i - ds1.length - 1, by omega⟩
        rw [List.getElem?_append_right (by omega), ht] at e1
        rw [List.getElem?_append_right (by omega), ← l1, ht] at e2
        obtain ⟨v', e3, h3⟩ := r2.get t d' (by simpa using e1)
        have e2' : vs2[t]? = some v := by simpa using e2
        rw [e2'] at e3; cases e3
        exact h3
  refine wpAny_mono (ht.run [] s1 (start N vs) H _ I hq) (fun fl s' hs => ?_) fun e s' hs => hs
  have fin : ∀ {σ' : L2.St} {H' : Hp} {v : V} {u : Value}, Inv (cxOf (L2N.CX P w) P w K mg base N qual (defScope st) f cdv A outer s H E) [] σ' H' s' → RelV v u → Q v H' → CE outer P w H s Q u s' :=
    fun {σ' H' v u} J rv q => ⟨v, H', J.os, J.bare, J.base, J.hok, rv, q⟩
  cases fl with
  | ret u => obtain ⟨v, σ', H', J, rv, q⟩ := hs; exact fin J rv q
  | next => obtain ⟨σ', H', J, q⟩ := hs; exact fin (v := V.non) (u := Value.none) J rfl q
  | brk => obtain ⟨_, _, _, q⟩ := hs; exact False.elim q
  | cont => obtain ⟨_, _, _, q⟩ := hs; exact False.elim q
end

/-! ### calls -/
/-- arguments, one of them handed over to be changed -/
def RelAI (g : G) (F' _H' : Hp) (σ : L2.St) (_ : SV) (a : List D × Nat × List D) (vs : List V) : Prop := ∃ vs1 v vs2, vs = vs1 ++ v :: vs2 ∧ RpL g.K F' a.1 vs1 ∧ σ[a.2.1]? = some (some v) ∧ RpL g.K F' a.2.2 vs2
abbrev SAI (X : Cx) (W : WX') (es : List Expr) (m : M (List D × Nat × List D)) : Prop := PA X es (tG X.K X.mx W RelAI m)
section
variable {X : Cx} {W : WX'} {e : Expr} {es : List Expr} {m : M D} {ms : M (List D)} {mi : M (List D × Nat × List D)} {pos p : Pos} {x : Str}
def miHere (i : Nat) (ms : M (List D)) : M (List D × Nat × List D) := fun sv => match sv[i]? with
  | some (.ow _) => (ms sv).bind fun ds s => .ok ([], i, ds) s
  | some (.io _ _) => (ms sv).bind fun ds s => .ok ([], i, ds) s
  | _ => .bad
def miCons (m : M D) (mi : M (List D × Nat × List D)) : M (List D × Nat × List D) := fun sv => (m sv).bind fun d s1 => (mi s1).bind fun a s2 => .ok (d :: a.1, a.2.1, a.2.2) s2
theorem sai_here {i : Nat} {y : Str} {py : Pos} (hv : PE X (.Name y py) (tVar i)) (hr : SA X W es ms) (hs : starEach (.Name y py :: es) X.env = (false, eval (.Name y py) X.env) :: starEach es X.env := by rfl) : SAI X W (.Name y py :: es) (miHere i ms) := pa_imp (pa_cons hv hr hs) fun σ H Q q => by
  obtain ⟨g, F, sv, hK, rl, q⟩ := q
  have two : ∀ {p : Addr}, σ[i]? = some (some (.ref p)) → PostG X.mx g F σ ((ms sv).bind fun ds s => .ok ([], i, ds) s) W RelAI Q → tCons (tVar i) (tG X.K X.mx W RelL ms) σ H Q := fun {p} e1 q => by
    refine ⟨.ref p, e1, g, F, sv, hK, rl, PostG.bind q fun ds s vs F1 H1 e2 rl1 rp1 q1 => ?_⟩
    exact q1 _ F1 H1 (Same.refl F1) rl1 ⟨[], _, vs, rfl, rfl, e1, rp1⟩
  unfold miHere at q
  split at q
  · rename_i d hd
    obtain ⟨p, e1, _⟩ := rl.at hd
    exact two e1 q
  · rename_i k d hd
    obtain ⟨p, e1, _⟩ := rl.at hd
    exact two e1 q
  · exact False.elim q
theorem sai_cons (ha : SE X W e m) (hr : SAI X W es mi) (hs : starEach (e :: es) X.env = (false, eval e X.env) :: starEach es X.env := by rfl) : SAI X W (e :: es) (miCons m mi) := pa_imp (pa_cons ha hr hs) fun σ H Q q => by
  obtain ⟨g, F, sv, hK, rl, q⟩ := q
  refine ⟨g, F, sv, hK, rl, PostG.bind q fun d s1 v F1 H1 e1 rl1 rp1 q1 => ?_⟩
  refine ⟨g, F1, s1, hK, rl1, PostG.bind q1 fun a s2 vs F2 H2 e2 rl2 rp2 q2 => ?_⟩
  obtain ⟨vs1, u, vs2, rfl, r1, r2, r3⟩ := rp2
  exact q2 _ F2 H2 (Same.refl F2) rl2 ⟨v :: vs1, u, vs2, rfl, ⟨v, vs1, rfl, Rp.mono e2 _ _ rp1, r1⟩, r2, r3⟩

/-- the call of a def by name -/
theorem pe_callG {k : Nat} {f : Addr} {fd : FuncData} {ps : List Str} {sp : Sp} {dvs : List V} {ds : List Value} {E : L2.St → XK} {t : TA} (F : FnG X.prog X.w X.K X.mg X.base k f fd ps sp) (hgd : X.A.guards = some []) (hr : Room k X.A) (hg : Gl X x) (hm : X.mg x = some (.ref f)) (hk : PySem.W.keepIn X.K (.ref f) = true) (hb : Binds X.K fd ps ds) (hd : Vals dvs ds) (hx : ∀ σ, PassesAt (L2N.CX X.prog X.w) X σ (E σ))
    (ha : PA X (e :: es) t) (hdb : (x == ("__debug__" : Str)) = false := by decide) (he : starEach (e :: es) X.env = (false, eval e X.env) :: starEach es X.env := by rfl) (hpl : (backTo pos (starEach es X.env)).any (·.1) = false := by rfl) :
    PE X (.Call (.Name x p) (e :: es) [] pos) (tCallSD sp dvs E t) := by
  constructor
  intro pins s σ H Q I h
  refine wpAny_Call_Name_kw (ld_glob I hg hm (PySem.W.callWith_K (h₀ := X.base) I.ok.mod.kin hk (thn (ha.run pos pins s σ H _ I h) fun us s1 ⟨vs, H1, I1, r, q⟩ => ⟨I1.kIn, ?_⟩) he hpl) hdb)
  have r2 : Vals (vs ++ dvs) (us ++ ds) := r.append hd
  have hl : (us ++ ds).length = ps.length := r2.length.symm.trans (F.len _ _ _ _ q)
  refine wpAny_call (codeAny_mono (F.run X.A X.stack s1 H1 ⟨us, []⟩ (us ++ ds) (vs ++ dvs) Q (E σ) hgd hr I1.env0 (hb s1 us I1.kIn hl) r2 q) fun o s' hq => ?_)
  cases o with
  | error er => exact hx σ pins H1 s1 er s' I1 hq
  | ok fl =>
    cases fl with
    | ret u => exact I1.after hq
    | next => exact False.elim hq
    | brk => exact False.elim hq
    | cont => exact False.elim hq
theorem pe_callG0 {k : Nat} {f : Addr} {fd : FuncData} {ps : List Str} {sp : Sp} {dvs : List V} {ds : List Value} {E : L2.St → XK} (F : FnG X.prog X.w X.K X.mg X.base k f fd ps sp) (hgd : X.A.guards = some []) (hr : Room k X.A) (hg : Gl X x) (hm : X.mg x = some (.ref f)) (hk : PySem.W.keepIn X.K (.ref f) = true) (hb : Binds X.K fd ps ds) (hd : Vals dvs ds) (hx : ∀ σ, PassesAt (L2N.CX X.prog X.w) X σ (E σ))
    (hdb : (x == ("__debug__" : Str)) = false := by decide) : PE X (.Call (.Name x p) [] [] pos) (tCallSD sp dvs E tNil) := by
  constructor
  intro pins s σ H Q I h
  have h : sp dvs H Q (E σ) := h
  refine wpAny_Call_Name_kw (ld_glob I hg hm (PySem.W.callWith_K0 I.kIn hk ?_) hdb)
  have hl : ([] ++ ds).length = ps.length := hd.length.symm.trans (F.len _ _ _ _ h)
  refine wpAny_call (codeAny_mono (F.run X.A X.stack s H ⟨[], []⟩ ([] ++ ds) dvs Q (E σ) hgd hr I.env0 (hb s [] I.kIn hl) hd h) fun o s' hq => ?_)
  cases o with
  | error er => exact hx σ pins H s er s' I hq
  | ok fl =>
    cases fl with
    | ret u => exact I.after hq
    | next => exact False.elim hq
    | brk => exact False.elim hq
    | cont => exact False.elim hq

/-- behind a call: the frame's state -/
theorem Rl.after {g : G} {F H F' H' : Hp} {σ : L2.St} {sv : SV} (r : Rl g F H σ sv) (s1 : Same F F') (s2 : Same F' H') (kp : ∀ a u, H a = some u → H' a = some u) (kf : ∀ a, H a ≠ none → F' a = F a) : Rl g F' H' σ sv := by
  have nn : ∀ a, H a ≠ none → H' a = H a := fun a h => by
    cases z : H a with
    | none => exact absurd z h
    | some u => exact kp a u z
  refine ⟨s2, fun a o e => kp _ _ (r.kH a o e), fun a h => (kf a (r.fxH a h)).trans (r.kF a h), fun a h => by rw [nn a (r.fxH a h)]; exact r.fxH a h, r.pf, r.ion, r.len, fun i s e => ?_, r.dj⟩
  have q := r.sl i s e
  cases s with
  | un => trivial
  | ex x => exact SlOk.exm (by first | exact sF | exact s1 | exact Same.refl _ | assumption) q
  | pl d => obtain ⟨v, e1, h⟩ := q; exact ⟨v, e1, Rp.mono s1 d v h⟩
  | ow d =>
    obtain ⟨p, e1, nf, o⟩ := q
    exact ⟨p, e1, nf, (o.monoF s1 (by rw [kf p o.nn]; exact o.1)).monoH (nn p o.nn)⟩
  | io k d =>
    obtain ⟨p, e1, nf, o⟩ := q
    exact ⟨p, e1, nf, (o.monoF s1 (by rw [kf p o.nn]; exact o.1)).monoH (nn p o.nn)⟩
theorem Rl.afterIo {g : G} {F H F' H' : Hp} {σ : L2.St} {sv : SV} (r : Rl g F H σ sv) {i : Nat} {p : Addr} {s s' : Sl} {d d' : D} (hs : sv[i]? = some s) (hd : slD s = some d) (hs' : reSl s d' = some s') (hp : σ[i]? = some (some (.ref p)))
    (s1 : Same F F') (s2 : Same F' H') (kp : ∀ a u, H a = some u → some p ≠ some a → H' a = some u) (kf : ∀ a, H a ≠ none → F' a = F a) (ho : OwnP g.K F' H' d' p) : Rl g F' H' σ (sv.set i s') := by
  have hi : i < sv.length := (List.getElem?_eq_some_iff.mp hs).1
  have ref : Ref σ sv i p := by
    refine ⟨⟨s, hs, ?_⟩, hp⟩
    cases s with
    | ow d => exact .inl ⟨_, rfl⟩
    | io k d => exact .inr ⟨_, _, rfl⟩
    | _ => cases hd
  obtain ⟨nF, nH, nP⟩ := r.own ref
  have nn : ∀ a, a ≠ p → H a ≠ none → H' a = H a := fun a hap h => by
    cases z : H a with
    | none => exact absurd z h
    | some u => exact kp a u z (fun z => hap (Option.some.inj z).symm)
  have rr : ∀ j q, Ref σ (sv.set i s') j q → Ref σ sv j q := fun j q ⟨⟨t, e1, e2⟩, e3⟩ => by
    by_cases h : i = j
    · subst h
      rw [hp] at e3
      cases e3
      exact ref
    · rw [List.getElem?_set_ne h] at e1
      exact ⟨⟨t, e1, e2⟩, e3⟩
  refine ⟨s2, fun a o e => ?_, fun a h => (kf a (r.fxH a h)).trans (r.kF a h), fun a h => ?_, r.pf, r.ion, by simp [r.len], fun j t e => ?_, fun j k q x y => r.dj j k q (rr _ _ x) (rr _ _ y)⟩
  · have hap : a ≠ p := fun z => by rw [z, nP] at e; cases e
    exact kp _ _ (r.kH a o e) fun z => hap (Option.some.inj z).symm
  · by_cases hap : a = p
    · rw [hap]; exact ho.nn
    · rw [nn a hap (r.fxH a h)]; exact r.fxH a h
  · by_cases h : i = j
    · subst h
      rw [List.getElem?_set_self hi] at e
      cases e
      have q := r.sl i s hs
      cases s with
      | ow d => cases hs'; obtain ⟨p', e1, nf, _⟩ := q; rw [hp] at e1; cases e1; exact ⟨p, hp, nf, ho⟩
      | io k d => cases hs'; obtain ⟨p', e1, nf, _⟩ := q; rw [hp] at e1; cases e1; exact ⟨p, hp, nf, ho⟩
      | _ => cases hd
    · rw [List.getElem?_set_ne h] at e
      have q := r.sl j t e
      cases t with
      | un => trivial
      | ex x => exact SlOk.exm (by first | exact sF | exact s1 | exact Same.refl _ | assumption) q
      | pl d => obtain ⟨v, e1, h⟩ := q; exact ⟨v, e1, Rp.mono s1 d v h⟩
      | ow d =>
        obtain ⟨q', e1, nf, o'⟩ := q
        have hne : q' ≠ p := fun z => h (r.dj i j p ref (by subst z; exact ⟨⟨_, e, .inl ⟨d, rfl⟩⟩, e1⟩))
        exact ⟨q', e1, nf, (o'.monoF s1 (by rw [kf q' o'.nn]; exact o'.1)).monoH (nn q' hne o'.nn)⟩
      | io k d =>
        obtain ⟨q', e1, nf, o'⟩ := q
        have hne : q' ≠ p := fun z => h (r.dj i j p ref (by subst z; exact ⟨⟨_, e, .inr ⟨k, d, rfl⟩⟩, e1⟩))
        exact ⟨q', e1, nf, (o'.monoF s1 (by rw [kf q' o'.nn]; exact o'.1)).monoH (nn q' hne o'.nn)⟩

def frR (r : FR) (s : SV) : R D := match r with
  | .ok d none => .ok d s
  | .err x none => .err x s
  | _ => .bad
def mCall (n : Nat) (fn : Fn) (dd : List D) (ms : M (List D)) : M D := fun sv => (ms sv).bind fun ds s => if (ds ++ dd).length = n then frR (fn (ds ++ dd)) s else .bad
def frI (r : FR) (i : Nat) (s : SV) : R D := match r with
  | .ok d (some o) => match s[i]? with
    | some sl => match reSl sl o with
      | some sl' => .ok d (s.set i sl')
      | none => .bad
    | none => .bad
  | .err x (some o) => match s[i]? with
    | some sl => match reSl sl o with
      | some sl' => .err x (s.set i sl')
      | none => .bad
    | none => .bad
  | _ => .bad
def mCallI (n : Nat) (fn : Fn) (k : Nat) (dd : List D) (mi : M (List D × Nat × List D)) : M D := fun sv => (mi sv).bind fun a s => match s[a.2.1]? with
  | some sl => match slD sl with
    | some d => if a.1.length = k ∧ (a.1 ++ d :: (a.2.2 ++ dd)).length = n then frI (fn (a.1 ++ d :: (a.2.2 ++ dd))) a.2.1 s else .bad
    | none => .bad
  | none => .bad
/-- defaults: values that no heap is asked for -/
def DefOk (K : PySem.W.Frag) (dd : List D) (dvs : List V) : Prop := ∀ F, RpL K F dd dvs
theorem DefOk.nil {K : PySem.W.Frag} : DefOk K [] [] := fun _ => rfl
theorem post_call {g : G} {F H : Hp} {σ : L2.St} {s : SV} {fn : Fn} {ds : List D} {vs : List V} {n : Nat} {ro : Bool} {Rel : G → Hp → Hp → L2.St → SV → D → V → Prop} {Q : VK} (hrel : ∀ F' H' d v, Rl g F' H' σ s → (if ro = true then ∃ p, v = .ref p ∧ H p = none ∧ OwnP g.K F' H' d p else Rp g.K F' d v) → Rel g F' H' σ s d v)
    (hl : vs.length = n) (rl : Rl g F H σ s) (rp : RpL g.K F ds vs) (q : PostG X.mx g F σ (frR (fn ds) s) W Rel Q) : spV g.K X.mg n none ro fn vs H Q (fun cls dd H' => W cls dd σ H') := by
  refine ⟨hl, F, ds, rl.sub, rp, ?_⟩
  unfold frR at q
  cases hf : fn ds with
  | ok d o =>
    rw [hf] at q
    cases o with
    | none =>
      intro v F' H' e1 e2 kp kf _ hr
      have rl' := rl.after e1 e2 (fun a u e => kp a u e (fun z => nomatch z)) kf
      exact q v F' H' e1 rl' (hrel F' H' d v rl' hr)
    | some _ => exact False.elim q
  | err x o =>
    rw [hf] at q
    cases o with
    | none =>
      intro cls dd F' H' e1 e2 kp kf _ er
      exact q cls dd F' H' e1 (rl.after e1 e2 (fun a u e => kp a u e (fun z => nomatch z)) kf) er
    | some _ => exact False.elim q
  | bad => rw [hf] at q; exact False.elim q
variable {k n : Nat} {f : Addr} {fd : FuncData} {ps : List Str} {fn : Fn} {dd : List D} {dvs : List V} {ds : List Value} {kk : Nat}
theorem se_call (c : Ctx X W kk) (hkk : k ≤ kk) (Fg : FnG X.prog X.w X.K X.mg X.base k f fd ps (spV X.K X.mg n none false fn)) (hg : Gl X x) (hm : X.mg x = some (.ref f)) (hk : PySem.W.keepIn X.K (.ref f) = true) (hb : Binds X.K fd ps ds) (hd : Vals dvs ds) (hdd : DefOk X.K dd dvs)
    (ha : SA X W (e :: es) ms) (hdb : (x == ("__debug__" : Str)) = false := by decide) (he : starEach (e :: es) X.env = (false, eval e X.env) :: starEach es X.env := by rfl) (hpl : (backTo pos (starEach es X.env)).any (·.1) = false := by rfl) :
    SE X W (.Call (.Name x p) (e :: es) [] pos) (mCall n fn dd ms) := pe_imp (pe_callG Fg c.hg (c.hr.mono hkk) hg hm hk hb hd (fun σ => L2N.passAt c.tk σ) ha hdb he hpl) fun σ H Q q => by
  obtain ⟨g, F, sv, hK, rl, q⟩ := q
  refine ⟨g, F, sv, hK, rl, PostG.bind q fun as s vs F1 H1 e1 rl1 rp1 q1 => ?_⟩
  split at q1
  · rename_i hz
    have rp : RpL g.K F1 (as ++ dd) (vs ++ dvs) := RpL.append rp1 (by rw [hK.1]; exact hdd F1)
    rw [← hK.1]
    exact post_call (fun F' H' d v _ hr => by show Rp g.K F' d v; simpa using hr) (rp.length.symm.trans hz) rl1 rp q1
  · exact False.elim q1
theorem so_call (c : Ctx X W kk) (hkk : k ≤ kk) (Fg : FnG X.prog X.w X.K X.mg X.base k f fd ps (spV X.K X.mg n none true fn)) (hg : Gl X x) (hm : X.mg x = some (.ref f)) (hk : PySem.W.keepIn X.K (.ref f) = true) (hb : Binds X.K fd ps ds) (hd : Vals dvs ds) (hdd : DefOk X.K dd dvs)
    (ha : SA X W (e :: es) ms) (hdb : (x == ("__debug__" : Str)) = false := by decide) (he : starEach (e :: es) X.env = (false, eval e X.env) :: starEach es X.env := by rfl) (hpl : (backTo pos (starEach es X.env)).any (·.1) = false := by rfl) :
    SO X W (.Call (.Name x p) (e :: es) [] pos) (mCall n fn dd ms) := pe_imp (pe_callG Fg c.hg (c.hr.mono hkk) hg hm hk hb hd (fun σ => L2N.passAt c.tk σ) ha hdb he hpl) fun σ H Q q => by
  obtain ⟨g, F, sv, hK, rl, q⟩ := q
  refine ⟨g, F, sv, hK, rl, PostG.bind q fun as s vs F1 H1 e1 rl1 rp1 q1 => ?_⟩
  split at q1
  · rename_i hz
    have rp : RpL g.K F1 (as ++ dd) (vs ++ dvs) := RpL.append rp1 (by rw [hK.1]; exact hdd F1)
    rw [← hK.1]
    refine post_call (fun F' H' d v rl' hr => ?_) (rp.length.symm.trans hz) rl1 rp q1
    rw [if_pos rfl] at hr
    obtain ⟨p, rfl, hp, o⟩ := hr
    exact ⟨p, rfl, rl1.nofx hp, o, fun i hi => by
      -- a slot's object stood ahead of the call
      obtain ⟨h1, h2⟩ := hi
      exact rl1.noRef hp i ⟨h1, h2⟩⟩
  · exact False.elim q1
theorem se_call0 (c : Ctx X W kk) (hkk : k ≤ kk) (Fg : FnG X.prog X.w X.K X.mg X.base k f fd ps (spV X.K X.mg n none false fn)) (hg : Gl X x) (hm : X.mg x = some (.ref f)) (hk : PySem.W.keepIn X.K (.ref f) = true) (hb : Binds X.K fd ps ds) (hd : Vals dvs ds) (hdd : DefOk X.K dd dvs)
    (hdb : (x == ("__debug__" : Str)) = false := by decide) : SE X W (.Call (.Name x p) [] [] pos) (mCall n fn dd mNil) := pe_imp (pe_callG0 Fg c.hg (c.hr.mono hkk) hg hm hk hb hd (fun σ => L2N.passAt c.tk σ) hdb) fun σ H Q q => by
  obtain ⟨g, F, sv, hK, rl, q⟩ := q
  have q : PostG X.mx g F σ (if ([] ++ dd).length = n then frR (fn ([] ++ dd)) sv else .bad) W RelE Q := q
  split at q
  · rename_i hz
    have rp : RpL g.K F ([] ++ dd) ([] ++ dvs) := by rw [hK.1]; exact hdd F
    show spV X.K X.mg n none false fn ([] ++ dvs) H Q _
    rw [← hK.1]
    exact post_call (fun F' H' d v _ hr => by show Rp g.K F' d v; simpa using hr) (rp.length.symm.trans hz) rl rp q
  · exact False.elim q
theorem so_call0 (c : Ctx X W kk) (hkk : k ≤ kk) (Fg : FnG X.prog X.w X.K X.mg X.base k f fd ps (spV X.K X.mg n none true fn)) (hg : Gl X x) (hm : X.mg x = some (.ref f)) (hk : PySem.W.keepIn X.K (.ref f) = true) (hb : Binds X.K fd ps ds) (hd : Vals dvs ds) (hdd : DefOk X.K dd dvs)
    (hdb : (x == ("__debug__" : Str)) = false := by decide) : SO X W (.Call (.Name x p) [] [] pos) (mCall n fn dd mNil) := pe_imp (pe_callG0 Fg c.hg (c.hr.mono hkk) hg hm hk hb hd (fun σ => L2N.passAt c.tk σ) hdb) fun σ H Q q => by
  obtain ⟨g, F, sv, hK, rl, q⟩ := q
  have q : PostG X.mx g F σ (if ([] ++ dd).length = n then frR (fn ([] ++ dd)) sv else .bad) W RelO' Q := q
  split at q
  · rename_i hz
    have rp : RpL g.K F ([] ++ dd) ([] ++ dvs) := by rw [hK.1]; exact hdd F
    show spV X.K X.mg n none true fn ([] ++ dvs) H Q _
    rw [← hK.1]
    refine post_call (fun F' H' d v rl' hr => ?_) (rp.length.symm.trans hz) rl rp q
    rw [if_pos rfl] at hr
    obtain ⟨p, rfl, hp, o⟩ := hr
    exact ⟨p, rfl, rl.nofx hp, o, fun i hi => rl.noRef hp i ⟨hi.1, hi.2⟩⟩
  · exact False.elim q
/-- a call that hands over what slot i owns -/
theorem post_callI {g : G} {F H : Hp} {σ : L2.St} {s : SV} {i j : Nat} {sl : Sl} {d0 : D} {ds1 ds2 : List D} {vs1 vs2 : List V} {p : Addr} {ro : Bool} {Rel : G → Hp → Hp → L2.St → SV → D → V → Prop} {Q : VK}
    (hrel : ∀ F' H' s' d v, Rl g F' H' σ s' → (∀ t q, Ref σ s' t q → Ref σ s t q) → (if ro = true then ∃ p, v = .ref p ∧ H p = none ∧ OwnP g.K F' H' d p else Rp g.K F' d v) → Rel g F' H' σ s' d v)
    (hl : (vs1 ++ V.ref p :: vs2).length = n) (hj : ds1.length = j) (rl : Rl g F H σ s) (h1 : s[i]? = some sl) (h2 : slD sl = some d0) (hp : σ[i]? = some (some (.ref p))) (o : OwnP g.K F H d0 p) (r1 : RpL g.K F ds1 vs1) (r2 : RpL g.K F ds2 vs2)
    (q : PostG X.mx g F σ (frI (fn (ds1 ++ d0 :: ds2)) i s) W Rel Q) : spV g.K X.mg n (some j) ro fn (vs1 ++ V.ref p :: vs2) H Q (fun cls dd H' => W cls dd σ H') := by
  refine ⟨hl, F, ds1, d0, ds2, vs1, p, vs2, rl.sub, hj, rfl, r1, o, r2, ?_⟩
  have ref : Ref σ s i p := by
    refine ⟨⟨sl, h1, ?_⟩, hp⟩
    cases sl with
    | ow d => exact .inl ⟨_, rfl⟩
    | io k d => exact .inr ⟨_, _, rfl⟩
    | _ => cases h2
  have back : ∀ sl' t q, Ref σ (s.set i sl') t q → Ref σ s t q := fun sl' t q ⟨⟨u, e1, e2⟩, e3⟩ => by
    by_cases h : i = t
    · subst h
      rw [hp] at e3
      cases e3
      exact ref
    · rw [List.getElem?_set_ne h] at e1
      exact ⟨⟨u, e1, e2⟩, e3⟩
  unfold frI at q
  cases hf : fn (ds1 ++ d0 :: ds2) with
  | ok d oo =>
    rw [hf] at q
    cases oo with
    | none => exact False.elim q
    | some o1 =>
      rw [h1] at q
      dsimp only at q
      obtain ⟨sl', h3⟩ := re_of (d' := o1) h2
      rw [h3] at q
      intro v F' H' e1 e2 kp kf ho hr
      obtain ⟨d', ed, o'⟩ := ho p rfl
      cases ed
      have rl' := rl.afterIo h1 h2 h3 hp e1 e2 kp kf o'
      exact q v F' H' e1 rl' (hrel F' H' _ d v rl' (back sl') hr)
  | err x oo =>
    rw [hf] at q
    cases oo with
    | none => exact False.elim q
    | some o1 =>
      rw [h1] at q
      dsimp only at q
      obtain ⟨sl', h3⟩ := re_of (d' := o1) h2
      rw [h3] at q
      intro cls dd F' H' e1 e2 kp kf ho er
      obtain ⟨d', ed, o'⟩ := ho p rfl
      cases ed
      exact q cls dd F' H' e1 (rl.afterIo h1 h2 h3 hp e1 e2 kp kf o') er
  | bad => rw [hf] at q; exact False.elim q
theorem se_callI {j : Nat} (c : Ctx X W kk) (hkk : k ≤ kk) (Fg : FnG X.prog X.w X.K X.mg X.base k f fd ps (spV X.K X.mg n (some j) false fn)) (hg : Gl X x) (hm : X.mg x = some (.ref f)) (hk : PySem.W.keepIn X.K (.ref f) = true) (hb : Binds X.K fd ps ds) (hd : Vals dvs ds) (hdd : DefOk X.K dd dvs)
    (ha : SAI X W (e :: es) mi) (hdb : (x == ("__debug__" : Str)) = false := by decide) (he : starEach (e :: es) X.env = (false, eval e X.env) :: starEach es X.env := by rfl) (hpl : (backTo pos (starEach es X.env)).any (·.1) = false := by rfl) :
    SE X W (.Call (.Name x p) (e :: es) [] pos) (mCallI n fn j dd mi) := pe_imp (pe_callG Fg c.hg (c.hr.mono hkk) hg hm hk hb hd (fun σ => L2N.passAt c.tk σ) ha hdb he hpl) fun σ H Q q => by
  obtain ⟨g, F, sv, hK, rl, q⟩ := q
  refine ⟨g, F, sv, hK, rl, PostG.bind q fun a s vs F1 H1 e1 rl1 rp1 q1 => ?_⟩
  obtain ⟨ds1, i, ds2⟩ := a
  obtain ⟨vs1, v, vs2, rfl, r1, hv, r2⟩ := rp1
  dsimp only at q1 hv r1 r2
  split at q1
  · rename_i sl h1
    split at q1
    · rename_i d0 h2
      split at q1
      · rename_i hz
        obtain ⟨p0, e2, o⟩ := rl1.ownAt h1 h2
        have ev : v = .ref p0 := by have := hv.symm.trans e2; simpa using this
        subst ev
        have r2' : RpL g.K F1 (ds2 ++ dd) (vs2 ++ dvs) := RpL.append r2 (by rw [hK.1]; exact hdd F1)
        show spV X.K X.mg n (some j) false fn ((vs1 ++ V.ref p0 :: vs2) ++ dvs) H1 Q _
        rw [List.append_assoc, List.cons_append, ← hK.1]
        refine post_callI (fun F' H' s' d v _ _ hr => by show Rp g.K F' d v; simpa using hr) ?_ hz.1 rl1 h1 h2 hv o r1 r2' q1
        have := hz.2
        simp only [List.length_append, List.length_cons, r1.length, r2.length, (hdd F1).length] at this ⊢
        omega
      · exact False.elim q1
    · exact False.elim q1
  · exact False.elim q1
theorem so_callI {j : Nat} (c : Ctx X W kk) (hkk : k ≤ kk) (Fg : FnG X.prog X.w X.K X.mg X.base k f fd ps (spV X.K X.mg n (some j) true fn)) (hg : Gl X x) (hm : X.mg x = some (.ref f)) (hk : PySem.W.keepIn X.K (.ref f) = true) (hb : Binds X.K fd ps ds) (hd : Vals dvs ds) (hdd : DefOk X.K dd dvs)
    (ha : SAI X W (e :: es) mi) (hdb : (x == ("__debug__" : Str)) = false := by decide) (he : starEach (e :: es) X.env = (false, eval e X.env) :: starEach es X.env := by rfl) (hpl : (backTo pos (starEach es X.env)).any (·.1) = false := by rfl) :
    SO X W (.Call (.Name x p) (e :: es) [] pos) (mCallI n fn j dd mi) := pe_imp (pe_callG Fg c.hg (c.hr.mono hkk) hg hm hk hb hd (fun σ => L2N.passAt c.tk σ) ha hdb he hpl) fun σ H Q q => by
  obtain ⟨g, F, sv, hK, rl, q⟩ := q
  refine ⟨g, F, sv, hK, rl, PostG.bind q fun a s vs F1 H1 e1 rl1 rp1 q1 => ?_⟩
  obtain ⟨ds1, i, ds2⟩ := a
  obtain ⟨vs1, v, vs2, rfl, r1, hv, r2⟩ := rp1
  dsimp only at q1 hv r1 r2
  split at q1
  · rename_i sl h1
    split at q1
    · rename_i d0 h2
      split at q1
      · rename_i hz
        obtain ⟨p0, e2, o⟩ := rl1.ownAt h1 h2
        have ev : v = .ref p0 := by have := hv.symm.trans e2; simpa using this
        subst ev
        have r2' : RpL g.K F1 (ds2 ++ dd) (vs2 ++ dvs) := RpL.append r2 (by rw [hK.1]; exact hdd F1)
        show spV X.K X.mg n (some j) true fn ((vs1 ++ V.ref p0 :: vs2) ++ dvs) H1 Q _
        rw [List.append_assoc, List.cons_append, ← hK.1]
        refine post_callI (fun F' H' s' d v rl' bk hr => ?_) ?_ hz.1 rl1 h1 h2 hv o r1 r2' q1
        · rw [if_pos rfl] at hr
          obtain ⟨p, rfl, hp, o⟩ := hr
          exact ⟨p, rfl, rl1.nofx hp, o, fun t ht => rl1.noRef hp t (bk t p ht)⟩
        · have := hz.2
          simp only [List.length_append, List.length_cons, r1.length, r2.length, (hdd F1).length] at this ⊢
          omega
      · exact False.elim q1
    · exact False.elim q1
  · exact False.elim q1
end
end VM

set_option Elab.async false
set_option linter.all false
set_option autoImplicit false
set_option maxRecDepth 100000
set_option maxHeartbeats 400000
namespace VM
open PySem PySem.Spec PyProof.Rows L2
theorem takesN0 {X : Cx} : L2N.Takes X (fun _ _ _ _ => False) := fun _ _ ⟨_, _, _, _, _, _, _, _, _, _, _, _, _, _, _, _, z⟩ => False.elim z

/-! ### an owned object is lent for one expression -/
def PuR {α : Type} (sv : SV) : R α → Prop
  | .ok _ s => s = sv
  | .err _ s => s = sv
  | .bad => True
class Pu {α : Type} (m : M α) : Prop where
  h : ∀ sv, PuR sv (m sv)
theorem pu_ok {α : Type} {m : M α} [p : Pu m] {sv s : SV} {a : α} (h : m sv = .ok a s) : s = sv := by
  have := p.h sv
  rw [h] at this
  exact this
theorem pu_err {α : Type} {m : M α} [p : Pu m] {sv s : SV} {x : Exn} (h : m sv = .err x s) : s = sv := by
  have := p.h sv
  rw [h] at this
  exact this
theorem Pu.bind {α β : Type} {m : M α} [Pu m] {k : α → SV → R β} (hk : ∀ a sv, PuR sv (k a sv)) : Pu (fun sv => (m sv).bind k) := ⟨fun sv => by
  cases h : m sv with
  | ok a s =>
    have := pu_ok h
    subst this
    exact hk a s
  | err x s => exact pu_err h
  | bad => trivial⟩
instance pu_c {d : D} : Pu (mC d) := ⟨fun _ => rfl⟩
instance pu_rd {i : Nat} : Pu (mRd i) := ⟨fun sv => by
  unfold mRd
  split
  · rfl
  · trivial⟩
instance pu_2 {f : D → D → Option D} {ma mb : M D} [Pu ma] [Pu mb] : Pu (m2 f ma mb) := Pu.bind fun a sv => (Pu.bind (m := mb) (k := fun b s2 => match f a b with | some d => .ok d s2 | none => .bad) fun b sv => by cases f a b; trivial; rfl).h sv
instance pu_1 {f : D → Option D} {ma : M D} [Pu ma] : Pu (m1 f ma) := Pu.bind fun a sv => by cases f a; trivial; rfl
instance pu_B {m : M D} [Pu m] : Pu (mB m) := Pu.bind fun a sv => by cases a <;> first | rfl | trivial
instance pu_V {m : M Bool} [Pu m] : Pu (mV m) := Pu.bind fun a sv => rfl
instance pu_Not {m : M Bool} [Pu m] : Pu (mNot m) := Pu.bind fun a sv => rfl
instance pu_And {ma mb : M Bool} [Pu ma] [hb : Pu mb] : Pu (mAnd ma mb) := Pu.bind fun a sv => by
  cases a
  · exact rfl
  · exact hb.h sv
instance pu_Or {ma mb : M Bool} [Pu ma] [hb : Pu mb] : Pu (mOr ma mb) := Pu.bind fun a sv => by
  cases a
  · exact hb.h sv
  · exact rfl
instance pu_AndV {ma mb : M D} [Pu ma] [hb : Pu mb] : Pu (mAndV ma mb) := Pu.bind fun a sv => by
  cases a <;> try trivial
  rename_i b
  cases b
  · exact rfl
  · exact hb.h sv
instance pu_OrV {ma mb : M D} [Pu ma] [hb : Pu mb] : Pu (mOrV ma mb) := Pu.bind fun a sv => by
  cases a <;> try trivial
  rename_i b
  cases b
  · exact hb.h sv
  · exact rfl
instance pu_If {t : M Bool} {ma mb : M D} [Pu t] [ha : Pu ma] [hb : Pu mb] : Pu (mIf t ma mb) := Pu.bind fun c sv => by
  cases c
  · exact hb.h sv
  · exact ha.h sv
instance pu_oN : Pu moN := ⟨fun _ => rfl⟩
instance pu_oS {m : M D} [Pu m] : Pu (moS m) := Pu.bind fun a sv => by cases a <;> first | rfl | trivial
instance pu_Sl {m : M D} {ml mh : MO} [Pu m] [Pu ml] [Pu mh] : Pu (mSl m ml mh) := Pu.bind fun d sv => (Pu.bind (m := ml) (k := fun lo s2 => (mh s2).bind fun hi s3 => match dSl d lo hi with | some r => .ok r s3 | none => .bad)
  fun lo sv => (Pu.bind (m := mh) (k := fun hi s3 => match dSl d lo hi with | some r => .ok r s3 | none => .bad) fun hi sv => by cases dSl d lo hi; trivial; rfl).h sv).h sv
instance pu_nil : Pu mNil := ⟨fun _ => rfl⟩
instance pu_cons {m : M D} {ms : M (List D)} [Pu m] [Pu ms] : Pu (mCons m ms) := Pu.bind fun d sv => (Pu.bind (m := ms) (k := fun ds s2 => .ok (d :: ds) s2) fun ds sv => rfl).h sv
instance pu_Tup {ms : M (List D)} [Pu ms] : Pu (mTup ms) := Pu.bind fun ds sv => by split; exact rfl; trivial
instance pu_Lst {ms : M (List D)} [Pu ms] : Pu (mLst ms) := Pu.bind fun ds sv => by split; exact rfl; trivial
instance pu_Call1 {f : List D → Option D} {ms : M (List D)} [Pu ms] : Pu (mCall1 f ms) := Pu.bind fun ds sv => by cases f ds; trivial; rfl
instance pu_Call {n : Nat} {fn : Fn} {dd : List D} {ms : M (List D)} [Pu ms] : Pu (mCall n fn dd ms) := Pu.bind fun ds sv => by
  split
  · unfold frR
    split <;> first | rfl | trivial
  · trivial
instance pu_Items {m : M D} [Pu m] : Pu (mItems m) := Pu.bind fun d sv => by cases itemsD d; trivial; rfl

mutual
def lfree : D → Bool
  | .non => true
  | .bl _ => true
  | .int _ => true
  | .str _ => true
  | .tup xs => lfreeL xs
  | .lst _ => false
  | .fl _ => false
  | .dct _ => false
  | .obj _ _ => false
def lfreeL : List D → Bool
  | [] => true
  | d :: ds => lfree d && lfreeL ds
end
mutual
theorem Rp.drop {K : PySem.W.Frag} {F F' : Hp} (h : ∀ a vs, (F a = some (.tup vs) → F' a = some (.tup vs)) ∧ ∀ o, F a = some (.frz o (.tup vs)) → F' a = some (.frz o (.tup vs))) : ∀ (d : D) (v : V), lfree d = true → Rp K F d v → Rp K F' d v
  | .non, _, _, r => r
  | .bl _, _, _, r => r
  | .int _, _, _, r => r
  | .str _, _, _, r => r
  | .tup ds, v, f, r => by
    obtain ⟨a, vs, rfl, h1, h2⟩ := r
    refine ⟨a, vs, rfl, ?_, RpL.dropL h ds vs f h2⟩
    rcases h1 with (h1 | ⟨o, h1⟩) | h1
    · exact .inl (.inl ((h a vs).1 h1))
    · exact .inl (.inr ⟨o, (h a vs).2 o h1⟩)
    · exact .inr h1
  | .lst _, _, f, _ => by cases f
  | .fl _, _, f, _ => by cases f
  | .dct _, _, f, _ => by cases f
  | .obj _ _, _, f, _ => by cases f
theorem RpL.dropL {K : PySem.W.Frag} {F F' : Hp} (h : ∀ a vs, (F a = some (.tup vs) → F' a = some (.tup vs)) ∧ ∀ o, F a = some (.frz o (.tup vs)) → F' a = some (.frz o (.tup vs))) : ∀ (ds : List D) (vs : List V), lfreeL ds = true → RpL K F ds vs → RpL K F' ds vs
  | [], vs, _, r => r
  | d :: ds, vs, f, r => by
    obtain ⟨v, u, rfl, h1, h2⟩ := r
    simp only [lfreeL, Bool.and_eq_true] at f
    exact ⟨v, u, rfl, Rp.drop h d v f.1 h1, RpL.dropL h ds u f.2 h2⟩
end
/-- all owned objects but slot i's are out of sight, slot i's is lent -/
def hideS : SV → SV
  | [] => []
  | .un :: r => .un :: hideS r
  | .pl d :: r => .pl d :: hideS r
  | .ow _ :: r => .un :: hideS r
  | .io _ _ :: r => .un :: hideS r
  | .ex _ :: r => .un :: hideS r
def lend (i : Nat) (d : D) (sv : SV) : SV := (hideS sv).set i (.pl d)
theorem hideS_len : ∀ sv, (hideS sv).length = sv.length
  | [] => rfl
  | s :: r => by cases s <;> simp [hideS, hideS_len r]
theorem hideS_get : ∀ (sv : SV) (i : Nat) (s : Sl), (hideS sv)[i]? = some s → s = .un ∨ ∃ d, s = .pl d ∧ sv[i]? = some (.pl d)
  | [], i, s, h => by simp [hideS] at h
  | t :: r, 0, s, h => by cases t <;> simp [hideS] at h <;> subst h <;> simp
  | t :: r, i + 1, s, h => by
    have h' : (hideS r)[i]? = some s := by cases t <;> simpa [hideS] using h
    rcases hideS_get r i s h' with e | ⟨d, e1, e2⟩
    · exact .inl e
    · exact .inr ⟨d, e1, by simpa using e2⟩
def mWith {α : Type} (ok : α → Bool) (i : Nat) (m : M α) : M α := fun sv => match sv[i]? with
  | some sl => match slD sl with
    | some d => match m (lend i d sv) with
      | .ok r _ => if ok r = true then .ok r sv else .bad
      | _ => .bad
    | none => m sv
  | none => .bad
def G.lent (g : G) (F H : Hp) (p : Addr) (u : HO) : G := ⟨g.K, H, fun a => H a ≠ none, upd F p u, fun _ => none, g.mx⟩
theorem rl_lend {g : G} {F H : Hp} {σ : L2.St} {sv : SV} {i : Nat} {sl : Sl} {d : D} {p : Addr} {u : HO} (rl : Rl g F H σ sv) (h1 : sv[i]? = some sl) (h2 : slD sl = some d) (hp : σ[i]? = some (some (.ref p))) (hu : H p = some u) (nF : F p = none) (rp : Rp g.K (upd F p u) d (.ref p)) :
    Rl (g.lent F H p u) (upd F p u) H σ (lend i d sv) := by
  have hi : i < sv.length := (List.getElem?_eq_some_iff.mp h1).1
  refine ⟨fun a o e => ?_, Same.refl H, fun _ _ => rfl, fun _ h => h, fun a o e => (by show H a ≠ none; have e' : H a = some o := e; rw [e']; exact (fun z => nomatch z)), fun k q e => (nomatch e), (by simp [lend, hideS_len, rl.len]), fun j s e => ?_, fun j k q a b => ?_⟩
  · by_cases h : a = p
    · subst h; rw [upd_same] at e; rw [hu]; exact e
    · rw [upd_ne h] at e; exact rl.sub a o e
  · unfold lend at e
    by_cases hj : i = j
    · subst hj
      rw [List.getElem?_set_self (by rw [hideS_len]; exact hi)] at e
      cases e
      exact ⟨_, hp, rp⟩
    · rw [List.getElem?_set_ne hj] at e
      rcases hideS_get sv j s e with rfl | ⟨d', rfl, e2⟩
      · trivial
      · obtain ⟨v, e3, h⟩ := rl.sl j _ e2
        exact ⟨v, e3, Rp.mono (same_upd nF) _ _ h⟩
  · obtain ⟨⟨s, e1, e2⟩, _⟩ := a
    unfold lend at e1
    by_cases hj : i = j
    · subst hj
      rw [List.getElem?_set_self (by rw [hideS_len]; exact hi)] at e1
      cases e1
      rcases e2 with ⟨_, z⟩ | ⟨_, _, z⟩ <;> cases z
    · rw [List.getElem?_set_ne hj] at e1
      rcases hideS_get sv j s e1 with rfl | ⟨d', rfl, _⟩
      · rcases e2 with ⟨_, z⟩ | ⟨_, _, z⟩ <;> cases z
      · rcases e2 with ⟨_, z⟩ | ⟨_, _, z⟩ <;> cases z
theorem post_with {α β : Type} {K : PySem.W.Frag} {mg : MX} {W : WX'} {ok : α → Bool} {Rel : G → Hp → Hp → L2.St → SV → α → β → Prop} {i : Nat} {m : M α} [Pu m] {σ : L2.St} {H : Hp} {Q : β → Hp → Prop}
    (hrel : ∀ (g g1 : G) (F' F'' H' : Hp) (sv sv1 : SV) (a : α) (b : β), g1.K = g.K → ok a = true → (∀ a vs, (F' a = some (.tup vs) → F'' a = some (.tup vs)) ∧ ∀ o, F' a = some (.frz o (.tup vs)) → F'' a = some (.frz o (.tup vs))) → Rel g1 F' H' σ sv1 a b → Rel g F'' H' σ sv a b)
    (h : tG K mg W Rel (mWith ok i m) σ H Q) : tG K mg W Rel m σ H Q := by
  obtain ⟨g, F, sv, hK, rl, q⟩ := h
  unfold mWith at q
  split at q
  · rename_i sl h1
    split at q
    · rename_i d h2
      obtain ⟨p, hp, o⟩ := rl.ownAt h1 h2
      obtain ⟨u, hu, rp⟩ := o.rep
      have nF := o.1
      -- what stands at p is a list
      have lu : ∃ vs, u = .lst vs := by
        obtain ⟨_, oo⟩ := o
        cases d with
        | lst ds => obtain ⟨vs, e, _⟩ := oo; rw [hu] at e; exact ⟨vs, Option.some.inj e⟩
        | _ => exact False.elim oo
      refine ⟨g.lent F H p u, upd F p u, lend i d sv, hK, rl_lend rl h1 h2 hp hu nF rp, ?_⟩
      cases hm : m (lend i d sv) with
      | ok r s =>
        rw [hm] at q
        dsimp only at q
        split at q
        · rename_i hok
          have es := pu_ok hm
          subst es
          intro b F' H' e1 rl1 rel
          have keepF : ∀ a, a ≠ p → H a ≠ none → F' a = F a := fun a hap hn => (rl1.kF a hn).trans (upd_ne hap)
          have atp : F' p = some u := (rl1.kF p (show H p ≠ none by rw [hu]; exact (fun z => nomatch z))).trans upd_same
          obtain ⟨vs, rfl⟩ := lu
          have sF : Same F (fun a => if a = p then none else F' a) := fun a o e => by
            have hap : a ≠ p := fun z => by rw [z, nF] at e; cases e
            show (if a = p then none else F' a) = some o
            rw [if_neg hap, keepF a hap (by rw [rl.sub a o e]; exact fun z => nomatch z)]
            exact e
          have sH : Same (fun a => if a = p then none else F' a) H' := fun a o e => by
            have e : (if a = p then none else F' a) = some o := e
            split at e
            · cases e
            · exact rl1.sub a o e
          refine q b (fun a => if a = p then none else F' a) H' sF (rl.after sF sH (fun a o e => rl1.kH a o e) fun a hn => ?_) (hrel g (g.lent F H p (.lst vs)) F' _ H' sv _ r b rfl hok (fun a vs' => ?_) rel)
          · show (if a = p then none else F' a) = F a
            by_cases hap : a = p
            · rw [if_pos hap, hap, nF]
            · rw [if_neg hap, keepF a hap hn]
          · refine ⟨fun e => ?_, fun o e => ?_⟩
            · show (if a = p then none else F' a) = _
              rw [if_neg (fun z => by rw [z, atp] at e; cases e)]; exact e
            · show (if a = p then none else F' a) = _
              rw [if_neg (fun z => by rw [z, atp] at e; cases e)]; exact e
        · exact False.elim q
      | err x s => rw [hm] at q; exact False.elim q
      | bad => rw [hm] at q; exact False.elim q
    · exact ⟨g, F, sv, hK, rl, q⟩
  · exact False.elim q
section
variable {X : Cx} {W : WX'} {e : Expr} {es : List Expr} {i : Nat}
theorem se_with {m : M D} [Pu m] (h : SE X W e m) : SE X W e (mWith lfree i m) := pe_imp h fun σ H Q q => post_with (fun g g1 F' F'' H' sv sv1 a b hK ok hd r => by
  show Rp g.K F'' a b
  rw [← hK]
  exact Rp.drop hd a b ok r) q
theorem st_with {m : M Bool} [Pu m] (h : ST X W e m) : ST X W e (mWith (fun _ => true) i m) := pt_imp h fun σ H Q q => post_with (fun g g1 F' F'' H' sv sv1 a b hK ok hd r => r) q
end

/-! ### list comprehensions -/
def wipeV (sv : SV) : List Nat → SV
  | [] => sv
  | v :: vs => (wipeV sv vs).set v .un
def restV (own : List Nat) (s0 : SV) (s : SV) : SV := match own with
  | [] => s
  | v :: vs => match s0[v]? with
    | some sl => (restV vs s0 s).set v sl
    | none => restV vs s0 s
def ownOk (own : List Nat) (s : SV) : Bool := own.all fun v => match s[v]? with
  | some .un => true
  | some (.pl _) => true
  | _ => false
def lcL (own : List Nat) (t : MT) (mc : M Bool) (me : M D) : List D → SV → List D → R (List D)
  | [], s, acc => .ok acc s
  | d :: ds, s, acc => match t d s with
    | none => .bad
    | some s1 => match mc s1 with
      | .ok false s2 => lcL own t mc me ds (wipeV s2 own) acc
      | .ok true s2 => match me s2 with
        | .ok y s3 => if acc.length < sizeLine then lcL own t mc me ds (wipeV s3 own) (acc ++ [y]) else .bad
        | _ => .bad
      | _ => .bad
theorem lcL_noerr {own : List Nat} {t : MT} {mc : M Bool} {me : M D} : ∀ (ds : List D) (s : SV) (acc : List D) (x : Exn) (s' : SV), lcL own t mc me ds s acc ≠ .err x s'
  | [], _, _, _, _, h => by cases h
  | d :: ds, s, acc, x, s', h => by
    unfold lcL at h
    cases ht : t d s with
    | none => rw [ht] at h; cases h
    | some s1 =>
      rw [ht] at h
      dsimp only at h
      cases hc : mc s1 with
      | err x2 s2 => rw [hc] at h; cases h
      | bad => rw [hc] at h; cases h
      | ok b s2 =>
        rw [hc] at h
        cases b with
        | false => exact lcL_noerr ds _ _ _ _ h
        | true =>
          dsimp only at h
          cases hm : me s2 with
          | err x2 s3 => rw [hm] at h; cases h
          | bad => rw [hm] at h; cases h
          | ok y s3 =>
            rw [hm] at h
            dsimp only at h
            split at h
            · exact lcL_noerr ds _ _ _ _ h
            · cases h
def mLc (own : List Nat) (mi : M (List D)) (t : MT) (mc : M Bool) (me : M D) : M D := fun sv => (mi sv).bind fun ds s => if ownOk own s = true then (lcL own t mc me ds (wipeV s own) []).bind fun acc s' => .ok (.lst acc) (restV own s s') else .bad
def mYes : M Bool := fun sv => .ok true sv
abbrev STs (X : Cx) (W : WX') (ifs : List Expr) (m : M Bool) : Prop := PTs X ifs (tT X.K X.mx W m)
theorem pts_imp {X : Cx} {ifs : List Expr} {t t' : TT} (h : PTs X ifs t) (k : ∀ σ H Q, t' σ H Q → t σ H Q) : PTs X ifs t' := ⟨fun pins s σ H Q I q => h.run pins s σ H Q I (k σ H Q q)⟩
theorem sts_nil {X : Cx} {W : WX'} : STs X W [] mYes := pts_imp pts_nil fun σ H Q q => by
  obtain ⟨g, F, sv, hK, rl, q⟩ := q
  exact q true F H (Same.refl F) rl rfl
theorem sts_one {X : Cx} {W : WX'} {c : Expr} {m : M Bool} (h : ST X W c m) : STs X W [c] m := pts_one h
abbrev WF : WX' := fun _ _ _ _ => False
theorem Ctx.blk {X : Cx} {W : WX'} {k : Nat} (c : Ctx X W k) (s : Shared) (H : Hp) (scope : Scope) (cenv : Env) (fp : List Addr) : Ctx (X.blk s H scope cenv fp) WF k := ⟨takesN0, c.hr, c.hg, PassesOwn.never⟩

section
variable {g : G} {F H : Hp} {σ : L2.St} {sv : SV}
theorem wipeV_len (sv : SV) : ∀ vs, (wipeV sv vs).length = sv.length
  | [] => rfl
  | v :: vs => by simp [wipeV, wipeV_len sv vs]
theorem wipe_get (σ : L2.St) (j : Nat) : ∀ vs, j ∉ vs → (wipe σ vs)[j]? = σ[j]?
  | [], _ => rfl
  | v :: vs, h => by
    unfold wipe
    rw [List.getElem?_set_ne (fun z => h (by simp [z])), wipe_get σ j vs (fun z => h (List.mem_cons_of_mem _ z))]
theorem wipeV_get (sv : SV) (j : Nat) : ∀ vs, j ∉ vs → (wipeV sv vs)[j]? = sv[j]?
  | [], _ => rfl
  | v :: vs, h => by
    unfold wipeV
    rw [List.getElem?_set_ne (fun z => h (by simp [z])), wipeV_get sv j vs (fun z => h (List.mem_cons_of_mem _ z))]
theorem wipeV_in (sv : SV) (j : Nat) (s : Sl) : ∀ vs, j ∈ vs → (wipeV sv vs)[j]? = some s → s = .un
  | v :: vs, h, e => by
    unfold wipeV at e
    by_cases hj : v = j
    · subst hj
      obtain ⟨hl, e2⟩ := List.getElem?_eq_some_iff.mp e
      rw [List.getElem?_set_self (by simpa using hl)] at e
      exact (Option.some.inj e).symm
    · rw [List.getElem?_set_ne hj] at e
      exact wipeV_in sv j s vs (by rcases List.mem_cons.mp h with z | z; exact absurd z.symm hj; exact z) e
/-- some slots are out of sight, in the frame and in the data -/
theorem Rl.sight (r : Rl g F H σ sv) {σ' : L2.St} {sv' : SV} (hl : σ'.length = σ.length) (hl' : sv'.length = sv.length) (h : ∀ (j : Nat) (s : Sl), sv'[j]? = some s → s = .un ∨ (sv[j]? = some s ∧ σ'[j]? = σ[j]?)) : Rl g F H σ' sv' := by
  have rr : ∀ j p, Ref σ' sv' j p → Ref σ sv j p := fun j p ⟨⟨s, e1, e2⟩, e3⟩ => by
    rcases h j s e1 with rfl | ⟨h1, h2⟩
    · rcases e2 with ⟨_, z⟩ | ⟨_, _, z⟩ <;> cases z
    · exact ⟨⟨s, h1, e2⟩, by rw [← h2]; exact e3⟩
  refine ⟨r.sub, r.kH, r.kF, r.fxH, r.pf, r.ion, by rw [hl, hl', r.len], fun j s e => ?_, fun i j p a b => r.dj i j p (rr _ _ a) (rr _ _ b)⟩
  rcases h j s e with rfl | ⟨h1, h2⟩
  · trivial
  · rw [h2]; exact r.sl j s h1
theorem Rl.wiped (r : Rl g F H σ sv) (vs : List Nat) : Rl g F H (wipe σ vs) (wipeV sv vs) := r.sight (wipe_length _ _) (wipeV_len _ _) fun j s e => by
  by_cases hj : j ∈ vs
  · exact .inl (wipeV_in sv j s vs hj e)
  · rw [wipeV_get sv j vs hj] at e
    exact .inr ⟨e, wipe_get σ j vs hj⟩
theorem wipe_agree {is own : List Nat} {σ σ' : L2.St} (a : Agree is (wipe σ own) σ') (h : ∀ i ∈ is, i ∈ own) : wipe σ' own = wipe σ own := by
  apply List.ext_getElem?
  intro j
  by_cases hj : j ∈ own
  · -- both forgotten
    have key : ∀ (τ : L2.St) (vs : List Nat), j ∈ vs → (wipe τ vs)[j]? = if j < τ.length then some none else none := fun τ vs => by
      induction vs with
      | nil => intro z; cases z
      | cons v vs ih =>
        intro z
        unfold wipe
        by_cases hv : v = j
        · subst hv
          by_cases hl : v < τ.length
          · rw [List.getElem?_set_self (by rw [wipe_length]; exact hl), if_pos hl]
          · rw [if_neg hl, List.getElem?_eq_none (by rw [List.length_set, wipe_length]; omega)]
        · rw [List.getElem?_set_ne hv]
          exact ih (by rcases List.mem_cons.mp z with z | z; exact absurd z.symm hv; exact z)
    rw [key _ _ hj, key _ _ hj, a.1, wipe_length]
  · rw [wipe_get _ _ _ hj, a.2 j fun z => hj (h j z)]
theorem restV_len (own : List Nat) (s0 s : SV) : (restV own s0 s).length = s.length := by
  induction own with
  | nil => rfl
  | cons v vs ih =>
    unfold restV
    cases s0[v]? with
    | none => exact ih
    | some sl => simp [ih]
theorem restV_get (own : List Nat) (s0 s : SV) (j : Nat) (t : Sl) (h : (restV own s0 s)[j]? = some t) : (j ∉ own ∧ s[j]? = some t) ∨ (j ∈ own ∧ s0[j]? = some t) ∨ (s0[j]? = none ∧ s[j]? = some t) := by
  induction own with
  | nil => exact .inl ⟨by simp, h⟩
  | cons v vs ih =>
    unfold restV at h
    cases e : s0[v]? with
    | none =>
      rw [e] at h
      rcases ih h with ⟨h1, h2⟩ | ⟨h1, h2⟩ | ⟨h1, h2⟩
      · by_cases hv : j = v
        · subst hv
          exact .inr (.inr ⟨e, h2⟩)
        · exact .inl ⟨by simp [hv, h1], h2⟩
      · exact .inr (.inl ⟨List.mem_cons_of_mem _ h1, h2⟩)
      · exact .inr (.inr ⟨h1, h2⟩)
    | some sl =>
      rw [e] at h
      by_cases hv : v = j
      · subst hv
        obtain ⟨hl, _⟩ := List.getElem?_eq_some_iff.mp h
        rw [List.getElem?_set_self (by simpa using hl)] at h
        cases h
        exact .inr (.inl ⟨by simp, e⟩)
      · rw [List.getElem?_set_ne hv] at h
        rcases ih h with ⟨h1, h2⟩ | ⟨h1, h2⟩ | ⟨h1, h2⟩
        · exact .inl ⟨by simp [Ne.symm hv, h1], h2⟩
        · exact .inr (.inl ⟨List.mem_cons_of_mem _ h1, h2⟩)
        · exact .inr (.inr ⟨h1, h2⟩)
/-- an object that no slot has is kept through an expression -/
def G.keep (g : G) (p : Addr) (u : HO) : G := ⟨g.K, upd g.pH p u, fun a => g.fx a ∨ a = p, fun a => if a = p then none else g.F0 a, g.io, g.mx⟩
theorem Rl.keepG (r : Rl g F H σ sv) {p : Addr} {u : HO} (nf : ¬ g.fx p) (nF : F p = none) (hH : H p = some u) (nr : ∀ i, ¬ Ref σ sv i p) : Rl (g.keep p u) F H σ sv := by
  refine ⟨r.sub, fun a o e => ?_, fun a ha => ?_, fun a ha => ?_, fun a o e => ?_, fun k q e => ?_, r.len, fun i s e => ?_, r.dj⟩
  · have e : upd g.pH p u a = some o := e
    by_cases h : a = p
    · subst h; rw [upd_same] at e; rw [hH]; exact e
    · rw [upd_ne h] at e; exact r.kH a o e
  · show F a = if a = p then none else g.F0 a
    by_cases h : a = p
    · rw [if_pos h, h, nF]
    · rw [if_neg h]
      rcases ha with ha | ha
      · exact r.kF a ha
      · exact absurd ha h
  · rcases ha with ha | ha
    · exact r.fxH a ha
    · rw [ha, hH]; exact fun z => nomatch z
  · have e : upd g.pH p u a = some o := e
    show g.fx a ∨ a = p
    by_cases h : a = p
    · exact .inr h
    · rw [upd_ne h] at e; exact .inl (r.pf a o e)
  · obtain ⟨h1, h2⟩ := r.ion k q e
    have hq : q ≠ p := fun z => nf (z ▸ h2)
    exact ⟨(upd_ne hq).trans h1, .inl h2⟩
  · have q := r.sl i s e
    cases s with
    | un => trivial
    | ex x => exact q
    | pl d => exact q
    | ow d =>
      obtain ⟨q', e1, nf', o'⟩ := q
      refine ⟨q', e1, fun z => ?_, o'⟩
      rcases z with z | z
      · exact nf' z
      · exact nr i (by subst z; exact ⟨⟨_, e, .inl ⟨d, rfl⟩⟩, e1⟩)
    | io k d => exact q
/-- .. and may then be changed -/
theorem Rl.unkeep {p : Addr} {u u' : HO} (r : Rl (g.keep p u) F H σ sv) (nf : ¬ g.fx p) (nF0 : ∀ a, g.fx a → a ≠ p) (npH : g.pH p = none) : F p = none ∧ H p = some u ∧ Rl g F (upd H p u') σ sv ∧ ∀ i, ¬ Ref σ sv i p := by
  have hF : F p = none := (r.kF p (.inr rfl)).trans (if_pos rfl)
  have hH : H p = some u := r.kH p u upd_same
  have nr : ∀ i, ¬ Ref σ sv i p := fun i hi => by
    have := (r.own hi).2.2
    have h2 : upd g.pH p u p = none := this
    rw [upd_same] at h2
    cases h2
  refine ⟨hF, hH, ⟨fun a o e => ?_, fun a o e => ?_, fun a ha => ?_, fun a ha => ?_, fun a o e => ?_, fun k q e => ?_, r.len, fun i s e => ?_, r.dj⟩, nr⟩
  · rw [upd_ne (fun z => by rw [z, hF] at e; cases e)]; exact r.sub a o e
  · have hap : a ≠ p := fun z => by rw [z, npH] at e; cases e
    rw [upd_ne hap]
    exact r.kH a o ((upd_ne hap).trans e)
  · exact (r.kF a (.inl ha)).trans (if_neg (nF0 a ha))
  · rw [upd_ne (nF0 a ha)]; exact r.fxH a (.inl ha)
  · have hap : a ≠ p := fun z => by rw [z, npH] at e; cases e
    rcases r.pf a o ((upd_ne hap).trans e) with z | z
    · exact z
    · exact absurd z hap
  · obtain ⟨h1, h2⟩ := r.ion k q e
    rcases h2 with h2 | h2
    · exact ⟨(upd_ne (nF0 q h2)).symm.trans h1, h2⟩
    · have h1 : upd g.pH p u q = none := h1
      rw [h2, upd_same] at h1
      cases h1
  · have q := r.sl i s e
    have ne : ∀ q', σ[i]? = some (some (.ref q')) → (∃ d, s = .ow d) ∨ (∃ k d, s = .io k d) → q' ≠ p := fun q' e1 e2 z => nr i (by subst z; exact ⟨⟨_, e, e2⟩, e1⟩)
    cases s with
    | un => trivial
    | ex x => exact q
    | pl d => exact q
    | ow d =>
      obtain ⟨q', e1, nf', o'⟩ := q
      exact ⟨q', e1, fun z => nf' (.inl z), o'.monoH (upd_ne (ne q' e1 (.inl ⟨d, rfl⟩)))⟩
    | io k d =>
      obtain ⟨q', e1, hk, o'⟩ := q
      exact ⟨q', e1, hk, o'.monoH (upd_ne (ne q' e1 (.inr ⟨k, d, rfl⟩)))⟩
end
theorem h4w {σ4 σ : L2.St} {ow : List Nat} {s : SV} {p : Addr} {j : Nat} (h : ∀ i, ¬ Ref σ4 s i p) (ew : wipe σ4 ow = wipe σ ow) (hj : Ref (wipe σ ow) (wipeV s ow) j p) : False := by
  obtain ⟨⟨t, e1, e2⟩, e3⟩ := hj
  by_cases hm : j ∈ ow
  · have := wipeV_in s j t ow hm e1
    subst this
    rcases e2 with ⟨_, z⟩ | ⟨_, _, z⟩ <;> cases z
  · rw [wipeV_get s j ow hm] at e1
    rw [← ew, wipe_get σ4 j ow hm] at e3
    exact h j ⟨⟨t, e1, e2⟩, e3⟩
/-- a new, owned list beside the frame -/
structure Side (g : G) (F H : Hp) (σ : L2.St) (sv : SV) (p : Addr) (acc : List D) : Prop where
  nf : ¬ g.fx p
  nF : F p = none
  at_ : ∃ vs, H p = some (.lst vs) ∧ RpL g.K F acc vs
  nr : ∀ i, ¬ Ref σ sv i p
theorem Side.nP {g : G} {F H : Hp} {σ : L2.St} {sv : SV} {p : Addr} {acc : List D} (s : Side g F H σ sv p acc) (r : Rl g F H σ sv) : g.pH p = none := by
  cases h : g.pH p with
  | none => rfl
  | some o => exact absurd (r.pf p o h) s.nf

section
variable {X : Cx} {W : WX'} {elt tg iter : Expr} {ifs : List Expr} {scope : Scope} {own : List (Str × Nat)} {pos : Pos} {mi : M (List D)} {is : List Nat} {t : MT} {mc : M Bool} {me : M D}
theorem lc_turns {g : G} (hMx : g.mx = X.mx) {J : It} {ds : List D} {σ : L2.St} {F1 : Hp} {p : Addr} {Q : VK} {ow : List Nat} (his : ∀ i ∈ is, i ∈ ow) (ok : ItOk g.K F1 ds J) {fin : List D → SV → Prop}
    (hfin : ∀ F2 H2 s2 acc, Same F1 F2 → Rl g F2 H2 (wipe σ ow) s2 → Side g F2 H2 (wipe σ ow) s2 p acc → fin acc s2 → Q (.ref p) H2) {H1 : Hp} {s1 : SV} (rl1 : Rl g F1 H1 (wipe σ ow) s1) (sd1 : Side g F1 H1 (wipe σ ow) s1 p [])
    (q : match lcL ow t mc me ds s1 [] with | .ok acc s => fin acc s | _ => False) :
    ∃ Wi : Nat → Nat → Hp → Prop, (∃ m, Wi 0 m H1) ∧ ∀ i m H, Wi i m H → (J.stop i H ∧ Q (.ref p) H) ∨ (J.go i H ∧ ∃ Nx : Hp → Prop, (∀ H', Nx H' → ∃ m', m' < m ∧ Wi (i + 1) m' H') ∧ ∀ x H', J.yld i H x H' →
      tGt g.K is t x (wipe σ ow) H' fun σ2 H2 => wipe σ2 ow = wipe σ ow ∧ tT g.K X.mx WF mc σ2 H2 fun b H3 => if b = true then tE g.K X.mx WF me σ2 H3 fun y H4 => ∃ acc, H4 p = some (.lst acc) ∧ acc.length < sizeLine ∧ Nx (upd H4 p (.lst (acc ++ [y]))) else Nx H3) := by
  refine ⟨fun i m H => m = ds.length - i ∧ i ≤ ds.length ∧ ∃ F2 s2 acc, Same F1 F2 ∧ Rl g F2 H (wipe σ ow) s2 ∧ Side g F2 H (wipe σ ow) s2 p acc ∧ (match lcL ow t mc me (ds.drop i) s2 acc with | .ok acc s => fin acc s | _ => False),
    ⟨ds.length, by simp, Nat.zero_le _, F1, s1, [], Same.refl F1, rl1, sd1, q⟩, ?_⟩
  rintro i m H ⟨rfl, hi, F2, s2, acc, e2, rl2, sd2, q2⟩
  have sH : Same F1 H := e2.trans rl2.sub
  by_cases hlt : i < ds.length
  · have hd : ds[i]? = some ds[i] := List.getElem?_eq_getElem hlt
    rw [List.drop_eq_getElem_cons hlt] at q2
    unfold lcL at q2
    refine .inr ⟨ok.go i H hlt sH, fun H => ∃ F2 s2 acc, Same F1 F2 ∧ Rl g F2 H (wipe σ ow) s2 ∧ Side g F2 H (wipe σ ow) s2 p acc ∧ (match lcL ow t mc me (ds.drop (i + 1)) s2 acc with | .ok acc s => fin acc s | _ => False),
      fun H' hN => ⟨ds.length - (i + 1), by omega, rfl, hlt, hN⟩, fun x H' hy => ?_⟩
    obtain ⟨vs, hv, rv⟩ := sd2.at_
    have npH := sd2.nP rl2
    have nF0 : ∀ a, g.fx a → a ≠ p := fun a h z => sd2.nf (z ▸ h)
    have rk := rl2.keepG sd2.nf sd2.nF hv sd2.nr
    -- the item
    have item : ∃ F3, Same F2 F3 ∧ Rl (g.keep p (.lst vs)) F3 H' (wipe σ ow) s2 ∧ Rp g.K F3 ds[i] x := by
      rcases ok.yld i _ x H H' hd sH hy with ⟨rfl, hr⟩ | ⟨T, us, es, ed, rfl, hT, rfl, hr⟩
      · exact ⟨F2, Same.refl F2, rk, Rp.mono e2 _ _ hr⟩
      · have sF : Same F2 (upd F2 T (.tup us)) := same_upd (rl2.sub.free hT)
        refine ⟨_, sF, rk.lay hT, ?_⟩
        rw [ed]
        exact ⟨T, us, rfl, .inl (.inl upd_same), RpL.mono (e2.trans sF) _ _ hr⟩
    obtain ⟨F3, e3, rl3, rp3⟩ := item
    cases ht : t ds[i] s2 with
    | none => rw [ht] at q2; exact False.elim q2
    | some s3 =>
      rw [ht] at q2
      dsimp only at q2
      refine ⟨g.keep p (.lst vs), F3, s2, ds[i], s3, rfl, rl3, rp3, ht, fun σ4 rl4 ag => ?_⟩
      have ew : wipe σ4 ow = wipe σ ow := wipe_agree ag his
      refine ⟨ew, g.keep p (.lst vs), F3, s3, ⟨rfl, hMx⟩, rl4, ?_⟩
      cases hc : mc s3 with
      | err x' s => rw [hc] at q2; exact False.elim q2
      | bad => rw [hc] at q2; exact False.elim q2
      | ok b s =>
        rw [hc] at q2
        intro b' F5 H5 e5 rl5 eb
        cases eb
        cases b with
        | false =>
          have q2 : match lcL ow t mc me (ds.drop (i + 1)) (wipeV s ow) acc with | .ok acc s => fin acc s | _ => False := q2
          obtain ⟨h1, h2, h3, h4⟩ := rl5.unkeep (u' := .lst vs) sd2.nf nF0 npH
          have hu : upd H5 p (.lst vs) = H5 := by
            funext a
            by_cases ha : a = p
            · rw [ha, upd_same, h2]
            · exact upd_ne ha
          rw [hu] at h3
          have h3w := h3.wiped ow
          rw [ew] at h3w
          show ∃ F2 s2 acc, _
          refine ⟨F5, wipeV s ow, acc, (e2.trans e3).trans e5, h3w, ⟨sd2.nf, h1, ⟨vs, h2, RpL.mono (e3.trans e5) _ _ rv⟩, fun j hj => ?_⟩, q2⟩
          have := (h3w.own hj).2.2
          exact h4w h4 ew hj
        | true =>
          have q2 : match (match me s with | .ok y s3 => if acc.length < sizeLine then lcL ow t mc me (ds.drop (i + 1)) (wipeV s3 ow) (acc ++ [y]) else .bad | _ => .bad) with | .ok acc s => fin acc s | _ => False := q2
          refine ⟨g.keep p (.lst vs), F5, s, ⟨rfl, hMx⟩, rl5, ?_⟩
          cases hme : me s with
          | err x' s' => rw [hme] at q2; exact False.elim q2
          | bad => rw [hme] at q2; exact False.elim q2
          | ok y s' =>
            rw [hme] at q2
            dsimp only at q2
            by_cases hz : acc.length < sizeLine
            · rw [if_pos hz] at q2
              intro v F6 H6 e6 rl6 rp6
              obtain ⟨h1, h2, h3, h4⟩ := rl6.unkeep (u' := .lst (vs ++ [v])) sd2.nf nF0 npH
              have h3w := h3.wiped ow
              rw [ew] at h3w
              refine ⟨vs, h2, by rw [← rv.length]; exact hz, F6, wipeV s' ow, acc ++ [y], ((e2.trans e3).trans e5).trans e6, h3w, ⟨sd2.nf, h1, ⟨_, upd_same, (RpL.mono ((e3.trans e5).trans e6) _ _ rv).append (RpL.one rp6)⟩, fun j hj => h4w h4 ew hj⟩, q2⟩
            · rw [if_neg hz] at q2
              exact False.elim q2
  · have e : i = ds.length := by omega
    subst e
    rw [List.drop_length] at q2
    exact .inl ⟨ok.stop H sH, hfin F2 H s2 acc e2 rl2 sd2 q2⟩
/-- the own names are seen again -/
theorem rl_restore {g : G} {F1 H1 F2 H2 : Hp} {σ : L2.St} {ow : List Nat} {s s2 : SV} (rl1 : Rl g F1 H1 σ s) (ho : ownOk ow s = true) (e : Same F1 F2) (rl2 : Rl g F2 H2 (wipe σ ow) s2) : Rl g F2 H2 σ (restV ow s s2) := by
  have hl : s2.length = s.length := by rw [rl2.len, wipe_length, rl1.len]
  have slot : ∀ j tt, (restV ow s s2)[j]? = some tt → (j ∉ ow ∧ s2[j]? = some tt) ∨ (s[j]? = some tt ∧ (tt = .un ∨ ∃ d, tt = .pl d)) := fun j tt h => by
    rcases restV_get ow s s2 j tt h with z | ⟨h1, h2⟩ | ⟨h1, h2⟩
    · exact .inl z
    · refine .inr ⟨h2, ?_⟩
      have := List.all_eq_true.mp ho j h1
      rw [h2] at this
      cases tt with
      | un => exact .inl rfl
      | pl d => exact .inr ⟨d, rfl⟩
      | _ => cases this
    · obtain ⟨z, _⟩ := List.getElem?_eq_some_iff.mp h2
      have := List.getElem?_eq_none_iff.mp h1
      omega
  have rr : ∀ j p, Ref σ (restV ow s s2) j p → Ref (wipe σ ow) s2 j p := fun j p ⟨⟨tt, e1, e2⟩, e3⟩ => by
    rcases slot j tt e1 with ⟨h1, h2⟩ | ⟨_, rfl | ⟨d, rfl⟩⟩
    · exact ⟨⟨tt, h2, e2⟩, by rw [wipe_get σ j ow h1]; exact e3⟩
    · rcases e2 with ⟨_, z⟩ | ⟨_, _, z⟩ <;> cases z
    · rcases e2 with ⟨_, z⟩ | ⟨_, _, z⟩ <;> cases z
  refine ⟨rl2.sub, rl2.kH, rl2.kF, rl2.fxH, rl2.pf, rl2.ion, by rw [restV_len, hl, rl1.len], fun j tt h => ?_, fun i j p a b => rl2.dj i j p (rr _ _ a) (rr _ _ b)⟩
  rcases slot j tt h with ⟨h1, h2⟩ | ⟨h1, rfl | ⟨d, rfl⟩⟩
  · have := rl2.sl j tt h2
    rw [wipe_get σ j ow h1] at this
    exact this
  · trivial
  · obtain ⟨v, e1, hv⟩ := rl1.sl j _ h1
    exact ⟨v, e1, Rp.mono e d v hv⟩
theorem blk_mx (hc : X.calm = true) (s : Shared) (H : Hp) (sc : Scope) (ce : Env) (fp : List Addr) : (X.blk s H sc ce fp).mx = X.mx := by
  unfold L2.Cx.mx
  show MX.mk X.mg (if X.calm = true then none else _) = _
  rw [if_pos hc, if_pos hc]
theorem lc_read {σ : L2.St} {H : Hp} {Q : VK} {ow : List Nat} (his : ∀ i ∈ is, i ∈ ow) (q : tO X.K X.mx W (mLc ow mi t mc me) σ H Q) : tLc (tG X.K X.mx W RelI mi) (tGt X.K is t) (tT X.K X.mx WF mc) (tE X.K X.mx WF me) ow σ H Q := by
  obtain ⟨g, F, sv, hK, rl, q⟩ := q
  refine ⟨g, F, sv, hK, rl, PostG.bind q fun ds s J F1 H1 e1 rl1 ok1 q1 p hp => ?_⟩
  by_cases ho : ownOk ow s = true
  · rw [if_pos ho] at q1
    rw [← hK.1]
    have rlo : Rl g F1 (upd H1 p (.lst [])) (wipe σ ow) (wipeV s ow) := (rl1.layO hp).wiped ow
    refine lc_turns (g := g) hK.2 (fin := fun acc s' => PostG X.mx g F1 σ (.ok (.lst acc) (restV ow s s')) W RelO' Q) his ok1 (fun F2 H2 s2 acc e2 rl2 sd hf => ?_) rlo ⟨rl1.nofx hp, rl1.sub.free hp, ⟨[], upd_same, rfl⟩, fun j hj => ?_⟩ ?_
    · have rl3 := rl_restore rl1 ho e2 rl2
      obtain ⟨vs, hv, rv⟩ := sd.at_
      refine hf _ F2 H2 e2 rl3 ⟨p, rfl, sd.nf, ⟨sd.nF, vs, hv, rv⟩, fun j hj => ?_⟩
      obtain ⟨⟨tt, a1, a2⟩, a3⟩ := hj
      rcases restV_get ow s s2 j tt a1 with ⟨b1, b2⟩ | ⟨b1, b2⟩ | ⟨b1, b2⟩
      · exact sd.nr j ⟨⟨tt, b2, a2⟩, by rw [wipe_get σ j ow b1]; exact a3⟩
      · have := List.all_eq_true.mp ho j b1
        rw [b2] at this
        rcases a2 with ⟨_, rfl⟩ | ⟨_, _, rfl⟩ <;> cases this
      · obtain ⟨z, _⟩ := List.getElem?_eq_some_iff.mp b2
        have := List.getElem?_eq_none_iff.mp b1
        have := rl2.len
        rw [wipe_length, ← rl1.len] at this
        omega
    · exact h4w (fun i hi => rl1.noRef hp i hi) rfl hj
    · revert q1
      cases hL : lcL ow t mc me ds (wipeV s ow) [] with
      | ok acc s' => exact fun q => q
      | err x s' => exact absurd hL (lcL_noerr ds _ _ _ _)
      | bad => exact fun q => q
  · rw [if_neg ho] at q1
    exact False.elim q1
theorem so_lc (hc : X.calm = true) (hN : X.N.Nodup) (hi : SI X W tg iter mi) (ok : BlkOk X.N X.env.scope scope own) (his : ∀ i ∈ is, i ∈ own.map (·.2))
    (hg : ∀ (s : Shared) (H : Hp) (C : Addr) (cl : List (Str × Addr)) (fp : List Addr), SG (X.blk s H scope (compEnvC scope cl C X.env) fp) tg is t)
    (ht : ∀ (s : Shared) (H : Hp) (C : Addr) (cl : List (Str × Addr)) (fp : List Addr), STs (X.blk s H scope (compEnvC scope cl C X.env) fp) WF ifs mc)
    (he : ∀ (s : Shared) (H : Hp) (C : Addr) (cl : List (Str × Addr)) (fp : List Addr), SE (X.blk s H scope (compEnvC scope cl C X.env) fp) WF elt me) (hs : ∀ x, foldedSetIterable iter X.env x = pure x := by intro _; rfl) :
    SO X W (.ListComp elt [⟨tg, iter, ifs, 0⟩] scope pos) (mLc (own.map (·.2)) mi t mc me) := pe_imp (pe_lc hc hN hi ok hg (tt := tT X.K X.mx WF mc) (te := tE X.K X.mx WF me) (fun s H C cl fp => by have z := ht s H C cl fp; unfold STs at z; rw [blk_mx hc] at z; exact z) (fun s H C cl fp => by have z := he s H C cl fp; unfold SE at z; rw [blk_mx hc] at z; exact z) hs) fun σ H Q q => by
  exact lc_read his q
theorem lc_set {i : Nat} {y : Str} {py : Pos} {spos : Pos} (h : PS X (.Assign [.Name y py] (.ListComp elt [⟨tg, iter, ifs, 0⟩] scope pos) spos) (tAsg (tLc (tG X.K X.mx W RelI mi) (tGt X.K is t) (tT X.K X.mx WF mc) (tE X.K X.mx WF me) (own.map (·.2))) (gName i)))
    (his : ∀ i ∈ is, i ∈ own.map (·.2)) : SS X W (.Assign [.Name y py] (.ListComp elt [⟨tg, iter, ifs, 0⟩] scope pos) spos) (mAsgO i (mLc (own.map (·.2)) mi t mc me)) := ps_imp h fun Dn σ H q => by
  obtain ⟨g, F, sv, hK, rl, q⟩ := q
  refine lc_read (X := X) (W := W) his ⟨g, F, sv, hK, rl, PostS.bind (H := H) q fun d s v F1 H1 e1 rl1 rp1 h1 => ?_⟩
  obtain ⟨p, rfl, nf, o, nr⟩ := rp1
  exact h1 _ F1 H1 (Same.refl F1) (rl1.setOw i nf o nr)
end
end VM

set_option Elab.async false
set_option linter.all false
set_option autoImplicit false
set_option maxRecDepth 100000
set_option maxHeartbeats 400000
namespace VM
open PySem PySem.Spec PyProof.Rows L2

/-! ### calls with keywords -/
section
variable {X : Cx} {W : WX'} {k n kk : Nat} {f : Addr} {fd : FuncData} {ps ks : List Str} {fn : Fn} {x : Str} {p pos kpos : Pos} {e : Expr} {es : List Expr} {kws : List Keyword} {m : M D} {ms mk : M (List D)} {g : List Value → List Value → List Value} {gV : List V → List V → List V} {nm : Option Str}
abbrev SK (X : Cx) (W : WX') (kws : List Keyword) (m : M (List D)) : Prop := PK X kws (tG X.K X.mx W RelL m)
theorem pk_imp {t t' : TA} (h : PK X kws t) (k : ∀ σ H Q, t' σ H Q → t σ H Q) : PK X kws t' := ⟨fun p pins s σ H Q I q => h.run p pins s σ H Q I (k σ H Q q)⟩
theorem sk_nil : SK X W [] mNil := pk_imp pk_nil fun σ H Q q => by
  obtain ⟨g, F, sv, hK, rl, q⟩ := q
  exact q [] F H (Same.refl F) rl rfl
theorem sk_cons (ha : SE X W e m) (hr : SK X W kws ms) : SK X W (⟨nm, e, kpos⟩ :: kws) (mCons m ms) := pk_imp (pk_cons ha hr) fun σ H Q q => by
  obtain ⟨g, F, sv, hK, rl, q⟩ := q
  refine ⟨g, F, sv, hK, rl, PostG.bind q fun d s1 x F1 H1 e1 rl1 rp1 h1 => ?_⟩
  refine ⟨g, F1, s1, hK, rl1, PostG.bind h1 fun ds s2 xs F2 H2 e2 rl2 rp2 h2 => ?_⟩
  exact h2 _ F2 H2 (Same.refl F2) rl2 ⟨x, xs, rfl, Rp.mono e2 _ _ rp1, rp2⟩
def tCallKG (sp : Sp) (gV : List V → List V → List V) (E : L2.St → XK) (t tk : TA) : TE := fun σ H Q => t σ H fun vs H1 => tk σ H1 fun zs H2 => sp (gV vs zs) H2 Q (E σ)
theorem run_kw {sp : Sp} {E : L2.St → XK} {pins : List (Addr × Obj)} {σ : L2.St} {H : Hp} {s : Shared} {Q : VK} {us ws : List Value} {vs zs : List V} (F : FnG X.prog X.w X.K X.mg X.base k f fd ps sp) (hgd : X.A.guards = some []) (hr : Room k X.A) (hb : KBinds X.K fd ps ks g gV) (hx : ∀ σ, PassesAt (L2N.CX X.prog X.w) X σ (E σ))
    (I : Inv X pins σ H s) (r : Vals vs us) (rz : Vals zs ws) (h : sp (gV vs zs) H Q (E σ)) : wpAny (model X.prog X.w) X.A (call (.ref f) us (ks.zip ws)) (EP X pins σ Q) X.xe s := by
  have r2 := hb.rel r rz
  have hl : (g us ws).length = ps.length := r2.length.symm.trans (F.len _ _ _ _ h)
  refine wpAny_call (codeAny_mono (F.run X.A X.stack s H ⟨us, ks.zip ws⟩ (g us ws) (gV vs zs) Q (E σ) hgd hr I.env0 (hb.to s us ws I.kIn hl) r2 h) fun o s' hq => ?_)
  cases o with
  | error er => exact hx σ pins H s er s' I hq
  | ok fl =>
    cases fl with
    | ret u => exact I.after hq
    | next => exact False.elim hq
    | brk => exact False.elim hq
    | cont => exact False.elim hq
theorem pe_kw0 {sp : Sp} {E : L2.St → XK} {tk : TA} (F : FnG X.prog X.w X.K X.mg X.base k f fd ps sp) (hgd : X.A.guards = some []) (hr : Room k X.A) (hg : Gl X x) (hm : X.mg x = some (.ref f)) (hk : PySem.W.keepIn X.K (.ref f) = true) (hb : KBinds X.K fd ps ks g gV) (hx : ∀ σ, PassesAt (L2N.CX X.prog X.w) X σ (E σ))
    (hkw : PK X kws tk) (hall : (backToKw pos (keywordEach kws X.env)).all (·.1.isSome) = true := by rfl) (hks : (backToKw pos (keywordEach kws X.env)).filterMap (·.1) = ks := by rfl) (hdb : (x == ("__debug__" : Str)) = false := by decide)
    (hpl : ((backTo pos (starEach [] X.env)).any (·.1) || (backToKw pos (keywordEach kws X.env)).any (·.1.isNone)) = false := by rfl) : PE X (.Call (.Name x p) [] kws pos) (tCallKG sp gV E tNil tk) := by
  constructor
  intro pins s σ H Q I h
  have h : tk σ H fun zs H2 => sp (gV [] zs) H2 Q (E σ) := h
  refine wpAny_Call_Name_kw (ld_glob I hg hm (PySem.W.callWith_KW0 (h₀ := X.base) I.ok.mod.kin hk hall (thn (hkw.run pos pins s σ H _ I h) fun ws s2 ⟨zs, H2, I2, rz, q2⟩ => ⟨I2.kIn, ?_⟩) hpl) hdb)
  rw [hks]
  exact run_kw (us := []) (vs := []) F hgd hr hb hx I2 .nil rz q2
theorem pe_kw {sp : Sp} {E : L2.St → XK} {t tk : TA} (F : FnG X.prog X.w X.K X.mg X.base k f fd ps sp) (hgd : X.A.guards = some []) (hr : Room k X.A) (hg : Gl X x) (hm : X.mg x = some (.ref f)) (hk : PySem.W.keepIn X.K (.ref f) = true) (hb : KBinds X.K fd ps ks g gV) (hx : ∀ σ, PassesAt (L2N.CX X.prog X.w) X σ (E σ))
    (ha : PA X (e :: es) t) (hkw : PK X kws tk) (hall : (backToKw pos (keywordEach kws X.env)).all (·.1.isSome) = true := by rfl) (hks : (backToKw pos (keywordEach kws X.env)).filterMap (·.1) = ks := by rfl) (hdb : (x == ("__debug__" : Str)) = false := by decide)
    (he : starEach (e :: es) X.env = (false, eval e X.env) :: starEach es X.env := by rfl) (hpl : ((backTo pos (starEach (e :: es) X.env)).any (·.1) || (backToKw pos (keywordEach kws X.env)).any (·.1.isNone)) = false := by rfl) :
    PE X (.Call (.Name x p) (e :: es) kws pos) (tCallKG sp gV E t tk) := by
  constructor
  intro pins s σ H Q I h
  refine wpAny_Call_Name_kw (ld_glob I hg hm (PySem.W.callWith_KW (h₀ := X.base) I.ok.mod.kin hk hall (thn (ha.run pos pins s σ H _ I h) fun us s1 ⟨vs, H1, I1, r, q⟩ => ?_) hpl he) hdb)
  refine thn (hkw.run pos pins s1 σ H1 _ I1 q) fun ws s2 ⟨zs, H2, I2, rz, q2⟩ => ⟨I2.kIn, ?_⟩
  rw [hks]
  exact run_kw F hgd hr hb hx I2 r rz q2
/-- the order of the parameters, on data -/
structure KOrd (gD : List D → List D → List D) (gV : List V → List V → List V) : Prop where
  rel : ∀ {K : PySem.W.Frag} {F : Hp} {as bs : List D} {vs us : List V}, RpL K F as vs → RpL K F bs us → RpL K F (gD as bs) (gV vs us)
def mCallK (n : Nat) (fn : Fn) (gD : List D → List D → List D) (ms mk : M (List D)) : M D := fun sv => (ms sv).bind fun as s1 => (mk s1).bind fun bs s2 => if (gD as bs).length = n then frR (fn (gD as bs)) s2 else .bad
variable {gD : List D → List D → List D}
theorem se_kw0 (c : Ctx X W kk) (hkk : k ≤ kk) (Fg : FnG X.prog X.w X.K X.mg X.base k f fd ps (spV X.K X.mg n none false fn)) (hg : Gl X x) (hm : X.mg x = some (.ref f)) (hk : PySem.W.keepIn X.K (.ref f) = true) (hb : KBinds X.K fd ps ks g gV) (ho : KOrd gD gV)
    (hkw : SK X W kws mk) (hall : (backToKw pos (keywordEach kws X.env)).all (·.1.isSome) = true := by rfl) (hks : (backToKw pos (keywordEach kws X.env)).filterMap (·.1) = ks := by rfl) (hdb : (x == ("__debug__" : Str)) = false := by decide)
    (hpl : ((backTo pos (starEach [] X.env)).any (·.1) || (backToKw pos (keywordEach kws X.env)).any (·.1.isNone)) = false := by rfl) : SE X W (.Call (.Name x p) [] kws pos) (mCallK n fn gD mNil mk) :=
  pe_imp (pe_kw0 Fg c.hg (c.hr.mono hkk) hg hm hk hb (fun σ => L2N.passAt c.tk σ) hkw hall hks hdb hpl) fun σ H Q q => by
    obtain ⟨g0, F, sv, hK, rl, q⟩ := q
    have q : PostG X.mx g0 F σ ((mk sv).bind fun bs s2 => if (gD [] bs).length = n then frR (fn (gD [] bs)) s2 else .bad) W RelE Q := q
    refine ⟨g0, F, sv, hK, rl, PostG.bind q fun bs s2 us F2 H2 e2 rl2 rp2 q2 => ?_⟩
    split at q2
    · rename_i hz
      have rp : RpL g0.K F2 (gD [] bs) (gV [] us) := ho.rel (by exact rfl) rp2
      rw [← hK.1]
      exact post_call (fun F' H' d v _ hr => by show Rp g0.K F' d v; simpa using hr) (rp.length.symm.trans hz) rl2 rp q2
    · exact False.elim q2
theorem se_kw (c : Ctx X W kk) (hkk : k ≤ kk) (Fg : FnG X.prog X.w X.K X.mg X.base k f fd ps (spV X.K X.mg n none false fn)) (hg : Gl X x) (hm : X.mg x = some (.ref f)) (hk : PySem.W.keepIn X.K (.ref f) = true) (hb : KBinds X.K fd ps ks g gV) (ho : KOrd gD gV)
    (ha : SA X W (e :: es) ms) (hkw : SK X W kws mk) (hall : (backToKw pos (keywordEach kws X.env)).all (·.1.isSome) = true := by rfl) (hks : (backToKw pos (keywordEach kws X.env)).filterMap (·.1) = ks := by rfl) (hdb : (x == ("__debug__" : Str)) = false := by decide)
    (he : starEach (e :: es) X.env = (false, eval e X.env) :: starEach es X.env := by rfl) (hpl : ((backTo pos (starEach (e :: es) X.env)).any (·.1) || (backToKw pos (keywordEach kws X.env)).any (·.1.isNone)) = false := by rfl) :
    SE X W (.Call (.Name x p) (e :: es) kws pos) (mCallK n fn gD ms mk) :=
  pe_imp (pe_kw Fg c.hg (c.hr.mono hkk) hg hm hk hb (fun σ => L2N.passAt c.tk σ) ha hkw hall hks hdb he hpl) fun σ H Q q => by
    obtain ⟨g0, F, sv, hK, rl, q⟩ := q
    refine ⟨g0, F, sv, hK, rl, PostG.bind q fun as s1 vs F1 H1 e1 rl1 rp1 q1 => ?_⟩
    refine ⟨g0, F1, s1, hK, rl1, PostG.bind q1 fun bs s2 us F2 H2 e2 rl2 rp2 q2 => ?_⟩
    split at q2
    · rename_i hz
      have rp : RpL g0.K F2 (gD as bs) (gV vs us) := ho.rel (RpL.mono e2 _ _ rp1) rp2
      rw [← hK.1]
      exact post_call (fun F' H' d v _ hr => by show Rp g0.K F' d v; simpa using hr) (rp.length.symm.trans hz) rl2 rp q2
    · exact False.elim q2
end

/-! ### texts' methods -/
section
variable {X : Cx} {W : WX'} {e : Expr} {m : M D} {apos pos : Pos}
def dUpper : D → Option D
  | .str z => if z.length ≤ 5592405 then some (.str (Txt.upper z)) else none
  | _ => none
theorem se_upper (h : PE X (.Call (.Attribute e "upper" apos) [] [] pos) (tBM0 X.K "str" (fun x xs H Q => ∃ a, x = .str a ∧ xs = [] ∧ a.length ≤ 5592405 ∧ Q (.str (Txt.upper a)) H) (tE X.K X.mx W m))) : SE X W (.Call (.Attribute e "upper" apos) [] [] pos) (m1 dUpper m) := pe_imp h fun σ H Q q => by
  obtain ⟨g, F, sv, hK, rl, q⟩ := q
  refine ⟨g, F, sv, hK, rl, PostG.bind q fun d s1 v F1 H1 e1 rl1 rp1 h1 => ?_⟩
  cases d with
  | str z =>
    cases (show v = V.str z from rp1)
    have h1 : PostG X.mx g F1 σ (match dUpper (.str z) with | some d => .ok d s1 | none => .bad) W RelE Q := h1
    unfold dUpper at h1
    dsimp only at h1
    split at h1
    · rename_i hz
      split at hz
      · cases hz
        exact ⟨rfl, z, rfl, rfl, by assumption, h1 _ F1 H1 (Same.refl F1) rl1 rfl⟩
      · cases hz
    · exact False.elim h1
  | _ => exact False.elim h1
end

/-! ### the end -/
/-- the law's promise: a list of ints in, True out -/
def spLaw (K : PySem.W.Frag) : Sp := fun vs H Q _ => ∃ (a : Addr) (ns : List Int), vs = [V.ref a] ∧ SqL K H a (ns.map V.int) ∧ ns.length ≤ 63 ∧ ∀ H', Q (.bl true) H'
theorem ints_rel {K : PySem.W.Frag} {F : Hp} : ∀ ns : List Int, RpL K F (ns.map D.int) (ns.map V.int)
  | [] => rfl
  | n :: ns => ⟨_, _, rfl, rfl, ints_rel ns⟩
/-- from what the law's def computes -/
theorem law_of {P : Program} {w : World} {K : PySem.W.Frag} {mg : Str → Option Value} {base : Heap} {k : Nat} {f : Addr} {fd : FuncData} {ps : List Str} {fn : Fn} (hp : ps.length = 1) (F : FnG P w K mg base k f fd ps (spV K mg 1 none false fn))
    (h : ∀ ns : List Int, ns.length ≤ 63 → fn [.fl (ns.map .int)] = .ok (.bl true) none) : FnG P w K mg base k f fd ps (spLaw K) := by
  constructor
  · rintro vs H Q E ⟨a, ns, rfl, _⟩
    exact hp.symm
  · intro A outer s H args us vs Q E hg hr e0 hb r hsp
    refine F.run A outer s H args us vs Q E hg hr e0 hb r ?_
    obtain ⟨a, ns, rfl, hS, hl, q⟩ := hsp
    refine ⟨rfl, H, [.fl (ns.map .int)], Same.refl H, ⟨_, [], rfl, ⟨a, _, rfl, hS, ints_rel ns⟩, rfl⟩, ?_⟩
    rw [h ns hl]
    intro v F' H' _ _ _ _ _ hv
    have hv' : v = V.bl true := by simpa [Rp] using hv
    subst hv'
    exact q H'
theorem law_callG {P : Program} {w : World} {K : PySem.W.Frag} {mg mb : Str → Option Value} {k : Nat} {fa a : Addr} {fd : FuncData} {x : Str} {sp : Sp} {s1 : Shared} {vs : List Value} {ns : List Int}
    (KX : K.In s1.heap) (hns : s1.heap.Ns mainGlobals mg) (hb : s1.heap.Ns builtinsNs mb) (hbb : ∀ x : Str, x ≠ "__name__" → mb x = bootBuiltins x) (hlim : s1.heap.NoLimit) (hg : s1.gens = #[])
    (ha : s1.heap.get? a = some { cls := .type "list", data := .seq vs.toArray }) (hi : IntsAre vs ns) (hl : ns.length ≤ sizeLine) (hr : Room k callerA)
    (F : ∀ base : Heap, K.In base → base.Ns mainGlobals mg → FnG P w K mg base k fa fd [x] sp) (hbind : ∀ (s : Shared) (u : Value), BindsTo s fd ⟨[u], []⟩ [(x, u)])
    (hsp : ∀ H : Hp, Only H → SqL K H a (ns.map V.int) → sp [.ref a] H (fun v _ => v = .bl true) fun _ _ _ => False) :
    codeAny (model P w) callerA (.call (.ref fa) ⟨[.ref a], []⟩) (fun r s' => r = .ok (.ret (.bool true)) ∧ OldK s1.heap s'.heap ∧ s'.os = s1.os ∧ AllBare s'.gens) s1 := by
  have rv := vals_ints hi
  have lenV := hi.length
  have core : ∀ H : Hp, Only H → SqL K H a (ns.map V.int) → HOk P w H s1.heap → (∀ b, H b ≠ none → b = a) → (H a ≠ none → K.lookup a = none) →
      codeAny (model P w) callerA (.call (.ref fa) ⟨[.ref a], []⟩) (fun r s' => r = .ok (.ret (.bool true)) ∧ OldK s1.heap s'.heap ∧ s'.os = s1.os ∧ AllBare s'.gens) s1 := by
    intro H hO hS hok hA hK
    have hereA : ∀ {b : Addr} {u : HO}, H b = some u → b = a := fun {b u} q => hA b (by rw [q]; exact (fun z => nomatch z))
    have noA : ∀ {b : Addr} {o : Obj} {es : Array DictEntry} {ep : Nat}, s1.heap.get? b = some o → o.data = .dict es ep → H b = none := fun {b o es ep} e d => by
      cases q : H b with
      | none => rfl
      | some u =>
        have := hereA q
        subst this
        rw [ha] at e
        cases e
        have d' : Data.seq vs.toArray _ = Data.dict es ep := d
        cases d'
    have nsK : ∀ {b : Addr} {m : Str → Option Value}, s1.heap.Ns b m → (hidT s1.heap H).Ns b m := fun {b m} ⟨o, es, ep, e, d, r⟩ => ⟨o, es, ep, hidT_get e (noA e d), d, r⟩
    have hKb : K.In (hidT s1.heap H) := fun b o e => hidT_get (KX b o e) (by
      cases q : H b with
      | none => rfl
      | some u =>
        have := hereA q
        subst this
        rw [hK (by rw [q]; exact (fun z => nomatch z))] at e
        cases e)
    have hM : Mod K mg (hidT s1.heap H) := ⟨hKb, nsK hns, ⟨mb, nsK hb, hbb⟩, let ⟨mc, h1, h2⟩ := hlim; ⟨mc, nsK h1, h2⟩⟩
    have e0 : Env0 P w K mg (hidT s1.heap H) callerA [] s1 H := ⟨rfl, hM, fun b o e => of_hidT e, Nat.le_of_eq (hidT_size _ _), trivial, fun b hb => absurd (show b ∈ ([] : List Addr) from hb) (by simp), hok, .of_eq hg⟩
    refine codeAny_mono ((F _ hKb (nsK hns)).run callerA [] s1 H ⟨[.ref a], []⟩ [.ref a] [.ref a] _ _ rfl hr e0 (hbind s1 (.ref a)) (.cons rfl .nil) (hsp H hO hS)) fun r s' h => ?_
    cases r with
    | error e => obtain ⟨_, _, _, _, _, _, _, _, _, _, _, _, z⟩ := h; exact z.elim
    | ok fl =>
      cases fl with
      | next => exact False.elim h
      | brk => exact False.elim h
      | cont => exact False.elim h
      | ret u =>
        obtain ⟨v, H', os, bare, un, hok', r', q⟩ := h
        have q' : v = .bl true := q
        subst q'
        have eu : u = Value.bool true := r'
        subst eu
        refine ⟨rfl, OldK.of_keep fun b o e => ?_, os, bare⟩
        cases q : H b with
        | none => exact un.keep b o e q (fun z => absurd (show b ∈ ([] : List Addr) from z) (by simp)) (by simp)
        | some u =>
          rcases hO b with z | ⟨ob, xs, z⟩
          · rw [q] at z; cases z
          · obtain ⟨e1, _⟩ := hok b _ z
            obtain ⟨e2, _⟩ := hok' b _ (un.frzs b ob _ z)
            rw [e] at e1; cases e1
            exact e2
  cases hk : K.lookup a with
  | some o =>
    have e := KX a o hk
    rw [ha] at e
    cases e
    exact core (fun _ => none) (fun _ => .inl rfl) (.inr ⟨_, vs.toArray, _, hk, rfl, rfl, rfl, by rw [List.size_toArray, lenV]; exact hl, by simpa using rv⟩) (fun b u z => by have z' : (none : Option HO) = some u := z; cases z') (fun b z => absurd rfl z) fun z => absurd rfl z
  | none =>
    refine core (fun b => if b = a then some (.frz { cls := .type "list", data := .seq vs.toArray } (.lst (ns.map V.int))) else none) (fun b => ?_) (.inl (.inr ⟨_, if_pos rfl⟩)) (fun b u z => ?_) (fun b z => ?_) fun _ => hk
    · by_cases hb : b = a
      · exact .inr ⟨_, _, if_pos hb⟩
      · exact .inl (if_neg hb)
    · by_cases hb : b = a
      · have z' := (if_pos hb).symm.trans z
        cases z'
        subst hb
        exact ⟨ha, by rw [List.length_map]; exact hl, vs, _, rv, ha⟩
      · have z' := (if_neg hb).symm.trans z
        cases z'
    · by_cases hb : b = a
      · exact hb
      · exact absurd (if_neg hb) z
theorem walk_ofG {l : PySem.W.OpenLaw} {k : Nat} {q : Program} {loose : List Str} {XP : (Str → Option Value) → Heap → Prop} {YP : World → Heap → Prop} {d : DefRec} {K : Params → PySem.W.Frag} {x : Str}
    (hn : l.most = some 63) (hdf : d.params.defaults = []) (hr : Room k callerA) (hY : ∀ (w : World) (h : Heap), YP w h → (K w.params).In h)
    (F : ∀ (w : World) (mg : Str → Option Value) (fa : Addr) (h : Heap), (K w.params).In h → h.Ns mainGlobals mg → mg d.name = some (.ref fa) →
      ∃ fd : FuncData, (∀ (s : Shared) (u : Value), BindsTo s fd ⟨[u], []⟩ [(x, u)]) ∧ ∀ base : Heap, (K w.params).In base → base.Ns mainGlobals mg → FnG l.prog w (K w.params) mg base k fa fd [x] (spLaw (K w.params))) :
    PySem.W.WalkO q loose XP YP l.row.toRowW d [] (fun f vs => PySem.call f vs) := by
  refine Att.attach_call hn hdf fun w s₀ s₁ mg mb fa o pm cd doc a vs ns G Y ho hd hcd hmg hobj hints hlen hg => ?_
  have KX := hY w _ Y
  obtain ⟨fd, hb, hF⟩ := F w mg fa _ KX G.T.g hmg
  exact law_callG KX G.T.g G.T.b G.T.builtins G.T.nolimit hg hobj hints (Nat.le_trans hlen (by decide)) hr hF hb fun H hO hS => ⟨a, ns, rfl, hS, hlen, fun _ => rfl⟩
end VM

set_option Elab.async false
set_option linter.all false
set_option autoImplicit false
set_option maxRecDepth 100000
set_option maxHeartbeats 400000
namespace VM
open PySem PySem.Spec PyProof.Rows L2

/-! ### further rules -/
section
variable {X : Cx} {W : WX'} {a b e : Expr} {pos : Pos} {ma mb m : M D}
/-- * : ints; a list and an int -/
def dMul : D → D → Option D
  | .int i, .int j => cMul i j
  | .lst xs, .int k => dRep (.lst xs) (.int k)
  | _, _ => none
theorem o2_mulA {K : PySem.W.Frag} : O2 K (fun x y H Q => (rI CMul fun i j => .int (i * j)) x y H Q ∨ rRep x y H Q) dMul := by
  intro g F H σ sv a b d x y Q hK rl e ha hb q
  cases a <;> cases b <;> try (cases e; done)
  · rename_i i j
    exact .inl (o2_mulI g F H σ sv (.int i) (.int j) d x y Q hK rl e ha hb q)
  · rename_i xs k
    simp only [dMul, dRep] at e
    split at e
    · rename_i hz
      cases e
      subst hK
      obtain ⟨p, vs, rfl, h4, h5⟩ := ha
      refine .inr ⟨p, _, vs, rfl, hb, rl.sub _ _ h4, hz.1, hz.2.1, by rw [← h5.length]; exact hz.2.2, fun l hl => ?_⟩
      have sF : Same F (upd F l (.lst (List.replicate k.toNat vs).flatten)) := same_upd (rl.sub.free hl)
      exact q _ _ _ sF (rl.lay hl) ⟨l, _, rfl, upd_same, RpL.mono sF _ _ (rep_rel h5 _)⟩
    · cases e
theorem se_mulA (ha : SE X W a ma) (hb : SE X W b mb) : SE X W (.BinOp a .Mult b pos) (m2 dMul ma mb) := se_op (OpR.or op_mul op_rep) o2_mulA ha hb
/-- xs + ys, a new list that is the frame's own -/
def dCat : D → D → Option D
  | .lst xs, .lst ys => if xs.length + ys.length ≤ sizeLine then some (.lst (xs ++ ys)) else none
  | _, _ => none
theorem so_cat (ha : SE X W a ma) (hb : SE X W b mb) : SO X W (.BinOp a .Add b pos) (m2 dCat ma mb) := pe_imp (pe_op op_cat ha hb) fun σ H Q q => by
  obtain ⟨g, F, sv, hK, rl, q⟩ := q
  refine ⟨g, F, sv, hK, rl, PostG.bind q fun d s1 x F1 H1 e1 rl1 rp1 h1 => ?_⟩
  refine ⟨g, F1, s1, hK, rl1, PostG.bind h1 fun d2 s2 y F2 H2 e2 rl2 rp2 h2 => ?_⟩
  have rp1' := Rp.mono e2 _ _ rp1
  split at h2
  · rename_i r hr
    unfold dCat at hr
    split at hr
    · split at hr
      · rename_i hz
        cases hr
        obtain ⟨p, vs, rfl, h4, h5⟩ := rp1'
        obtain ⟨p2, us, rfl, h6, h7⟩ := rp2
        refine ⟨p, p2, vs, us, rfl, rfl, rl2.sub _ _ h4, rl2.sub _ _ h6, by rw [← h5.length, ← h7.length]; exact hz, fun l hl => ?_⟩
        exact h2 _ _ _ (Same.refl F2) (rl2.layO hl) ⟨l, rfl, rl2.nofx hl, ⟨rl2.sub.free hl, _, upd_same, h5.append h7⟩, fun i hi => rl2.noRef hl i hi⟩
      · cases hr
    · cases hr
  · exact False.elim h2
/-- a text of the module's own top -/
theorem se_glob {x : Str} {z : Str} {t : Tok} (hg : Gl X x) (hm : X.mg x = some (.str z t)) (hd : (x == ("__debug__" : Str)) = false := by decide) : SE X W (.Name x pos) (mC (.str z)) := se_const (pe_glob (v := .str z) hg hm ⟨_, rfl⟩ hd) fun _ => rfl
theorem se_globI {x : Str} {z : Int} {t : Tok} (hg : Gl X x) (hm : X.mg x = some (.int z t)) (hd : (x == ("__debug__" : Str)) = false := by decide) : SE X W (.Name x pos) (mC (.int z)) := se_const (pe_glob (v := .int z) hg hm ⟨_, rfl⟩ hd) fun _ => rfl
end
end VM

set_option Elab.async false
set_option linter.all false
set_option autoImplicit false
set_option maxRecDepth 100000
set_option maxHeartbeats 400000
namespace VM
open PySem PySem.Spec PyProof.Rows L2

/-! ### keywords that stand in the order of the def -/
def kj {α : Type} (n k : Nat) (us ws : List α) : List α := if us.length = n ∧ ws.length = k then us ++ ws else []
theorem kj_ord (n k : Nat) : KOrd (kj n k) (kj n k) := ⟨fun {K F as bs vs us} h1 h2 => by
  unfold kj
  rw [h1.length, h2.length]
  split
  · exact h1.append h2
  · rfl⟩
theorem kj_binds {K : PySem.W.Frag} {x qual : Str} {st : Stmt} {f : Addr} {fd : FuncData} {ps ks : List Str} {n k : Nat} (hp : ps.length = n + k ∧ 0 < ps.length) (F : Fun K x qual st f fd)
    (h : ∀ (kV doc pm : Value) (an : Option Addr) (cdv ct : Value) (us ws : List Value), us.length = n → ws.length = k → bindArgs (PySem.W.fnOf x qual (defArgs st) (defBody st) (defScope st) .none kV doc pm an cdv ct) ⟨us, ks.zip ws⟩ = pure (ps.zip (us ++ ws))) : KBinds K fd ps ks (kj n k) (kj n k) := by
  obtain ⟨oc, od, kV, doc, pm, an, cdv, ct, osl, rfl, lk, hcd⟩ := F.ex
  constructor
  · intro s us ws _ hl
    unfold kj at hl ⊢
    split at hl
    · rename_i hz
      rw [if_pos hz]
      exact .of_eq (h kV doc pm an cdv ct us ws hz.1 hz.2)
    · have : ps.length = 0 := hl.symm
      omega
  · intro vs us zs ws h1 h2
    unfold kj
    rw [h1.length, h2.length]
    split
    · exact Vals.append h1 h2
    · exact .nil
end VM

set_option Elab.async false
set_option linter.all false
set_option autoImplicit false
set_option maxRecDepth 100000
set_option maxHeartbeats 400000
namespace VM
open PySem PySem.Spec PyProof.Rows L2
/-! ### all(xs), any(xs), sum(xs) over a list -/
def blsD : List D → Option (List Bool)
  | [] => some []
  | .bl b :: r => (blsD r).map (b :: ·)
  | _ => none
def intsD : List D → Option (List Int)
  | [] => some []
  | .int b :: r => (intsD r).map (b :: ·)
  | _ => none
theorem bls_rel {K : PySem.W.Frag} {F : Hp} : ∀ {xs : List D} {bs : List Bool} {vs : List V}, blsD xs = some bs → RpL K F xs vs → vs = bs.map V.bl
  | [], bs, vs, h, r => by cases h; cases r; rfl
  | .bl b :: xs, bs, vs, h, r => by
    simp only [blsD, Option.map_eq_some_iff] at h
    obtain ⟨cs, h1, rfl⟩ := h
    obtain ⟨v, us, rfl, h2, h3⟩ := r
    cases h2
    rw [bls_rel h1 h3]
    rfl
theorem ints_relD {K : PySem.W.Frag} {F : Hp} : ∀ {xs : List D} {bs : List Int} {vs : List V}, intsD xs = some bs → RpL K F xs vs → vs = bs.map V.int
  | [], bs, vs, h, r => by cases h; cases r; rfl
  | .int b :: xs, bs, vs, h, r => by
    simp only [intsD, Option.map_eq_some_iff] at h
    obtain ⟨cs, h1, rfl⟩ := h
    obtain ⟨v, us, rfl, h2, h3⟩ := r
    cases h2
    rw [ints_relD h1 h3]
    rfl
def dAll : List D → Option D
  | [.lst xs] => (blsD xs).map fun bs => .bl (bs.all id)
  | _ => none
def dAny : List D → Option D
  | [.lst xs] => (blsD xs).map fun bs => .bl (bs.any id)
  | _ => none
def dSum : List D → Option D
  | [.lst xs] => (intsD xs).map fun bs => .int bs.sum
  | _ => none
theorem oc_all {K : PySem.W.Frag} : OC K (rAll K) dAll := oc_pure fun F H ds d vs Q s e hv q => by
  unfold dAll at e
  split at e
  · obtain ⟨v, rfl, a, us, rfl, h1, h2⟩ := RpL.one_inv hv
    simp only [Option.map_eq_some_iff] at e
    obtain ⟨bs, e1, rfl⟩ := e
    exact ⟨a, bs, rfl, by rw [← bls_rel e1 h2]; exact .inl (.inl (s _ _ h1)), q _ rfl⟩
  · cases e
theorem oc_any {K : PySem.W.Frag} : OC K (rAny K) dAny := oc_pure fun F H ds d vs Q s e hv q => by
  unfold dAny at e
  split at e
  · obtain ⟨v, rfl, a, us, rfl, h1, h2⟩ := RpL.one_inv hv
    simp only [Option.map_eq_some_iff] at e
    obtain ⟨bs, e1, rfl⟩ := e
    exact ⟨a, bs, rfl, by rw [← bls_rel e1 h2]; exact .inl (.inl (s _ _ h1)), q _ rfl⟩
  · cases e
theorem oc_sum {K : PySem.W.Frag} : OC K (rSum K) dSum := oc_pure fun F H ds d vs Q s e hv q => by
  unfold dSum at e
  split at e
  · obtain ⟨v, rfl, a, us, rfl, h1, h2⟩ := RpL.one_inv hv
    simp only [Option.map_eq_some_iff] at e
    obtain ⟨bs, e1, rfl⟩ := e
    exact ⟨a, bs, rfl, by rw [← ints_relD e1 h2]; exact .inl (.inl (s _ _ h1)), q _ rfl⟩
  · cases e
theorem boot_all' : bootBuiltins "all" = some (.builtin "all") := by decide +kernel
theorem boot_any' : bootBuiltins "any" = some (.builtin "any") := by decide +kernel
theorem boot_sum' : bootBuiltins "sum" = some (.builtin "sum") := by decide +kernel
section
variable {X : Cx} {W : WX'} {e : Expr} {es : List Expr} {ms : M (List D)} {p pos : Pos}
theorem se_all (hc : X.calm = true) (hg : Gl X "all") (hm : X.mg "all" = none) (ha : SA X W (e :: es) ms)
    (h1 : starEach (e :: es) X.env = (false, eval e X.env) :: starEach es X.env := by rfl) (h2 : (backTo pos (starEach es X.env)).any (·.1) = false := by rfl) : SE X W (.Call (.Name "all" p) (e :: es) [] pos) (mCall1 dAll ms) :=
  se_callB (cr_all hc) oc_all hg hm boot_all' ha (by decide) (by decide) h1 h2
theorem se_any (hc : X.calm = true) (hg : Gl X "any") (hm : X.mg "any" = none) (ha : SA X W (e :: es) ms)
    (h1 : starEach (e :: es) X.env = (false, eval e X.env) :: starEach es X.env := by rfl) (h2 : (backTo pos (starEach es X.env)).any (·.1) = false := by rfl) : SE X W (.Call (.Name "any" p) (e :: es) [] pos) (mCall1 dAny ms) :=
  se_callB (cr_any hc) oc_any hg hm boot_any' ha (by decide) (by decide) h1 h2
theorem se_sum (hc : X.calm = true) (hg : Gl X "sum") (hm : X.mg "sum" = none) (ha : SA X W (e :: es) ms)
    (h1 : starEach (e :: es) X.env = (false, eval e X.env) :: starEach es X.env := by rfl) (h2 : (backTo pos (starEach es X.env)).any (·.1) = false := by rfl) : SE X W (.Call (.Name "sum" p) (e :: es) [] pos) (mCall1 dSum ms) :=
  se_callB (cr_sum hc) oc_sum hg hm boot_sum' ha (by decide) (by decide) h1 h2
end
end VM

set_option Elab.async false
set_option linter.all false
set_option autoImplicit false
set_option maxRecDepth 100000
set_option maxHeartbeats 400000
namespace VM
open PySem PySem.Spec PyProof.Rows L2

/-! ### evaluation by simp -/
theorem rng1_a {n : Nat} (h : n ≤ 1000000) : -(2 ^ 62) ≤ (n : Int) ∧ (n : Int) < 2 ^ 62 := by constructor <;> omega
theorem rng1_if {j : Int} {n : Nat} (e : j.toNat = n) (h : -(2 ^ 62) ≤ j ∧ j < 2 ^ 62) (s : SV) : (if -(2 ^ 62) ≤ j ∧ j < 2 ^ 62 then R.ok (rngs 0 j.toNat) s else .bad) = R.ok (rngs 0 n) s := by
  subst e
  exact if_pos h
theorem rng1_of' {ms : M (List D)} {sv s : SV} {j : Int} {n : Nat}  (e : j.toNat = n) (h : -(2 ^ 62) ≤ j ∧ j < 2 ^ 62) (e1 : ms sv = .ok [.int j] s) : mRng1 ms sv = .ok (rngs 0 n) s := by
  unfold mRng1
  rw [e1]
  exact rng1_if e h s
theorem rng1_of {ms : M (List D)} {sv s : SV} {n : Nat} (e : ms sv = .ok [.int (n : Int)] s) (h : n ≤ 1000000) : mRng1 ms sv = .ok (rngs 0 n) s := rng1_of' (Int.toNat_natCast n) (rng1_a h) e
section
variable (sv : SV) (i j n : Nat) (d : D) (m ma mb : M D) (t u : M Bool) (ms : M (List D)) (a b : MS)
@[simp] theorem ev_ok {α β : Type} (x : α) (s : SV) (k : α → SV → R β) : (R.ok x s).bind k = k x s := (rfl)
@[simp] theorem ev_err {α β : Type} (x : Exn) (s : SV) (k : α → SV → R β) : (R.err x s : R α).bind k = .err x s := (rfl)
@[simp] theorem ev_bad {α β : Type} (k : α → SV → R β) : (R.bad : R α).bind k = .bad := (rfl)
@[simp] theorem ev_C : mC d sv = .ok d sv := (rfl)
@[simp] theorem ev_Rd : mRd i sv = match sv[i]? with
  | some (.pl d) => .ok d sv
  | _ => .bad := (rfl)
@[simp] theorem ev_Mv : mMv i sv = match sv[i]? with
  | some (.pl d) => .ok d sv
  | some (.ow d) => .ok d (sv.set i (.pl d))
  | _ => .bad := (rfl)
@[simp] theorem ev_Tk : mTk i sv = match sv[i]? with
  | some (.ow d) => .ok d (sv.set i .un)
  | _ => .bad := (rfl)
@[simp] theorem ev_2 (f : D → D → Option D) : m2 f ma mb sv = (ma sv).bind fun a s1 => (mb s1).bind fun b s2 => match f a b with
  | some d => .ok d s2
  | none => .bad := (rfl)
@[simp] theorem ev_1 (f : D → Option D) : m1 f m sv = (m sv).bind fun a s1 => match f a with
  | some d => .ok d s1
  | none => .bad := (rfl)
@[simp] theorem ev_B : mB m sv = (m sv).bind fun d s => match d with
  | .bl b => .ok b s
  | _ => .bad := (rfl)
@[simp] theorem ev_Not : mNot t sv = (t sv).bind fun b s => .ok (!b) s := (rfl)
@[simp] theorem ev_And : mAnd t u sv = (t sv).bind fun b s => if b = true then u s else .ok false s := (rfl)
@[simp] theorem ev_Or : mOr t u sv = (t sv).bind fun b s => if b = true then .ok true s else u s := (rfl)
@[simp] theorem ev_oN : moN sv = .ok none sv := (rfl)
@[simp] theorem ev_oS : moS m sv = (m sv).bind fun d s => match d with
  | .int i => .ok (some i) s
  | _ => .bad := by
  unfold moS
  rfl
@[simp] theorem ev_Sl (ml mh : MO) : mSl m ml mh sv = (m sv).bind fun d s1 => (ml s1).bind fun lo s2 => (mh s2).bind fun hi s3 => match dSl d lo hi with
  | some r => .ok r s3
  | none => .bad := (rfl)
@[simp] theorem ev_nil : mNil sv = .ok [] sv := (rfl)
@[simp] theorem ev_cons : mCons m ms sv = (m sv).bind fun d s1 => (ms s1).bind fun ds s2 => .ok (d :: ds) s2 := (rfl)
@[simp] theorem ev_Tup : mTup ms sv = (ms sv).bind fun ds s => if ds.length ≤ sizeLine then .ok (.tup ds) s else .bad := (rfl)
@[simp] theorem ev_Lst : mLst ms sv = (ms sv).bind fun ds s => if ds.length ≤ sizeLine then .ok (.lst ds) s else .bad := (rfl)
@[simp] theorem ev_Call1 (f : List D → Option D) : mCall1 f ms sv = (ms sv).bind fun ds s => match f ds with
  | some d => .ok d s
  | none => .bad := (rfl)
@[simp] theorem ev_Call (fn : Fn) (dd : List D) : mCall n fn dd ms sv = (ms sv).bind fun ds s => if (ds ++ dd).length = n then frR (fn (ds ++ dd)) s else .bad := (rfl)
@[simp] theorem ev_CallK (fn : Fn) (g : List D → List D → List D) (mk : M (List D)) : mCallK n fn g ms mk sv = (ms sv).bind fun as s1 => (mk s1).bind fun bs s2 => if (g as bs).length = n then frR (fn (g as bs)) s2 else .bad := (rfl)
@[simp] theorem ev_frok : frR (.ok d none) sv = .ok d sv := (rfl)
@[simp] theorem ev_frbad : frR .bad sv = .bad := (rfl)
@[simp] theorem ev_Seq : mSeq a b sv = match a sv with
  | .nx s => b s
  | o => o := (rfl)
@[simp] theorem ev_Skip : mSkip sv = .nx sv := (rfl)
@[simp] theorem ev_Bind {α : Type} (m : M α) (k : α → SV → O) : mBind m k sv = match m sv with
  | .ok a s => k a s
  | .err x s => .err x s
  | .bad => .bad := by
  unfold mBind
  cases m sv <;> rfl
@[simp] theorem ev_Drop : mDrop m sv = mBind m (fun _ s => .nx s) sv := (rfl)
@[simp] theorem ev_Ret : mRet m sv = mBind m (fun d s => .rt d s) sv := (rfl)
@[simp] theorem ev_RetO : mRetO m sv = mBind m (fun d s => .ro d s) sv := (rfl)
@[simp] theorem ev_IfS : mIfS t a b sv = mBind t (fun c s => if c = true then a s else b s) sv := (rfl)
@[simp] theorem ev_Asg : mAsg i m sv = mBind m (fun d s => .nx (s.set i (.pl d))) sv := (rfl)
@[simp] theorem ev_AsgO : mAsgO i m sv = mBind m (fun d s => .nx (s.set i (.ow d))) sv := (rfl)
@[simp] theorem ev_ownL : ownL sv i = match sv[i]? with
  | some (.ow (.lst xs)) => some (.ow (.lst xs), xs)
  | some (.io k (.lst xs)) => some (.io k (.lst xs), xs)
  | _ => none := by
  unfold ownL
  cases h : sv[i]? with
  | none => rfl
  | some s => cases s <;> first | rfl | (rename_i d; cases d <;> rfl)
@[simp] theorem ev_putL (xs : List D) : putL sv i xs = match sv[i]? with
  | some (.ow _) => .nx (sv.set i (.ow (.lst xs)))
  | some (.io k _) => .nx (sv.set i (.io k (.lst xs)))
  | _ => .bad := by
  unfold putL
  cases h : sv[i]? with
  | none => rfl
  | some s => cases s <;> rfl
@[simp] theorem ev_App : mApp i m sv = match ownL sv i with
  | none => .bad
  | some _ => mBind m (fun d s => match ownL s i with
    | some (_, xs) => if xs.length < sizeLine then putL s i (xs ++ [d]) else .bad
    | none => .bad) sv := (rfl)
@[simp] theorem ev_Put (mk : M D) : mPut i m mk sv = mBind m (fun d s1 => match ownL s1 i with
  | none => .bad
  | some _ => mBind mk (fun k s2 => match k, ownL s2 i with
    | .int z, some (_, xs) => match ixN xs.length z with
      | some j => putL s2 i (xs.set j d)
      | none => .bad
    | _, _ => .bad) s1) sv := (rfl)
@[simp] theorem ev_Pop : mPop i sv = match ownL sv i with
  | some (_, xs) => match xs[xs.length - 1]? with
    | some d => match putL sv i xs.dropLast with
      | .nx s' => .ok d s'
      | _ => .bad
    | none => .bad
  | none => .bad := (rfl)
theorem ev_For (mi : M (List D)) (g : MT) : mFor mi g b sv = mBind mi (fun ds s => forL g b ds s) sv := (rfl)
@[simp] theorem ev_Items : mItems m sv = (m sv).bind fun d s => match itemsD d with
  | some ds => .ok ds s
  | none => .bad := by
  unfold mItems
  rfl
@[simp] theorem ev_Enum : mEnum ms sv = (ms sv).bind fun ds s => match ds with
  | [.tup xs] => .ok (enumD 0 xs) s
  | [.lst xs] => .ok (enumD 0 xs) s
  | [.fl xs] => .ok (enumD 0 xs) s
  | _ => .bad := (rfl)
@[simp] theorem ev_tN : mtN i d sv = some (sv.set i (.pl d)) := (rfl)
@[simp] theorem ev_tnil : mtNil [] sv = some sv := (rfl)
@[simp] theorem ev_tcons (t : MT) (u : List D → SV → Option SV) (ds : List D) : mtCons t u (d :: ds) sv = match t d sv with
  | some s => u ds s
  | none => none := by
  unfold mtCons
  cases h : t d sv <;> (dsimp only; rw [h]; rfl)
@[simp] theorem ev_tTup (u : List D → SV → Option SV) (ds : List D) : mtTup n u (.tup ds) sv = if ds.length = n then u ds sv else none := (rfl)
@[simp] theorem ev_With {α : Type} (ok : α → Bool) (m : M α) : mWith ok i m sv = match sv[i]? with
  | some (.ow d) => (match m (lend i d sv) with
    | .ok r _ => if ok r = true then .ok r sv else .bad
    | _ => .bad)
  | some (.io _ d) => (match m (lend i d sv) with
    | .ok r _ => if ok r = true then .ok r sv else .bad
    | _ => .bad)
  | some _ => m sv
  | none => .bad := by
  unfold mWith
  cases h : sv[i]? with
  | none => rfl
  | some s => cases s <;> rfl
@[simp] theorem ev_lend : lend i d sv = (hideS sv).set i (.pl d) := (rfl)
@[simp] theorem ev_IfE : mIf t ma mb sv = (t sv).bind fun b s => if b = true then ma s else mb s := (rfl)
end
@[simp] theorem ev_hn : hideS [] = [] := (rfl)
@[simp] theorem ev_hp (d : D) (r : SV) : hideS (.pl d :: r) = .pl d :: hideS r := (rfl)
@[simp] theorem ev_hu (r : SV) : hideS (.un :: r) = .un :: hideS r := (rfl)
@[simp] theorem ev_ho (d : D) (r : SV) : hideS (.ow d :: r) = .un :: hideS r := (rfl)
@[simp] theorem ev_hi (k : Nat) (d : D) (r : SV) : hideS (.io k d :: r) = .un :: hideS r := (rfl)
@[simp] theorem ev_lcn (own : List Nat) (t : MT) (mc : M Bool) (me : M D) (s : SV) (acc : List D) : lcL own t mc me [] s acc = .ok acc s := (rfl)
@[simp] theorem ev_yes (sv : SV) : mYes sv = .ok true sv := (rfl)
@[simp] theorem ev_it1 (xs : List D) : itemsD (.tup xs) = some xs := (rfl)
@[simp] theorem ev_it2 (xs : List D) : itemsD (.lst xs) = some xs := (rfl)
@[simp] theorem ev_it3 (xs : List D) : itemsD (.fl xs) = some xs := (rfl)
@[simp] theorem ev_i0 (k : Nat) (io : Option Nat) : initA io k [] = [] := (rfl)
@[simp] theorem ev_i1 (k : Nat) (d : D) (ds : List D) : initA none k (d :: ds) = .pl d :: initA none (k + 1) ds := (rfl)
/-- a def without an in-out place -/
def endN (ro : Bool) : O → FR
  | .nx _ => if ro = true then .bad else .ok .non none
  | .rt d _ => if ro = true then .bad else .ok d none
  | .ro d _ => if ro = true then .ok d none else .bad
  | .err x _ => .err x none
  | _ => .bad
theorem fnOf_none (n : Nat) (ro : Bool) (body : MS) (ds : List D) : fnOf n none ro body ds = endN ro (body (initA none 0 ds ++ List.replicate (n - ds.length) .un)) := by
  unfold fnOf endN outS
  cases body (initA none 0 ds ++ List.replicate (n - ds.length) .un) <;> rfl
@[simp] theorem end_nx (s : SV) : endN false (.nx s) = .ok .non none := (rfl)
@[simp] theorem end_rt (d : D) (s : SV) : endN false (.rt d s) = .ok d none := (rfl)
@[simp] theorem end_ro (d : D) (s : SV) : endN true (.ro d s) = .ok d none := (rfl)

theorem for_of {mi : M (List D)} {t : MT} {b : MS} {sv s : SV} {ds : List D} {o : O} (e : mi sv = .ok ds s) (h : forL t b ds s = o) : mFor mi t b sv = o := by
  unfold mFor mBind
  rw [e]
  exact h
/-! ### loops -/
theorem forL_rel {t : MT} {b : MS} (P : Nat → SV → Prop) : ∀ (ds : List D) (k : Nat) (sv : SV), P k sv → (∀ i d s, ds[i]? = some d → P (k + i) s → ∃ s1 s2, t d s = some s1 ∧ b s1 = .nx s2 ∧ P (k + i + 1) s2) → ∃ s, forL t b ds sv = .nx s ∧ P (k + ds.length) s
  | [], k, sv, h0, _ => ⟨sv, rfl, h0⟩
  | d :: ds, k, sv, h0, hs => by
    obtain ⟨s1, s2, e1, e2, h2⟩ := hs 0 d sv rfl h0
    obtain ⟨s, e3, h3⟩ := forL_rel P ds (k + 1) s2 h2 fun i d' s' hd hp => by
      have e : k + 1 + i = k + (i + 1) := by omega
      rw [e] at hp ⊢
      exact hs (i + 1) d' s' hd hp
    refine ⟨s, ?_, ?_⟩
    · unfold forL
      rw [e1]
      dsimp only
      rw [e2]
      exact e3
    · rw [List.length_cons]
      have e : k + (ds.length + 1) = k + 1 + ds.length := by omega
      rw [e]
      exact h3
theorem for_ok {t : MT} {b : MS} {ds : List D} {sv : SV} (P : Nat → SV → Prop) (h0 : P 0 sv) (hs : ∀ i d s, ds[i]? = some d → P i s → ∃ s1 s2, t d s = some s1 ∧ b s1 = .nx s2 ∧ P (i + 1) s2) : ∃ s, forL t b ds sv = .nx s ∧ P ds.length s := by
  obtain ⟨s, h1, h2⟩ := forL_rel P ds 0 sv h0 fun i d s hd hp => by
    rw [Nat.zero_add] at hp ⊢
    exact hs i d s hd hp
  rw [Nat.zero_add] at h2
  exact ⟨s, h1, h2⟩
/-- a statement that goes on, and what holds then -/
structure Nxt (o : O) (P : SV → Prop) : Prop where
  eq : ∃ s, o = .nx s ∧ P s
@[simp] theorem nxt_nx (s : SV) (P : SV → Prop) : Nxt (.nx s) P = P s := propext ⟨fun h => by
  obtain ⟨s', e, hp⟩ := h.eq
  cases e
  exact hp, fun h => ⟨s, rfl, h⟩⟩
theorem Nxt.not {o : O} {P : SV → Prop} (h : Nxt o P) (k : ∀ s, o ≠ .nx s) : False := by
  obtain ⟨s, e, _⟩ := h.eq
  exact k s e
def Turn (t : MT) (b : MS) (d : D) (s : SV) (P : SV → Prop) : Prop := match t d s with
  | some s1 => Nxt (b s1) P
  | none => False
@[simp] theorem turn_n (i : Nat) (b : MS) (d : D) (s : SV) (P : SV → Prop) : Turn (mtN i) b d s P = Nxt (b (s.set i (.pl d))) P := rfl
theorem for_turns {t : MT} {b : MS} {ds : List D} {sv : SV} (P : Nat → SV → Prop) (h0 : P 0 sv) (hs : ∀ i d s, ds[i]? = some d → P i s → Turn t b d s (P (i + 1))) : ∃ s, forL t b ds sv = .nx s ∧ P ds.length s := for_ok P h0 fun i d s hd hp => by
  have q := hs i d s hd hp
  unfold Turn at q
  cases e1 : t d s with
  | none => rw [e1] at q; exact q.elim
  | some s1 =>
    rw [e1] at q
    dsimp only at q
    obtain ⟨s2, e2, q⟩ := q.eq
    exact ⟨s1, s2, rfl, e2, q⟩
/-- a def's answer -/
structure Ans (r : FR) (P : D → Prop) : Prop where
  eq : ∃ d, r = .ok d none ∧ P d
@[simp] theorem ans_ok (d : D) (P : D → Prop) : Ans (.ok d none) P = P d := propext ⟨fun h => by
  obtain ⟨s', e, hp⟩ := h.eq
  cases e
  exact hp, fun h => ⟨d, rfl, h⟩⟩
theorem nxt_of {o : O} {P : SV → Prop} {s : SV} (e : o = .nx s) (h : P s) : Nxt o P := ⟨s, e, h⟩
theorem nxt_mono {o : O} {P Q : SV → Prop} (h : Nxt o P) (k : ∀ s, P s → Q s) : Nxt o Q := by
  obtain ⟨s, e, hp⟩ := h.eq
  exact nxt_of e (k s hp)
theorem nxt_seq {a b : MS} {sv : SV} {Q : SV → Prop} (P : SV → Prop) (h : Nxt (a sv) P) (k : ∀ s, P s → Nxt (b s) Q) : Nxt (mSeq a b sv) Q := by
  obtain ⟨s, e, hp⟩ := h.eq
  rw [ev_Seq, e]
  exact k s hp
theorem nxt_if {t : M Bool} {a b : MS} {sv : SV} {Q : SV → Prop} {c : Bool} (h : t sv = .ok c sv) (h1 : c = true → Nxt (a sv) Q) (h2 : c = false → Nxt (b sv) Q) : Nxt (mIfS t a b sv) Q := by
  rw [ev_IfS, ev_Bind, h]
  cases c with
  | true => exact h1 rfl
  | false => exact h2 rfl
theorem nxt_for {mi : M (List D)} {t : MT} {b : MS} {sv s : SV} {ds : List D} {Q : SV → Prop} (P : Nat → SV → Prop) (e : mi sv = .ok ds s) (h0 : P 0 s) (hs : ∀ i d s, ds[i]? = some d → P i s → Turn t b d s (P (i + 1))) (hq : ∀ s, P ds.length s → Q s) : Nxt (mFor mi t b sv) Q := by
  obtain ⟨s', e1, hp⟩ := for_turns P h0 hs
  exact nxt_of (for_of e e1) (hq s' hp)
theorem fin_seq {ro : Bool} {a b : MS} {sv : SV} {Q : D → Prop} (P : SV → Prop) (h : Nxt (a sv) P) (k : ∀ s, P s → Ans (endN ro (b s)) Q) : Ans (endN ro (mSeq a b sv)) Q := by
  obtain ⟨s, e, hp⟩ := h.eq
  rw [ev_Seq, e]
  exact k s hp
theorem fin_if {ro : Bool} {t : M Bool} {a b : MS} {sv : SV} {Q : D → Prop} {c : Bool} (h : t sv = .ok c sv) (h1 : c = true → Ans (endN ro (a sv)) Q) (h2 : c = false → Ans (endN ro (b sv)) Q) : Ans (endN ro (mIfS t a b sv)) Q := by
  rw [ev_IfS, ev_Bind, h]
  cases c with
  | true => exact h1 rfl
  | false => exact h2 rfl
theorem Ans.mono {r : FR} {P Q : D → Prop} (h : Ans r P) (k : ∀ d, P d → Q d) : Ans r Q := by
  obtain ⟨d, e, hp⟩ := h.eq
  exact ⟨d, e, k d hp⟩
theorem rngs_get {n i : Nat} {d : D} (h : (rngs 0 n)[i]? = some d) : i < n ∧ d = .int i := by
  unfold rngs at h
  rw [List.getElem?_map] at h
  obtain ⟨j, h1, h2⟩ := Option.map_eq_some_iff.mp h
  obtain ⟨h3, h4⟩ := List.getElem?_eq_some_iff.mp h1
  simp at h3 h4
  subst h4
  exact ⟨h3, by rw [← h2]; simp⟩
theorem rngs_len (lo : Int) (n : Nat) : (rngs lo n).length = n := by simp [rngs]
theorem ixN_nat {n i : Nat} (h : i < n) : ixN n (i : Int) = some i := by
  unfold ixN
  rw [if_pos (by omega), if_pos (by omega)]
  simp
theorem atI_natL {α : Type} {xs : List α} {i : Nat} (h : i < xs.length) : atI xs (i : Int) = some xs[i] := by
  unfold atI
  rw [ixN_nat h]
  simp [h]
/-! ### texts as lists of numbers -/
theorem str_app (a b : Str) : (a ++ b).cps.toList = a.cps.toList ++ b.cps.toList := by
  show (a.cps ++ b.cps).toList = _
  simp
theorem str_len (a : Str) : a.length = a.cps.toList.length := by
  show a.cps.size = _
  simp
theorem ix_strL {z : Str} {i : Nat} (h : i < z.cps.toList.length) (hz : z.length ≤ sizeLine) : dIx (.str z) (.int (i : Int)) = some (.str ⟨#[z.cps.toList[i]]⟩) := by
  unfold dIx
  dsimp only
  rw [if_pos hz, atI_natL h]
  rfl
theorem one_list (c : Nat) : (⟨#[c]⟩ : Str).cps.toList = [c] := rfl
theorem cut_to (z : Str) (k : Nat) : (cutS z none (some (k : Int))).cps.toList = z.cps.toList.take k := by
  unfold cutS
  rw [HT.sIx_none, HT.sIx_nat]
  simp [str_len, List.take_eq_take_iff]
theorem cut_from (z : Str) (k : Nat) : (cutS z (some (k : Int)) none).cps.toList = z.cps.toList.drop k := by
  unfold cutS
  rw [HT.sIx_none, HT.sIx_nat, str_len]
  simp
  rw [List.take_of_length_le (by simp)]
  rcases Nat.le_total k z.cps.toList.length with h | h
  · simp at h; rw [Nat.min_eq_left h]
  · simp at h
    rw [Nat.min_eq_right h, List.drop_of_length_le (by simp), List.drop_of_length_le (by simpa using h)]
theorem cut_list {α : Type} (xs : List α) (a b : Nat) : cutD xs (some (a : Int)) (some (b : Int)) = (xs.drop a).take (b - a) := by
  unfold cutD
  rw [HT.sIx_nat, HT.sIx_nat]
  rcases Nat.le_total a xs.length with h | h
  · rw [Nat.min_eq_left h]
    rcases Nat.le_total b xs.length with h' | h'
    · rw [Nat.min_eq_left h']
    · rw [Nat.min_eq_right h', List.take_of_length_le (by simp), List.take_of_length_le (by simp; omega)]
  · rw [Nat.min_eq_right h, List.drop_of_length_le (by omega), List.drop_of_length_le h]
    simp
theorem in_strs (w : Str) (ws : List Str) : ∃ b, dIn (.str w) (.lst (ws.map .str)) = some (.bl b) := by
  unfold dIn
  have h : inSeq (.str w) (ws.map .str) = some (inF (.str w) (ws.map .str)) := by
    unfold inSeq
    rw [if_pos ⟨rfl, by simp [flatD]⟩]
  refine ⟨inF (.str w) (ws.map .str), ?_⟩
  show ((inSeq (.str w) (ws.map .str)).or _).map D.bl = _
  rw [h]
  rfl
end VM

set_option Elab.async false
set_option linter.all false
set_option autoImplicit false
set_option maxRecDepth 100000
set_option maxHeartbeats 1000000
namespace VM
open PySem PySem.Spec PyProof.Rows L2
open PySem.W (Frag nsIn findIn subIn typeIn keepIn clsIn specialIn takesIn mroIn kitOne kitAny exmOne hasDictIn)

/-! ### exceptions: the classes of the text -/
/-- where a name of the module leads -/
def adIn (K : Frag) (c : Str) : Addr := match nsIn K mainGlobals c with
  | some (some (.ref a)) => a
  | _ => 0
def oexB (K : Frag) (C : Addr) : Bool := (match K.lookup C with
  | some ⟨.type "type", _, .cls cd, sl⟩ => (match cd.mro, sl.toList with
    | .ref C' :: bm, [_, _, _, _, some (.builtin n), _] => C' == C && n == "ValueError.__new__" && !cd.hasDel && cd.hasDict && PySem.HandSPX.refsVE bm
    | _, _ => false)
  | _ => false) && (decide (findIn K (.ref C) "__setattr__" = some (some (.builtin "object.__setattr__"))) && (decide (subIn K (.ref C) (.type "BaseException") = some true) && (decide (typeIn K (.ref C) = some (.type "type")) && keepIn K (.ref C))))
theorem oexB_ok {K : Frag} {C : Addr} (h : oexB K C = true) : OexC K C := by
  unfold oexB at h
  simp only [Bool.and_eq_true, decide_eq_true_eq] at h
  obtain ⟨h0, h1, h2, h3, h4⟩ := h
  refine ⟨?_, h1, h2, h3, h4⟩
  split at h0
  · rename_i dd cd sl ho
    split at h0
    · rename_i C' bm k0 k1 k2 k3 n k5 hm hs
      simp only [Bool.and_eq_true, beq_iff_eq, Bool.not_eq_true'] at h0
      obtain ⟨⟨⟨⟨rfl, rfl⟩, hdel⟩, hdd⟩, hr⟩ := h0
      obtain ⟨nm, bs, mro, ns, qn, hd, sn, sub, ab, col, del⟩ := cd
      dsimp only at hm hdel hdd
      subst hm hdel hdd
      have hsl : sl = #[k0, k1, k2, k3, some (.builtin "ValueError.__new__"), k5] := by
        obtain ⟨l⟩ := sl
        simp only at hs
        rw [hs]
      subst hsl
      exact ⟨nm, qn, ns, bs, bm, sn, sub, ab, col, dd, k0, k1, k2, k3, k5, ho, hr⟩
    · cases h0
  · cases h0
/-- what isinstance asks of the class of an exception -/
structure IsxC (K : Frag) (C : Addr) : Prop where
  cl : (clsIn K C).isSome = true
  ha : findIn K (.ref C) "__class__" = some (some (.builtin "object.__class__"))
  hn : specialIn K (.builtin "object.__class__") "__get__" = some (some (.builtin "getset_descriptor.__get__"))
  ht : takesIn K (.builtin "object.__class__") = some true
  hm : mroIn K C (.type "object") = some true
def isxB (K : Frag) (C : Addr) : Bool := (clsIn K C).isSome && (decide (findIn K (.ref C) "__class__" = some (some (.builtin "object.__class__"))) && (decide (specialIn K (.builtin "object.__class__") "__get__" = some (some (.builtin "getset_descriptor.__get__"))) && (decide (takesIn K (.builtin "object.__class__") = some true) && decide (mroIn K C (.type "object") = some true))))
theorem isxB_ok {K : Frag} {C : Addr} (h : isxB K C = true) : IsxC K C := by
  unfold isxB at h
  simp only [Bool.and_eq_true, decide_eq_true_eq] at h
  obtain ⟨h0, h1, h2, h3, h4⟩ := h
  exact ⟨h0, h1, h2, h3, h4⟩
/-- all classes stand right below one of them -/
def isSub (top c d : Str) : Bool := c == d || d == top
structure ErrT (K : Frag) (mg : Str → Option Value) (top : Str) (ns fs : List Str) : Prop where
  g : ∀ c ∈ ns, mg c = some (.ref (adIn K c))
  o : ∀ c ∈ ns, OexC K (adIn K c)
  x : ∀ c ∈ ns, XfC K (adIn K c)
  i : ∀ c ∈ ns, IsxC K (adIn K c)
  nf : ∀ c ∈ ns, ∀ f ∈ fs, findIn K (.ref (adIn K c)) f = some none
  sub : ∀ c ∈ ns, ∀ d ∈ ns, kitOne K (.ref (adIn K c)) (.ref (adIn K d)) = some (isSub top c d)
  exm : ∀ c ∈ ns, ∀ d ∈ ns, exmOne K (.ref (adIn K c)) (.ref (adIn K d)) = some (isSub top c d)
  ve : ∀ c ∈ ns, kitOne K (.ref (adIn K c)) (.type "ValueError") = some true
def errB (K : Frag) (top : Str) (ns fs : List Str) : Bool := ns.all fun c =>
  decide (nsIn K mainGlobals c = some (some (.ref (adIn K c)))) && (oexB K (adIn K c) && (xfB K (adIn K c) && (isxB K (adIn K c) && ((fs.all fun f => decide (findIn K (.ref (adIn K c)) f = some none)) &&
    ((ns.all fun d => decide (kitOne K (.ref (adIn K c)) (.ref (adIn K d)) = some (isSub top c d)) && decide (exmOne K (.ref (adIn K c)) (.ref (adIn K d)) = some (isSub top c d))) && decide (kitOne K (.ref (adIn K c)) (.type "ValueError") = some true))))))
theorem errB_ok {K : Frag} {mg : Str → Option Value} {h : Heap} {top : Str} {ns fs : List Str} (X : K.In h) (G : h.Ns mainGlobals mg) (e : errB K top ns fs = true) : ErrT K mg top ns fs := by
  unfold errB at e
  have e' := fun c (hc : c ∈ ns) => List.all_eq_true.mp e c hc
  simp only [Bool.and_eq_true, decide_eq_true_eq, List.all_eq_true] at e'
  exact ⟨fun c hc => PySem.W.mg_of X G (e' c hc).1, fun c hc => oexB_ok (e' c hc).2.1, fun c hc => xfB_ok (e' c hc).2.2.1, fun c hc => isxB_ok (e' c hc).2.2.2.1, fun c hc => (e' c hc).2.2.2.2.1,
    fun c hc d hd => ((e' c hc).2.2.2.2.2.1 d hd).1, fun c hc d hd => ((e' c hc).2.2.2.2.2.1 d hd).2, fun c hc => (e' c hc).2.2.2.2.2.2⟩

/-! ### one is made -/
theorem pmk_oexN {X : Cx} {CX : CXT} {x : Str} {e : Expr} {es : List Expr} {ta : TA} {p pos : Pos} {C fI : Addr} {k : Nat} {fd : FuncData} {ps : List Str} {sp : Sp} (T : OexC X.K C) (iC : findIn X.K (.ref C) "__init__" = some (some (.ref fI))) (tI : typeIn X.K (.ref fI) = some (.type "function"))
    (Fi : FnOk X.prog X.w X.K X.mg X.base CX k fI fd ps sp) (hr : Room (k + 1) X.A) (hb : Binds X.K fd ps []) (hx : Passes CX X (fun _ _ _ => False)) (hg : Gl X x) (hm : X.mg x = some (.ref C)) (ha : PA X (e :: es) ta)
    (hdb : (x == ("__debug__" : Str)) = false := by decide) (he : starEach (e :: es) X.env = (false, eval e X.env) :: starEach es X.env := by rfl) (hpl : (backTo pos (starEach es X.env)).any (·.1) = false := by rfl) :
    L2N.PMk X (.Call (.Name x p) (e :: es) [] pos) (tMkO C sp [] ta) := by
  intro pins s σ H Q I h
  obtain ⟨c1, c2, c3, c4, c5, c6, c7, c8, c9, c10, c11, c12, c13, c14, c15, hC, hbm⟩ := T.cls
  refine wpAny_Call_Name_kw (ld_glob I hg hm ?_ hdb)
  refine PySem.W.callWith_K (h₀ := X.base) I.ok.mod.kin T.kC (thn (ha.run pos pins s σ H _ I h) fun us s1 ⟨vs, H1, I1, r1, hz, q1⟩ => ⟨I1.kIn, ?_⟩) he hpl
  show wpAny _ _ (call (.ref C) us) _ _ _
  obtain ⟨hh, gs, dr, tk, os⟩ := s1
  let n := hh.objs.size
  have up : hh.objs.size ≤ n + 1 := Nat.le_succ _
  have free1 : H1 (n + 1) = none := I1.hok.fresh up
  have qa := q1 (n + 1) free1
  rw [List.append_nil] at qa
  have keep2 : ∀ b o, hh.get? b = some o → ((hh.push (PySem.W.kdv_tup us)).push (PySem.HandSPX.excO C n)).get? b = some o := fun b o z => Heap.get?_push_of_some _ (Heap.get?_push_of_some _ z)
  have made : ((hh.push (PySem.W.kdv_tup us)).push (PySem.HandSPX.excO C hh.objs.size)).get? (hh.objs.size + 1) = some (PySem.HandSPX.excO C hh.objs.size) := by heap_get
  have I2 : Inv X pins σ (upd H1 (n + 1) (exo (n + 1) C none)) ⟨(hh.push (PySem.W.kdv_tup us)).push (PySem.HandSPX.excO C n), gs, dr, tk, os⟩ :=
    I1.laid (t' := tk) (a := n + 1) (o := exo (n + 1) C none) (h' := (hh.push (PySem.W.kdv_tup us)).push (PySem.HandSPX.excO C n)) keep2 up (exo_ok made)
  have rv2 : Vals (V.ref (n + 1) :: vs) (Value.ref (n + 1) :: us) := .cons rfl r1
  have len2 : (Value.ref (n + 1) :: us ++ []).length = ps.length := by
    have z := rv2.length
    rw [Fi.len _ _ _ _ qa] at z
    rw [List.append_nil]
    exact z.symm
  have small : us.length ≤ sizeLine := by
    rw [← Paired.length r1, sizeLine_eq]
    omega
  have bind2 := hb _ (Value.ref (n + 1) :: us) I2.kIn len2
  rw [List.append_nil] at bind2
  refine wpAny_call (PySem.HandSPX.call_own F.excBase_ValueError (fun Y => PySem.HandSPX.refsVE_contains Y c5 hbm) (I1.kIn _ _ hC) (PySem.W.looks_findIn I1.kIn iC) (fun self => PySem.W.bind_fn I1.kIn self tI) small
    (codeAny_mono (Fi.run _ X.stack _ _ ⟨Value.ref (n + 1) :: us, []⟩ (Value.ref (n + 1) :: us) _ _ (fun _ _ _ => False) (hr.make C us []) (I2.env0.make C us []) bind2 rv2 qa) fun r s' out => ?_))
  cases r with
  | error er => exact hx pins σ _ _ er s' I2 out
  | ok fl =>
    cases fl with
    | next => exact False.elim out
    | brk => exact False.elim out
    | cont => exact False.elim out
    | ret u =>
      obtain ⟨v, H2, os2, bare2, un2, hok2, rv, ev, d, fs, ea, ed, hd1, q2⟩ := out
      subst ev
      obtain ⟨h2, g2, d2, t2, os'⟩ := s'
      obtain ⟨t0, G0, J, kG, ge, hoe, na⟩ := mk_end0 (d2 := d2) (t2 := t2) I1 up keep2 un2 hok2 os2 bare2 ea ed hd1
      exact ⟨rv, n + 1, _, _, ⟨G0, g2, d2, t2, os'⟩, _, .ref C, some d, rfl, J, kG, ge, hoe, ⟨rfl, rfl, fun vs hv => by cases hv; rfl⟩, rfl, rfl, na, rfl, bare2, raises_own T.exC T.tyC, q2⟩

/-! ### __init__ with one field, with two -/
def spIni1 (C : Addr) (f : Str) : Sp := fun vs H Q _ => ∃ a y, vs = [V.ref a, y] ∧ H a = some (exo a C none) ∧ ∀ dx, H dx = none → dx ≠ a → Q .non (upd (upd H dx (exd dx [(f, y)])) a (exo a C (some dx)))
def spIni2 (C : Addr) (f f2 : Str) : Sp := fun vs H Q _ => ∃ a y z, vs = [V.ref a, y, z] ∧ H a = some (exo a C none) ∧ ∀ dx, H dx = none → dx ≠ a → Q .non (upd (upd (upd H dx (exd dx [(f, y)])) a (exo a C (some dx))) dx (exd dx [(f2, z), (f, y)]))
section
variable {P : Program} {w : World} {K : Frag} {mg : Str → Option Value} {base : Heap} {q : Str} {st : Stmt} {f C : Addr} {fd : FuncData} {fl f2 p p2 : Str}
theorem ini1_ok (F : Fun K "__init__" q st f fd) (S : FnScope ["self", p] ["self", p] (defScope st)) (T : OexC K C) (hn : findIn K (.ref C) fl = some none)
    (hb : ∀ (cdv : Value) (A : Around) (outer : List Env) (s : Shared) (H : Hp) (E : XK), PSs (cxOf CX0 P w K mg base ["self", p] q (defScope st) f cdv A outer s H E).nox (defBody st) (tOst K fl (tVar 0) (tVar 1))) :
    FnOk P w K mg base CX0 1 f fd ["self", p] (spIni1 C fl) := by
  refine F.ok S (fun vs H Q E h => ?_) fun cdv A outer s H vs Q E hr h => ⟨_, hb cdv A outer s H E, ?_⟩
  · obtain ⟨a, y, rfl, _⟩ := h
    rfl
  · obtain ⟨a, y, rfl, ha, h⟩ := h
    exact ⟨y, rfl, .ref a, rfl, a, C, rfl, T, hn, .inl ⟨ha, fun dx h1 h2 => h dx h1 h2⟩⟩
theorem ini2_ok (F : Fun K "__init__" q st f fd) (S : FnScope ["self", p, p2] ["self", p, p2] (defScope st)) (T : OexC K C) (hn : findIn K (.ref C) fl = some none) (hn2 : findIn K (.ref C) f2 = some none)
    (hb : ∀ (cdv : Value) (A : Around) (outer : List Env) (s : Shared) (H : Hp) (E : XK), PSs (cxOf CX0 P w K mg base ["self", p, p2] q (defScope st) f cdv A outer s H E).nox (defBody st) (tSeq (tOst K fl (tVar 0) (tVar 1)) (tOst K f2 (tVar 0) (tVar 2)))) :
    FnOk P w K mg base CX0 1 f fd ["self", p, p2] (spIni2 C fl f2) := by
  refine F.ok S (fun vs H Q E h => ?_) fun cdv A outer s H vs Q E hr h => ⟨_, hb cdv A outer s H E, ?_⟩
  · obtain ⟨a, y, z, rfl, _⟩ := h
    rfl
  · obtain ⟨a, y, z, rfl, ha, h⟩ := h
    refine ⟨y, rfl, .ref a, rfl, a, C, rfl, T, hn, .inl ⟨ha, fun dx h1 h2 => ?_⟩⟩
    refine ⟨z, rfl, .ref a, rfl, a, C, rfl, T, hn2, .inr ⟨dx, [(fl, y)], upd_same, ?_, by show 1 ≤ 900; decide, h dx h1 h2⟩⟩
    rw [upd_ne h2, upd_same]
end
theorem heap_end {H1 : Hp} {a C dx : Addr} {fs gs : List (Str × V)} (na : H1 a = none) (hd : dx ≠ a) : upd (del (upd (upd (upd H1 a (exo a C none)) dx (exd dx fs)) a (exo a C (some dx))) a) dx (.xd gs) = upd H1 dx (.xd gs) := by
  funext b
  by_cases h1 : b = dx
  · rw [h1, upd_same, upd_same]
  · rw [upd_ne h1, upd_ne h1]
    by_cases h2 : b = a
    · rw [h2, del_same, na]
    · rw [del_ne h2, upd_ne h2, upd_ne h1, upd_ne h2]
theorem heap_end2 {H1 : Hp} {a C dx : Addr} {fs f2 gs : List (Str × V)} (na : H1 a = none) (hd : dx ≠ a) : upd (del (upd (upd (upd (upd H1 a (exo a C none)) dx (exd dx fs)) a (exo a C (some dx))) dx (exd dx f2)) a) dx (.xd gs) = upd H1 dx (.xd gs) := by
  funext b
  by_cases h1 : b = dx
  · rw [h1, upd_same, upd_same]
  · rw [upd_ne h1, upd_ne h1]
    by_cases h2 : b = a
    · rw [h2, del_same, na]
    · rw [del_ne h2, upd_ne h1, upd_ne h2, upd_ne h1, upd_ne h2]

/-! ### raise -/
def mRaise (c : Str) (fs : List Str) (ms : M (List D)) : MS := mBind ms fun ds s => if ds.length = fs.length then .err ⟨c, (fs.zip ds).reverse⟩ s else .bad
section
variable {X : Cx} {W : WX'} {kk : Nat} {x : Str} {e : Expr} {es : List Expr} {ms : M (List D)} {p pos pos2 : Pos} {fI : Addr} {fd : FuncData} {top : Str} {ns fs : List Str} {f f2 p1 p2 : Str}
theorem ss_raise1 (c : Ctx X W kk) (h2 : 2 ≤ kk) (hc : X.calm = true) (T : ErrT X.K X.mg top ns fs) (hx : x ∈ ns) (iC : findIn X.K (.ref (adIn X.K x)) "__init__" = some (some (.ref fI))) (tI : typeIn X.K (.ref fI) = some (.type "function"))
    (Fi : FnOk X.prog X.w X.K X.mg X.base CX0 1 fI fd ["self", p1] (spIni1 (adIn X.K x) f)) (hb : Binds X.K fd ["self", p1] []) (hg : Gl X x) (ha : SA X W (e :: es) ms)
    (hdb : (x == ("__debug__" : Str)) = false := by decide) (he : starEach (e :: es) X.env = (false, eval e X.env) :: starEach es X.env := by rfl) (hpl : (backTo pos (starEach es X.env)).any (·.1) = false := by rfl) :
    SS X W (.Raise (some (.Call (.Name x p) (e :: es) [] pos)) none pos2) (mRaise x [f] ms) :=
  ps_imp (L2N.ps_raise hc c.tk (pmk_oexN (T.o x hx) iC tI Fi (c.hr.mono h2) hb pass0 hg (T.g x hx) ha hdb he hpl)) fun Dn σ H q => by
    obtain ⟨g, F, sv, hK, rl, q⟩ := q
    refine ⟨g, F, sv, hK, rl, PostS.bind (H := H) q fun ds s vs F1 H1 e1 rl1 rp1 q1 => ?_⟩
    split at q1
    · rename_i hz
      obtain ⟨d, rfl⟩ : ∃ d, ds = [d] := by
        match ds, hz with
        | [d], _ => exact ⟨d, rfl⟩
      obtain ⟨v, rfl, rv⟩ := rp1.one_inv
      refine ⟨by show 1 ≤ 1000; decide, fun a na => ⟨a, v, rfl, upd_same, fun dx h1 h2 => ?_⟩⟩
      have n1 : H1 dx = none := by rw [upd_ne h2] at h1; exact h1
      refine ⟨rfl, dx, [(f, v)], upd_same, by rw [upd_ne h2, upd_same], n1, ?_⟩
      rw [heap_end na h2]
      have sF : Same F1 (upd F1 dx (.xd [(f, v)])) := same_upd (rl1.sub.free n1)
      exact q1 _ _ _ _ _ sF (rl1.lay n1) ⟨_, T.g x hx, rfl, .inr ⟨dx, [v], rfl, upd_same, RpL.one (Rp.mono sF _ _ rv)⟩⟩
    · exact False.elim q1
theorem ss_raise2 (c : Ctx X W kk) (h2 : 2 ≤ kk) (hc : X.calm = true) (T : ErrT X.K X.mg top ns fs) (hx : x ∈ ns) (iC : findIn X.K (.ref (adIn X.K x)) "__init__" = some (some (.ref fI))) (tI : typeIn X.K (.ref fI) = some (.type "function"))
    (Fi : FnOk X.prog X.w X.K X.mg X.base CX0 1 fI fd ["self", p1, p2] (spIni2 (adIn X.K x) f f2)) (hb : Binds X.K fd ["self", p1, p2] []) (hg : Gl X x) (ha : SA X W (e :: es) ms)
    (hdb : (x == ("__debug__" : Str)) = false := by decide) (he : starEach (e :: es) X.env = (false, eval e X.env) :: starEach es X.env := by rfl) (hpl : (backTo pos (starEach es X.env)).any (·.1) = false := by rfl) :
    SS X W (.Raise (some (.Call (.Name x p) (e :: es) [] pos)) none pos2) (mRaise x [f, f2] ms) :=
  ps_imp (L2N.ps_raise hc c.tk (pmk_oexN (T.o x hx) iC tI Fi (c.hr.mono h2) hb pass0 hg (T.g x hx) ha hdb he hpl)) fun Dn σ H q => by
    obtain ⟨g, F, sv, hK, rl, q⟩ := q
    refine ⟨g, F, sv, hK, rl, PostS.bind (H := H) q fun ds s vs F1 H1 e1 rl1 rp1 q1 => ?_⟩
    split at q1
    · rename_i hz
      obtain ⟨d, d2, rfl⟩ : ∃ d d2, ds = [d, d2] := by
        match ds, hz with
        | [d, d2], _ => exact ⟨d, d2, rfl⟩
      obtain ⟨v, v2, rfl, rv, rv2⟩ := rp1.two_inv
      refine ⟨by show 2 ≤ 1000; decide, fun a na => ⟨a, v, v2, rfl, upd_same, fun dx h1 h2 => ?_⟩⟩
      have n1 : H1 dx = none := by rw [upd_ne h2] at h1; exact h1
      refine ⟨rfl, dx, [(f2, v2), (f, v)], by rw [upd_ne (Ne.symm h2), upd_same], upd_same, n1, ?_⟩
      rw [heap_end2 na h2]
      have sF : Same F1 (upd F1 dx (.xd [(f2, v2), (f, v)])) := same_upd (rl1.sub.free n1)
      exact q1 _ _ _ _ _ sF (rl1.lay n1) ⟨_, T.g x hx, rfl, .inr ⟨dx, [v2, v], rfl, upd_same, ⟨v2, [v], rfl, Rp.mono sF _ _ rv2, RpL.one (Rp.mono sF _ _ rv)⟩⟩⟩
    · exact False.elim q1
end
end VM
namespace VM
open PySem PySem.Spec PyProof.Rows L2
theorem adIn_of {K : PySem.W.Frag} {c : Str} {C : Addr} (h : PySem.W.nsIn K mainGlobals c = some (some (.ref C))) : adIn K c = C := by
  unfold adIn
  rw [h]
end VM

set_option Elab.async false
set_option linter.all false
set_option autoImplicit false
set_option maxRecDepth 100000
set_option maxHeartbeats 1000000
namespace VM
open PySem PySem.Spec PyProof.Rows L2
open PySem.W (Frag nsIn findIn subIn typeIn keepIn clsIn specialIn takesIn mroIn kitOne kitAny exmOne hasDictIn)

/-! ### a frame with the exception in hand -/
def noExS : Sl → Bool
  | .ex _ => false
  | _ => true
def noEx (sv : SV) : Bool := sv.all noExS
section
variable {g : G} {F H : Hp} {σ : L2.St} {sv : SV}
theorem Rl.mxTo (r : Rl g F H σ sv) (h : noEx sv = true) (m : MX) : Rl { g with mx := m } F H σ sv := by
  refine ⟨r.sub, r.kH, r.kF, r.fxH, r.pf, r.ion, r.len, fun i s e => ?_, r.dj⟩
  have q := r.sl i s e
  cases s with
  | ex x =>
    have z := List.all_eq_true.mp h _ (List.mem_of_getElem? e)
    cases z
  | un => exact q
  | pl d => exact q
  | ow d => exact q
  | io k d => exact q
theorem Rl.noEx_of (r : Rl g F H σ sv) (h : g.mx.hx = none) : noEx sv = true := List.all_eq_true.mpr fun s hs => by
  obtain ⟨i, hi, e⟩ := List.getElem_of_mem hs
  have q := r.sl i s (by rw [List.getElem?_eq_getElem hi, e])
  cases s with
  | ex x =>
    obtain ⟨a, oe, d, cls, _, z, _⟩ := q
    rw [h] at z
    cases z
  | un => rfl
  | pl d => rfl
  | ow d => rfl
  | io k d => rfl
theorem Rl.setGen (r : Rl g F H σ sv) (i : Nat) {ov : Option V} {s' : Sl} (no : (∀ d, s' ≠ .ow d) ∧ ∀ k d, s' ≠ .io k d) (h : SlOk g F H (some ov) s') : Rl g F H (σ.set i ov) (sv.set i s') := by
  have rr : ∀ j p, Ref (σ.set i ov) (sv.set i s') j p → j ≠ i ∧ Ref σ sv j p := fun j p ⟨⟨s, e1, e2⟩, e3⟩ => by
    by_cases h : i = j
    · subst h
      by_cases hl : i < sv.length
      · rw [List.getElem?_set_self hl] at e1
        cases e1
        rcases e2 with ⟨d, z⟩ | ⟨k, d, z⟩
        · exact absurd z (no.1 d)
        · exact absurd z (no.2 k d)
      · rw [List.getElem?_eq_none (by simp; omega)] at e1; cases e1
    · rw [List.getElem?_set_ne h] at e1 e3
      exact ⟨Ne.symm h, ⟨s, e1, e2⟩, e3⟩
  refine ⟨r.sub, r.kH, r.kF, r.fxH, r.pf, r.ion, by simp [r.len], fun j s e => ?_, fun j k p a b => r.dj j k p (rr _ _ a).2 (rr _ _ b).2⟩
  by_cases hj : i = j
  · subst hj
    by_cases hl : i < sv.length
    · rw [List.getElem?_set_self hl] at e
      cases e
      rw [List.getElem?_set_self (by rw [← r.len]; exact hl)]
      exact h
    · rw [List.getElem?_eq_none (by simp; omega)] at e; cases e
  · rw [List.getElem?_set_ne hj] at e
    rw [List.getElem?_set_ne hj]
    exact r.sl j s e
end

/-! ### where an exception is handled -/
structure CtxH (X : Cx) (W : WX') (k : Nat) : Prop where
  tk : L2N.Takes X W
  hr : L2H.RoomH k X.A
  hg : X.A.guards = some []
  po : PassesOwn (model X.prog X.w) X.A X.env X.xe
  hot : L2H.HotC X
theorem CtxH.u {X : Cx} {W : WX'} {k : Nat} (c : CtxH X W k) : X.A.units + 64 < cLine := by have := c.hr.un; omega
theorem CtxH.u5 {X : Cx} {W : WX'} {k : Nat} (c : CtxH X W k) : X.A.units + 65 < cLine := by have := c.hr.un; omega
theorem ctx_suite {X : Cx} {W : WX'} {k : Nat} (c : Ctx X W k) {a : Addr} {oe : Obj} {cls : Value} {d : Option Addr} {pn : List (Addr × Obj)} (hz : L2N.Zn cls d oe) (hf : ∃ vs, oe.data = .fields vs) : CtxH (X.suite a ((a, oe) :: pn)) WF k :=
  ⟨takesN0, L2H.roomH_mark c.hr _, c.hg, PassesOwn.never, ⟨(a, oe), ⟨rfl, let ⟨vs, h⟩ := hf; ⟨vs, h, hz.2.2 vs h⟩⟩, List.mem_cons_self⟩⟩
theorem ctx_tr {X : Cx} {W W' : WX'} {k : Nat} (c : Ctx X W k) {pn : List (Addr × Obj)} {xe : Value → Shared → Prop} (t : L2N.Takes (X.tr pn xe) W') (p : PassesOwn (model X.prog X.w) X.A X.env xe) : Ctx (X.tr pn xe) W' k := ⟨t, c.hr, c.hg, p⟩
theorem tr_mx {X : Cx} (hc : X.calm = true) (pn : List (Addr × Obj)) (xe : Value → Shared → Prop) : (X.tr pn xe).mx = X.mx := by
  unfold L2.Cx.mx
  show MX.mk X.mg (if X.calm = true then none else _) = _
  rw [if_pos hc, if_pos hc]
theorem mx_calm {X : Cx} (hc : X.calm = true) : X.mx.hx = none := by
  unfold L2.Cx.mx
  exact if_pos hc
theorem suite_mx {X : Cx} (a : Addr) (oe : Obj) (pn : List (Addr × Obj)) : (X.suite a ((a, oe) :: pn)).mx = ⟨X.mg, some (a, oe)⟩ := rfl

/-! ### try .. except x as n -/
def endEx (i : Nat) : O → O
  | .nx s => if noEx (s.set i .un) = true then .nx (s.set i .un) else .bad
  | .rt d s => if noEx (s.set i .un) = true then .rt d (s.set i .un) else .bad
  | .ro d s => if noEx (s.set i .un) = true then .ro d (s.set i .un) else .bad
  | .bk s => if noEx (s.set i .un) = true then .bk (s.set i .un) else .bad
  | .ct s => if noEx (s.set i .un) = true then .ct (s.set i .un) else .bad
  | .err _ _ => .bad
  | .bad => .bad
def mTry (top : Str) (ns : List Str) (x : Str) (i : Nat) (mb ms : MS) : MS := fun sv => match mb sv with
  | .err e s => if e.c ∈ ns then (if isSub top e.c x = true then endEx i (ms (s.set i (.ex e))) else .err e s) else .bad
  | o => o
/-- .. without a name -/
def endO : O → O
  | .nx s => if noEx s = true then .nx s else .bad
  | .rt d s => if noEx s = true then .rt d s else .bad
  | .ro d s => if noEx s = true then .ro d s else .bad
  | .bk s => if noEx s = true then .bk s else .bad
  | .ct s => if noEx s = true then .ct s else .bad
  | .err _ _ => .bad
  | .bad => .bad
def mTryO (top : Str) (ns : List Str) (x : Str) (mb ms : MS) : MS := fun sv => match mb sv with
  | .err e s => if e.c ∈ ns then (if isSub top e.c x = true then endO (ms s) else .err e s) else .bad
  | o => o
section
variable {X : Cx} {W : WX'} {kk i : Nat} {x n : Str} {body suite : List Stmt} {b₀ : Stmt} {np pos pos' : Pos} {top : Str} {ns fs : List Str} {mb ms : MS}
theorem ErrT.cls {K K' : Frag} {mg : Str → Option Value} (T : ErrT K mg top ns fs) {F : Hp} {e : Exn} {cls : Value} {d : Option Addr} (h : ErrOk K' mg F e cls d) (he : e.c ∈ ns) : cls = .ref (adIn K e.c) := by
  obtain ⟨C, h1, h2, _⟩ := h
  rw [T.g e.c he] at h1
  cases h1
  exact h2
theorem ss_try_as (c : Ctx X W kk) (hst : X.stack = X.env :: X.outer) (hfr : X.env.frame = some X.env.locals) (hc : X.calm = true) (hN : X.N.Nodup) (hi : X.N[i]? = some n) (hln : X.env.kindOf n = some .local) (T : ErrT X.K X.mg top ns fs) (hx : x ∈ ns) (hg : Gl X x) (hdb : (x == ("__debug__" : Str)) = false)
    (hb : ∀ (W' : WX') (pn : List (Addr × Obj)) (xe : Value → Shared → Prop), Ctx (X.tr pn xe) W' kk → SSs (X.tr pn xe) W' body mb)
    (hs : ∀ (a : Addr) (oe : Obj) (pn : List (Addr × Obj)), CtxH (X.suite a ((a, oe) :: pn)) WF kk → SSs (X.suite a ((a, oe) :: pn)) WF (b₀ :: suite) ms) :
    SS X W (.Try body [.ExceptHandler (some (.Name x np)) (some n) (b₀ :: suite) pos'] [] [] pos) (mTry top ns x i mb ms) := by
  have h := L2N.ps_try_as (pos := pos) (pos' := pos') (np := np) (tb := fun W' => tS X.K X.mx W' mb) (ts := fun a cls d => fun D σ H => ∀ oe, Zc cls d oe → (∃ vs, oe.data = .fields vs) → tS X.K ⟨X.mg, some (a, oe)⟩ WF ms D σ H)
    hst hfr hN hi hln (c := .ref (adIn X.K x)) ⟨hg, hdb, .inl (T.g x hx)⟩ c.tk
    (fun W' pn xe t p => by
      have z := hb W' pn xe (ctx_tr c t p)
      unfold SSs at z
      rw [tr_mx hc] at z
      exact z)
    (fun a oe cls d pn hz hf => pss_imp (hs a oe pn (ctx_suite c hz hf)) fun D σ H q => q oe hz.zc hf)
  refine ps_imp h fun Dn σ H q => ?_
  obtain ⟨g, F, sv, hK, rl, q⟩ := q
  refine ⟨g, F, sv, hK, rl, ?_⟩
  unfold mTry at q
  cases hm : mb sv with
  | nx s => rw [hm] at q; exact q
  | rt d s => rw [hm] at q; exact q
  | ro d s => rw [hm] at q; exact q
  | bk s => rw [hm] at q; exact q
  | ct s => rw [hm] at q; exact q
  | bad => rw [hm] at q; exact q
  | err e s =>
    rw [hm] at q
    dsimp only at q
    intro cls dd σ1 F1 H1 e1 rl1 er
    split at q
    · rename_i he
      have ec := T.cls er he
      subst ec
      refine ⟨isSub top e.c x, T.exm e.c he x hx, fun hb a na oe hz hf => ?_, fun hb => ?_⟩
      · rw [if_pos hb] at q
        have hn : noEx s = true := rl1.noEx_of (by rw [hK.2]; exact mx_calm hc)
        have rl2 : Rl { g with mx := ⟨X.mg, some (a, oe)⟩ } F1 H1 (σ1.set i (some (.ref a))) (s.set i (.ex e)) := (rl1.mxTo hn ⟨X.mg, some (a, oe)⟩).setGen i ⟨(fun _ z => nomatch z), (fun _ _ z => nomatch z)⟩
          ⟨a, oe, dd, _, rfl, rfl, hz, hf, by show ErrOk g.K X.mg F1 e _ dd; exact er⟩
        refine ⟨{ g with mx := ⟨X.mg, some (a, oe)⟩ }, F1, _, ⟨hK.1, rfl⟩, rl2, ?_⟩
        have back : ∀ {σ2 : L2.St} {F2 H2 : Hp} {s2 : SV}, noEx (s2.set i .un) = true → Rl { g with mx := ⟨X.mg, some (a, oe)⟩ } F2 H2 σ2 s2 → Rl g F2 H2 (σ2.set i none) (s2.set i .un) ∧ Rl g F2 H2 σ2 (s2.set i .un) := fun {σ2 F2 H2 s2} hne r => by
          refine ⟨?_, ?_⟩
          · exact (r.setGen i (s' := .un) ⟨(fun _ z => nomatch z), (fun _ _ z => nomatch z)⟩ trivial).mxTo hne g.mx
          · exact (r.forget i).mxTo hne g.mx
        cases ho : ms (s.set i (.ex e)) with
        | nx s2 =>
          rw [ho] at q
          simp only [endEx] at q
          split at q
          · rename_i hne
            exact fun σ2 F2 H2 e2 r2 => q _ F2 H2 (e1.trans e2) (back hne r2).1
          · exact False.elim q
        | bk s2 =>
          rw [ho] at q
          simp only [endEx] at q
          split at q
          · rename_i hne
            exact fun σ2 F2 H2 e2 r2 => q _ F2 H2 (e1.trans e2) (back hne r2).1
          · exact False.elim q
        | ct s2 =>
          rw [ho] at q
          simp only [endEx] at q
          split at q
          · rename_i hne
            exact fun σ2 F2 H2 e2 r2 => q _ F2 H2 (e1.trans e2) (back hne r2).1
          · exact False.elim q
        | rt d s2 =>
          rw [ho] at q
          simp only [endEx] at q
          split at q
          · rename_i hne
            exact fun v σ2 F2 H2 e2 r2 rp => q v _ F2 H2 (e1.trans e2) (back hne r2).2 rp
          · exact False.elim q
        | ro d s2 =>
          rw [ho] at q
          simp only [endEx] at q
          split at q
          · rename_i hne
            refine fun v σ2 F2 H2 e2 r2 rp => q v σ2 F2 H2 (e1.trans e2) (back hne r2).2 ?_
            obtain ⟨p, h1, h2, h3, h4⟩ := rp
            refine ⟨p, h1, h2, h3, fun j hj => h4 j ?_⟩
            obtain ⟨⟨t, u1, u2⟩, u3⟩ := hj
            by_cases hij : i = j
            · subst hij
              obtain ⟨hl, _⟩ := List.getElem?_eq_some_iff.mp u1
              rw [List.getElem?_set_self (by simpa using hl)] at u1
              cases u1
              rcases u2 with ⟨_, z⟩ | ⟨_, _, z⟩ <;> cases z
            · rw [List.getElem?_set_ne hij] at u1
              exact ⟨⟨t, u1, u2⟩, u3⟩
          · exact False.elim q
        | err e2 s2 => rw [ho] at q; exact False.elim q
        | bad => rw [ho] at q; exact False.elim q
      · rw [if_neg (by rw [hb]; exact Bool.false_ne_true)] at q
        exact q _ _ _ _ _ e1 rl1 er
    · exact False.elim q
theorem ss_try_o (c : Ctx X W kk) (hst : X.stack = X.env :: X.outer) (hfr : X.env.frame = some X.env.locals) (hc : X.calm = true) (T : ErrT X.K X.mg top ns fs) (hx : x ∈ ns) (hg : Gl X x) (hdb : (x == ("__debug__" : Str)) = false)
    (hb : ∀ (W' : WX') (pn : List (Addr × Obj)) (xe : Value → Shared → Prop), Ctx (X.tr pn xe) W' kk → SSs (X.tr pn xe) W' body mb)
    (hs : ∀ (a : Addr) (oe : Obj) (pn : List (Addr × Obj)), CtxH (X.suite a ((a, oe) :: pn)) WF kk → SSs (X.suite a ((a, oe) :: pn)) WF (b₀ :: suite) ms) :
    SS X W (.Try body [.ExceptHandler (some (.Name x np)) none (b₀ :: suite) pos'] [] [] pos) (mTryO top ns x mb ms) := by
  have h := L2N.ps_try_many (pos := pos) (tb := fun W' => tS X.K X.mx W' mb) (l := [((.ref (adIn X.K x) : Value), fun a cls d => fun D σ H => ∀ oe, Zc cls d oe → (∃ vs, oe.data = .fields vs) → tS X.K ⟨X.mg, some (a, oe)⟩ WF ms D σ H)])
    hst hfr c.tk
    (fun W' pn xe t p => by
      have z := hb W' pn xe (ctx_tr c t p)
      unfold SSs at z
      rw [tr_mx hc] at z
      exact z)
    (.cons (pos' := pos') (np := np) (b₀ := b₀) (suite := suite) ⟨hg, hdb, .inl (T.g x hx)⟩ (fun a oe cls d pn hz hf => pss_imp (hs a oe pn (ctx_suite c hz hf)) fun D σ H q => q oe hz.zc hf) .nil)
  refine ps_imp h fun Dn σ H q => ?_
  obtain ⟨g, F, sv, hK, rl, q⟩ := q
  refine ⟨g, F, sv, hK, rl, ?_⟩
  unfold mTryO at q
  cases hm : mb sv with
  | nx s => rw [hm] at q; exact q
  | rt d s => rw [hm] at q; exact q
  | ro d s => rw [hm] at q; exact q
  | bk s => rw [hm] at q; exact q
  | ct s => rw [hm] at q; exact q
  | bad => rw [hm] at q; exact q
  | err e s =>
    rw [hm] at q
    dsimp only at q
    intro cls dd σ1 F1 H1 e1 rl1 er
    split at q
    · rename_i he
      have ec := T.cls er he
      subst ec
      refine ⟨isSub top e.c x, T.exm e.c he x hx, fun hb a na oe hz hf => ?_, fun hb => ?_⟩
      · rw [if_pos hb] at q
        have hn : noEx s = true := rl1.noEx_of (by rw [hK.2]; exact mx_calm hc)
        refine ⟨{ g with mx := ⟨X.mg, some (a, oe)⟩ }, F1, _, ⟨hK.1, rfl⟩, rl1.mxTo hn ⟨X.mg, some (a, oe)⟩, ?_⟩
        have back : ∀ {σ2 : L2.St} {F2 H2 : Hp} {s2 : SV}, noEx s2 = true → Rl { g with mx := ⟨X.mg, some (a, oe)⟩ } F2 H2 σ2 s2 → Rl g F2 H2 σ2 s2 := fun {σ2 F2 H2 s2} hne r => r.mxTo hne g.mx
        cases ho : ms s with
        | nx s2 =>
          rw [ho] at q
          simp only [endO] at q
          split at q
          · rename_i hne
            exact fun σ2 F2 H2 e2 r2 => q _ F2 H2 (e1.trans e2) (back hne r2)
          · exact False.elim q
        | bk s2 =>
          rw [ho] at q
          simp only [endO] at q
          split at q
          · rename_i hne
            exact fun σ2 F2 H2 e2 r2 => q _ F2 H2 (e1.trans e2) (back hne r2)
          · exact False.elim q
        | ct s2 =>
          rw [ho] at q
          simp only [endO] at q
          split at q
          · rename_i hne
            exact fun σ2 F2 H2 e2 r2 => q _ F2 H2 (e1.trans e2) (back hne r2)
          · exact False.elim q
        | rt d s2 =>
          rw [ho] at q
          simp only [endO] at q
          split at q
          · rename_i hne
            exact fun v σ2 F2 H2 e2 r2 rp => q v _ F2 H2 (e1.trans e2) (back hne r2) rp
          · exact False.elim q
        | ro d s2 =>
          rw [ho] at q
          simp only [endO] at q
          split at q
          · rename_i hne
            exact fun v σ2 F2 H2 e2 r2 rp => q v _ F2 H2 (e1.trans e2) (back hne r2) rp
          · exact False.elim q
        | err e2 s2 => rw [ho] at q; exact False.elim q
        | bad => rw [ho] at q; exact False.elim q
      · rw [if_neg (by rw [hb]; exact Bool.false_ne_true)] at q
        exact q _ _ _ _ _ e1 rl1 er
    · exact False.elim q
end
end VM

set_option Elab.async false
set_option linter.all false
set_option autoImplicit false
set_option maxRecDepth 100000
set_option maxHeartbeats 1000000
namespace VM
open PySem PySem.Spec PyProof.Rows L2
open PySem.W (Frag nsIn findIn subIn typeIn keepIn clsIn specialIn takesIn mroIn kitOne kitAny exmOne hasDictIn)

/-! ### the exception's fields, its class -/
def mExF (ns : List Str) (i : Nat) (f : Str) : M D := fun sv => match sv[i]? with
  | some (.ex x) => if x.c ∈ ns then (match x.fs.lookup f with
    | some d => .ok d sv
    | none => .bad) else .bad
  | _ => .bad
def mExIs (ns : List Str) (i : Nat) (t : Str → Bool) : M D := fun sv => match sv[i]? with
  | some (.ex x) => if x.c ∈ ns then .ok (.bl (t x.c)) sv else .bad
  | _ => .bad
theorem zip_lookup {K : Frag} {F : Hp} {f : Str} : ∀ {fs : List (Str × D)} {vs : List V} {d : D}, RpL K F (fs.map (·.2)) vs → fs.lookup f = some d → ∃ v, ((fs.map (·.1)).zip vs).lookup f = some v ∧ Rp K F d v
  | [], _, _, _, e => by cases e
  | (g, e0) :: fs, vs, d, h, e => by
    obtain ⟨v, r, rfl, h1, h2⟩ := h
    simp only [List.map_cons, List.zip_cons_cons, List.lookup_cons] at e ⊢
    cases hg : f == g with
    | true =>
      rw [hg] at e
      cases e
      exact ⟨v, rfl, h1⟩
    | false =>
      rw [hg] at e
      exact zip_lookup h2 e
def tNm (K : Frag) (cs : List Str) : TA := fun σ H Q => Q (cs.map fun c => V.ref (adIn K c)) H
/-- the exception's own class and its dict -/
structure HasD (K : Frag) (H : Hp) (oe : Obj) (D : Addr) : Prop where
  cls : oe.cls = .ref D
  fl : ∃ vs, oe.data = .fields vs
  xf : XfC K D
  ix : IsxC K D
  dd : oe.dict = none ∨ ∃ dd fs, oe.dict = some dd ∧ H dd = some (.xd fs)
def rIsX (K : Frag) (a : Addr) (oe : Obj) : List V → Hp → VK → Prop := fun xs H Q => ∃ (c : V) (cv : Value) (b : Bool) (D : Addr), xs = [.ref a, c] ∧ (∀ u, RelV c u → u = cv) ∧ HasD K H oe D ∧ kitOne K (.ref D) cv = some b ∧ Q (.bl b) H
def rIsXT (K : Frag) (a : Addr) (oe : Obj) : List V → Hp → VK → Prop := fun xs H Q => ∃ (tp : Addr) (cs : List V) (us : List Value) (b : Bool) (D : Addr), xs = [.ref a, .ref tp] ∧ H tp = some (.tup cs) ∧ Paired ClsV cs us ∧ HasD K H oe D ∧ kitAny K (.ref D) us = some b ∧ Q (.bl b) H
section
variable {X : Cx} {a : Addr} {oe : Obj} {pn : List (Addr × Obj)}
theorem inst_of {pins : List (Addr × Obj)} {σ : L2.St} {H : Hp} {s : Shared} {D : Addr} (I : Inv (X.suite a ((a, oe) :: pn)) pins σ H s) (h : HasD X.K H oe D) : ∃ od, PySem.W.InstAt s.heap a oe D od := by
  obtain ⟨hget, _⟩ := I.pin (a, oe) (List.mem_append_left _ List.mem_cons_self)
  obtain ⟨oc, od, oda, osl⟩ := oe
  obtain ⟨h1, ⟨vs, h2⟩, _, _, h5⟩ := h
  dsimp only at h1 h2 h5
  subst h1 h2
  rcases h5 with rfl | ⟨dd, fs, rfl, h6⟩
  · exact ⟨none, hget, rfl, rfl, trivial⟩
  · obtain ⟨mA, hns, hr⟩ := (show ObjOk X.prog X.w H s.heap dd (.xd fs) from I.hok dd _ h6)
    obtain ⟨od, ho, hl⟩ := lookIn_ns hns
    exact ⟨some od, hget, rfl, rfl, ho⟩
theorem call_isX : CallR (X.suite a ((a, oe) :: pn)) (.builtin "isinstance") (rIsX X.K a oe) := by
  intro pins s σ H xs us Q I r h
  obtain ⟨c, cv, b, D, rfl, hcv, hd, e, q⟩ := h
  obtain ⟨u1, u2, rfl, r1, r2⟩ := vals2 r
  have e2 := hcv _ r2
  subst e2
  cases (show u1 = Value.ref a from r1)
  obtain ⟨od, J⟩ := inst_of I hd
  exact PySem.W.kia_one (PySem.W.kitx_exc hd.ix.cl hd.xf.ga hd.xf.gg hd.xf.exC hd.ix.ha hd.ix.hn hd.ix.ht hd.ix.hm) I.kIn J e (fun z => nomatch z) fun tk => ⟨.bl b, H, I.tok tk, rfl, q⟩
theorem call_isXT : CallR (X.suite a ((a, oe) :: pn)) (.builtin "isinstance") (rIsXT X.K a oe) := by
  intro pins s σ H xs us Q I r h
  obtain ⟨tp, cs, ws, b, D, rfl, hT, k, hd, e, q⟩ := h
  obtain ⟨u1, u2, rfl, r1, r2⟩ := vals2 r
  cases (show u2 = Value.ref tp from r2)
  cases (show u1 = Value.ref a from r1)
  obtain ⟨od, J⟩ := inst_of I hd
  obtain ⟨_, its, rv, o, h1, h2, n, h3⟩ := (show ObjOk X.prog X.w H s.heap tp (.tup cs) from I.hok tp _ hT)
  have e3 := ClsV.all k rv
  subst e3
  obtain ⟨c0, c1, c2, c3⟩ := o
  simp only at h2 h3
  subst h2 h3
  exact PySem.W.kia_tup (PySem.W.kitx_exc hd.ix.cl hd.xf.ga hd.xf.gg hd.xf.exC hd.ix.ha hd.ix.hn hd.ix.ht hd.ix.hm) I.kIn J h1 e (fun z => nomatch z) fun tk => ⟨.bl b, H, I.tok tk, rfl, q⟩
end
section
variable {X : Cx} {W : WX'} {a : Addr} {oe : Obj} {pn : List (Addr × Obj)} {top : Str} {ns fs : List Str} {i : Nat} {n f y : Str} {p p2 p3 pos : Pos} {es : List Expr} {cs : List Str}
/-- what slot i tells -/
theorem ex_at (T : ErrT X.K X.mg top ns fs) {g : G} {F H : Hp} {σ : L2.St} {sv : SV} (hK : g.K = X.K ∧ g.mx = (X.suite a ((a, oe) :: pn)).mx) (rl : Rl g F H σ sv) {x : Exn} (h : sv[i]? = some (.ex x)) (hx : x.c ∈ ns) :
    σ[i]? = some (some (.ref a)) ∧ HasD X.K H oe (adIn X.K x.c) ∧ ∃ cls d, Zc cls d oe ∧ (∃ vs, oe.data = .fields vs) ∧ ErrOk X.K X.mg F x cls d := by
  obtain ⟨a', oe', d, cls, e1, e2, e3, e4, e5⟩ := rl.sl i _ h
  rw [hK.2] at e2 e5
  rw [hK.1] at e5
  have e2' : some (a, oe) = some (a', oe') := e2
  cases e2'
  have ec := T.cls e5 hx
  subst ec
  refine ⟨e1, ⟨e3.1, e4, T.x _ hx, T.i _ hx, ?_⟩, _, d, e3, e4, e5⟩
  obtain ⟨C, _, _, h3⟩ := e5
  rcases h3 with ⟨_, h3⟩ | ⟨dd, vs, h4, h5, _⟩
  · exact .inl (e3.2.trans h3)
  · exact .inr ⟨dd, _, e3.2.trans h4, rl.sub _ _ h5⟩
theorem se_exF (T : ErrT X.K X.mg top ns fs) (hf : f ∈ fs) (hv : PE (X.suite a ((a, oe) :: pn)) (.Name n p) (tVar i)) (hb : attributeBase (.Name n p) f X.env (eval (.Name n p) X.env) = eval (.Name n p) X.env := by rfl) :
    SE (X.suite a ((a, oe) :: pn)) W (.Attribute (.Name n p) f pos) (mExF ns i f) := by
  refine ⟨fun pins s σ H Q I q => ?_⟩
  obtain ⟨g, F, sv, hK, rl, q⟩ := q
  unfold mExF at q
  split at q
  · rename_i x hx
    split at q
    · rename_i hc
      split at q
      · rename_i d hd
        obtain ⟨e1, hD, cls, dd, hz, hfl, er⟩ := ex_at T hK rl hx hc
        have ec := T.cls er hc
        subst ec
        refine (pe_xf (T.x _ hc) (T.nf _ hc f hf) hz hfl hv hb).run pins s σ H Q I ?_
        obtain ⟨C, _, _, h3⟩ := er
        rcases h3 with ⟨h3, _⟩ | ⟨da, vs, h4, h5, h6⟩
        · rw [h3] at hd
          cases hd
        · obtain ⟨v, l, rv⟩ := zip_lookup h6 hd
          refine ⟨.ref a, e1, rfl, rfl, da, _, v, h4, rl.sub _ _ h5, l, q v F H (Same.refl F) rl ?_⟩
          show Rp g.K F d v
          rw [hK.1]
          exact rv
      · exact False.elim q
    · exact False.elim q
  · exact False.elim q
theorem kitAny_sub {K : Frag} {mg : Str → Option Value} (T : ErrT K mg top ns fs) {c : Str} (hc : c ∈ ns) : ∀ {cs : List Str}, (∀ d ∈ cs, d ∈ ns) → kitAny K (.ref (adIn K c)) (cs.map fun d => .ref (adIn K d)) = some (cs.any (isSub top c))
  | [], _ => rfl
  | d :: cs, h => by
    have h1 := T.sub c hc d (h d List.mem_cons_self)
    have h2 := kitAny_sub T hc (cs := cs) fun x hx => h x (List.mem_cons_of_mem _ hx)
    simp only [List.map_cons, List.any_cons]
    unfold PySem.W.kitAny
    rw [h1]
    cases isSub top c d with
    | true => rfl
    | false => exact h2
theorem nl_nil : PA X [] (tNm X.K []) := ⟨fun p pins s σ H Q I q => pa_nil.run p pins s σ H Q I q⟩
theorem nl_cons (T : ErrT X.K X.mg top ns fs) (hc : y ∈ ns) (hg : Gl X y) (hd : (y == ("__debug__" : Str)) = false) (hr : PA X es (tNm X.K cs)) (hs : starEach (.Name y p :: es) X.env = (false, eval (.Name y p) X.env) :: starEach es X.env := by rfl) : PA X (.Name y p :: es) (tNm X.K (y :: cs)) :=
  ⟨fun pp pins s σ H Q I q => (pa_cons (pe_glob (v := .ref (adIn X.K y)) hg (T.g y hc) rfl hd) hr hs).run pp pins s σ H Q I q⟩
theorem se_isX (T : ErrT X.K X.mg top ns fs) (hy : y ∈ ns) (hg : Gl X "isinstance") (hm : X.mg "isinstance" = none) (hgy : Gl X y) (hdy : (y == ("__debug__" : Str)) = false) (hv : PE (X.suite a ((a, oe) :: pn)) (.Name n p2) (tVar i))
    (h1 : starEach [.Name n p2, .Name y p3] X.env = (false, eval (.Name n p2) X.env) :: starEach [.Name y p3] X.env := by rfl) (h2 : (backTo pos (starEach [.Name y p3] X.env)).any (·.1) = false := by rfl) :
    SE (X.suite a ((a, oe) :: pn)) W (.Call (.Name "isinstance" p) [.Name n p2, .Name y p3] [] pos) (mExIs ns i fun c => isSub top c y) :=
  pe_imp (pe_callB call_isX hg hm boot_isinstance' (pa_cons hv (pa_cons (pe_glob (v := .ref (adIn X.K y)) hgy (T.g y hy) rfl hdy) pa_nil) h1) (by decide) (by decide) h1 h2) fun σ H Q q => by
    obtain ⟨g, F, sv, hK, rl, q⟩ := q
    unfold mExIs at q
    split at q
    · rename_i x hx
      split at q
      · rename_i hc
        obtain ⟨e1, hD, _⟩ := ex_at T hK rl hx hc
        exact ⟨.ref a, e1, _, .ref (adIn X.K y), isSub top x.c y, _, rfl, fun u r => r, hD, T.sub _ hc y hy, q _ F H (Same.refl F) rl rfl⟩
      · exact False.elim q
    · exact False.elim q
theorem se_isXV (T : ErrT X.K X.mg top ns fs) (hg : Gl X "isinstance") (hm : X.mg "isinstance" = none) (hgy : Gl X "ValueError") (hmy : X.mg "ValueError" = none) (hv : PE (X.suite a ((a, oe) :: pn)) (.Name n p2) (tVar i))
    (h1 : starEach [.Name n p2, .Name "ValueError" p3] X.env = (false, eval (.Name n p2) X.env) :: starEach [.Name "ValueError" p3] X.env := by rfl) (h2 : (backTo pos (starEach [.Name "ValueError" p3] X.env)).any (·.1) = false := by rfl) :
    SE (X.suite a ((a, oe) :: pn)) W (.Call (.Name "isinstance" p) [.Name n p2, .Name "ValueError" p3] [] pos) (mExIs ns i fun _ => true) :=
  pe_imp (pe_callB call_isX hg hm boot_isinstance' (pa_cons hv (pa_cons (pe_bltn (v := .ty "ValueError") hgy hmy PyProof.Rows.Boot.«ValueError» rfl (by decide) (by decide)) pa_nil) h1) (by decide) (by decide) h1 h2) fun σ H Q q => by
    obtain ⟨g, F, sv, hK, rl, q⟩ := q
    unfold mExIs at q
    split at q
    · rename_i x hx
      split at q
      · rename_i hc
        obtain ⟨e1, hD, _⟩ := ex_at T hK rl hx hc
        exact ⟨.ref a, e1, _, .type "ValueError", true, _, rfl, fun u r => r, hD, T.ve _ hc, q _ F H (Same.refl F) rl rfl⟩
      · exact False.elim q
    · exact False.elim q
theorem paired_names {K : Frag} : ∀ cs : List Str, Paired ClsV (cs.map fun c => V.ref (adIn K c)) (cs.map fun c => Value.ref (adIn K c))
  | [] => .nil
  | c :: cs => .cons (.own _) (paired_names cs)
theorem se_isXT {x1} (T : ErrT X.K X.mg top ns fs) (hcs : ∀ d ∈ cs, d ∈ ns) (hl : cs.length ≤ sizeLine) (hg : Gl X "isinstance") (hm : X.mg "isinstance" = none) (hn : PA (X.suite a ((a, oe) :: pn)) es (tNm X.K cs)) (hv : PE (X.suite a ((a, oe) :: pn)) (.Name n p2) (tVar i))
    (h1 : starEach [.Name n p2, .Tuple es x1 p3] X.env = (false, eval (.Name n p2) X.env) :: starEach [.Tuple es x1 p3] X.env := by rfl) (h2 : (backTo pos (starEach [.Tuple es x1 p3] X.env)).any (·.1) = false := by rfl) :
    SE (X.suite a ((a, oe) :: pn)) W (.Call (.Name "isinstance" p) [.Name n p2, .Tuple es x1 p3] [] pos) (mExIs ns i fun c => cs.any (isSub top c)) :=
  pe_imp (pe_callB call_isXT hg hm boot_isinstance' (pa_cons hv (pa_cons (pe_tup hn) pa_nil) h1) (by decide) (by decide) h1 h2) fun σ H Q q => by
    obtain ⟨g, F, sv, hK, rl, q⟩ := q
    unfold mExIs at q
    split at q
    · rename_i x hx
      split at q
      · rename_i hc
        obtain ⟨e1, hD, _⟩ := ex_at T hK rl hx hc
        refine ⟨.ref a, e1, by simpa using hl, fun tp htp => ?_⟩
        have sH : Same H (upd H tp (.tup (cs.map fun c => V.ref (adIn X.K c)))) := same_upd htp
        refine ⟨tp, _, _, _, _, rfl, upd_same, paired_names cs, ⟨hD.cls, hD.fl, hD.xf, hD.ix, ?_⟩, kitAny_sub T hc hcs, ?_⟩
        · rcases hD.dd with h | ⟨dd, gs, h3, h4⟩
          · exact .inl h
          · exact .inr ⟨dd, gs, h3, sH _ _ h4⟩
        · exact q _ _ _ (same_upd (rl.sub.free htp)) (rl.lay htp) rfl
      · exact False.elim q
    · exact False.elim q
end
end VM

set_option Elab.async false
set_option linter.all false
set_option autoImplicit false
set_option maxRecDepth 100000
set_option maxHeartbeats 1000000
namespace VM
open PySem PySem.Spec PyProof.Rows L2
open L2H (RoomH Hot1 PinOk HotC cxH inv_startH)

/-! ### defs that are called where an exception is handled -/
structure FnGH (P : Program) (w : World) (K : PySem.W.Frag) (mg : Str → Option Value) (base : Heap) (k : Nat) (f : Addr) (fd : FuncData) (ps : List Str) (sp : Sp) : Prop where
  len : ∀ vs H Q E, sp vs H Q E → vs.length = ps.length
  run : ∀ (A : Around) (outer : List Env) (s : Shared) (H : Hp) (args : Args) (us : List Value) (vs : List V) (Q : VK) (E : XK) (p : Addr × Obj), A.guards = some [] → RoomH k A → Hot1 A p → PinOk outer H s p → Env0 P w K mg base A outer s H → BindsTo s fd args (ps.zip us) → Vals vs us → sp vs H Q E →
    codeAny (model P w) A (.call (.ref f) args) (CR (L2N.CX P w) outer P w H s Q E) s
section
variable {P : Program} {w : World} {K : PySem.W.Frag} {mg : Str → Option Value} {base : Heap}
/-- the rule for such a def (none of its arguments is changed) -/
theorem fn_okH {x qual : Str} {st : Stmt} {f : Addr} {fd : FuncData} {N ps : List Str} {k n : Nat} {ro : Bool} {body : MS} (F : Fun K x qual st f fd) (S : FnScope N ps (defScope st)) (hn : n = ps.length) (hN : ps.length ≤ N.length)
    (hb : ∀ (cdv : Value) (A : Around) (outer : List Env) (s : Shared) (H : Hp) (E : XK) (p : Addr × Obj), CtxH (cxH (L2N.CX P w) P w K mg base N qual (defScope st) f cdv A outer s H E p) (WE0 E) k →
      SSs (cxH (L2N.CX P w) P w K mg base N qual (defScope st) f cdv A outer s H E p) (WE0 E) (defBody st) body) :
    FnGH P w K mg base (k + 1) f fd ps (spV K mg n none ro (fnOf N.length none ro body)) := by
  obtain ⟨oc, od, kV, doc, pm, an, cdv, ct, osl, rfl, lk, hcd⟩ := F.ex
  subst hn
  refine ⟨fun vs H Q E h => h.1, fun A outer s H args us vs Q E p hg hr hot hpin e0 hbd r hsp => ?_⟩
  have hl : vs.length = ps.length := hsp.1
  have KX : K.In s.heap := e0.mod.kin.keeps fun b o e => (e0.bs b o e).1
  have lim : s.heap.NoLimit := e0.mod.nolimit.keeps fun b o e => (e0.bs b o e).1
  have kinds : ∀ y ∈ ps.zip us, (defScope st).names.lookup y.1 = some .local ∨ ((defScope st).names.lookup y.1 = some .cell ∧ ((cellsFrom (s.heap.objs.size + 1) (defScope st).names []).lookup y.1).isSome = true) := fun y hy => by
    rcases S.par y.1 (List.of_mem_zip hy).1 with q | q
    · exact .inl q
    · exact .inr ⟨q, PySem.W.cellsFrom_some _ _ _ (.inl q)⟩
  refine codeAny_call_function hr.depth (KX _ _ lk) rfl S.co S.gen rfl (PySem.W.codeRec_of KX hcd) (hbd _ _ _ _ ?_)
  refine wpAny_newFunctionEnv_cells S.kind kinds fun env he s1 x => ?_
  subst he
  refine ⟨lim.keeps x.toInCall.keep, codeAny_func ?_⟩
  have cx : CtxH (cxH (L2N.CX P w) P w K mg base N qual (defScope st) f cdv A outer s H E p) (WE0 E) k := ⟨L2N.takes_of rfl rfl rfl rfl, hr.deeper _, hg, passes_of rfl, ⟨p, ⟨hot.1, hot.2⟩, List.mem_cons_self⟩⟩
  have ht := hb cdv A outer s H E p cx
  have I : Inv (cxH (L2N.CX P w) P w K mg base N qual (defScope st) f cdv A outer s H E p) [] (start N vs) H s1 := inv_startH S hpin e0 hl r x
  have hq : tS K ⟨mg, some p⟩ (WE0 E) body { nx := fun _ H' => Q .non H', rt := Q } (start N vs) H := by
    obtain ⟨_, F, ds, sub, rv, q⟩ := hsp
    have hv : vs.length ≤ N.length := by omega
    refine ⟨_, F, _, (by exact ⟨rfl, rfl⟩), rl_init (mx := ⟨mg, some p⟩) (N := N) (io := none) (ip := none) sub hv rv.length (fun i d v e1 e2 => ?_) (fun p hp => nomatch hp), fin_post rfl (fun p hp => nomatch hp) q⟩
    rw [if_neg (by exact fun z => nomatch z)]
    obtain ⟨v', e3, h3⟩ := rv.get i d e1
    rw [e2] at e3; cases e3
    exact h3
  refine wpAny_mono (ht.run [] s1 (start N vs) H _ I hq) (fun fl s' hs => ?_) fun e s' hs => hs
  have fin : ∀ {σ' : L2.St} {H' : Hp} {v : V} {u : Value}, Inv (cxH (L2N.CX P w) P w K mg base N qual (defScope st) f cdv A outer s H E p) [] σ' H' s' → RelV v u → Q v H' → CE outer P w H s Q u s' :=
    fun {σ' H' v u} J rv q => ⟨v, H', J.os, J.bare, J.base, J.hok, rv, q⟩
  cases fl with
  | ret u => obtain ⟨v, σ', H', J, rv, q⟩ := hs; exact fin J rv q
  | next => obtain ⟨σ', H', J, q⟩ := hs; exact fin (v := V.non) (u := Value.none) J rfl q
  | brk => obtain ⟨_, _, _, q⟩ := hs; exact False.elim q
  | cont => obtain ⟨_, _, _, q⟩ := hs; exact False.elim q
end
section
variable {X : Cx} {W : WX'} {e : Expr} {es : List Expr} {ms : M (List D)} {x : Str} {p pos : Pos} {k n kk : Nat} {f : Addr} {fd : FuncData} {ps : List Str} {fn : Fn} {dd : List D} {dvs : List V} {ds : List Value}
theorem pe_callH {sp : Sp} {E : L2.St → XK} {t : TA} (F : FnGH X.prog X.w X.K X.mg X.base k f fd ps sp) (hgd : X.A.guards = some []) (hr : RoomH k X.A) (hot : HotC X) (hg : Gl X x) (hm : X.mg x = some (.ref f)) (hk : PySem.W.keepIn X.K (.ref f) = true) (hb : Binds X.K fd ps ds) (hd : Vals dvs ds) (hx : ∀ σ, PassesAt (L2N.CX X.prog X.w) X σ (E σ))
    (ha : PA X (e :: es) t) (hdb : (x == ("__debug__" : Str)) = false := by decide) (he : starEach (e :: es) X.env = (false, eval e X.env) :: starEach es X.env := by rfl) (hpl : (backTo pos (starEach es X.env)).any (·.1) = false := by rfl) :
    PE X (.Call (.Name x p) (e :: es) [] pos) (tCallSD sp dvs E t) := by
  constructor
  intro pins s σ H Q I h
  obtain ⟨pn, ht, hp⟩ := hot
  refine wpAny_Call_Name_kw (ld_glob I hg hm (PySem.W.callWith_K (h₀ := X.base) I.ok.mod.kin hk (thn (ha.run pos pins s σ H _ I h) fun us s1 ⟨vs, H1, I1, r, q⟩ => ⟨I1.kIn, ?_⟩) he hpl) hdb)
  have r2 : Vals (vs ++ dvs) (us ++ ds) := r.append hd
  have hl : (us ++ ds).length = ps.length := r2.length.symm.trans (F.len _ _ _ _ q)
  have P1 := I1.pin pn (List.mem_append_left _ hp)
  have hpin : PinOk X.stack H1 s1 pn := ⟨P1.1, P1.2.1, fun hm => (List.mem_cons.mp (I1.stkSub pn.1 hm)).elim P1.2.2.1 P1.2.2.2.1, P1.2.2.2.2⟩
  refine wpAny_call (codeAny_mono (F.run X.A X.stack s1 H1 ⟨us, []⟩ (us ++ ds) (vs ++ dvs) Q (E σ) pn hgd hr ht hpin I1.env0 (hb s1 us I1.kIn hl) r2 q) fun o s' hq => ?_)
  cases o with
  | error er => exact hx σ pins H1 s1 er s' I1 hq
  | ok fl =>
    cases fl with
    | ret u => exact I1.after hq
    | next => exact False.elim hq
    | brk => exact False.elim hq
    | cont => exact False.elim hq
theorem se_callH (c : CtxH X W kk) (hkk : k ≤ kk) (Fg : FnGH X.prog X.w X.K X.mg X.base k f fd ps (spV X.K X.mg n none false fn)) (hg : Gl X x) (hm : X.mg x = some (.ref f)) (hk : PySem.W.keepIn X.K (.ref f) = true) (hb : Binds X.K fd ps ds) (hd : Vals dvs ds) (hdd : DefOk X.K dd dvs)
    (ha : SA X W (e :: es) ms) (hdb : (x == ("__debug__" : Str)) = false := by decide) (he : starEach (e :: es) X.env = (false, eval e X.env) :: starEach es X.env := by rfl) (hpl : (backTo pos (starEach es X.env)).any (·.1) = false := by rfl) :
    SE X W (.Call (.Name x p) (e :: es) [] pos) (mCall n fn dd ms) := pe_imp (pe_callH Fg c.hg (c.hr.mono hkk) c.hot hg hm hk hb hd (fun σ => L2N.passAt c.tk σ) ha hdb he hpl) fun σ H Q q => by
  obtain ⟨g, F, sv, hK, rl, q⟩ := q
  refine ⟨g, F, sv, hK, rl, PostG.bind q fun as s vs F1 H1 e1 rl1 rp1 q1 => ?_⟩
  split at q1
  · rename_i hz
    have rp : RpL g.K F1 (as ++ dd) (vs ++ dvs) := RpL.append rp1 (by rw [hK.1]; exact hdd F1)
    rw [← hK.1]
    exact post_call (fun F' H' d v _ hr => by show Rp g.K F' d v; simpa using hr) (rp.length.symm.trans hz) rl1 rp q1
  · exact False.elim q1
end
end VM

set_option Elab.async false
set_option linter.all false
set_option autoImplicit false
set_option maxRecDepth 100000
set_option maxHeartbeats 1000000
namespace VM
open PySem PySem.Spec PyProof.Rows L2

/-! ### keywords in another order -/
def kjp {α : Type} (n : Nat) (pm : List Nat) (us ws : List α) : List α := if us.length = n ∧ ws.length = pm.length then us ++ pm.filterMap (fun i => ws[i]?) else []
theorem RpL.pick {K : PySem.W.Frag} {F : Hp} {ds : List D} {vs : List V} (h : RpL K F ds vs) : ∀ pm : List Nat, RpL K F (pm.filterMap fun i => ds[i]?) (pm.filterMap fun i => vs[i]?)
  | [] => rfl
  | i :: pm => by
    have ih := RpL.pick h pm
    simp only [List.filterMap_cons]
    cases e : ds[i]? with
    | none =>
      have e2 : vs[i]? = none := by rw [List.getElem?_eq_none_iff] at e ⊢; rw [← h.length]; exact e
      rw [e2]
      exact ih
    | some d =>
      obtain ⟨v, e2, hv⟩ := h.get i d e
      rw [e2]
      exact ⟨v, _, rfl, hv, ih⟩
theorem kjp_ord (n : Nat) (pm : List Nat) : KOrd (kjp n pm) (kjp n pm) := ⟨fun {K F as bs vs us} h1 h2 => by
  unfold kjp
  rw [h1.length, h2.length]
  split
  · exact h1.append (RpL.pick h2 pm)
  · rfl⟩
theorem Vals.pick {vs : List V} {us : List Value} (h : Vals vs us) : ∀ pm : List Nat, Vals (pm.filterMap fun i => vs[i]?) (pm.filterMap fun i => us[i]?)
  | [] => .nil
  | i :: pm => by
    have ih := Vals.pick h pm
    simp only [List.filterMap_cons]
    cases e : vs[i]? with
    | none =>
      have e2 : us[i]? = none := by rw [List.getElem?_eq_none_iff] at e ⊢; rw [← h.length]; exact e
      rw [e2]
      exact ih
    | some d =>
      obtain ⟨v, e2, hv⟩ := h.get e
      rw [e2]
      exact .cons hv ih
theorem kjp_binds {K : PySem.W.Frag} {x qual : Str} {st : Stmt} {f : Addr} {fd : FuncData} {ps ks : List Str} {n : Nat} {pm : List Nat} (hp : 0 < ps.length) (F : Fun K x qual st f fd)
    (h : ∀ (kV doc pm' : Value) (an : Option Addr) (cdv ct : Value) (us ws : List Value), us.length = n → ws.length = pm.length → bindArgs (PySem.W.fnOf x qual (defArgs st) (defBody st) (defScope st) .none kV doc pm' an cdv ct) ⟨us, ks.zip ws⟩ = pure (ps.zip (us ++ pm.filterMap fun i => ws[i]?))) : KBinds K fd ps ks (kjp n pm) (kjp n pm) := by
  obtain ⟨oc, od, kV, doc, pm', an, cdv, ct, osl, rfl, lk, hcd⟩ := F.ex
  constructor
  · intro s us ws _ hl
    unfold kjp at hl ⊢
    split at hl
    · rename_i hz
      rw [if_pos hz]
      exact .of_eq (h kV doc pm' an cdv ct us ws hz.1 hz.2)
    · have : ps.length = 0 := hl.symm
      omega
  · intro vs us zs ws h1 h2
    unfold kjp
    rw [h1.length, h2.length]
    split
    · exact Vals.append h1 (Vals.pick h2 pm)
    · exact .nil

/-! ### xs.extend(ys), s.count(t) -/
section
variable {X : Cx} {W : WX'} {e a : Expr} {pos apos p1 cpos : Pos} {m ma mb : M D}
def mExt (i : Nat) (m : M D) : MS := fun sv => match ownL sv i with
  | none => .bad
  | some _ => mBind m (fun d s => match ownL s i, d with
    | some (_, xs), .lst ys => if xs.length + ys.length ≤ sizeLine then putL s i (xs ++ ys) else .bad
    | _, _ => .bad) sv
theorem ss_ext {i : Nat} {x : Str} (h : ∀ te, PE X e te → PE X (.Call (.Attribute (.Name x p1) "extend" apos) [e] [] cpos) (tBM X.K "list" rExtend (tVar i) (tCons te tNil))) (he : SE X W e m)
    (hs : swapsWith (.Call (.Attribute (.Name x p1) "extend" apos) [e] [] cpos) none pos.line X.env = pure false := by rfl) : SS X W (.Expr (.Call (.Attribute (.Name x p1) "extend" apos) [e] [] cpos) pos) (mExt i m) :=
  ps_imp (ps_expr (h _ he) hs) fun Dn σ H q => by
    obtain ⟨g, F, sv, hK, rl, q⟩ := q
    unfold mExt at q
    split at q
    · exact False.elim q
    · rename_i z h0
      obtain ⟨s0, xs0⟩ := z
      obtain ⟨p, vs, e1, nF, e2, e3⟩ := rl.lst h0
      refine ⟨.ref p, e1, .inl ⟨rfl, vs, .inl (.inl e2)⟩, g, F, sv, hK, rl, PostS.bind (H := H) q fun d s v F1 H1 f1 rl1 rp1 h1 => ?_⟩
      split at h1
      · rename_i s1 xs1 ys h2
        split at h1
        · rename_i hz
          obtain ⟨p', vs', e1', nF', e2', e3'⟩ := rl1.lst h2
          rw [e1] at e1'; cases e1'
          obtain ⟨b, us, rfl, r1, r2⟩ := rp1
          exact ⟨p, b, vs', us, rfl, rfl, e2', rl1.sub _ _ r1, by rw [← e3'.length, ← r2.length]; exact hz, putL_post rl1 h2 e1 nF' (e3'.append r2) h1⟩
        · exact False.elim h1
      · exact False.elim h1
/-- a text's method with a text -/
def mS2 (f : Str → Str → Option D) (ma mb : M D) : M D := fun sv => (ma sv).bind fun d s1 => match d with
  | .str z => (mb s1).bind fun d2 s2 => (match d2 with
    | .str y => (match f z y with
      | some r => .ok r s2
      | none => .bad)
    | _ => .bad)
  | _ => .bad
theorem se_count (h : PE X (.Call (.Attribute a "count" apos) [e] [] pos) (tM1 (fun x xs H Q => ∃ a b, x = .str a ∧ xs = [.str b] ∧ Q (.int (Txt.count a b)) H) (tE X.K X.mx W ma) (tE X.K X.mx W mb))) : SE X W (.Call (.Attribute a "count" apos) [e] [] pos) (mS2 (fun x y => some (.int (Txt.count x y))) ma mb) := pe_imp h fun σ H Q q => by
  obtain ⟨g, F, sv, hK, rl, q⟩ := q
  refine ⟨g, F, sv, hK, rl, PostG.bind q fun d s1 v F1 H1 e1 rl1 rp1 h1 => ?_⟩
  cases d with
  | str z =>
    cases (show v = V.str z from rp1)
    refine ⟨⟨_, rfl⟩, g, F1, s1, hK, rl1, PostG.bind h1 fun d2 s2 v2 F2 H2 e2 rl2 rp2 h2 => ?_⟩
    cases d2 with
    | str y =>
      cases (show v2 = V.str y from rp2)
      exact ⟨z, y, rfl, rfl, h2 _ F2 H2 (Same.refl F2) rl2 rfl⟩
    | _ => exact False.elim h2
  | _ => exact False.elim h1
end

/-! ### a tuple of texts of the module's own top -/
def KTup (K : PySem.W.Frag) (a : Addr) (ss : List Str) : Prop := ∃ (o : Obj) (its : Array Value) (n : Nat), K.lookup a = some o ∧ o.cls = .type "tuple" ∧ o.data = .seq its n ∧ its.size ≤ sizeLine ∧ Vals (ss.map V.str) its.toList
theorem se_globT {X : Cx} {W : WX'} {x : Str} {a : Addr} {ss : List Str} {pos : Pos} (hg : Gl X x) (hm : X.mg x = some (.ref a)) (hk : KTup X.K a ss) (hd : (x == ("__debug__" : Str)) = false := by decide) : SE X W (.Name x pos) (mC (.tup (ss.map .str))) :=
  se_const (pe_glob (v := .ref a) hg hm rfl hd) fun F => ⟨a, ss.map V.str, rfl, .inr hk, strs_rel ss⟩

/-! ### list(range(n)) -/
def mListRg (m : M D) : M D := fun sv => (m sv).bind fun d s => match d with
  | .int n => if 0 ≤ n ∧ n ≤ 16777216 then .ok (.lst (rngs 0 n.toNat)) s else .bad
  | _ => .bad
theorem rg_rel {K : PySem.W.Frag} {F : Hp} {n : Int} (h : 0 ≤ n) : RpL K F (rngs 0 n.toNat) (rgV 0 n) := by
  have e : rgV 0 n = (List.range n.toNat).map fun (i : Nat) => V.int (0 + (i : Int)) := by
    unfold rgV
    rw [Int.sub_zero]
  rw [e]
  unfold rngs
  generalize List.range n.toNat = l
  induction l with
  | nil => rfl
  | cons a l ih => exact ⟨_, _, rfl, rfl, ih⟩
theorem so_listRg {X : Cx} {W : WX'} {a : Expr} {m : M D} {p p2 pos pos2 : Pos} (hc : X.calm = true) (hg : Gl X "list") (hm : X.mg "list" = none) (hg2 : Gl X "range") (hm2 : X.mg "range" = none) (ha : SE X W a m)
    (n1 : starEach [a] X.env = (false, eval a X.env) :: starEach [] X.env := by rfl) (n2 : starEach [.Call (.Name "range" p2) [a] [] pos2] X.env = (false, eval (.Call (.Name "range" p2) [a] [] pos2) X.env) :: starEach [] X.env := by rfl) :
    SO X W (.Call (.Name "list" p) [.Call (.Name "range" p2) [a] [] pos2] [] pos) (mListRg m) := pe_imp (pe_listRg hc hg hm (prg_1 hg2 hm2 ha n1) n2) fun σ H Q q => by
  obtain ⟨g, F, sv, hK, rl, q⟩ := q
  refine ⟨g, F, sv, hK, rl, PostG.bind q fun d s1 v F1 H1 e1 rl1 rp1 h1 => ?_⟩
  cases d with
  | int n =>
    refine ⟨n, rp1, ?_⟩
    dsimp only at h1
    split at h1
    · rename_i hz
      refine ⟨RgOk.of_le (Int.le_refl 0) hz.2 (by decide) hz.1, fun l hl => ?_⟩
      exact h1 _ F1 _ (Same.refl F1) (rl1.layO hl) ⟨l, rfl, rl1.nofx hl, ⟨rl1.sub.free hl, _, upd_same, rg_rel hz.1⟩, fun i hi => rl1.noRef hl i hi⟩
    · exact False.elim h1
  | _ => exact False.elim h1
end VM

set_option Elab.async false
set_option linter.all false
set_option autoImplicit false
set_option maxRecDepth 100000
set_option maxHeartbeats 400000
namespace VM
open PySem PySem.Spec PyProof.Rows L2

/-! ### evaluation in steps -/
/-- a sign that what `x` names stays as it stands while the rest is worked out -/
structure Ph {α : Type} (x : α) : Type where
  mk ::
def kO (o : O) (k : MS) (_ : Ph k := ⟨⟩) : O := match o with
  | .nx s => k s
  | o => o
def bO {α : Type} (r : R α) (k : α → SV → O) (_ : Ph k := ⟨⟩) : O := match r with
  | .ok a s => k a s
  | .err x s => .err x s
  | .bad => .bad
def cO (c : Bool) (a b : MS) (s : SV) (_ : Ph (a, b, s) := ⟨⟩) : O := if c = true then a s else b s
def oR (o : Option D) (s : SV) : R D := match o with
  | some d => .ok d s
  | none => .bad
def aR (c : Bool) (r : R Bool) (s : SV) : R Bool := if c = true then r else .ok false s
def rR (c : Bool) (r : R Bool) (s : SV) : R Bool := if c = true then .ok true s else r
def aV (c : Bool) (r : R D) (s : SV) : R D := if c = true then r else .ok (.bl false) s
def rV (c : Bool) (r : R D) (s : SV) : R D := if c = true then .ok (.bl true) s else r
def iR (c : Bool) (r r' : R D) : R D := if c = true then r else r'
def wR {α : Type} (ok : α → Bool) (r : R α) (s : SV) : R α := match r with
  | .ok a _ => if ok a = true then .ok a s else .bad
  | _ => .bad
def R.bd {α β : Type} (r : R α) (f : α → SV → R β) (_ : Ph f := ⟨⟩) : R β := r.bind f
def fR (n : Nat) (fn : Fn) (ds : List D) (s : SV) (_ : Ph s := ⟨⟩) : R D := if ds.length = n then frR (fn ds) s else .bad
def gIf (p : Prop) [Decidable p] (o : O) : O := if p then o else .bad
def gR {α : Type} (p : Prop) [Decidable p] (o : R α) : R α := if p then o else .bad
section
variable (sv s : SV) (i j n : Nat) (d e : D) (m ma mb : M D) (t u : M Bool) (ms mk : M (List D)) (a b k k2 : MS) (o : O)
theorem q_seq : mSeq a b s = kO (a s) b := (rfl)
theorem q_skip : mSkip s = .nx s := (rfl)
theorem q_knx : kO (.nx s) k = k s := (rfl)
theorem q_krt : kO (.rt d s) k = .rt d s := (rfl)
theorem q_kro : kO (.ro d s) k = .ro d s := (rfl)
theorem q_kbk : kO (.bk s) k = .bk s := (rfl)
theorem q_kct : kO (.ct s) k = .ct s := (rfl)
theorem q_ker (x : Exn) : kO (.err x s) k = .err x s := (rfl)
theorem q_kk : kO (kO o k) k2 = kO o (mSeq k k2) := by cases o <;> rfl
theorem q_bind {α : Type} (m : M α) (f : α → SV → O) : mBind m f s = bO (m s) f := by
  unfold mBind bO
  cases m s <;> rfl
theorem q_bok {α : Type} (x : α) (f : α → SV → O) : bO (.ok x s) f = f x s := (rfl)
theorem q_ber {α : Type} (x : Exn) (f : α → SV → O) : bO (.err x s) f = .err x s := (rfl)
theorem q_drop : mDrop m s = bO (m s) (fun _ s => .nx s) := q_bind s m _
theorem q_ret : mRet m s = bO (m s) (fun d s => .rt d s) := q_bind s m _
theorem q_reto : mRetO m s = bO (m s) (fun d s => .ro d s) := q_bind s m _
theorem q_ifs : mIfS t a b s = bO (t s) (fun c s => cO c a b s) := q_bind s t _
theorem q_ct : cO true a b s = a s := (rfl)
theorem q_cf : cO false a b s = b s := (rfl)
theorem q_asg : mAsg i m s = bO (m s) (fun d s => .nx (s.set i (.pl d))) := q_bind s m _
theorem q_asgo : mAsgO i m s = bO (m s) (fun d s => .nx (s.set i (.ow d))) := q_bind s m _
theorem q_asgt (g : MT) : mAsgT g m s = bO (m s) (fun d s => match g d s with
  | some s' => .nx s'
  | none => .bad) := q_bind s m _
theorem q_rok {α β : Type} (x : α) (f : α → SV → R β) : (R.ok x s).bd f = f x s := (rfl)
theorem q_rer {α β : Type} (x : Exn) (f : α → SV → R β) : (R.err x s : R α).bd f = .err x s := (rfl)
theorem q_c : mC d s = .ok d s := (rfl)
theorem q_rd : mRd i s = match s[i]? with
  | some (.pl d) => .ok d s
  | _ => .bad := (rfl)
theorem q_mv : mMv i s = match s[i]? with
  | some (.pl d) => .ok d s
  | some (.ow d) => .ok d (s.set i (.pl d))
  | _ => .bad := (rfl)
theorem q_tk : mTk i s = match s[i]? with
  | some (.ow d) => .ok d (s.set i .un)
  | _ => .bad := (rfl)
theorem q_2 (f : D → D → Option D) : m2 f ma mb s = (ma s).bd fun a s1 => (mb s1).bd fun b s2 => oR (f a b) s2 := (rfl)
theorem q_1 (f : D → Option D) : m1 f m s = (m s).bd fun a s1 => oR (f a) s1 := (rfl)
theorem q_os : oR (some d) s = .ok d s := (rfl)
theorem q_b : mB m s = (m s).bd fun d s => match d with
  | .bl b => .ok b s
  | _ => .bad := (rfl)
theorem q_not : mNot t s = (t s).bd fun b s => .ok (!b) s := (rfl)
theorem q_and : mAnd t u s = (t s).bd fun b s => aR b (u s) s := (rfl)
theorem q_or : mOr t u s = (t s).bd fun b s => rR b (u s) s := (rfl)
theorem q_at (r : R Bool) : aR true r s = r := (rfl)
theorem q_af (r : R Bool) : aR false r s = .ok false s := (rfl)
theorem q_ao (c c' : Bool) : aR c (.ok c' s) s = .ok (c && c') s := by cases c <;> rfl
theorem q_rt (r : R Bool) : rR true r s = .ok true s := (rfl)
theorem q_rf (r : R Bool) : rR false r s = r := (rfl)
theorem q_ro (c c' : Bool) : rR c (.ok c' s) s = .ok (c || c') s := by cases c <;> rfl
theorem q_andv : mAndV ma mb s = (ma s).bd fun d s => match d with
  | .bl c => aV c (mb s) s
  | _ => .bad := (rfl)
theorem q_orv : mOrV ma mb s = (ma s).bd fun d s => match d with
  | .bl c => rV c (mb s) s
  | _ => .bad := (rfl)
theorem q_avt (r : R D) : aV true r s = r := (rfl)
theorem q_avf (r : R D) : aV false r s = .ok (.bl false) s := (rfl)
theorem q_avo (c c' : Bool) : aV c (.ok (.bl c') s) s = .ok (.bl (c && c')) s := by cases c <;> rfl
theorem q_rvt (r : R D) : rV true r s = .ok (.bl true) s := (rfl)
theorem q_rvf (r : R D) : rV false r s = r := (rfl)
theorem q_rvo (c c' : Bool) : rV c (.ok (.bl c') s) s = .ok (.bl (c || c')) s := by cases c <;> rfl
theorem q_ife : mIf t ma mb s = (t s).bd fun b s => iR b (ma s) (mb s) := (rfl)
theorem q_it (r r' : R D) : iR true r r' = r := (rfl)
theorem q_if (r r' : R D) : iR false r r' = r' := (rfl)
theorem q_io (c : Bool) : iR c (.ok d s) (.ok e s) = .ok (if c = true then d else e) s := by cases c <;> rfl
theorem q_on : moN s = .ok none s := (rfl)
theorem q_oS : moS m s = (m s).bd fun d s => match d with
  | .int i => .ok (some i) s
  | _ => .bad := by
  unfold moS
  rfl
theorem q_sl (ml mh : MO) : mSl m ml mh s = (m s).bd fun d s1 => (ml s1).bd fun lo s2 => (mh s2).bd fun hi s3 => oR (dSl d lo hi) s3 := (rfl)
theorem q_nil : mNil s = .ok [] s := (rfl)
theorem q_cons : mCons m ms s = (m s).bd fun d s1 => (ms s1).bd fun ds s2 => .ok (d :: ds) s2 := (rfl)
theorem q_tup : mTup ms s = (ms s).bd fun ds s => gR (ds.length ≤ sizeLine) (.ok (.tup ds) s) := (rfl)
theorem q_lst : mLst ms s = (ms s).bd fun ds s => gR (ds.length ≤ sizeLine) (.ok (.lst ds) s) := (rfl)
theorem q_call1 (f : List D → Option D) : mCall1 f ms s = (ms s).bd fun ds s => oR (f ds) s := (rfl)
theorem q_call (fn : Fn) : mCall n fn [] ms s = (ms s).bd fun ds s => fR n fn ds s := by
  unfold mCall fR
  simp only [List.append_nil]
  rfl
theorem q_f0 (fn : Fn) : fR 0 fn [] s = frR (fn []) s := (rfl)
theorem q_f1 (fn : Fn) (x1 : D) : fR 1 fn [x1] s = frR (fn [x1]) s := (rfl)
theorem q_f2 (fn : Fn) (x1 x2 : D) : fR 2 fn [x1, x2] s = frR (fn [x1, x2]) s := (rfl)
theorem q_f3 (fn : Fn) (x1 x2 x3 : D) : fR 3 fn [x1, x2, x3] s = frR (fn [x1, x2, x3]) s := (rfl)
theorem q_f4 (fn : Fn) (x1 x2 x3 x4 : D) : fR 4 fn [x1, x2, x3, x4] s = frR (fn [x1, x2, x3, x4]) s := (rfl)
theorem q_f5 (fn : Fn) (x1 x2 x3 x4 x5 : D) : fR 5 fn [x1, x2, x3, x4, x5] s = frR (fn [x1, x2, x3, x4, x5]) s := (rfl)
theorem q_f6 (fn : Fn) (x1 x2 x3 x4 x5 x6 : D) : fR 6 fn [x1, x2, x3, x4, x5, x6] s = frR (fn [x1, x2, x3, x4, x5, x6]) s := (rfl)
theorem q_f7 (fn : Fn) (x1 x2 x3 x4 x5 x6 x7 : D) : fR 7 fn [x1, x2, x3, x4, x5, x6, x7] s = frR (fn [x1, x2, x3, x4, x5, x6, x7]) s := (rfl)
theorem q_callk (fn : Fn) (g : List D → List D → List D) : mCallK n fn g ms mk s = (ms s).bd fun as s1 => (mk s1).bd fun bs s2 => fR n fn (g as bs) s2 := (rfl)
theorem q_frok : frR (.ok d none) s = .ok d s := (rfl)
theorem q_frer (x : Exn) : frR (.err x none) s = .err x s := (rfl)
theorem q_calli (fn : Fn) (mi : M (List D × Nat × List D)) (kk : Nat) : mCallI n fn kk [] mi s = (mi s).bd fun a s => match s[a.2.1]? with
  | some sl => (match slD sl with
    | some d => gR (a.1.length = kk ∧ (a.1 ++ d :: a.2.2).length = n) (frI (fn (a.1 ++ d :: a.2.2)) a.2.1 s)
    | none => .bad)
  | none => .bad := by
  unfold mCallI gR
  simp only [List.append_nil]
  rfl
theorem q_mihere : miHere i ms s = match s[i]? with
  | some (.ow _) => (ms s).bd fun ds s => .ok ([], i, ds) s
  | some (.io _ _) => (ms s).bd fun ds s => .ok ([], i, ds) s
  | _ => .bad := (rfl)
theorem q_micons (mi : M (List D × Nat × List D)) : miCons m mi s = (m s).bd fun d s1 => (mi s1).bd fun a s2 => .ok (d :: a.1, a.2.1, a.2.2) s2 := (rfl)
theorem q_fri (x : D) : frI (.ok d (some x)) i s = match s[i]? with
  | some sl => (match reSl sl x with
    | some sl' => .ok d (s.set i sl')
    | none => .bad)
  | none => .bad := (rfl)
theorem q_sdo : slD (.ow d) = some d := (rfl)
theorem q_sdi : slD (.io i d) = some d := (rfl)
theorem q_rso : reSl (.ow d) e = some (.ow e) := (rfl)
theorem q_rsi : reSl (.io i d) e = some (.io i e) := (rfl)
theorem q_app : mApp i m s = match ownL s i with
  | none => .bad
  | some _ => bO (m s) (fun d s => match ownL s i with
    | some (_, xs) => gIf (xs.length < sizeLine) (putL s i (xs ++ [d]))
    | none => .bad) := by
  unfold mApp gIf
  simp only [q_bind]
  all_goals rfl
theorem q_ext : mExt i m s = match ownL s i with
  | none => .bad
  | some _ => bO (m s) (fun d s => match ownL s i, d with
    | some (_, xs), .lst ys => gIf (xs.length + ys.length ≤ sizeLine) (putL s i (xs ++ ys))
    | _, _ => .bad) := by
  unfold mExt gIf
  simp only [q_bind]
  all_goals rfl
theorem q_put : mPut i m ma s = bO (m s) (fun d s1 => match ownL s1 i with
  | none => .bad
  | some _ => bO (ma s1) (fun k s2 => match k, ownL s2 i with
    | .int z, some (_, xs) => (match ixN xs.length z with
      | some j => putL s2 i (xs.set j d)
      | none => .bad)
    | _, _ => .bad)) := by
  unfold mPut
  rw [q_bind]
  refine congrArg (bO (m s)) (funext fun d => funext fun s1 => ?_)
  cases ownL s1 i with
  | none => rfl
  | some z => dsimp only; rw [q_bind]; all_goals rfl
theorem q_pop : mPop i s = match ownL s i with
  | some (_, xs) => (match xs[xs.length - 1]? with
    | some d => (match putL s i xs.dropLast with
      | .nx s' => .ok d s'
      | _ => .bad)
    | none => .bad)
  | none => .bad := (rfl)
theorem q_with {α : Type} (ok : α → Bool) (m : M α) : mWith ok i m s = match s[i]? with
  | some (.ow d) => wR ok (m (lend i d s)) s
  | some (.io _ d) => wR ok (m (lend i d s)) s
  | some _ => m s
  | none => .bad := by
  unfold mWith
  cases h : s[i]? with
  | none => rfl
  | some s => cases s <;> rfl
theorem q_wok {α : Type} (ok : α → Bool) (x : α) (s' : SV) : wR ok (.ok x s') s = gR (ok x = true) (.ok x s) := (rfl)
theorem q_for (mi : M (List D)) (g : MT) : mFor mi g b s = bO (mi s) (fun ds s => forL g b ds s) := q_bind s mi _
theorem q_enum : mEnum ms s = (ms s).bd fun ds s => match ds with
  | [.tup xs] => .ok (enumD 0 xs) s
  | [.lst xs] => .ok (enumD 0 xs) s
  | [.fl xs] => .ok (enumD 0 xs) s
  | _ => .bad := (rfl)
theorem q_items : mItems m s = (m s).bd fun d s => match itemsD d with
  | some ds => .ok ds s
  | none => .bad := by
  unfold mItems
  rfl
theorem q_raise (c : Str) (fs : List Str) : mRaise c fs ms s = bO (ms s) (fun ds s => gIf (ds.length = fs.length) (.err ⟨c, (fs.zip ds).reverse⟩ s)) := q_bind s ms _
end
theorem q_g {p : Prop} [Decidable p] {o : O} (h : p) : gIf p o = o := if_pos h
theorem q_gt {o : O} : gIf True o = o := if_pos trivial
theorem q_grt {α : Type} {o : R α} : gR True o = o := if_pos trivial
theorem q_lt {n : Nat} (h : n < 16777216) : (n < sizeLine) = True := eq_true (by rw [sizeLine_eq]; exact h)
theorem q_le {n : Nat} (h : n ≤ 16777216) : (n ≤ sizeLine) = True := eq_true (by rw [sizeLine_eq]; exact h)
theorem rng_a {z : Int} (h0 : 0 ≤ z) (h1 : z ≤ 1000000000) : -(2 ^ 62) ≤ z ∧ z < 2 ^ 62 := by constructor <;> omega
structure RgB (z : Int) : Prop where
  h0 : -1000000000 ≤ z
  h1 : z ≤ 1000000000
def rg1 (j : Int) (s : SV) : R (List D) := if -(2 ^ 62) ≤ j ∧ j < 2 ^ 62 then .ok (rngs 0 j.toNat) s else .bad
def rg2 (i j : Int) (s : SV) : R (List D) := if -(2 ^ 62) ≤ i ∧ i < 2 ^ 62 ∧ -(2 ^ 62) ≤ j ∧ j < 2 ^ 62 then .ok (rngs i (j - i).toNat) s else .bad
theorem q_rng1 (ms : M (List D)) (s : SV) : mRng1 ms s = (ms s).bd fun ds s => match ds with
  | [.int j] => rg1 j s
  | _ => .bad := (rfl)
theorem q_rng2 (ms : M (List D)) (s : SV) : mRng2 ms s = (ms s).bd fun ds s => match ds with
  | [.int i, .int j] => rg2 i j s
  | _ => .bad := (rfl)
def lrg (d : D) (s : SV) : R D := match d with
  | .int n => if 0 ≤ n ∧ n ≤ 16777216 then .ok (.lst (rngs 0 n.toNat)) s else .bad
  | _ => .bad
theorem q_lrg (m : M D) (s : SV) : mListRg m s = (m s).bd lrg := rfl
theorem q_lrgi {n : Nat} {s : SV} (h : n ≤ 16777216) : lrg (.int (n : Int)) s = .ok (.lst (rngs 0 n)) s := by
  unfold lrg
  dsimp only
  rw [if_pos (by omega), Int.toNat_natCast]
theorem q_rg1 {j : Int} {s : SV} (h0 : -1000000000 ≤ j) (h1 : j ≤ 1000000000) : rg1 j s = .ok (rngs 0 j.toNat) s := if_pos (by constructor <;> omega)
theorem q_rg2 {i j : Int} {s : SV} (h0 : -1000000000 ≤ i) (h1 : i ≤ 1000000000) (h2 : -1000000000 ≤ j) (h3 : j ≤ 1000000000) : rg2 i j s = .ok (rngs i (j - i).toNat) s := if_pos (by refine ⟨?_, ?_, ?_, ?_⟩ <;> omega)

/-! ### operations -/
section
variable (xs ys : List D) (i j : Int) (a b : Str) (c e : Bool)
theorem q_add : dAdd (.int i) (.int j) = some (.int (i + j)) := (rfl)
theorem q_adds (h : a.length + b.length ≤ 16777216) : dAdd (.str a) (.str b) = some (.str (a ++ b)) := if_pos (by rw [sizeLine_eq]; exact h)
theorem q_addl (h : xs.length + ys.length ≤ 16777216) : dAdd (.lst xs) (.lst ys) = some (.lst (xs ++ ys)) := if_pos (by rw [sizeLine_eq]; exact h)
theorem q_addt (h : xs.length + ys.length ≤ 16777216) : dAdd (.tup xs) (.tup ys) = some (.tup (xs ++ ys)) := if_pos (by rw [sizeLine_eq]; exact h)
theorem q_cat (h : xs.length + ys.length ≤ 16777216) : dCat (.lst xs) (.lst ys) = some (.lst (xs ++ ys)) := if_pos (by rw [sizeLine_eq]; exact h)
theorem q_sub : dI2 cSub (.int i) (.int j) = some (.int (i - j)) := (rfl)
theorem q_mulr (h : -18446744073709551616 < j) (h' : j < 18446744073709551616) : dI2 cMul (.int i) (.int j) = some (.int (i * j)) := if_pos (.inr ⟨h, h'⟩)
theorem q_mull (h : -18446744073709551616 < i) (h' : i < 18446744073709551616) : dI2 cMul (.int i) (.int j) = some (.int (i * j)) := if_pos (.inl ⟨h, h'⟩)
theorem q_div (h : 0 < j) (h' : j < 1073741824) : dI2 cDiv (.int i) (.int j) = some (.int (i / j)) := if_pos ⟨h, h'⟩
theorem q_mod (h : 0 < j) : dI2 cMod (.int i) (.int j) = some (.int (i % j)) := if_pos h
theorem q_p18 : dI2 cPow (.int 10) (.int 18) = some (.int 1000000000000000000) := (rfl)
theorem q_p12 : dI2 cPow (.int 10) (.int 12) = some (.int 1000000000000) := (rfl)
theorem q_cmplt : dCmp ciLt csLt (.int i) (.int j) = some (.bl (decide (i < j))) := (rfl)
theorem q_cmple : dCI ciLe (.int i) (.int j) = some (.bl (decide (i ≤ j))) := (rfl)
theorem q_cmpgt : dCI ciGt (.int i) (.int j) = some (.bl (decide (j < i))) := (rfl)
theorem q_cmpge : dCI ciGe (.int i) (.int j) = some (.bl (decide (j ≤ i))) := (rfl)
theorem q_eqi : dEq (.int i) (.int j) = some (.bl (decide (i = j))) := (rfl)
theorem q_eqs : dEq (.str a) (.str b) = some (.bl (decide (a = b))) := (rfl)
theorem q_eqb : dEq (.bl c) (.bl e) = some (.bl (decide (c = e))) := (rfl)
theorem q_nei : dNe (.int i) (.int j) = some (.bl (!decide (i = j))) := (rfl)
theorem q_nes : dNe (.str a) (.str b) = some (.bl (!decide (a = b))) := (rfl)
theorem q_isn (d : D) : dIs d .non = some (.bl (isNon d)) := by cases d <;> rfl
theorem q_isnn (d : D) : dIsNot d .non = some (.bl (!isNon d)) := by cases d <;> rfl
theorem q_isb : dIs (.bl c) (.bl e) = some (.bl (decide (c = e))) := (rfl)
theorem q_isnb : dIsNot (.bl c) (.bl e) = some (.bl (!decide (c = e))) := (rfl)
theorem q_neg : dNeg (.int i) = some (.int (-i)) := (rfl)
theorem q_dnot : dNot (.bl c) = some (.bl (!c)) := (rfl)
theorem q_lenl : dLen [.lst xs] = some (.int xs.length) := (rfl)
theorem q_lent : dLen [.tup xs] = some (.int xs.length) := (rfl)
theorem q_lenf : dLen [.fl xs] = some (.int xs.length) := (rfl)
theorem q_lens (h : a.length ≤ 16777216) : dLen [.str a] = some (.int a.length) := if_pos (by rw [sizeLine_eq]; exact h)
theorem q_int : dInt [.int i] = some (.int i) := (rfl)
theorem q_intb : dInt [.bl c] = some (.int (if c = true then 1 else 0)) := (rfl)
theorem q_tupl : dTuple [.lst xs] = some (.tup xs) := (rfl)
theorem q_tupt : dTuple [.tup xs] = some (.tup xs) := (rfl)
theorem q_lstl : dList [.lst xs] = some (.lst xs) := (rfl)
theorem q_lstt : dList [.tup xs] = some (.lst xs) := (rfl)
theorem q_min : dMin2 [.int i, .int j] = some (.int (min i j)) := by
  show some (D.int (if j < i then j else i)) = _
  congr 2
  split <;> omega
theorem q_max : dMax2 [.int i, .int j] = some (.int (max i j)) := by
  show some (D.int (if j > i then j else i)) = _
  congr 2
  split <;> omega
theorem q_ixn {n : Nat} (h : 0 ≤ i) (h' : i < n) : ixN n i = some i.toNat := by
  unfold ixN
  rw [if_pos h, if_pos h']
theorem q_ixm {n : Nat} (h : i < 0) (h' : -(n : Int) ≤ i) : ixN n i = some (i + n).toNat := by
  unfold ixN
  rw [if_neg (by omega), if_pos h']
theorem atI_pos {α : Type} (zs : List α) {i : Int} (h : 0 ≤ i) : atI zs i = zs[i.toNat]? := by
  unfold atI ixN
  rw [if_pos h]
  by_cases hl : i < zs.length
  · rw [if_pos hl]; rfl
  · rw [if_neg hl, List.getElem?_eq_none (by omega)]; rfl
theorem q_ixl (h : 0 ≤ i) : dIx (.lst xs) (.int i) = xs[i.toNat]? := atI_pos xs h
theorem q_ixt (h : 0 ≤ i) : dIx (.tup xs) (.int i) = xs[i.toNat]? := atI_pos xs h
theorem q_ixf (h : 0 ≤ i) : dIx (.fl xs) (.int i) = xs[i.toNat]? := atI_pos xs h
theorem q_rep (h : 0 ≤ i) (h' : i ≤ 16777216) (d : D) : dRep (.lst [d]) (.int i) = some (.lst (List.replicate i.toNat d)) := by
  unfold dRep
  dsimp only
  rw [if_pos (by refine ⟨by omega, by omega, ?_⟩; rw [sizeLine_eq]; simp; omega)]
  congr 2
  simp
theorem q_isi_tt : isi "tuple" (.tup xs) = some (.bl true) := by
  show (kitB "tuple" "tuple").map D.bl = _
  rw [show kitB "tuple" "tuple" = some true by decide +kernel]
  rfl
theorem q_isi_ts : isi "tuple" (.str a) = some (.bl false) := by
  show (kitB "str" "tuple").map D.bl = _
  rw [show kitB "str" "tuple" = some false by decide +kernel]
  rfl
theorem q_isi_ti : isi "tuple" (.int i) = some (.bl false) := by
  show (kitB "int" "tuple").map D.bl = _
  rw [show kitB "int" "tuple" = some false by decide +kernel]
  rfl
theorem q_isi_ss : isi "str" (.str a) = some (.bl true) := by
  show (kitB "str" "str").map D.bl = _
  rw [show kitB "str" "str" = some true by decide +kernel]
  rfl
theorem q_isi_st : isi "str" (.tup xs) = some (.bl false) := by
  show (kitB "tuple" "str").map D.bl = _
  rw [show kitB "tuple" "str" = some false by decide +kernel]
  rfl
theorem q_isi_ii : isi "int" (.int i) = some (.bl true) := by
  show (kitB "int" "int").map D.bl = _
  rw [show kitB "int" "int" = some true by decide +kernel]
  rfl
theorem q_isi_it : isi "int" (.tup xs) = some (.bl false) := by
  show (kitB "tuple" "int").map D.bl = _
  rw [show kitB "tuple" "int" = some false by decide +kernel]
  rfl
theorem q_isi_is : isi "int" (.str a) = some (.bl false) := by
  show (kitB "str" "int").map D.bl = _
  rw [show kitB "str" "int" = some false by decide +kernel]
  rfl
theorem q_isi_bi : isi "bool" (.int i) = some (.bl false) := by
  show (kitB "int" "bool").map D.bl = _
  rw [show kitB "int" "bool" = some false by decide +kernel]
  rfl
theorem q_lfi : lfree (.int i) = true := (rfl)
theorem q_lfb : lfree (.bl c) = true := (rfl)
theorem q_lfs : lfree (.str a) = true := (rfl)
theorem q_lfn : lfree .non = true := (rfl)
theorem q_itt : itemsD (.tup xs) = some xs := (rfl)
theorem q_itl : itemsD (.lst xs) = some xs := (rfl)
theorem q_itf : itemsD (.fl xs) = some xs := (rfl)
theorem q_slt (lo hi : Option Int) : dSl (.tup xs) lo hi = some (.tup (cutD xs lo hi)) := (rfl)
theorem q_sll (lo hi : Option Int) : dSl (.lst xs) lo hi = some (.lst (cutD xs lo hi)) := (rfl)
theorem q_sls (lo hi : Option Int) (h : a.length ≤ 16777216) : dSl (.str a) lo hi = some (.str (cutS a lo hi)) := if_pos (by rw [sizeLine_eq]; exact h)
end

/-! ### what a statement comes to -/
structure Wp (o : O) (Q : O → Prop) (_ : Ph Q := ⟨⟩) : Prop where
  h : Q o
/-- the def's end -/
def RtQ (ro : Bool) (P : D → Prop) (E : Exn → Prop) : O → Prop
  | .nx _ => ro = false ∧ P .non
  | .rt d _ => ro = false ∧ P d
  | .ro d _ => ro = true ∧ P d
  | .err x _ => E x
  | _ => False
/-- a turn's end -/
def LpQ (N B : SV → Prop) (Q : O → Prop) : O → Prop
  | .nx s => N s
  | .ct s => N s
  | .bk s => B s
  | o => Q o
def NxQ (N : SV → Prop) (Q : O → Prop) : O → Prop
  | .nx s => N s
  | o => Q o
section
variable {N B : SV → Prop} {Q : O → Prop} {P : D → Prop} {E : Exn → Prop} {s : SV} {d : D} {x : Exn}
theorem w_lnx : Wp (.nx s) (LpQ N B Q) = N s := propext ⟨fun h => h.h, fun h => ⟨h⟩⟩
theorem w_lct : Wp (.ct s) (LpQ N B Q) = N s := propext ⟨fun h => h.h, fun h => ⟨h⟩⟩
theorem w_lbk : Wp (.bk s) (LpQ N B Q) = B s := propext ⟨fun h => h.h, fun h => ⟨h⟩⟩
theorem w_lrt : Wp (.rt d s) (LpQ N B Q) = Wp (.rt d s) Q := propext ⟨fun h => ⟨h.h⟩, fun h => ⟨h.h⟩⟩
theorem w_lro : Wp (.ro d s) (LpQ N B Q) = Wp (.ro d s) Q := propext ⟨fun h => ⟨h.h⟩, fun h => ⟨h.h⟩⟩
theorem w_ler : Wp (.err x s) (LpQ N B Q) = Wp (.err x s) Q := propext ⟨fun h => ⟨h.h⟩, fun h => ⟨h.h⟩⟩
theorem w_nnx : Wp (.nx s) (NxQ N Q) = N s := propext ⟨fun h => h.h, fun h => ⟨h⟩⟩
theorem w_nrt : Wp (.rt d s) (NxQ N Q) = Wp (.rt d s) Q := propext ⟨fun h => ⟨h.h⟩, fun h => ⟨h.h⟩⟩
theorem w_nro : Wp (.ro d s) (NxQ N Q) = Wp (.ro d s) Q := propext ⟨fun h => ⟨h.h⟩, fun h => ⟨h.h⟩⟩
theorem w_ner : Wp (.err x s) (NxQ N Q) = Wp (.err x s) Q := propext ⟨fun h => ⟨h.h⟩, fun h => ⟨h.h⟩⟩
theorem w_rnx : Wp (.nx s) (RtQ false P E) = P .non := propext ⟨fun h => h.h.2, fun h => ⟨rfl, h⟩⟩
theorem w_rrt : Wp (.rt d s) (RtQ false P E) = P d := propext ⟨fun h => h.h.2, fun h => ⟨rfl, h⟩⟩
theorem w_rro : Wp (.ro d s) (RtQ true P E) = P d := propext ⟨fun h => h.h.2, fun h => ⟨rfl, h⟩⟩
theorem w_rer {ro : Bool} : Wp (.err x s) (RtQ ro P E) = E x := propext ⟨fun h => h.h, fun h => ⟨h⟩⟩
end
/-- a def computes -/
structure Cmp (r : FR) (P : D → Prop) (E : Exn → Prop) : Prop where
  h : (∃ d, r = .ok d none ∧ P d) ∨ ∃ x, r = .err x none ∧ E x
theorem cmp_of {n : Nat} {ro : Bool} {body : MS} {ds : List D} {P : D → Prop} {E : Exn → Prop} (h : Wp (body (initA none 0 ds ++ List.replicate (n - ds.length) .un)) (RtQ ro P E)) : Cmp (fnOf n none ro body ds) P E := by
  obtain ⟨h⟩ := h
  unfold fnOf
  cases hb : body (initA none 0 ds ++ List.replicate (n - ds.length) .un) with
  | nx s => rw [hb] at h; obtain ⟨rfl, h⟩ := h; exact ⟨.inl ⟨_, rfl, h⟩⟩
  | rt d s => rw [hb] at h; obtain ⟨rfl, h⟩ := h; exact ⟨.inl ⟨_, rfl, h⟩⟩
  | ro d s => rw [hb] at h; obtain ⟨rfl, h⟩ := h; exact ⟨.inl ⟨_, rfl, h⟩⟩
  | err x s => rw [hb] at h; exact ⟨.inr ⟨_, rfl, h⟩⟩
  | bk s => rw [hb] at h; exact h.elim
  | ct s => rw [hb] at h; exact h.elim
  | bad => rw [hb] at h; exact h.elim
theorem Cmp.ok {r : FR} {P : D → Prop} (h : Cmp r P fun _ => False) : ∃ d, r = .ok d none ∧ P d := by
  rcases h.h with h | ⟨x, _, h⟩
  · exact h
  · exact h.elim
theorem Cmp.eq {r : FR} {d : D} (h : Cmp r (fun e => e = d) fun _ => False) : r = .ok d none := by
  obtain ⟨e, h1, rfl⟩ := h.ok
  exact h1
theorem Cmp.er {r : FR} {x : Exn} (h : Cmp r (fun _ => False) fun y => y = x) : r = .err x none := by
  rcases h.h with ⟨_, _, h⟩ | ⟨y, h1, rfl⟩
  · exact h.elim
  · exact h1
section
variable {a b k : MS} {s : SV} {o : O} {Q : O → Prop} {c : Bool}
theorem w_if (h1 : c = true → Wp (a s) Q) (h2 : c = false → Wp (b s) Q) : Wp (cO c a b s) Q := by
  cases c with
  | true => exact h1 rfl
  | false => exact h2 rfl
theorem w_kif (h1 : c = true → Wp (kO (a s) k) Q) (h2 : c = false → Wp (kO (b s) k) Q) : Wp (kO (cO c a b s) k) Q := by
  cases c with
  | true => exact h1 rfl
  | false => exact h2 rfl
/-- what lies ahead, then the rest -/
theorem w_k (P : SV → Prop) (h : Wp o (NxQ P Q)) (hk : ∀ s, P s → Wp (k s) Q) : Wp (kO o k) Q := by
  obtain ⟨h⟩ := h
  cases o with
  | nx s => exact hk s h
  | rt d s => exact ⟨h⟩
  | ro d s => exact ⟨h⟩
  | bk s => exact ⟨h⟩
  | ct s => exact ⟨h⟩
  | err x s => exact ⟨h⟩
  | bad => exact ⟨h⟩
def Tn (t : MT) (b : MS) (d : D) (s : SV) (Q : O → Prop) : Prop := match t d s with
  | some s1 => Wp (b s1) Q
  | none => False
theorem w_tn {i : Nat} {d : D} : Tn (mtN i) b d s Q = Wp (b (s.set i (.pl d))) Q := rfl
theorem w_tt {i j : Nat} {x y : D} : Tn (mtTup 2 (mtCons (mtN i) (mtCons (mtN j) mtNil))) b (.tup [x, y]) s Q = Wp (b ((s.set i (.pl x)).set j (.pl y))) Q := rfl
theorem w_tt3 {i j l : Nat} {x y z : D} : Tn (mtTup 3 (mtCons (mtN i) (mtCons (mtN j) (mtCons (mtN l) mtNil)))) b (.tup [x, y, z]) s Q = Wp (b (((s.set i (.pl x)).set j (.pl y)).set l (.pl z))) Q := rfl
theorem forL_w {t : MT} {Y : Type} {S : Y → SV} {I : Nat → Y → Prop} {n : Nat} : ∀ (ds : List D) (i : Nat) (y : Y), I i y → n = i + ds.length → (∀ j d y, ds[j]? = some d → I (i + j) y → Tn t b d (S y) (LpQ (fun s' => ∃ y', s' = S y' ∧ I (i + j + 1) y') (fun s' => Wp (k s') Q) Q)) →
    (∀ y, I n y → Wp (k (S y)) Q) → Wp (kO (forL t b ds (S y)) k) Q
  | [], i, y, h0, hn, _, hq => hq y (by rw [hn]; exact h0)
  | d :: ds, i, y, h0, hn, hs, hq => by
    have h := hs 0 d y rfl h0
    unfold Tn at h
    unfold forL
    cases ht : t d (S y) with
    | none => rw [ht] at h; exact h.elim
    | some s1 =>
      rw [ht] at h
      dsimp only at h ⊢
      obtain ⟨h⟩ := h
      have go : ∀ y', I (i + 1) y' → Wp (kO (forL t b ds (S y')) k) Q := fun y' h' => forL_w ds (i + 1) y' h' (by simp at hn; omega) (fun j d' y2 hd h2 => by
        have e : i + 1 + j = i + (j + 1) := by omega
        rw [e] at h2 ⊢
        exact hs (j + 1) d' y2 hd h2) hq
      cases hb : b s1 with
      | nx s2 => rw [hb] at h; obtain ⟨y', rfl, h⟩ := h; exact go y' h
      | ct s2 => rw [hb] at h; obtain ⟨y', rfl, h⟩ := h; exact go y' h
      | bk s2 => rw [hb] at h; exact h
      | rt d s2 => rw [hb] at h; exact ⟨h⟩
      | ro d s2 => rw [hb] at h; exact ⟨h⟩
      | err x s2 => rw [hb] at h; exact ⟨h⟩
      | bad => rw [hb] at h; exact ⟨h⟩
/-- a for: S tells the frame by what is carried, I what holds ahead of turn i -/
theorem w_for {t : MT} {Y : Type} {s0 : SV} (S : Y → SV) (I : Nat → Y → Prop) (y : Y) {ds : List D} (e0 : s0 = S y) (h0 : I 0 y) (hs : ∀ j d y, ds[j]? = some d → I j y → Tn t b d (S y) (LpQ (fun s' => ∃ y', s' = S y' ∧ I (j + 1) y') (fun s' => Wp (k s') Q) Q))
    (hq : ∀ y, I ds.length y → Wp (k (S y)) Q) : Wp (kO (forL t b ds s0) k) Q := e0 ▸
  forL_w (n := ds.length) ds 0 y h0 (by omega) (fun j d y hd h => by rw [Nat.zero_add] at h ⊢; exact hs j d y hd h) hq
theorem w_end (h : Wp (kO o mSkip) Q) : Wp o Q := by
  cases o <;> exact h
end
theorem rngs_at {lo : Int} {n j : Nat} {d : D} (h : (rngs lo n)[j]? = some d) : j < n ∧ d = .int (lo + j) := by
  unfold rngs at h
  rw [List.getElem?_map] at h
  obtain ⟨k, h1, h2⟩ := Option.map_eq_some_iff.mp h
  obtain ⟨h3, h4⟩ := List.getElem?_eq_some_iff.mp h1
  simp at h3 h4
  subst h4
  exact ⟨h3, h2.symm⟩
theorem rngs_length (lo : Int) (n : Nat) : (rngs lo n).length = n := by simp [rngs]

/-! ### comprehensions -/
theorem lcL_fm {α : Type} {own : List Nat} {t : MT} {mc : M Bool} {me : M D} {w : SV} {enc f : α → D} {p : α → Bool} : ∀ (xs : List α) (acc : List D), acc.length + xs.length ≤ 16777216 →
    (∀ x ∈ xs, ∃ s1, t (enc x) w = some s1 ∧ mc s1 = .ok (p x) s1 ∧ (p x = true → me s1 = .ok (f x) s1) ∧ wipeV s1 own = w) → lcL own t mc me (xs.map enc) w acc = .ok (acc ++ (xs.filter p).map f) w
  | [], acc, _, _ => by simp [lcL]
  | x :: xs, acc, hl, h => by
    obtain ⟨s1, h1, h2, h3, h4⟩ := h x List.mem_cons_self
    rw [List.map_cons]
    unfold lcL
    rw [h1]
    dsimp only
    rw [h2]
    have hl' : acc.length + (xs.length + 1) ≤ 16777216 := hl
    cases hp : p x with
    | false =>
      dsimp only
      rw [h4, lcL_fm xs acc (by omega) fun y hy => h y (List.mem_cons_of_mem _ hy)]
      simp [hp]
    | true =>
      dsimp only
      rw [h3 hp]
      dsimp only
      rw [if_pos (by rw [sizeLine_eq]; omega), h4, lcL_fm xs _ (by simp; omega) fun y hy => h y (List.mem_cons_of_mem _ hy)]
      simp [hp]
theorem restV_self {own : List Nat} {s : SV} : restV own s (wipeV s own) = s := by
  apply List.ext_getElem?
  intro j
  by_cases hj : j < s.length
  · have hl : j < (restV own s (wipeV s own)).length := by rw [restV_len, wipeV_len]; exact hj
    have e : (restV own s (wipeV s own))[j]? = some (restV own s (wipeV s own))[j] := List.getElem?_eq_getElem hl
    rcases restV_get own s (wipeV s own) j _ e with ⟨h1, h2⟩ | ⟨h1, h2⟩ | ⟨h1, h2⟩
    · rw [e, ← h2, wipeV_get s j own h1]
    · rw [e, h2]
    · exact absurd (List.getElem?_eq_none_iff.mp h1) (by omega)
  · rw [List.getElem?_eq_none (by rw [restV_len, wipeV_len]; omega), List.getElem?_eq_none (by omega)]
/-- [f x for x in xs if p x] -/
theorem lc_of {α : Type} {own : List Nat} {mi : M (List D)} {t : MT} {mc : M Bool} {me : M D} {s : SV} (xs : List α) (enc f : α → D) (p : α → Bool) (hi : mi s = .ok (xs.map enc) s) (ho : ownOk own s = true) (hl : xs.length ≤ 16777216)
    (h : ∀ x ∈ xs, ∃ s1, t (enc x) (wipeV s own) = some s1 ∧ mc s1 = .ok (p x) s1 ∧ (p x = true → me s1 = .ok (f x) s1) ∧ wipeV s1 own = wipeV s own) : mLc own mi t mc me s = .ok (D.lst ((xs.filter p).map f)) s := by
  unfold mLc
  rw [hi]
  show (if ownOk own s = true then (lcL own t mc me (xs.map enc) (wipeV s own) []).bd fun acc s' => R.ok (D.lst acc) (restV own s s') else .bad) = _
  rw [if_pos ho, lcL_fm xs [] (by simpa using hl) h]
  show R.ok (D.lst ([] ++ (xs.filter p).map f)) (restV own s (wipeV s own)) = _
  rw [restV_self, List.nil_append]
/-- [f x for x in xs] -/
theorem lc_map {α : Type} {own : List Nat} {mi : M (List D)} {t : MT} {me : M D} {s : SV} (xs : List α) (enc f : α → D) (hi : mi s = .ok (xs.map enc) s) (ho : ownOk own s = true) (hl : xs.length ≤ 16777216)
    (h : ∀ x ∈ xs, ∃ s1, t (enc x) (wipeV s own) = some s1 ∧ me s1 = .ok (f x) s1 ∧ wipeV s1 own = wipeV s own) : mLc own mi t mYes me s = .ok (D.lst (xs.map f)) s := by
  have := lc_of (mc := mYes) xs enc f (fun _ => true) hi ho hl fun x hx => by
    obtain ⟨s1, h1, h2, h3⟩ := h x hx
    exact ⟨s1, h1, rfl, fun _ => h2, h3⟩
  rw [this]
  congr 3
  exact List.filter_eq_self.mpr fun _ _ => rfl

/-! ### slices -/
theorem q_cut {α : Type} (xs : List α) {a b : Int} (ha : 0 ≤ a) (hb : 0 ≤ b) : cutD xs (some a) (some b) = (xs.drop a.toNat).take (b.toNat - a.toNat) := by
  have h := cut_list xs a.toNat b.toNat
  rwa [Int.toNat_of_nonneg ha, Int.toNat_of_nonneg hb] at h
theorem q_cutf {α : Type} (xs : List α) {a : Int} (ha : 0 ≤ a) : cutD xs (some a) none = xs.drop a.toNat := by
  obtain ⟨n, rfl⟩ : ∃ n : Nat, a = n := ⟨a.toNat, (Int.toNat_of_nonneg ha).symm⟩
  unfold cutD
  rw [HT.sIx_nat, HT.sIx_none, Int.toNat_natCast]
  rcases Nat.le_total n xs.length with h | h
  · rw [Nat.min_eq_left h, List.take_of_length_le (by simp)]
  · rw [Nat.min_eq_right h, List.drop_of_length_le h, List.drop_of_length_le (Nat.le_refl _)]
    simp
theorem q_cutt {α : Type} (xs : List α) {b : Int} (hb : 0 ≤ b) : cutD xs none (some b) = xs.take b.toNat := by
  obtain ⟨n, rfl⟩ : ∃ n : Nat, b = n := ⟨b.toNat, (Int.toNat_of_nonneg hb).symm⟩
  unfold cutD
  rw [HT.sIx_nat, HT.sIx_none, Int.toNat_natCast]
  rcases Nat.le_total n xs.length with h | h
  · rw [Nat.min_eq_left h]; simp
  · rw [Nat.min_eq_right h, List.take_of_length_le (by simp), List.take_of_length_le h]
    simp

/-! ### try, the exception in hand -/
def trO (top : Str) (ns : List Str) (x : Str) (i : Nat) (ms : MS) : O → O
  | .err e s => if e.c ∈ ns then (if isSub top e.c x = true then endEx i (ms (s.set i (.ex e))) else .err e s) else .bad
  | o => o
def trOo (top : Str) (ns : List Str) (x : Str) (ms : MS) : O → O
  | .err e s => if e.c ∈ ns then (if isSub top e.c x = true then endO (ms s) else .err e s) else .bad
  | o => o
section
variable {top x : Str} {ns : List Str} {i : Nat} {mb ms : MS} {s : SV} {e : Exn} {d : D}
theorem q_try : mTry top ns x i mb ms s = trO top ns x i ms (mb s) := by
  unfold mTry trO
  cases mb s <;> rfl
theorem q_tryo : mTryO top ns x mb ms s = trOo top ns x ms (mb s) := by
  unfold mTryO trOo
  cases mb s <;> rfl
theorem q_tnx : trO top ns x i ms (.nx s) = .nx s := (rfl)
theorem q_trt : trO top ns x i ms (.rt d s) = .rt d s := (rfl)
theorem q_tonx : trOo top ns x ms (.nx s) = .nx s := (rfl)
theorem q_tort : trOo top ns x ms (.rt d s) = .rt d s := (rfl)
theorem q_ter (h : e.c ∈ ns) (h2 : isSub top e.c x = true) : trO top ns x i ms (.err e s) = endEx i (ms (s.set i (.ex e))) := by
  unfold trO
  dsimp only
  rw [if_pos h, if_pos h2]
theorem q_toer (h : e.c ∈ ns) (h2 : isSub top e.c x = true) : trOo top ns x ms (.err e s) = endO (ms s) := by
  unfold trOo
  dsimp only
  rw [if_pos h, if_pos h2]
theorem q_tpass (h : e.c ∈ ns) (h2 : isSub top e.c x = false) : trO top ns x i ms (.err e s) = .err e s := by
  unfold trO
  dsimp only
  rw [if_pos h, if_neg (by rw [h2]; exact Bool.false_ne_true)]
theorem q_ert (h : noEx (s.set i .un) = true) : endEx i (.rt d s) = .rt d (s.set i .un) := if_pos h
theorem q_enx (h : noEx (s.set i .un) = true) : endEx i (.nx s) = .nx (s.set i .un) := if_pos h
theorem q_eort (h : noEx s = true) : endO (.rt d s) = .rt d s := if_pos h
theorem q_eonx (h : noEx s = true) : endO (.nx s) = .nx s := if_pos h
theorem q_exis {t : Str → Bool} (h : s[i]? = some (.ex e)) (hc : e.c ∈ ns) : mExIs ns i t s = .ok (.bl (t e.c)) s := by
  unfold mExIs
  rw [h]
  exact if_pos hc
theorem q_exf {f : Str} (h : s[i]? = some (.ex e)) (hc : e.c ∈ ns) (hd : e.fs.lookup f = some d) : mExF ns i f s = .ok d s := by
  unfold mExF
  rw [h]
  dsimp only
  rw [if_pos hc, hd]
end
/-! ### while -/
section
variable {b k : MS} {t : M Bool} {Q : O → Prop}
theorem w_while {Y : Type} {s0 : SV} (S : Y → SV) (I : Y → Prop) (m : Y → Nat) (y : Y) (e0 : s0 = S y) (hI : I y)
    (hs : ∀ y, I y → ∃ c, t (S y) = .ok c (S y) ∧ (c = true → Wp (b (S y)) (LpQ (fun s' => ∃ y', s' = S y' ∧ I y' ∧ m y' < m y) (fun s' => Wp (k s') Q) Q)) ∧ (c = false → Wp (k (S y)) Q)) : Wp (kO (mWhile t b s0) k) Q := by
  subst e0
  -- the run's end
  have key : ∀ (n : Nat) (y : Y), m y ≤ n → I y → (∀ y, I y → ∃ c, t (S y) = .ok c (S y) ∧ (c = true → Wp (b (S y)) (LpQ (fun s' => ∃ y', s' = S y' ∧ I y' ∧ m y' < m y) (fun s' => Wp (k s') Q) Q)) ∧ (c = false → Wp (k (S y)) Q)) →
      ∃ N o, whileN t b N (S y) = some o ∧ Wp (kO o k) Q := by
    intro n
    induction n with
    | zero =>
      intro y hn hI hs
      obtain ⟨c, hc, h1, h2⟩ := hs y hI
      cases c with
      | false => exact ⟨1, .nx (S y), by unfold whileN; rw [hc], h2 rfl⟩
      | true =>
        obtain ⟨h⟩ := h1 rfl
        cases hb : b (S y) with
        | nx s => rw [hb] at h; obtain ⟨y', _, _, h⟩ := h; omega
        | ct s => rw [hb] at h; obtain ⟨y', _, _, h⟩ := h; omega
        | bk s => rw [hb] at h; exact ⟨1, .nx s, by unfold whileN; rw [hc]; dsimp only; rw [hb], h⟩
        | rt d s => rw [hb] at h; exact ⟨1, .rt d s, by unfold whileN; rw [hc]; dsimp only; rw [hb], ⟨h⟩⟩
        | ro d s => rw [hb] at h; exact ⟨1, .ro d s, by unfold whileN; rw [hc]; dsimp only; rw [hb], ⟨h⟩⟩
        | err d s => rw [hb] at h; exact ⟨1, .err d s, by unfold whileN; rw [hc]; dsimp only; rw [hb], ⟨h⟩⟩
        | bad => rw [hb] at h; exact ⟨1, .bad, by unfold whileN; rw [hc]; dsimp only; rw [hb], ⟨h⟩⟩
    | succ n ih =>
      intro y hn hI hs
      obtain ⟨c, hc, h1, h2⟩ := hs y hI
      cases c with
      | false => exact ⟨1, .nx (S y), by unfold whileN; rw [hc], h2 rfl⟩
      | true =>
        obtain ⟨h⟩ := h1 rfl
        cases hb : b (S y) with
        | nx s =>
          rw [hb] at h
          obtain ⟨y', rfl, h3, h⟩ := h
          obtain ⟨N, o, e, w⟩ := ih y' (by omega) h3 hs
          exact ⟨N + 1, o, by unfold whileN; rw [hc]; dsimp only; rw [hb]; exact e, w⟩
        | ct s =>
          rw [hb] at h
          obtain ⟨y', rfl, h3, h⟩ := h
          obtain ⟨N, o, e, w⟩ := ih y' (by omega) h3 hs
          exact ⟨N + 1, o, by unfold whileN; rw [hc]; dsimp only; rw [hb]; exact e, w⟩
        | bk s => rw [hb] at h; exact ⟨1, .nx s, by unfold whileN; rw [hc]; dsimp only; rw [hb], h⟩
        | rt d s => rw [hb] at h; exact ⟨1, .rt d s, by unfold whileN; rw [hc]; dsimp only; rw [hb], ⟨h⟩⟩
        | ro d s => rw [hb] at h; exact ⟨1, .ro d s, by unfold whileN; rw [hc]; dsimp only; rw [hb], ⟨h⟩⟩
        | err d s => rw [hb] at h; exact ⟨1, .err d s, by unfold whileN; rw [hc]; dsimp only; rw [hb], ⟨h⟩⟩
        | bad => rw [hb] at h; exact ⟨1, .bad, by unfold whileN; rw [hc]; dsimp only; rw [hb], ⟨h⟩⟩
  obtain ⟨N, o, e, w⟩ := key (m y) y (Nat.le_refl _) hI hs
  rw [mWhile_of e]
  exact w
end
end VM

set_option Elab.async false
set_option linter.all false
set_option autoImplicit false
set_option maxRecDepth 100000
set_option maxHeartbeats 400000
namespace VM
open PySem PySem.Spec PyProof.Rows L2
theorem pow18 : cPow 10 18 = some (.int 1000000000000000000) := rfl
theorem cMulL {i : Int} (j : Int) (h : -(2 ^ 64) < i) (h' : i < 2 ^ 64) : cMul i j = some (.int (i * j)) := by unfold cMul; rw [if_pos (.inl ⟨h, h'⟩)]
theorem cMulR (i : Int) {j : Int} (h : -(2 ^ 64) < j) (h' : j < 2 ^ 64) : cMul i j = some (.int (i * j)) := by unfold cMul; rw [if_pos (.inr ⟨h, h'⟩)]
theorem cModL (i : Int) {j : Int} (h : 0 < j) : cMod i j = some (.int (i % j)) := by unfold cMod; rw [if_pos h]
/-- what a size must be -/
def SizeOk (z : Int) : Prop := 0 < z ∧ z < 1000
abbrev sgns : Str := "abcdefghijklmnopqrstuvwxyzABCDEFGHIJKLMNOPQRSTUVWXYZ0123456789"
abbrev alnum : List Nat := sgns.cps.toList
theorem alnum_len : alnum.length = 62 := by decide +kernel
/-- a word of at most n signs, the first of them in fs -/
structure Wl (fs : List Nat) (n : Nat) (w : Str) : Prop where
  hd : ∃ c r, w.cps.toList = c :: r ∧ c ∈ fs
  al : ∀ c ∈ w.cps.toList, c ∈ alnum
  ln : w.length ≤ n
theorem Wl.mono {fs : List Nat} {n m : Nat} {w : Str} (h : Wl fs n w) (k : n ≤ m) : Wl fs m w := ⟨h.hd, h.al, Nat.le_trans h.ln k⟩
theorem Wl.add {fs : List Nat} {n : Nat} {w : Str} {c : Nat} (h : Wl fs n w) (hc : c ∈ alnum) : Wl fs (n + 1) (w ++ (⟨#[c]⟩ : Str)) := by
  obtain ⟨⟨a, r, e, ha⟩, h2, h3⟩ := h
  refine ⟨⟨a, r ++ [c], by rw [str_app, e, one_list]; rfl, ha⟩, fun x hx => ?_, ?_⟩
  · rw [str_app, one_list] at hx
    rcases List.mem_append.mp hx with h | h
    · exact h2 x h
    · simp at h; subst h; exact hc
  · rw [str_len, str_app, List.length_append, ← str_len, one_list]
    simpa using h3
theorem Wl.cut {fs : List Nat} {n : Nat} {w : Str} (h : Wl fs n w) {k : Nat} (hk : 0 < k) : Wl fs k (cutS w none (some (k : Int))) := by
  obtain ⟨⟨a, r, e, ha⟩, h2, h3⟩ := h
  refine ⟨⟨a, r.take (k - 1), ?_, ha⟩, fun x hx => ?_, ?_⟩
  · rw [cut_to, e]
    obtain ⟨j, rfl⟩ : ∃ j, k = j + 1 := ⟨k - 1, by omega⟩
    simp
  · rw [cut_to] at hx
    exact h2 x (List.mem_of_mem_take hx)
  · rw [str_len, cut_to]
    simp; omega
theorem Wl.join {fs : List Nat} {n m : Nat} {w v : Str} (h : Wl fs n w) (hv : ∀ c ∈ v.cps.toList, c ∈ alnum) (hl : v.length ≤ m) : Wl fs (n + m) (w ++ v) := by
  obtain ⟨⟨a, r, e, ha⟩, h2, h3⟩ := h
  refine ⟨⟨a, r ++ v.cps.toList, by rw [str_app, e]; rfl, ha⟩, fun x hx => ?_, ?_⟩
  · rw [str_app] at hx
    rcases List.mem_append.mp hx with h | h
    · exact h2 x h
    · exact hv x h
  · rw [str_len, str_app, List.length_append, ← str_len, ← str_len]
    omega
theorem tail_al {fs : List Nat} {n : Nat} {w : Str} (h : Wl fs n w) (k : Nat) : (∀ c ∈ (cutS w (some (k : Int)) none).cps.toList, c ∈ alnum) ∧ (cutS w (some (k : Int)) none).length = w.length - k := by
  refine ⟨fun c hc => ?_, ?_⟩
  · rw [cut_from] at hc
    exact h.al c (List.mem_of_mem_drop hc)
  · rw [str_len, cut_from, str_len]
    simp
/-- the digits of one word -/
structure Ds (ds : List Int) : Prop where
  ln : ds.length = 15
  b1 : ∃ n : Nat, ds[1]? = some (n : Int) ∧ n < 26
  b2 : ∃ n : Nat, ds[2]? = some (n : Int) ∧ n < 12
  b3 : ∃ n : Nat, ds[3]? = some (n : Int) ∧ n < 12
  b0 : ∃ n : Nat, ds[0]? = some (n : Int) ∧ n < 6
  bj : ∀ j, j < 11 → ∃ n : Nat, ds[4 + j]? = some (n : Int) ∧ n < 62
theorem at_of {ds : List Int} {i : Nat} {n : Int} (h : ds[i]? = some n) : atI (ds.map D.int) (i : Int) = some (.int n) := by
  obtain ⟨h1, h2⟩ := List.getElem?_eq_some_iff.mp h
  rw [atI_natL (by simpa using h1)]
  simp [h2]
theorem small_str {n : Nat} (h : n ≤ 1000) : n ≤ sizeLine := Nat.le_of_lt (small1000 h)
theorem letter_at {z : Str} {n : Nat} (h : n < z.cps.toList.length) (hz : z.cps.toList.length ≤ 1000) : dIx (.str z) (.int (n : Int)) = some (.str ⟨#[z.cps.toList[n]]⟩) := ix_strL h (by rw [str_len]; exact small_str hz)
theorem letter_al {n : Nat} (h : n < 62) : ∃ c, c ∈ alnum ∧ dIx (.str sgns) (.int (n : Int)) = some (.str ⟨#[c]⟩) := ⟨_, List.getElem_mem (by rw [alnum_len]; exact h), letter_at (by rw [alnum_len]; exact h) (by rw [alnum_len]; decide)⟩
/-- the letters a word begins with -/
structure Fs (f : Str) : Prop where
  ln : f.cps.toList.length = 26
  al : ∀ c ∈ f.cps.toList, c ∈ alnum
theorem Fs.at {f : Str} (h : Fs f) {n : Nat} (hn : n < 26) : ∃ c, c ∈ f.cps.toList ∧ dIx (.str f) (.int (n : Int)) = some (.str ⟨#[c]⟩) := ⟨_, List.getElem_mem (by rw [h.ln]; exact hn), letter_at (by rw [h.ln]; exact hn) (by rw [h.ln]; decide)⟩
theorem Fs.one {f : Str} (h : Fs f) {c : Nat} (hc : c ∈ f.cps.toList) : Wl f.cps.toList 1 ⟨#[c]⟩ := ⟨⟨c, [], rfl, hc⟩, fun x hx => by
  have : x = c := by simpa using hx
  subst this; exact h.al _ hc, Nat.le_refl 1⟩
theorem add_str {a b : Str} (h : a.length + b.length ≤ 1000) : dAdd (.str a) (.str b) = some (.str (a ++ b)) := by
  unfold dAdd
  dsimp only
  rw [if_pos (small_str h)]
def zs15 : List Int := [6, 26, 12, 12, 62, 62, 62, 62, 62, 62, 62, 62, 62, 62, 62]
def zs75 : List Int := zs15 ++ zs15 ++ zs15 ++ zs15 ++ zs15
theorem zs75_ev (sv : SV) : (m2 dRep (m2 dAdd (mLst (mCons (mC (.int 6)) (mCons (mC (.int 26)) (mCons (mC (.int 12)) (mCons (mC (.int 12)) mNil))))) (m2 dRep (mLst (mCons (mC (.int 62)) mNil)) (mC (.int 11)))) (mC (.int 5))) sv = .ok (.lst (zs75.map .int)) sv := rfl
theorem zs75_at : ∀ r, r < 5 → ∀ j, j < 15 → zs75[15 * r + j]? = zs15[j]? := by decide
theorem zs75_sz : ∀ z ∈ zs75, SizeOk z := by
  unfold SizeOk
  have : zs75.all (fun z => decide (0 < z ∧ z < 1000)) = true := by decide
  intro z hz
  have h := List.all_eq_true.mp this z hz
  exact of_decide_eq_true h
structure Dz (ds : List Int) : Prop where
  ln : ds.length = 75
  bd : ∀ (i : Nat) (z e : Int), zs75[i]? = some z → ds[i]? = some e → 0 ≤ e ∧ e < z
theorem Dz.cut {ds : List Int} (h : Dz ds) {r : Nat} (hr : r < 5) : Ds ((ds.drop (15 * r)).take 15) := by
  have at_ : ∀ j, j < 15 → ((ds.drop (15 * r)).take 15)[j]? = ds[15 * r + j]? := fun j hj => by
    rw [List.getElem?_take, if_pos hj, List.getElem?_drop]
  have val : ∀ j z, j < 15 → zs15[j]? = some (z : Int) → ∃ n : Nat, ((ds.drop (15 * r)).take 15)[j]? = some (n : Int) ∧ (n : Int) < z := fun j z hj hz => by
    have hl : 15 * r + j < ds.length := by rw [h.ln]; omega
    have e1 : ds[15 * r + j]? = some ds[15 * r + j] := List.getElem?_eq_getElem hl
    obtain ⟨b1, b2⟩ := h.bd (15 * r + j) z _ (by rw [zs75_at r hr j hj]; exact hz) e1
    refine ⟨(ds[15 * r + j]).toNat, ?_, ?_⟩
    · rw [at_ j hj, e1, Int.toNat_of_nonneg b1]
    · rw [Int.toNat_of_nonneg b1]; exact b2
  refine ⟨by simp [h.ln]; omega, ?_, ?_, ?_, ?_, fun j hj => ?_⟩
  · obtain ⟨n, e, b⟩ := val 1 26 (by decide) rfl; exact ⟨n, e, by omega⟩
  · obtain ⟨n, e, b⟩ := val 2 12 (by decide) rfl; exact ⟨n, e, by omega⟩
  · obtain ⟨n, e, b⟩ := val 3 12 (by decide) rfl; exact ⟨n, e, by omega⟩
  · obtain ⟨n, e, b⟩ := val 0 6 (by decide) rfl; exact ⟨n, e, by omega⟩
  · have : zs15[4 + j]? = some 62 := by
      have : ∀ j, j < 11 → zs15[4 + j]? = some 62 := by decide
      exact this j hj
    obtain ⟨n, e, b⟩ := val (4 + j) 62 (by omega) this; exact ⟨n, e, by omega⟩
/-- the tokens of a kind -/
inductive Tk where
  | row (ws : List Str) | wd (w : Str)
def Tk.d : Tk → D
  | .row ws => .tup (ws.map .str)
  | .wd w => .str w
theorem tk_row (ws : List Str) : (Tk.row ws).d = .tup (ws.map .str) := rfl
theorem tk_wd (w : Str) : (Tk.wd w).d = .str w := rfl
abbrev Gw (w : Str) : Prop := Wl alnum 12 w
theorem Wl.gw {fs : List Nat} {w : Str} (h : Wl fs 12 w) : Gw w := ⟨by
  obtain ⟨c, r, e, _⟩ := h.hd
  exact ⟨c, r, e, h.al c (by rw [e]; simp)⟩, h.al, h.ln⟩
def Gt : Tk → Prop
  | .row ws => ws.length ≤ 6 ∧ ∀ w ∈ ws, Gw w
  | .wd w => Gw w
/-- how many kinds are still to come -/
def run : Nat → List Tk → Option Nat
  | p, [] => some p
  | 0, _ :: _ => none
  | p + 1, .wd _ :: r => run p r
  | p + 1, .row _ :: r => run (p + 2) r
theorem run_app : ∀ (a b : List Tk) (p : Nat), run p (a ++ b) = (run p a).bind fun q => run q b
  | [], b, p => rfl
  | _ :: _, b, 0 => rfl
  | .wd _ :: r, b, p + 1 => run_app r b p
  | .row _ :: r, b, p + 1 => run_app r b (p + 2)
theorem ix_int {xs : List Int} {i : Nat} (h : i < xs.length) : dIx (.lst (xs.map .int)) (.int (i : Int)) = some (.int xs[i]) := by
  show atI _ _ = _
  rw [atI_natL (by simpa using h)]
  simp
theorem ix_lstr {xs : List Str} {i : Nat} (h : i < xs.length) : dIx (.lst (xs.map .str)) (.int (i : Int)) = some (.str xs[i]) := by
  show atI _ _ = _
  rw [atI_natL (by simpa using h)]
  simp
structure Dk (ds : List Int) : Prop where
  ln : ds.length = 128
  b0 : ∃ n : Nat, ds[0]? = some (n : Int) ∧ n < 4
def zs128 : List Int := [4, 40] ++ (List.replicate 63 [2, 192]).flatten
theorem zs128_ev (sv : SV) : (m2 dAdd (mLst (mCons (mC (.int 4)) (mCons (mC (.int 40)) mNil))) (m2 dRep (mLst (mCons (mC (.int 2)) (mCons (mC (.int 192)) mNil))) (mC (.int 63)))) sv = .ok (.lst (zs128.map .int)) sv := rfl
theorem zs128_sz : ∀ z ∈ zs128, SizeOk z := by
  unfold SizeOk
  have : zs128.all (fun z => decide (0 < z ∧ z < 1000)) = true := by decide +kernel
  intro z hz
  have h := List.all_eq_true.mp this z hz
  exact of_decide_eq_true h
theorem zs128_len : zs128.length = 128 := by decide +kernel
/-! ### the plain law -/
abbrev caps : Str := "ABCDEFGHIJKLMNOPQRSTUVWXYZ"
def cap (w : Str) : Bool := match w.cps.toList with
  | [] => false
  | c :: _ => strIn ⟨#[c]⟩ caps
/-- the triples of one token -/
def piece (k : Nat) (s : Int) : Tk → List (Nat × Int × Str)
  | .row ws => ws.map fun w => (k, s, w)
  | .wd w => if cap w = true then [(k, s, w)] else []
def trs : Nat → List Int → List Tk → List (Nat × Int × Str)
  | k, s :: ss, t :: r => piece k s t ++ trs (k + 1) ss r
  | _, _, _ => []
/-- the sign at each token -/
def tops : List Int → List Tk → List Int
  | s :: st, .wd _ :: r => s :: tops st r
  | s :: st, .row _ :: r => s :: tops (-s :: s :: st) r
  | _, _ => []
def trD (x : Nat × Int × Str) : D := .tup [.int x.1, .int x.2.1, .str x.2.2]
theorem run_up (c : Nat) : ∀ (a : List Tk) (p q : Nat), run p a = some q → run (p + c) a = some (q + c)
  | [], p, q, h => by cases h; rfl
  | _ :: _, 0, q, h => by cases h
  | .wd _ :: r, p + 1, q, h => by
    rw [show p + 1 + c = (p + c) + 1 by omega]
    exact run_up c r p q h
  | .row _ :: r, p + 1, q, h => by
    rw [show p + 1 + c = (p + c) + 1 by omega]
    show run (p + c + 2) r = _
    rw [show p + c + 2 = p + 2 + c by omega]
    exact run_up c r (p + 2) q h
theorem tops_len : ∀ (a : List Tk) (st : List Int) (q : Nat), run st.length a = some q → (tops st a).length = a.length
  | [], st, q, h => by cases st <;> rfl
  | .wd _ :: r, [], q, h => by cases h
  | .row _ :: r, [], q, h => by cases h
  | .wd _ :: r, s :: st, q, h => by
    show (s :: tops st r).length = _
    simp [tops_len r st q h]
  | .row _ :: r, s :: st, q, h => by
    show (s :: tops (-s :: s :: st) r).length = _
    simp [tops_len r (-s :: s :: st) q h]
theorem tops_app : ∀ (a b : List Tk) (st R : List Int), run st.length a = some 0 → tops (st ++ R) (a ++ b) = tops st a ++ tops R b
  | [], b, [], R, h => by cases R <;> rfl
  | [], b, _ :: _, R, h => by cases h
  | .wd _ :: r, b, [], R, h => by cases h
  | .row _ :: r, b, [], R, h => by cases h
  | .wd _ :: r, b, s :: st, R, h => by
    show s :: tops (st ++ R) (r ++ b) = s :: tops st r ++ tops R b
    rw [tops_app r b st R h]
    rfl
  | .row _ :: r, b, s :: st, R, h => by
    show s :: tops ((-s :: s :: st) ++ R) (r ++ b) = s :: tops (-s :: s :: st) r ++ tops R b
    rw [tops_app r b (-s :: s :: st) R h]
    rfl
theorem tops_mul (c : Int) : ∀ (a : List Tk) (st : List Int), tops (st.map (· * c)) a = (tops st a).map (· * c)
  | [], st => by cases st <;> rfl
  | .wd _ :: r, [] => rfl
  | .row _ :: r, [] => rfl
  | .wd _ :: r, s :: st => by
    show s * c :: tops (st.map (· * c)) r = s * c :: (tops st r).map (· * c)
    rw [tops_mul c r st]
  | .row _ :: r, s :: st => by
    show s * c :: tops (-(s * c) :: s * c :: st.map (· * c)) r = s * c :: (tops (-s :: s :: st) r).map (· * c)
    rw [← tops_mul c r (-s :: s :: st)]
    simp [Int.neg_mul]
theorem trs_app : ∀ (a b : List Tk) (sa sb : List Int) (k : Nat), sa.length = a.length → trs k (sa ++ sb) (a ++ b) = trs k sa a ++ trs (k + a.length) sb b
  | [], b, [], sb, k, h => by simp [trs]
  | [], b, _ :: _, sb, k, h => by cases h
  | _ :: _, b, [], sb, k, h => by cases h
  | t :: a, b, s :: sa, sb, k, h => by
    show piece k s t ++ trs (k + 1) (sa ++ sb) (a ++ b) = (piece k s t ++ trs (k + 1) sa a) ++ trs (k + (a.length + 1)) sb b
    rw [trs_app a b sa sb (k + 1) (by simpa using h), List.append_assoc, show k + 1 + a.length = k + (a.length + 1) by omega]
def mv (c : Nat) (t : Int) (x : Nat × Int × Str) : Nat × Int × Str := (x.1 + c, x.2.1 * t, x.2.2)
theorem trs_mv (c : Nat) (t : Int) : ∀ (a : List Tk) (ss : List Int) (k : Nat), trs (k + c) (ss.map (· * t)) a = (trs k ss a).map (mv c t)
  | [], ss, k => by cases ss <;> rfl
  | _ :: _, [], k => rfl
  | x :: a, s :: ss, k => by
    show piece (k + c) (s * t) x ++ trs (k + c + 1) (ss.map (· * t)) a = (piece k s x ++ trs (k + 1) ss a).map (mv c t)
    rw [show k + c + 1 = k + 1 + c by omega, trs_mv c t a ss (k + 1), List.map_append]
    congr 1
    cases x with
    | row ws => simp [piece, mv]
    | wd w => simp only [piece]; split <;> simp [mv]
theorem joined_law {one two : List Tk} {ar : List Str} (h1 : run 1 one = some 0) (h2 : run 1 two = some 0) :
    run 1 (.row ar :: (one ++ two)) = some 0 ∧ trs 0 (tops [1] (.row ar :: (one ++ two))) (.row ar :: (one ++ two)) = ar.map (fun w => (0, 1, w)) ++ (trs 0 (tops [1] one) one).map (mv 1 (-1)) ++ (trs 0 (tops [1] two) two).map (mv (1 + one.length) 1) := by
  have r2 : run 2 one = some 1 := run_up 1 one 1 0 h1
  constructor
  · show run 2 (one ++ two) = some 0
    rw [run_app, r2]
    exact h2
  · show ar.map (fun w => (0, 1, w)) ++ trs 1 (tops [-1, 1] (one ++ two)) (one ++ two) = _
    have e : tops [-1, 1] (one ++ two) = tops [-1] one ++ tops [1] two := tops_app one two [-1] [1] h1
    rw [e, trs_app one two _ _ 1 (tops_len one [-1] 0 h1), List.append_assoc]
    have e1 : tops [-1] one = (tops [1] one).map (· * (-1)) := (show tops [-1] one = tops ([1].map (· * (-1))) one from rfl).trans (tops_mul (-1) one [1])
    have e2 : tops [1] two = (tops [1] two).map (· * 1) := by simp
    congr 1
    rw [e1, show (1 : Nat) = 0 + 1 from rfl, trs_mv 1 (-1) one _ 0]
    congr 1
    rw [e2, show 0 + 1 + one.length = 0 + (1 + one.length) by omega, trs_mv (1 + one.length) 1 two _ 0]
    simp
end VM

set_option Elab.async false
set_option linter.all false
set_option autoImplicit false
set_option maxRecDepth 100000
set_option maxHeartbeats 400000
namespace VM
open PySem PySem.Spec PyProof.Rows L2

/-! ### kinds as trees -/
inductive Kd where
  | wd (w : Str) | fn (r : List Str) (a b : Kd)
  deriving Inhabited
def Kd.fl : Kd → List Tk
  | .wd w => [.wd w]
  | .fn r a b => .row r :: (a.fl ++ b.fl)
def Kd.sz : Kd → Nat
  | .wd _ => 1
  | .fn _ a b => 1 + a.sz + b.sz
theorem Kd.fl_len : ∀ k : Kd, k.fl.length = k.sz
  | .wd _ => rfl
  | .fn _ a b => by simp [Kd.fl, Kd.sz, Kd.fl_len a, Kd.fl_len b]; omega
theorem Kd.sz_pos : ∀ k : Kd, 0 < k.sz
  | .wd _ => Nat.one_pos
  | .fn _ a b => by simp [Kd.sz]; omega
/-- the kinds that stand one behind another -/
def fp : List Tk → List Kd
  | [] => []
  | .wd w :: r => .wd w :: fp r
  | .row ws :: r => match fp r with
    | a :: b :: q => .fn ws a b :: q
    | _ => []
theorem fp_fl : ∀ (k : Kd) (r : List Tk), fp (k.fl ++ r) = k :: fp r
  | .wd w, r => rfl
  | .fn ws a b, r => by
    show fp (.row ws :: ((a.fl ++ b.fl) ++ r)) = _
    rw [List.append_assoc]
    show (match fp (a.fl ++ (b.fl ++ r)) with
      | a :: b :: q => Kd.fn ws a b :: q
      | _ => []) = _
    rw [fp_fl a, fp_fl b]
theorem run_fp : ∀ (ts : List Tk) (q : Nat), run q ts = some 0 → (fp ts).length = q ∧ (fp ts).flatMap Kd.fl = ts
  | [], q, h => by cases h; exact ⟨rfl, rfl⟩
  | _ :: _, 0, h => by cases h
  | .wd w :: r, q + 1, h => by
    obtain ⟨h1, h2⟩ := run_fp r q h
    exact ⟨by simp [fp, h1], by simp [fp, h2, Kd.fl]⟩
  | .row ws :: r, q + 1, h => by
    obtain ⟨h1, h2⟩ := run_fp r (q + 2) h
    unfold fp
    match e : fp r, h1 with
    | a :: b :: s, h1 =>
      rw [e] at h2
      refine ⟨by simpa using h1, ?_⟩
      rw [← h2]
      simp [Kd.fl]
theorem kd_of {ts : List Tk} (h : run 1 ts = some 0) : ∃ k : Kd, ts = k.fl := by
  obtain ⟨h1, h2⟩ := run_fp ts 1 h
  match e : fp ts, h1 with
  | [k], _ =>
    rw [e] at h2
    exact ⟨k, by simpa using h2.symm⟩
theorem run_fl : ∀ (k : Kd) (r : List Tk) (q : Nat), run (q + 1) (k.fl ++ r) = run q r
  | .wd w, r, q => rfl
  | .fn ws a b, r, q => by
    show run (q + 2) ((a.fl ++ b.fl) ++ r) = _
    rw [List.append_assoc, run_fl a, run_fl b]
theorem run_kd (k : Kd) : run 1 k.fl = some 0 := by
  have := run_fl k [] 0
  rw [List.append_nil] at this
  exact this
/-- the kind at a place -/
inductive At : Kd → Nat → Kd → Prop where
  | here {k : Kd} : At k 0 k
  | left {r : List Str} {a b t : Kd} {i : Nat} (h : At a i t) : At (.fn r a b) (1 + i) t
  | right {r : List Str} {a b t : Kd} {i : Nat} (h : At b i t) : At (.fn r a b) (1 + a.sz + i) t
theorem At.bound {k t : Kd} {i : Nat} (h : At k i t) : i + t.sz ≤ k.sz := by
  induction h with
  | here => omega
  | left _ ih => simp only [Kd.sz]; omega
  | right _ ih => simp only [Kd.sz]; omega
theorem At.lt {k t : Kd} {i : Nat} (h : At k i t) : i < k.sz := by have := h.bound; have := t.sz_pos; omega
theorem at_ex : ∀ (k : Kd) (i : Nat), i < k.sz → ∃ t, At k i t
  | .wd w, i, h => by
    have : i = 0 := by simp [Kd.sz] at h; omega
    subst this
    exact ⟨_, .here⟩
  | .fn r a b, i, h => by
    simp only [Kd.sz] at h
    rcases Nat.lt_trichotomy i 0 with h0 | h0 | h0
    · omega
    · subst h0; exact ⟨_, .here⟩
    · by_cases h1 : i < 1 + a.sz
      · obtain ⟨t, ht⟩ := at_ex a (i - 1) (by omega)
        have e : i = 1 + (i - 1) := by omega
        rw [e]
        exact ⟨t, .left ht⟩
      · obtain ⟨t, ht⟩ := at_ex b (i - (1 + a.sz)) (by omega)
        have e : i = 1 + a.sz + (i - (1 + a.sz)) := by omega
        rw [e]
        exact ⟨t, .right ht⟩
/-- the tokens from there on -/
theorem At.split {k t : Kd} {i : Nat} (h : At k i t) : ∃ p q, k.fl = p ++ (t.fl ++ q) ∧ p.length = i := by
  induction h with
  | @here k => exact ⟨[], [], by simp, rfl⟩
  | @left r a b t i _ ih =>
    obtain ⟨p, q, h1, h2⟩ := ih
    exact ⟨.row r :: p, q ++ b.fl, by simp [Kd.fl, h1], by simp [h2]; omega⟩
  | @right r a b t i _ ih =>
    obtain ⟨p, q, h1, h2⟩ := ih
    exact ⟨.row r :: (a.fl ++ p), q, by simp [Kd.fl, h1], by simp [h2, Kd.fl_len]; omega⟩
theorem At.drop {k t : Kd} {i : Nat} (h : At k i t) : ∃ q, k.fl.drop i = t.fl ++ q := by
  obtain ⟨p, q, h1, h2⟩ := h.split
  exact ⟨q, by rw [h1, ← h2]; simp⟩
theorem At.uniq {k t t' : Kd} {i : Nat} (h : At k i t) (h' : At k i t') : t = t' := by
  obtain ⟨q, h1⟩ := h.drop
  obtain ⟨q', h2⟩ := h'.drop
  have e1 := congrArg fp h1
  have e2 := congrArg fp h2
  rw [fp_fl] at e1 e2
  rw [e1] at e2
  exact (List.cons.inj e2).1
theorem At.tok_wd {k : Kd} {i : Nat} {w : Str} (h : At k i (.wd w)) : k.fl[i]? = some (.wd w) := by
  obtain ⟨p, q, h1, h2⟩ := h.split
  rw [h1, ← h2, List.getElem?_append_right (Nat.le_refl _), Nat.sub_self]
  rfl
theorem At.tok_fn {k : Kd} {i : Nat} {r : List Str} {a b : Kd} (h : At k i (.fn r a b)) : k.fl[i]? = some (.row r) := by
  obtain ⟨p, q, h1, h2⟩ := h.split
  rw [h1, ← h2, List.getElem?_append_right (Nat.le_refl _), Nat.sub_self]
  rfl
theorem At.trans {k t u : Kd} {i j : Nat} (h : At k i t) (h' : At t j u) : At k (i + j) u := by
  induction h with
  | here => rw [Nat.zero_add]; exact h'
  | left _ ih => rw [Nat.add_assoc]; exact .left (ih h')
  | right _ ih => rw [Nat.add_assoc]; exact .right (ih h')
theorem At.l {k : Kd} {i : Nat} {r : List Str} {a b : Kd} (h : At k i (.fn r a b)) : At k (i + 1) a := h.trans (.left .here)
theorem At.r {k : Kd} {i : Nat} {r : List Str} {a b : Kd} (h : At k i (.fn r a b)) : At k (i + 1 + a.sz) b := by
  have := h.trans (.right .here)
  rwa [show i + (1 + a.sz + 0) = i + 1 + a.sz by omega] at this
theorem At.cut {k t : Kd} {i : Nat} (h : At k i t) : (k.fl.drop i).take t.sz = t.fl := by
  obtain ⟨q, h1⟩ := h.drop
  rw [h1, ← Kd.fl_len, List.take_append_of_le_length (Nat.le_refl _), List.take_length]
theorem Kd.tok : ∀ k : Kd, (∃ w, k = .wd w ∧ k.fl = [.wd w]) ∨ ∃ r a b, k = .fn r a b
  | .wd w => .inl ⟨w, rfl, rfl⟩
  | .fn r a b => .inr ⟨r, a, b, rfl⟩

/-! ### what can be told by repr -/
structure Rk (d : D) (w dp : Nat) : Prop where
  h : ∃ q, py d = some q ∧ q.showable = true ∧ q.hasDict = false ∧ q.depth ≤ dp ∧ q.leavesShort 60 = true ∧ q.weight ≤ w
structure RkL (ds : List D) (w dp : Nat) : Prop where
  h : ∃ qs, pyL ds = some qs ∧ PyData.showableAll qs = true ∧ PyData.hasDictAll qs = false ∧ PyData.depthAll qs ≤ dp ∧ PyData.leavesShortAll 60 qs = true ∧ PyData.weightAll qs ≤ w
theorem Rk.mono {d : D} {w w' dp dp' : Nat} (h : Rk d w dp) (h1 : w ≤ w') (h2 : dp ≤ dp') : Rk d w' dp' := by
  obtain ⟨q, a, b, c, e, f, g⟩ := h.h
  exact ⟨q, a, b, c, by omega, f, by omega⟩
theorem RkL.mono {d : List D} {w w' dp dp' : Nat} (h : RkL d w dp) (h1 : w ≤ w') (h2 : dp ≤ dp') : RkL d w' dp' := by
  obtain ⟨q, a, b, c, e, f, g⟩ := h.h
  exact ⟨q, a, b, c, by omega, f, by omega⟩
theorem RkL.nil : RkL [] 0 0 := ⟨[], rfl, rfl, rfl, Nat.le_refl _, rfl, Nat.le_refl _⟩
theorem RkL.cons {d : D} {ds : List D} {w w' dp : Nat} (h : Rk d w dp) (h' : RkL ds w' dp) : RkL (d :: ds) (w + 1 + w') dp := by
  obtain ⟨q, a, b, c, e, f, g⟩ := h.h
  obtain ⟨qs, a', b', c', e', f', g'⟩ := h'.h
  refine ⟨q :: qs, by simp only [pyL, a, a'], by simp only [PyData.showableAll, b, b', Bool.and_self], by simp only [PyData.hasDictAll, c, c', Bool.or_self], ?_, by simp only [PyData.leavesShortAll, f, f', Bool.and_self], ?_⟩
  · simp only [PyData.depthAll]; omega
  · simp only [PyData.weightAll]; omega
theorem RkL.all {w dp : Nat} : ∀ {ds : List D}, (∀ d ∈ ds, Rk d w dp) → RkL ds ((w + 1) * ds.length) dp
  | [], _ => RkL.nil.mono (Nat.zero_le _) (Nat.zero_le _)
  | d :: ds, h => ((RkL.cons (h d List.mem_cons_self) (RkL.all fun x hx => h x (List.mem_cons_of_mem _ hx))).mono (by
      rw [List.length_cons, Nat.mul_add, Nat.mul_one]
      omega) (Nat.le_refl _))
theorem Rk.non : Rk .non 0 0 := ⟨.none, rfl, rfl, rfl, Nat.le_refl _, rfl, Nat.le_refl _⟩
theorem Rk.bl (b : Bool) : Rk (.bl b) 0 0 := ⟨.bool b, rfl, rfl, rfl, Nat.le_refl _, rfl, Nat.le_refl _⟩
theorem Rk.str {z : Str} (h : ∀ c ∈ z.cps.toList, c < 16 ^ 8) : Rk (.str z) z.length 0 := ⟨.str z, rfl, rfl, rfl, Nat.le_refl _, by
  simp only [PyData.leavesShort]
  exact List.all_eq_true.mpr fun c hc => decide_eq_true (h c hc), Nat.le_refl _⟩
theorem Rk.nat {n : Nat} (h : n < 10 ^ 50) : Rk (.int n) 180 0 := by
  have l1 : (n : Int).natAbs.log2 < 170 := by
    rw [Int.natAbs_natCast]
    by_cases h0 : n = 0
    · subst h0; decide
    · exact (Nat.log2_lt h0).mpr (Nat.lt_trans h (by decide))
  refine ⟨.int n, rfl, ?_, rfl, Nat.le_refl _, ?_, ?_⟩
  · simp only [PyData.showable]
    exact decide_eq_true (by omega)
  · have := toString_length_le (v := (n : Int)) (by omega) (k := 50) (by decide) (by exact_mod_cast h)
    simp only [PyData.leavesShort]
    have e : PyData.shown (.int (n : Int)) = Str.ofString (toString (n : Int)) := rfl
    rw [e]
    exact decide_eq_true (by omega)
  · simp only [PyData.weight]
    split <;> omega
theorem Rk.m1 : Rk (.int (-1)) 180 0 := ⟨.int (-1), rfl, by decide, rfl, Nat.le_refl _, by decide +kernel, by decide⟩
theorem Rk.tup {ds : List D} {w dp : Nat} (h : RkL ds w dp) : Rk (.tup ds) w (dp + 1) := by
  obtain ⟨qs, a', b', c', e', f', g'⟩ := h.h
  exact ⟨.tuple qs, by simp only [py, a', Option.map_some], b', c', by simp only [PyData.depth]; omega, f', g'⟩
theorem Rk.lst {ds : List D} {w dp : Nat} (h : RkL ds w dp) : Rk (.lst ds) w (dp + 1) := by
  obtain ⟨qs, a', b', c', e', f', g'⟩ := h.h
  exact ⟨.list qs, by simp only [py, a', Option.map_some], b', c', by simp only [PyData.depth]; omega, f', g'⟩
theorem repr_of {d : D} {w dp : Nat} (h : Rk d w dp) (h1 : w ≤ 200000) (h2 : dp ≤ 60) : ∃ z, dRepr [d] = some (.str z) := by
  obtain ⟨q, a, b, c, e, f, g⟩ := h.h
  have sz := PyData.shown_le 60 (by decide) q f
  have hr : reprOk q = true := by
    unfold reprOk
    rw [b, c, decide_eq_true (by omega : q.depth ≤ 60)]
    have : q.shown.length ≤ sizeLine := by
      rw [sizeLine_eq]
      have : (60 + 2) * q.weight ≤ 62 * 200000 := Nat.mul_le_mul_left 62 (by omega)
      omega
    rw [decide_eq_true this]
    rfl
  refine ⟨q.shown, ?_⟩
  unfold dRepr
  dsimp only
  rw [a]
  dsimp only
  rw [if_pos hr]

/-! ### kinds as data -/
theorem alnum_small : ∀ c ∈ alnum, c < 16 ^ 8 := by
  have : alnum.all (fun c => decide (c < 16 ^ 8)) = true := by decide +kernel
  intro c hc
  have h := List.all_eq_true.mp this c hc
  exact of_decide_eq_true h
theorem Gw.rk {w : Str} (h : Gw w) : Rk (.str w) 12 0 := (Rk.str fun c hc => alnum_small c (h.al c hc)).mono h.ln (Nat.le_refl _)
theorem row_rk {ws : List Str} (h : ∀ w ∈ ws, Gw w) (hl : ws.length ≤ 6) : Rk (.tup (ws.map .str)) 78 1 := Rk.mono (.tup (RkL.all (w := 12) (dp := 0) fun d hd => by
  obtain ⟨w, hw, rfl⟩ := List.mem_map.mp hd
  exact (h w hw).rk)) (by rw [List.length_map]; omega) (by omega)
theorem tk_rk {t : Tk} (h : Gt t) : Rk t.d 78 1 := by
  cases t with
  | row ws => exact row_rk h.2 h.1
  | wd w => exact (Gw.rk h).mono (by omega) (by omega)
theorem toks_rk {ts : List Tk} (h : ∀ t ∈ ts, Gt t) : Rk (.tup (ts.map Tk.d)) (79 * ts.length) 2 := Rk.mono (.tup (RkL.all (w := 78) (dp := 1) fun d hd => by
  obtain ⟨t, ht, rfl⟩ := List.mem_map.mp hd
  exact tk_rk (h t ht))) (by rw [List.length_map]; omega) (by omega)
abbrev Kd.d (k : Kd) : D := .tup (k.fl.map Tk.d)
/-- its words are right -/
def Kd.Ok (k : Kd) : Prop := ∀ t ∈ k.fl, Gt t
theorem Kd.rk {k : Kd} (h : k.Ok) : Rk k.d (79 * k.sz) 2 := by
  have := toks_rk h
  rwa [k.fl_len] at this
theorem At.ok {k t : Kd} {i : Nat} (h : At k i t) (hk : k.Ok) : t.Ok := by
  obtain ⟨p, q, h1, _⟩ := h.split
  intro x hx
  exact hk x (by rw [h1]; simp [hx])

theorem Ans.cmp {r : FR} {P : D → Prop} (h : Ans r P) : Cmp r P fun _ => False := ⟨.inl h.eq⟩
/-! ### a def that changes an argument -/
structure CmpI (r : FR) (P : D → D → Prop) : Prop where
  h : ∃ d o, r = .ok d (some o) ∧ P d o
def RtI (ro : Bool) (k : Nat) (P : D → D → Prop) : O → Prop
  | .nx s => ro = false ∧ ∃ j o, s[k]? = some (.io j o) ∧ P .non o
  | .rt d s => ro = false ∧ ∃ j o, s[k]? = some (.io j o) ∧ P d o
  | .ro d s => ro = true ∧ ∃ j o, s[k]? = some (.io j o) ∧ P d o
  | _ => False
theorem cmpI_of {n k : Nat} {ro : Bool} {body : MS} {ds : List D} {P : D → D → Prop} (h : Wp (body (initA (some k) 0 ds ++ List.replicate (n - ds.length) .un)) (RtI ro k P)) : CmpI (fnOf n (some k) ro body ds) P := by
  obtain ⟨h⟩ := h
  unfold fnOf outS
  cases hb : body (initA (some k) 0 ds ++ List.replicate (n - ds.length) .un) with
  | nx s => rw [hb] at h; obtain ⟨rfl, j, o, h1, h⟩ := h; dsimp only; rw [h1]; exact ⟨_, o, rfl, h⟩
  | rt d s => rw [hb] at h; obtain ⟨rfl, j, o, h1, h⟩ := h; dsimp only; rw [h1]; exact ⟨_, o, rfl, h⟩
  | ro d s => rw [hb] at h; obtain ⟨rfl, j, o, h1, h⟩ := h; dsimp only; rw [h1]; exact ⟨_, o, rfl, h⟩
  | err x s => rw [hb] at h; exact h.elim
  | bk s => rw [hb] at h; exact h.elim
  | ct s => rw [hb] at h; exact h.elim
  | bad => rw [hb] at h; exact h.elim
theorem w_irt {k : Nat} {P : D → D → Prop} {d : D} {s : SV} : Wp (.rt d s) (RtI false k P) = ∃ j o, s[k]? = some (.io j o) ∧ P d o := propext ⟨fun h => h.h.2, fun h => ⟨rfl, h⟩⟩
theorem w_inx {k : Nat} {P : D → D → Prop} {s : SV} : Wp (.nx s) (RtI false k P) = ∃ j o, s[k]? = some (.io j o) ∧ P .non o := propext ⟨fun h => h.h.2, fun h => ⟨rfl, h⟩⟩
theorem w_iro {k : Nat} {P : D → D → Prop} {d : D} {s : SV} : Wp (.ro d s) (RtI true k P) = ∃ j o, s[k]? = some (.io j o) ∧ P d o := propext ⟨fun h => h.h.2, fun h => ⟨rfl, h⟩⟩
theorem drop_hd {α : Type} {xs : List α} {n : Nat} {x : α} {r : List α} (h : xs.drop n = x :: r) : xs[n]? = some x ∧ xs.drop (n + 1) = r := by
  have h1 := congrArg (fun l => l[0]?) h
  have h2 := congrArg (fun l => l.drop 1) h
  simp only [List.getElem?_drop, List.drop_drop] at h1 h2
  exact ⟨by simpa using h1, by simpa using h2⟩
def Kd.isFn : Kd → Bool
  | .wd _ => false
  | .fn _ _ _ => true
def Kd.depth : Kd → Nat
  | .wd _ => 0
  | .fn _ a b => 1 + max a.depth b.depth
theorem hd0 (k : Kd) : ∃ t r, k.fl = t :: r ∧ (k.fl.map Tk.d)[0]? = some t.d ∧ isi "tuple" t.d = some (.bl k.isFn) := by
  cases k with
  | wd w => exact ⟨_, _, rfl, rfl, q_isi_ts _⟩
  | fn r a b => exact ⟨_, _, rfl, rfl, q_isi_tt _⟩
theorem take_fl (a b : Kd) (rest : List Tk) : (a.fl ++ rest).take a.sz = a.fl := by rw [← a.fl_len, List.take_append_of_le_length (Nat.le_refl _), List.take_length]
theorem drop_fl (a : Kd) (rest : List Tk) : (a.fl ++ rest).drop a.sz = rest := by rw [← a.fl_len]; simp
abbrev lower : Str := "abcdefghijklmnopqrstuvwxyz"
abbrev res : List Str := ["fun", "of", "case", "ask", "keep", "under", "as", "to", "with", "gives", "data", "maker"]
def wlB (fs : List Nat) (n : Nat) (w : Str) : Bool := match w.cps.toList with
  | [] => false
  | c :: r => fs.contains c && (c :: r).all (fun x => alnum.contains x) && decide (w.length ≤ n)
theorem wlB_ok {fs : List Nat} {n : Nat} {w : Str} (h : wlB fs n w = true) : Wl fs n w := by
  unfold wlB at h
  split at h
  · cases h
  · rename_i c r e
    simp only [Bool.and_eq_true, List.all_eq_true, decide_eq_true_eq] at h
    obtain ⟨⟨h1, h2⟩, h3⟩ := h
    exact ⟨⟨c, r, e, List.contains_iff_mem.mp h1⟩, fun x hx => List.contains_iff_mem.mp (h2 x (e ▸ hx)), h3⟩
theorem res_ok : ∀ w ∈ res, Wl lower.cps.toList 12 w := by
  have : res.all (fun w => wlB lower.cps.toList 12 w) = true := by decide +kernel
  intro w hw
  exact wlB_ok (List.all_eq_true.mp this w hw)
theorem fs_lower : Fs lower := ⟨by decide +kernel, by
  have : lower.cps.toList.all (fun x => alnum.contains x) = true := by decide +kernel
  intro c hc
  exact List.contains_iff_mem.mp (List.all_eq_true.mp this c hc)⟩
theorem fs_caps : Fs caps := ⟨by decide +kernel, by
  have : caps.cps.toList.all (fun x => alnum.contains x) = true := by decide +kernel
  intro c hc
  exact List.contains_iff_mem.mp (List.all_eq_true.mp this c hc)⟩
theorem low_cap {w : Str} (h : Wl lower.cps.toList 12 w) : cap w = false := by
  obtain ⟨c, r, e, hc⟩ := h.hd
  have : lower.cps.toList.all (fun x => !strIn ⟨#[x]⟩ caps) = true := by decide +kernel
  have q := List.all_eq_true.mp this c hc
  unfold cap
  rw [e]
  simpa using q
theorem cap_cap {w : Str} (h : Wl caps.cps.toList 12 w) : cap w = true := by
  obtain ⟨c, r, e, hc⟩ := h.hd
  have : caps.cps.toList.all (fun x => strIn ⟨#[x]⟩ caps) = true := by decide +kernel
  have q := List.all_eq_true.mp this c hc
  unfold cap
  rw [e]
  exact q
theorem upper_lower : dUpper (.str lower) = some (.str caps) := by
  have h1 : lower.length ≤ 5592405 := by decide +kernel
  have h2 : Txt.upper lower = caps := by decide +kernel
  unfold dUpper
  dsimp only
  rw [if_pos h1, h2]

theorem sorted_of {ws : List Str} (h : ws.length < 64) : dSorted [.lst (ws.map .str)] = some (.lst ((sortS ws).map .str)) := by
  unfold dSorted
  dsimp only
  rw [strs_map]
  dsimp only
  rw [if_pos h]
theorem sort_perm (ws : List Str) : (sortS ws).Perm ws := List.mergeSort_perm _ _
/-- digits -/
theorem dig {ds : List Int} {zs : List Int} (hl : ds.length = zs.length) (hb : ∀ (i : Nat) (z e : Int), zs[i]? = some z → ds[i]? = some e → 0 ≤ e ∧ e < z) {i : Nat} {z : Int} (hz : zs[i]? = some z) : ∃ n : Nat, ds[i]? = some (n : Int) ∧ (n : Int) < z := by
  obtain ⟨h1, _⟩ := List.getElem?_eq_some_iff.mp hz
  have e1 : ds[i]? = some (ds[i]'(by omega)) := List.getElem?_eq_getElem (by omega)
  obtain ⟨b1, b2⟩ := hb i z _ hz e1
  refine ⟨(ds[i]'(by omega)).toNat, ?_, ?_⟩
  · rw [e1, Int.toNat_of_nonneg b1]
  · rw [Int.toNat_of_nonneg b1]; exact b2
theorem at_mem {α : Type} {xs : List α} {n : Nat} (h : n < xs.length) : ∃ x, x ∈ xs ∧ xs[n]? = some x := ⟨_, List.getElem_mem h, List.getElem?_eq_getElem h⟩
theorem mod_nat (n m : Nat) : (n : Int) % (m : Int) = ((n % m : Nat) : Int) := by omega
end VM

set_option Elab.async false
set_option linter.all false
set_option autoImplicit false
set_option maxRecDepth 100000
set_option maxHeartbeats 400000
namespace VM.K02
open PySem PySem.Spec PyProof.Rows L2 VM
noncomputable section
abbrev errTop : Str := "OwnleftError"
abbrev errNs : List Str := ["OwnleftError", "BadWord", "Twice", "BadKind", "Unknown", "BadPlace", "Misfit", "NoStep", "NotPlain", "NoWay", "BadRing", "BadText", "BadPaper", "Clash", "RowClash", "NotQuiet", "NothingToUndo", "NothingToRedo"]
def m_is_whole : MS :=
  (mRet (mAndV (m1 (isi "int") (mRd 0)) (m1 dNot (m1 (isi "bool") (mRd 0)))))
def F_is_whole : Fn := fnOf 1 none false m_is_whole
def b_kind_ends_0 : MS :=
  (mSeq (mAsg 3 (m2 (dI2 cSub) (m2 (dI2 cSub) (mCall1 dLen (mCons (mRd 0) mNil)) (mC (.int 1))) (mRd 2)))
  (mSeq (mPut 1 (m2 dAdd (mRd 3) (mC (.int 1))) (mRd 3))
  (mIfS (mB (m1 (isi "tuple") (m2 dIx (mRd 0) (mRd 3)))) (mPut 1 (mWith lfree 1 (m2 dIx (mRd 1) (m2 dIx (mRd 1) (m2 dAdd (mRd 3) (mC (.int 1)))))) (mRd 3)) mSkip)))
def f_kind_ends_1 : MS :=
  (mFor (mRng1 (mCons (mCall1 dLen (mCons (mRd 0) mNil)) mNil)) (mtN 2) b_kind_ends_0)
def m_kind_ends : MS :=
  (mSeq (mAsgO 1 (m2 dRep (mLst (mCons (mC (.int 0)) mNil)) (mCall1 dLen (mCons (mRd 0) mNil))))
  (mSeq f_kind_ends_1
  (mRet (mCall1 dTuple (mCons (mMv 1) mNil)))))
def F_kind_ends : Fn := fnOf 4 none false m_kind_ends
def b_signs_of_0 : MS :=
  (mIfS (mB (m1 (isi "tuple") (mRd 4))) (mSeq (mPut 2 (m1 dNeg (mWith lfree 2 (m2 dIx (mRd 2) (mRd 3)))) (m2 dAdd (mRd 3) (mC (.int 1))))
  (mPut 2 (mWith lfree 2 (m2 dIx (mRd 2) (mRd 3))) (m2 dIx (mRd 1) (m2 dAdd (mRd 3) (mC (.int 1)))))) mSkip)
def f_signs_of_1 : MS :=
  (mFor (mEnum (mCons (mRd 0) mNil)) (mtTup 2 (mtCons (mtN 3) (mtCons (mtN 4) mtNil))) b_signs_of_0)
def m_signs_of : MS :=
  (mSeq (mAsg 1 (mCall 1 F_kind_ends [] (mCons (mRd 0) mNil)))
  (mSeq (mAsgO 2 (m2 dRep (mLst (mCons (mC (.int 1)) mNil)) (mCall1 dLen (mCons (mRd 0) mNil))))
  (mSeq f_signs_of_1
  (mRet (mCall1 dTuple (mCons (mMv 2) mNil))))))
def F_signs_of : Fn := fnOf 5 none false m_signs_of
def m_check_place : MS :=
  (mIfS (mOr (mNot (mB (mCall 1 F_is_whole [] (mCons (mRd 1) mNil)))) (mOr (mB (m2 (dCmp ciLt csLt) (mRd 1) (mC (.int 0)))) (mB (m2 (dCI ciGe) (mRd 1) (mCall1 dLen (mCons (mRd 0) mNil)))))) (mRaise "BadPlace" ["place"] (mCons (mRd 1) mNil)) mSkip)
def F_check_place : Fn := fnOf 2 none false m_check_place
def b_path_of_0 : MS :=
  (mIfS (mB (m1 (isi "tuple") (mRd 5))) (mSeq (mPut 3 (m2 dAdd (mWith lfree 3 (m2 dIx (mRd 3) (mRd 4))) (mC (.str "l"))) (m2 dAdd (mRd 4) (mC (.int 1))))
  (mPut 3 (m2 dAdd (mWith lfree 3 (m2 dIx (mRd 3) (mRd 4))) (mC (.str "r"))) (m2 dIx (mRd 2) (m2 dAdd (mRd 4) (mC (.int 1)))))) mSkip)
def f_path_of_1 : MS :=
  (mFor (mEnum (mCons (mRd 0) mNil)) (mtTup 2 (mtCons (mtN 4) (mtCons (mtN 5) mtNil))) b_path_of_0)
def m_path_of : MS :=
  (mSeq (mDrop (mCall 2 F_check_place [] (mCons (mRd 0) (mCons (mRd 1) mNil))))
  (mSeq (mAsg 2 (mCall 1 F_kind_ends [] (mCons (mRd 0) mNil)))
  (mSeq (mAsgO 3 (m2 dRep (mLst (mCons (mC (.str "")) mNil)) (mCall1 dLen (mCons (mRd 0) mNil))))
  (mSeq f_path_of_1
  (mRet (mWith lfree 3 (m2 dIx (mRd 3) (mRd 1))))))))
def F_path_of : Fn := fnOf 6 none false m_path_of
def b_place_of_0 : MS :=
  (mSeq (mIfS (mNot (mB (m1 (isi "tuple") (m2 dIx (mRd 0) (mRd 3))))) (mRaise "BadPlace" ["place"] (mCons (mRd 1) mNil)) mSkip)
  (mIfS (mB (m2 dEq (mRd 4) (mC (.str "l")))) (mAsg 3 (m2 dAdd (mRd 3) (mC (.int 1)))) (mAsg 3 (m2 dIx (mRd 2) (m2 dAdd (mRd 3) (mC (.int 1)))))))
def f_place_of_1 : MS :=
  (mFor (mItems (mRd 1)) (mtN 4) b_place_of_0)
def m_place_of : MS :=
  (mSeq (mAsg 2 (mCall 1 F_kind_ends [] (mCons (mRd 0) mNil)))
  (mSeq (mAsg 3 (mC (.int 0)))
  (mSeq f_place_of_1
  (mRet (mRd 3)))))
def F_place_of : Fn := fnOf 5 none false m_place_of
def m_kind_at : MS :=
  (mSeq (mDrop (mCall 2 F_check_place [] (mCons (mRd 0) (mCons (mRd 1) mNil))))
  (mRet (mSl (mRd 0) (moS (mRd 1)) (moS (m2 dIx (mCall 1 F_kind_ends [] (mCons (mRd 0) mNil)) (mRd 1))))))
def F_kind_at : Fn := fnOf 2 none false m_kind_at
def m_put_kind : MS :=
  (mSeq (mDrop (mCall 2 F_check_place [] (mCons (mRd 0) (mCons (mRd 1) mNil))))
  (mRet (m2 dAdd (m2 dAdd (mSl (mRd 0) moN (moS (mRd 1))) (mRd 2)) (mSl (mRd 0) (moS (m2 dIx (mCall 1 F_kind_ends [] (mCons (mRd 0) mNil)) (mRd 1))) moN))))
def F_put_kind : Fn := fnOf 3 none false m_put_kind
def b__law_cell_0 : MS :=
  (mAsg 2 (m2 (dI2 cMod) (mCall1 dInt (mCons (m2 dAdd (m2 (dI2 cMul) (mRd 2) (mC (.int 31))) (m2 (dI2 cMod) (mCall1 dInt (mCons (mRd 3) mNil)) (mC (.int 1000003)))) mNil)) (mC (.int 1000003))))
def f__law_cell_1 : MS :=
  (mFor (mItems (mRd 0)) (mtN 3) b__law_cell_0)
def m__law_cell : MS :=
  (mSeq (mIfS (mB (m2 (dCmp ciLt csLt) (mRd 1) (mCall1 dLen (mCons (mRd 0) mNil)))) (mRet (m2 dIx (mRd 0) (mRd 1))) mSkip)
  (mSeq (mAsg 2 (mC (.int 17)))
  (mSeq f__law_cell_1
  (mRet (m2 (dI2 cMod) (mCall1 dInt (mCons (m2 (dI2 cMul) (m2 (dI2 cMul) (m2 dAdd (mRd 2) (mC (.int 7))) (m2 dAdd (mRd 1) (mC (.int 3)))) (mC (.int 69621))) mNil)) (mC (.int 2147483647)))))))
def F__law_cell : Fn := fnOf 4 none false m__law_cell
def b__law_digits_0 : MS :=
  (mSeq (mApp 2 (m2 (dI2 cMod) (mCall1 dInt (mCons (mRd 3) mNil)) (mRd 4)))
  (mAsg 3 (m2 (dI2 cDiv) (mCall1 dInt (mCons (mRd 3) mNil)) (mRd 4))))
def f__law_digits_1 : MS :=
  (mFor (mItems (mRd 1)) (mtN 4) b__law_digits_0)
def b__law_digits_2 : MS :=
  (mSeq (mAsg 5 (m2 (dI2 cMod) (mCall1 dInt (mCons (m2 dAdd (m2 dAdd (m2 (dI2 cMul) (mRd 5) (mC (.int 48271))) (m2 (dI2 cMul) (mC (.int 974711)) (mRd 6))) (mC (.int 12345))) mNil)) (mC (.int 2147483647))))
  (mSeq (mAsg 7 (m2 (dI2 cMod) (mCall1 dInt (mCons (m2 (dI2 cMul) (mRd 5) (m2 dAdd (m2 (dI2 cDiv) (mRd 5) (mC (.int 65537))) (mC (.int 3)))) mNil)) (mC (.int 2147483629))))
  (mApp 2 (m2 (dI2 cMod) (m2 (dI2 cDiv) (mRd 7) (mC (.int 19))) (m2 dIx (mRd 1) (mRd 6))))))
def f__law_digits_3 : MS :=
  (mFor (mRng1 (mCons (mCall1 dLen (mCons (mRd 1) mNil)) mNil)) (mtN 6) b__law_digits_2)
def m__law_digits : MS :=
  (mSeq (mAsgO 2 (mLst mNil))
  (mSeq (mAsg 3 (mCall1 dInt (mCons (mRd 0) mNil)))
  (mSeq (mIfS (mB (m2 (dCI ciGe) (mRd 3) (m2 (dI2 cPow) (mC (.int 10)) (mC (.int 18))))) (mSeq (mAsg 3 (m2 (dI2 cSub) (mRd 3) (m2 (dI2 cPow) (mC (.int 10)) (mC (.int 18)))))
  (mSeq f__law_digits_1
  (mRetO (mTk 2)))) mSkip)
  (mSeq (mAsg 5 (m2 (dI2 cMod) (mCall1 dInt (mCons (mRd 3) mNil)) (mC (.int 2147483629))))
  (mSeq f__law_digits_3
  (mRetO (mTk 2)))))))
def F__law_digits : Fn := fnOf 8 none true m__law_digits
def m__law_reserved : MS :=
  (mRetO (mLst (mCons (mC (.str "fun")) (mCons (mC (.str "of")) (mCons (mC (.str "case")) (mCons (mC (.str "ask")) (mCons (mC (.str "keep")) (mCons (mC (.str "under")) (mCons (mC (.str "as")) (mCons (mC (.str "to")) (mCons (mC (.str "with")) (mCons (mC (.str "gives")) (mCons (mC (.str "data")) (mCons (mC (.str "maker")) mNil))))))))))))))
def F__law_reserved : Fn := fnOf 0 none true m__law_reserved
def b__law_word_0 : MS :=
  (mAsg 5 (m2 dAdd (mRd 5) (m2 dIx (mRd 4) (m2 dIx (mRd 0) (m2 dAdd (mC (.int 4)) (mRd 6))))))
def f__law_word_1 : MS :=
  (mFor (mRng1 (mCons (m2 dIx (mRd 0) (mC (.int 2))) mNil)) (mtN 6) b__law_word_0)
def i__law_word_2 : MS :=
  (mIfS (mB (m2 (dCI ciGt) (mCall1 dLen (mCons (mRd 1) mNil)) (mC (.int 0)))) (mSeq (mAsg 7 (m2 dIx (mRd 1) (m2 (dI2 cSub) (mCall1 dLen (mCons (mRd 1) mNil)) (mC (.int 1)))))
  (mSeq (mAsg 8 (m2 (dI2 cMod) (m2 dIx (mRd 0) (mC (.int 3))) (mCall1 dLen (mCons (mRd 7) mNil))))
  (mSeq (mIfS (mB (m2 dEq (m2 dIx (mRd 0) (mC (.int 0))) (mC (.int 3)))) (mAsg 5 (m2 dAdd (mSl (mRd 7) moN (moS (mC (.int 11)))) (m2 dIx (mRd 4) (m2 dIx (mRd 0) (mC (.int 4)))))) mSkip)
  (mSeq (mIfS (mAnd (mB (m2 dEq (m2 dIx (mRd 0) (mC (.int 0))) (mC (.int 4)))) (mB (m2 dEq (mRd 8) (mC (.int 0))))) (mAsg 5 (m2 dAdd (m2 dIx (mRd 2) (m2 dIx (mRd 0) (mC (.int 1)))) (mSl (mRd 7) (moS (mC (.int 1))) moN))) mSkip)
  (mSeq (mIfS (mAnd (mB (m2 dEq (m2 dIx (mRd 0) (mC (.int 0))) (mC (.int 4)))) (mB (m2 (dCI ciGt) (mRd 8) (mC (.int 0))))) (mAsg 5 (m2 dAdd (m2 dAdd (mSl (mRd 7) moN (moS (mRd 8))) (m2 dIx (mRd 4) (m2 dIx (mRd 0) (mC (.int 4))))) (mSl (mRd 7) (moS (m2 dAdd (mRd 8) (mC (.int 1)))) moN))) mSkip)
  (mIfS (mAnd (mB (m2 dEq (m2 dIx (mRd 0) (mC (.int 0))) (mC (.int 5)))) (mB (m2 (dCI ciGt) (mCall1 dLen (mCons (mRd 7) mNil)) (mC (.int 1))))) (mAsg 5 (mSl (mRd 7) moN (moS (m2 (dI2 cSub) (mCall1 dLen (mCons (mRd 7) mNil)) (mC (.int 1)))))) mSkip)))))) mSkip)
def b__law_word_3 : MS :=
  (mIfS (mOr (mB (m2 dIn (mRd 5) (mRd 1))) (mB (m2 dIn (mRd 5) (mRd 3)))) (mAsg 5 (m2 dAdd (mSl (mRd 5) moN (moS (mC (.int 11)))) (m2 dIx (mRd 4) (m2 (dI2 cMod) (mCall1 dInt (mCons (m2 dAdd (m2 dIx (mRd 0) (mC (.int 5))) (mRd 9)) mNil)) (mC (.int 62)))))) mSkip)
def f__law_word_4 : MS :=
  (mFor (mRng1 (mCons (m2 dAdd (m2 dAdd (mCall1 dLen (mCons (mRd 1) mNil)) (mCall1 dLen (mCons (mRd 3) mNil))) (mC (.int 1))) mNil)) (mtN 9) b__law_word_3)
def m__law_word : MS :=
  (mSeq (mAsg 4 (mC (.str "abcdefghijklmnopqrstuvwxyzABCDEFGHIJKLMNOPQRSTUVWXYZ0123456789")))
  (mSeq (mAsg 5 (m2 dIx (mRd 2) (m2 dIx (mRd 0) (mC (.int 1)))))
  (mSeq f__law_word_1
  (mSeq i__law_word_2
  (mSeq f__law_word_4
  (mRet (mRd 5)))))))
def F__law_word : Fn := fnOf 10 none false m__law_word
def b__law_words_0 : MS :=
  (mSeq (mIfS (mB (m2 dEq (m2 (dI2 cMod) (mRd 7) (mC (.int 5))) (mC (.int 0)))) (mAsg 6 (mCall 2 F__law_digits [] (mCons (mCall 2 F__law_cell [] (mCons (mRd 0) (mCons (m2 dAdd (mRd 1) (m2 (dI2 cDiv) (mRd 7) (mC (.int 5)))) mNil))) (mCons (m2 dRep (m2 dAdd (mLst (mCons (mC (.int 6)) (mCons (mC (.int 26)) (mCons (mC (.int 12)) (mCons (mC (.int 12)) mNil))))) (m2 dRep (mLst (mCons (mC (.int 62)) mNil)) (mC (.int 11)))) (mC (.int 5))) mNil)))) mSkip)
  (mApp 5 (mWith lfree 5 (mCall 4 F__law_word [] (mCons (mSl (mRd 6) (moS (m2 (dI2 cMul) (mC (.int 15)) (m2 (dI2 cMod) (mRd 7) (mC (.int 5))))) (moS (m2 dAdd (m2 (dI2 cMul) (mC (.int 15)) (m2 (dI2 cMod) (mRd 7) (mC (.int 5)))) (mC (.int 15))))) (mCons (mRd 5) (mCons (mRd 3) (mCons (mRd 4) mNil))))))))
def f__law_words_1 : MS :=
  (mFor (mRng1 (mCons (mRd 2) mNil)) (mtN 7) b__law_words_0)
def m__law_words : MS :=
  (mSeq (mAsgO 5 (mLst mNil))
  (mSeq (mAsg 6 (mLst mNil))
  (mSeq f__law_words_1
  (mRetO (mTk 5)))))
def F__law_words : Fn := fnOf 8 none true m__law_words
def b__law_subset_0 : MS :=
  (mSeq (mIfS (mB (m2 dEq (m2 (dI2 cMod) (mCall1 dInt (mCons (mRd 3) mNil)) (mC (.int 2))) (mC (.int 1)))) (mApp 2 (mRd 4)) mSkip)
  (mAsg 3 (m2 (dI2 cDiv) (mRd 3) (mC (.int 2)))))
def f__law_subset_1 : MS :=
  (mFor (mItems (mRd 0)) (mtN 4) b__law_subset_0)
def m__law_subset : MS :=
  (mSeq (mAsgO 2 (mLst mNil))
  (mSeq (mAsg 3 (mCall1 dInt (mCons (mRd 1) mNil)))
  (mSeq (mIfS (mB (m2 (dCmp ciLt csLt) (mRd 3) (mC (.int 64)))) (mAsg 3 (mC (.int 0))) mSkip)
  (mSeq f__law_subset_1
  (mRet (mCall1 dTuple (mCons (mCall1 dSorted (mCons (mMv 2) mNil)) mNil)))))))
def F__law_subset : Fn := fnOf 5 none false m__law_subset
def b__law_kind_0 : MS :=
  (mSeq (mAsg 8 (m2 dIx (mRd 0) (m2 dAdd (mC (.int 3)) (m2 (dI2 cMul) (mC (.int 2)) (m2 (dI2 cMod) (mRd 7) (mC (.int 63)))))))
  (mSeq (mAsg 9 (m2 dIx (mLst (mCons (mC (.int 0)) (mCons (mC (.int 1)) (mCons (m2 dIx (mRd 0) (m2 dAdd (mC (.int 2)) (m2 (dI2 cMul) (mC (.int 2)) (m2 (dI2 cMod) (mRd 7) (mC (.int 63)))))) (mCons (m2 dIx (mRd 0) (m2 dAdd (mC (.int 2)) (m2 (dI2 cMul) (mC (.int 2)) (m2 (dI2 cMod) (mRd 7) (mC (.int 6)))))) mNil))))) (m2 dIx (mRd 0) (mC (.int 0)))))
  (mIfS (mAnd (mB (m2 (dCI ciGt) (mRd 6) (mC (.int 0)))) (mOr (mB (m2 dEq (mRd 5) (mC (.int 1)))) (mB (m2 dEq (mRd 9) (mC (.int 1)))))) (mSeq (mApp 4 (mCall 2 F__law_subset [] (mCons (mRd 3) (mCons (mRd 8) mNil))))
  (mSeq (mAsg 6 (m2 (dI2 cSub) (mRd 6) (mC (.int 1))))
  (mAsg 5 (m2 dAdd (mRd 5) (mC (.int 1)))))) (mSeq (mApp 4 (m2 dIx (mRd 2) (m2 (dI2 cMod) (mCall1 dInt (mCons (mRd 8) mNil)) (mCall1 dLen (mCons (mRd 2) mNil)))))
  (mAsg 5 (m2 (dI2 cSub) (mRd 5) (mC (.int 1))))))))
def f__law_kind_1 : MS :=
  (mFor (mRng1 (mCons (m2 dAdd (m2 (dI2 cMul) (mC (.int 2)) (mRd 1)) (mC (.int 1))) mNil)) (mtN 7) b__law_kind_0)
def m__law_kind : MS :=
  (mSeq (mAsgO 4 (mLst mNil))
  (mSeq (mAsg 5 (mC (.int 1)))
  (mSeq (mAsg 6 (mRd 1))
  (mSeq f__law_kind_1
  (mRet (mCall1 dTuple (mCons (mMv 4) mNil)))))))
def F__law_kind : Fn := fnOf 10 none false m__law_kind
def m__law_drawn : MS :=
  (mSeq (mAsg 4 (mCall 2 F__law_digits [] (mCons (mRd 0) (mCons (m2 dAdd (mLst (mCons (mC (.int 4)) (mCons (mC (.int 40)) mNil))) (m2 dRep (mLst (mCons (mC (.int 2)) (mCons (mC (.int 192)) mNil))) (mC (.int 63)))) mNil))))
  (mSeq (mAsg 5 (m2 dIx (mRd 4) (mC (.int 1))))
  (mSeq (mIfS (mB (m2 (dCI ciGt) (mRd 5) (mC (.int 31)))) (mAsg 5 (m2 (dI2 cSub) (mRd 5) (mC (.int 32)))) mSkip)
  (mRet (mCall 4 F__law_kind [] (mCons (mRd 4) (mCons (m2 (dI2 cMod) (mCall1 dInt (mCons (mRd 5) mNil)) (m2 dAdd (mRd 1) (mC (.int 1)))) (mCons (mRd 2) (mCons (mRd 3) mNil)))))))))
def F__law_drawn : Fn := fnOf 6 none false m__law_drawn
def m__law_same : MS :=
  (mRet (m2 dEq (mCall1 dRepr (mCons (mRd 0) mNil)) (mCall1 dRepr (mCons (mRd 1) mNil))))
def F__law_same : Fn := fnOf 2 none false m__law_same
def b__law_paths_0 : MS :=
  (mSeq (mAsg 4 (mPop 1))
  (mSeq (mApp 2 (mRd 4))
  (mIfS (mB (m1 (isi "tuple") (mRd 3))) (mSeq (mApp 1 (m2 dAdd (mRd 4) (mC (.str "r"))))
  (mApp 1 (m2 dAdd (mRd 4) (mC (.str "l"))))) mSkip)))
def f__law_paths_1 : MS :=
  (mFor (mItems (mRd 0)) (mtN 3) b__law_paths_0)
def m__law_paths : MS :=
  (mSeq (mAsgO 1 (mLst (mCons (mC (.str "")) mNil)))
  (mSeq (mAsgO 2 (mLst mNil))
  (mSeq f__law_paths_1
  (mRetO (mTk 2)))))
def F__law_paths : Fn := fnOf 5 none true m__law_paths
def b__law_end_0 : MS :=
  (mSeq (mAsg 2 (m2 (dI2 cSub) (mRd 2) (mC (.int 1))))
  (mSeq (mIfS (mB (m1 (isi "tuple") (m2 dIx (mRd 0) (mRd 3)))) (mAsg 2 (m2 dAdd (mRd 2) (mC (.int 2)))) mSkip)
  (mIfS (mB (m2 dEq (mRd 2) (mC (.int 0)))) (mRet (m2 dAdd (mRd 3) (mC (.int 1)))) mSkip)))
def f__law_end_1 : MS :=
  (mFor (mRng2 (mCons (mRd 1) (mCons (mCall1 dLen (mCons (mRd 0) mNil)) mNil))) (mtN 3) b__law_end_0)
def m__law_end : MS :=
  (mSeq (mAsg 2 (mC (.int 1)))
  (mSeq f__law_end_1
  (mRet (mCall1 dLen (mCons (mRd 0) mNil)))))
def F__law_end : Fn := fnOf 4 none false m__law_end
def i__law_refused_0 : MS :=
  (mIfS (mB (m2 dEq (mRd 0) (mC (.int 0)))) (mDrop (mCall 2 F_path_of [] (mCons (mRd 1) (mCons (mRd 3) mNil)))) (mIfS (mB (m2 dEq (mRd 0) (mC (.int 1)))) (mDrop (mCall 2 F_kind_at [] (mCons (mRd 1) (mCons (mRd 3) mNil)))) (mIfS (mB (m2 dEq (mRd 0) (mC (.int 2)))) (mDrop (mCall 3 F_put_kind [] (mCons (mRd 1) (mCons (mRd 3) (mCons (mRd 2) mNil))))) (mDrop (mCall 2 F_place_of [] (mCons (mRd 1) (mCons (mRd 3) mNil)))))))
def m__law_refused : MS :=
  (mSeq (mTry errTop errNs "BadPlace" 4 i__law_refused_0 (mSeq (mIfS (mB (mExIs errNs 4 fun c => (["BadWord", "Twice", "BadKind", "Unknown", "Misfit", "NoStep", "NotPlain", "NoWay", "BadRing", "BadText"] : List Str).any (isSub errTop c))) (mRet (mC (.bl false))) mSkip)
  (mSeq (mIfS (mB (mExIs errNs 4 fun c => (["BadPaper", "Clash", "RowClash", "NotQuiet", "NothingToUndo", "NothingToRedo"] : List Str).any (isSub errTop c))) (mRet (mC (.bl false))) mSkip)
  (mRet (mAndV (mExIs errNs 4 fun c => isSub errTop c "OwnleftError") (mAndV (mExIs errNs 4 fun _ => true) (mCall 2 F__law_same [] (mCons (mExF errNs 4 "place") (mCons (mRd 3) mNil)))))))))
  (mRet (mC (.bl false))))
def F__law_refused : Fn := fnOf 5 none false m__law_refused
def b__law_walked_0 : MS :=
  (mSeq (mIfS (mOr (mNot (mB (mCall 2 F__law_same [] (mCons (mCall 2 F_path_of [] (mCons (mRd 0) (mCons (mRd 3) mNil))) (mCons (m2 dIx (mRd 1) (mRd 3)) mNil))))) (mNot (mB (mCall 2 F__law_same [] (mCons (mCall 2 F_place_of [] (mCons (mRd 0) (mCons (m2 dIx (mRd 1) (mRd 3)) mNil))) (mCons (mRd 3) mNil)))))) (mRet (mC (.bl false))) mSkip)
  (mIfS (mNot (mB (mCall 2 F__law_same [] (mCons (mCall 2 F_kind_at [] (mCons (mRd 0) (mCons (mRd 3) mNil))) (mCons (mSl (mRd 0) (moS (mRd 3)) (moS (mCall 2 F__law_end [] (mCons (mRd 0) (mCons (mRd 3) mNil))))) mNil))))) (mRet (mC (.bl false))) mSkip))
def f__law_walked_1 : MS :=
  (mFor (mRng1 (mCons (mCall1 dLen (mCons (mRd 0) mNil)) mNil)) (mtN 3) b__law_walked_0)
def m__law_walked : MS :=
  (mSeq (mAsg 2 (mCall1 dTuple (mCons (mLc [4] (mItems (mRd 1)) (mtN 4) mYes (m2 dIx (mLst (mCons (mC (.int 1)) (mCons (m1 dNeg (mC (.int 1))) mNil))) (m2 (dI2 cMod) (mCall1 dInt (mCons (mS2 (fun x y => some (.int (PySem.Txt.count x y))) (mRd 4) (mC (.str "l"))) mNil)) (mC (.int 2))))) mNil)))
  (mSeq (mIfS (mNot (mB (mCall 2 F__law_same [] (mCons (mCall 1 F_signs_of [] (mCons (mRd 0) mNil)) (mCons (mRd 2) mNil))))) (mRet (mC (.bl false))) mSkip)
  (mSeq f__law_walked_1
  (mRet (mCall 2 F__law_same [] (mCons (mCall 1 F_signs_of [] (mCons (mRd 0) mNil)) (mCons (mRd 2) mNil)))))))
def F__law_walked : Fn := fnOf 5 none false m__law_walked
def b__law_changed_0 : MS :=
  (mSeq (mAsg 4 (m2 (dI2 cMod) (mCall1 dInt (mCons (mRd 3) mNil)) (mCall1 dLen (mCons (mRd 0) mNil))))
  (mSeq (mAsg 5 (mCall 2 F__law_end [] (mCons (mRd 0) (mCons (mRd 4) mNil))))
  (mSeq (mAsg 6 (m2 dAdd (m2 dAdd (mSl (mRd 0) moN (moS (mRd 4))) (mRd 1)) (mSl (mRd 0) (moS (mRd 5)) moN)))
  (mSeq (mIfS (mNot (mB (mCall 2 F__law_same [] (mCons (mCall 3 F_put_kind [] (mCons (mRd 0) (mCons (mRd 4) (mCons (mRd 1) mNil)))) (mCons (mRd 6) mNil))))) (mRet (mC (.bl false))) mSkip)
  (mIfS (mAnd (mB (m2 (dCmp ciLt csLt) (mCall1 dLen (mCons (mRd 6) mNil)) (mC (.int 64)))) (mNot (mB (mCall 2 F__law_same [] (mCons (mCall 3 F_put_kind [] (mCons (mRd 6) (mCons (mRd 4) (mCons (mSl (mRd 0) (moS (mRd 4)) (moS (mRd 5))) mNil)))) (mCons (mRd 0) mNil)))))) (mRet (mC (.bl false))) mSkip)))))
def f__law_changed_1 : MS :=
  (mFor (mItems (mRd 2)) (mtN 3) b__law_changed_0)
def m__law_changed : MS :=
  (mSeq f__law_changed_1
  (mRet (mC (.bl true))))
def F__law_changed : Fn := fnOf 7 none false m__law_changed
def b__law_strangers_0 : MS :=
  (mIfS (mNot (mB (mCall 4 F__law_refused [] (mCons (mRd 6) (mCons (mRd 0) (mCons (mRd 1) (mCons (mRd 5) mNil))))))) (mRet (mC (.bl false))) mSkip)
def f__law_strangers_1 : MS :=
  (mFor (mRng1 (mCons (mC (.int 3)) mNil)) (mtN 6) b__law_strangers_0)
def b__law_strangers_2 : MS :=
  f__law_strangers_1
def f__law_strangers_3 : MS :=
  (mFor (mItems (mLst (mCons (m1 dNeg (mC (.int 1))) (mCons (m1 dNeg (mRd 4)) (mCons (mRd 4) (mCons (m2 dAdd (m2 dAdd (mRd 4) (mC (.int 1))) (m2 dIx (mRd 3) (mC (.int 0)))) (mCons (m2 (dI2 cSub) (m2 (dI2 cSub) (m1 dNeg (mRd 4)) (mC (.int 1))) (m2 dIx (mRd 3) (mC (.int 1)))) mNil))))))) (mtN 5) b__law_strangers_2)
def b__law_strangers_4 : MS :=
  (mAsg 9 (m2 dAdd (mRd 9) (m2 dIx (mC (.str "lr")) (m2 dIx (mRd 3) (m2 dAdd (mC (.int 6)) (m2 (dI2 cMod) (mCall1 dInt (mCons (m2 dAdd (mRd 8) (mRd 10)) mNil)) (mC (.int 8))))))))
def f__law_strangers_5 : MS :=
  (mFor (mRng1 (mCons (m2 dIx (mLst (mCons (mC (.int 1)) (mCons (mC (.int 1)) (mCons (mC (.int 2)) (mCons (mC (.int 40)) mNil))))) (mRd 8)) mNil)) (mtN 10) b__law_strangers_4)
def b__law_strangers_6 : MS :=
  (mSeq (mAsg 9 (m2 dIx (mRd 2) (mWith lfree 7 (m2 dIx (mRd 7) (m2 (dI2 cMod) (m2 dIx (mRd 3) (m2 dAdd (mC (.int 2)) (mRd 8))) (mCall1 dLen (mCons (mRd 7) mNil)))))))
  (mSeq f__law_strangers_5
  (mIfS (mNot (mB (mCall 4 F__law_refused [] (mCons (mC (.int 3)) (mCons (mRd 0) (mCons (mRd 1) (mCons (mRd 9) mNil))))))) (mRet (mC (.bl false))) mSkip)))
def f__law_strangers_7 : MS :=
  (mFor (mRng1 (mCons (mC (.int 4)) mNil)) (mtN 8) b__law_strangers_6)
def m__law_strangers : MS :=
  (mSeq (mAsg 4 (mCall1 dLen (mCons (mRd 0) mNil)))
  (mSeq f__law_strangers_3
  (mSeq (mAsgO 7 (mLc [8] (mRng1 (mCons (mRd 4) mNil)) (mtN 8) (mNot (mB (m1 (isi "tuple") (m2 dIx (mRd 0) (mRd 8))))) (mRd 8)))
  (mSeq f__law_strangers_7
  (mRet (mC (.bl true)))))))
def F__law_strangers : Fn := fnOf 11 none false m__law_strangers
def b_law_0 : MS :=
  (mSeq (mAsg 13 (mCall 1 F__law_paths [] (mCons (mRd 12) mNil)))
  (mSeq (mAsg 14 (m2 dAdd (mRd 11) (mLst (mCons (m2 (dI2 cSub) (mCall1 dLen (mCons (mRd 12) mNil)) (mC (.int 1))) mNil))))
  (mSeq (mIfS (mB (m2 (dCmp ciLt csLt) (mCall1 dLen (mCons (mRd 12) mNil)) (mC (.int 16)))) (mAsg 14 (mListRg (mCall1 dLen (mCons (mRd 12) mNil)))) mSkip)
  (mSeq (mIfS (mOr (mNot (mB (mCall 2 F__law_walked [] (mCons (mRd 12) (mCons (mRd 13) mNil))))) (mNot (mB (mCall 3 F__law_changed [] (mCons (mRd 12) (mCons (mRd 9) (mCons (mRd 14) mNil))))))) (mRet (mC (.bl false))) mSkip)
  (mIfS (mNot (mB (mCall 4 F__law_strangers [] (mCons (mRd 12) (mCons (mRd 9) (mCons (mRd 13) (mCons (mRd 10) mNil))))))) (mRet (mC (.bl false))) mSkip)))))
def f_law_1 : MS :=
  (mFor (mItems (mLst (mCons (mRd 7) (mCons (mRd 8) (mCons (mRd 7) mNil))))) (mtN 12) b_law_0)
def m_law : MS :=
  (mSeq (mAsg 1 (mC (.str "abcdefghijklmnopqrstuvwxyz")))
  (mSeq (mAsgO 2 (mCall 5 F__law_words [] (mCons (mRd 0) (mCons (mC (.int 0)) (mCons (mC (.int 3)) (mCons (mRd 1) (mCons (mLst mNil) mNil)))))))
  (mSeq (mAsg 3 (mCall 5 F__law_words [] (mCons (mRd 0) (mCons (mC (.int 1)) (mCons (mC (.int 3)) (mCons (m1 dUpper (mRd 1)) (mCons (mLst mNil) mNil)))))))
  (mSeq (mAsg 4 (mCall1 dSorted (mCons (mCall 5 F__law_words [] (mCons (mRd 0) (mCons (mC (.int 2)) (mCons (mC (.int 6)) (mCons (mRd 1) (mCons (mCall 0 F__law_reserved [] mNil) mNil)))))) mNil)))
  (mSeq (mAsg 5 (mCall 2 F__law_digits [] (mCons (mCall 2 F__law_cell [] (mCons (mRd 0) (mCons (mC (.int 4)) mNil))) (mCons (mLst (mCons (mC (.int 3)) (mCons (mC (.int 12)) (mCons (mC (.int 6)) (mCons (mC (.int 12)) (mCons (mC (.int 192)) mNil)))))) mNil))))
  (mSeq (mIfS (mB (m2 dEq (m2 dIx (mRd 5) (mC (.int 0))) (mC (.int 1)))) (mPut 2 (m2 dIx (mCall 0 F__law_reserved [] mNil) (m2 dIx (mRd 5) (mC (.int 1)))) (mC (.int 1))) mSkip)
  (mSeq (mIfS (mB (m2 dEq (m2 dIx (mRd 5) (mC (.int 0))) (mC (.int 2)))) (mPut 2 (m2 dIx (mRd 4) (m2 dIx (mRd 5) (mC (.int 2)))) (mC (.int 1))) mSkip)
  (mSeq (mAsg 6 (m2 dAdd (mMv 2) (mRd 3)))
  (mSeq (mAsg 7 (mCall 4 F__law_drawn [] (mCons (mCall 2 F__law_cell [] (mCons (mRd 0) (mCons (mC (.int 5)) mNil))) (mCons (mC (.int 31)) (mCons (mRd 6) (mCons (mRd 4) mNil))))))
  (mSeq (mAsg 8 (mCall 4 F__law_drawn [] (mCons (mCall 2 F__law_cell [] (mCons (mRd 0) (mCons (mC (.int 6)) mNil))) (mCons (mC (.int 31)) (mCons (mRd 6) (mCons (mRd 4) mNil))))))
  (mSeq (mAsg 9 (mCall 4 F__law_drawn [] (mCons (mCall 2 F__law_cell [] (mCons (mRd 0) (mCons (mC (.int 7)) mNil))) (mCons (mC (.int 7)) (mCons (mRd 6) (mCons (mRd 4) mNil))))))
  (mSeq (mAsg 10 (mCall 2 F__law_digits [] (mCons (mCall 2 F__law_cell [] (mCons (mRd 0) (mCons (mC (.int 8)) mNil))) (mCons (m2 dAdd (m2 dAdd (mLst (mCons (mC (.int 900)) (mCons (mC (.int 900)) mNil))) (m2 dRep (mLst (mCons (mC (.int 32)) mNil)) (mC (.int 4)))) (m2 dRep (mLst (mCons (mC (.int 2)) mNil)) (mC (.int 8)))) mNil))))
  (mSeq (mAsg 11 (m2 dAdd (mLst (mCons (mC (.int 0)) (mCons (mC (.int 62)) mNil))) (mCall 2 F__law_digits [] (mCons (mCall 2 F__law_cell [] (mCons (mRd 0) (mCons (mC (.int 9)) mNil))) (mCons (m2 dRep (mLst (mCons (mC (.int 63)) mNil)) (mC (.int 6))) mNil)))))
  (mSeq f_law_1
  (mSeq (mAsg 15 (m2 (dI2 cMod) (mCall1 dInt (mCons (m2 dIx (mRd 5) (mC (.int 4))) mNil)) (mCall1 dLen (mCons (mRd 7) mNil))))
  (mSeq (mAsg 16 (m2 dIx (mCall 1 F__law_paths [] (mCons (mRd 7) mNil)) (mRd 15)))
  (mSeq (mIfS (mOr (mNot (mB (mCall 2 F__law_same [] (mCons (mCallK 2 F_path_of (kjp 0 [1, 0]) mNil (mCons (mRd 15) (mCons (mRd 7) mNil))) (mCons (mRd 16) mNil))))) (mNot (mB (mCall 2 F__law_same [] (mCons (mCallK 2 F_place_of (kjp 0 [1, 0]) mNil (mCons (mRd 16) (mCons (mRd 7) mNil))) (mCons (mRd 15) mNil)))))) (mRet (mC (.bl false))) mSkip)
  (mSeq (mIfS (mNot (mB (mCall 2 F__law_same [] (mCons (mCallK 1 F_signs_of (kj 0 1) mNil (mCons (mTup (mCons (m2 dIx (mRd 6) (m2 (dI2 cMod) (mCall1 dInt (mCons (m2 dIx (mRd 5) (mC (.int 3))) mNil)) (mC (.int 6)))) mNil)) mNil)) (mCons (mTup (mCons (mC (.int 1)) mNil)) mNil))))) (mRet (mC (.bl false))) mSkip)
  (mSeq (mIfS (mNot (mB (mCall 2 F__law_same [] (mCons (mCallK 2 F_kind_at (kjp 0 [1, 0]) mNil (mCons (mRd 15) (mCons (mRd 7) mNil))) (mCons (mSl (mRd 7) (moS (mRd 15)) (moS (mCall 2 F__law_end [] (mCons (mRd 7) (mCons (mRd 15) mNil))))) mNil))))) (mRet (mC (.bl false))) mSkip)
  (mRet (mCall 2 F__law_same [] (mCons (mCallK 3 F_put_kind (kjp 0 [2, 1, 0]) mNil (mCons (mRd 9) (mCons (mRd 15) (mCons (mRd 7) mNil)))) (mCons (m2 dAdd (m2 dAdd (mSl (mRd 7) moN (moS (mRd 15))) (mRd 9)) (mSl (mRd 7) (moS (mCall 2 F__law_end [] (mCons (mRd 7) (mCons (mRd 15) mNil)))) moN)) mNil)))))))))))))))))))))))
def F_law : Fn := fnOf 17 none false m_law
end
end VM.K02

set_option Elab.async false
set_option linter.all false
set_option autoImplicit false
set_option maxRecDepth 100000
set_option maxHeartbeats 400000
namespace VM.K02
open PySem PySem.Spec PyProof.Rows L2 VM
abbrev topS (i : Nat) : Stmt := PySem.Challenge.pw_ownleft_k02_places_and_signs.main.body.getD i (.Pass ⟨0, 0, 0, 0⟩)
abbrev s_is_whole : Stmt := topS 20
abbrev N_is_whole : List Str := ["value"]
theorem sc_is_whole : FnScope N_is_whole ["value"] (defScope s_is_whole) := ⟨rfl, rfl, rfl, by decide +kernel, rfl, by decide +kernel, by decide +kernel⟩
abbrev s_kind_ends : Stmt := topS 22
abbrev N_kind_ends : List Str := ["kind", "ends", "back", "place"]
theorem sc_kind_ends : FnScope N_kind_ends ["kind"] (defScope s_kind_ends) := ⟨rfl, rfl, rfl, by decide +kernel, rfl, by decide +kernel, by decide +kernel⟩
abbrev s_signs_of : Stmt := topS 24
abbrev N_signs_of : List Str := ["kind", "ends", "signs", "place", "token"]
theorem sc_signs_of : FnScope N_signs_of ["kind"] (defScope s_signs_of) := ⟨rfl, rfl, rfl, by decide +kernel, rfl, by decide +kernel, by decide +kernel⟩
abbrev s_check_place : Stmt := topS 25
abbrev N_check_place : List Str := ["kind", "place"]
theorem sc_check_place : FnScope N_check_place ["kind", "place"] (defScope s_check_place) := ⟨rfl, rfl, rfl, by decide +kernel, rfl, by decide +kernel, by decide +kernel⟩
abbrev s_path_of : Stmt := topS 26
abbrev N_path_of : List Str := ["kind", "place", "ends", "paths", "at", "token"]
theorem sc_path_of : FnScope N_path_of ["kind", "place"] (defScope s_path_of) := ⟨rfl, rfl, rfl, by decide +kernel, rfl, by decide +kernel, by decide +kernel⟩
abbrev s_place_of : Stmt := topS 27
abbrev N_place_of : List Str := ["kind", "path", "ends", "place", "step"]
theorem sc_place_of : FnScope N_place_of ["kind", "path"] (defScope s_place_of) := ⟨rfl, rfl, rfl, by decide +kernel, rfl, by decide +kernel, by decide +kernel⟩
abbrev s_kind_at : Stmt := topS 28
abbrev N_kind_at : List Str := ["kind", "place"]
theorem sc_kind_at : FnScope N_kind_at ["kind", "place"] (defScope s_kind_at) := ⟨rfl, rfl, rfl, by decide +kernel, rfl, by decide +kernel, by decide +kernel⟩
abbrev s_put_kind : Stmt := topS 29
abbrev N_put_kind : List Str := ["kind", "place", "new"]
theorem sc_put_kind : FnScope N_put_kind ["kind", "place", "new"] (defScope s_put_kind) := ⟨rfl, rfl, rfl, by decide +kernel, rfl, by decide +kernel, by decide +kernel⟩
abbrev s__law_cell : Stmt := topS 31
abbrev N__law_cell : List Str := ["script", "k", "seed", "cell"]
theorem sc__law_cell : FnScope N__law_cell ["script", "k"] (defScope s__law_cell) := ⟨rfl, rfl, rfl, by decide +kernel, rfl, by decide +kernel, by decide +kernel⟩
abbrev s__law_digits : Stmt := topS 32
abbrev N__law_digits : List Str := ["cell", "sizes", "found", "rest", "size", "seed", "k", "twice"]
theorem sc__law_digits : FnScope N__law_digits ["cell", "sizes"] (defScope s__law_digits) := ⟨rfl, rfl, rfl, by decide +kernel, rfl, by decide +kernel, by decide +kernel⟩
abbrev s__law_reserved : Stmt := topS 33
abbrev N__law_reserved : List Str := []
theorem sc__law_reserved : FnScope N__law_reserved [] (defScope s__law_reserved) := ⟨rfl, rfl, rfl, by decide +kernel, rfl, by decide +kernel, by decide +kernel⟩
abbrev s__law_word : Stmt := topS 34
abbrev N__law_word : List Str := ["ds", "words", "firsts", "barred", "letters", "word", "j", "before", "spot", "turn"]
theorem sc__law_word : FnScope N__law_word ["ds", "words", "firsts", "barred"] (defScope s__law_word) := ⟨rfl, rfl, rfl, by decide +kernel, rfl, by decide +kernel, by decide +kernel⟩
abbrev s__law_words : Stmt := topS 35
abbrev N__law_words : List Str := ["script", "at", "many", "firsts", "barred", "words", "ds", "k"]
theorem sc__law_words : FnScope N__law_words ["script", "at", "many", "firsts", "barred"] (defScope s__law_words) := ⟨rfl, rfl, rfl, by decide +kernel, rfl, by decide +kernel, by decide +kernel⟩
abbrev s__law_subset : Stmt := topS 36
abbrev N__law_subset : List Str := ["words", "digit", "found", "rest", "word"]
theorem sc__law_subset : FnScope N__law_subset ["words", "digit"] (defScope s__law_subset) := ⟨rfl, rfl, rfl, by decide +kernel, rfl, by decide +kernel, by decide +kernel⟩
abbrev s__law_kind : Stmt := topS 37
abbrev N__law_kind : List Str := ["ds", "many", "words", "asked", "tokens", "pending", "more", "k", "digit", "turn"]
theorem sc__law_kind : FnScope N__law_kind ["ds", "many", "words", "asked"] (defScope s__law_kind) := ⟨rfl, rfl, rfl, by decide +kernel, rfl, by decide +kernel, by decide +kernel⟩
abbrev s__law_drawn : Stmt := topS 38
abbrev N__law_drawn : List Str := ["cell", "most", "words", "asked", "ds", "many"]
theorem sc__law_drawn : FnScope N__law_drawn ["cell", "most", "words", "asked"] (defScope s__law_drawn) := ⟨rfl, rfl, rfl, by decide +kernel, rfl, by decide +kernel, by decide +kernel⟩
abbrev s__law_same : Stmt := topS 39
abbrev N__law_same : List Str := ["actual", "due"]
theorem sc__law_same : FnScope N__law_same ["actual", "due"] (defScope s__law_same) := ⟨rfl, rfl, rfl, by decide +kernel, rfl, by decide +kernel, by decide +kernel⟩
abbrev s__law_paths : Stmt := topS 40
abbrev N__law_paths : List Str := ["tokens", "waiting", "found", "token", "route"]
theorem sc__law_paths : FnScope N__law_paths ["tokens"] (defScope s__law_paths) := ⟨rfl, rfl, rfl, by decide +kernel, rfl, by decide +kernel, by decide +kernel⟩
abbrev s__law_end : Stmt := topS 41
abbrev N__law_end : List Str := ["tokens", "at", "pending", "k"]
theorem sc__law_end : FnScope N__law_end ["tokens", "at"] (defScope s__law_end) := ⟨rfl, rfl, rfl, by decide +kernel, rfl, by decide +kernel, by decide +kernel⟩
abbrev s__law_refused : Stmt := topS 42
abbrev N__law_refused : List Str := ["number", "tokens", "other", "wrong", "e"]
theorem sc__law_refused : FnScope N__law_refused ["number", "tokens", "other", "wrong"] (defScope s__law_refused) := ⟨rfl, rfl, rfl, by decide +kernel, rfl, by decide +kernel, by decide +kernel⟩
abbrev s__law_walked : Stmt := topS 43
abbrev N__law_walked : List Str := ["tokens", "routes", "due", "at", "route"]
theorem sc__law_walked : FnScope N__law_walked ["tokens", "routes"] (defScope s__law_walked) := ⟨rfl, rfl, rfl, by decide +kernel, rfl, by decide +kernel, by decide +kernel⟩
abbrev s__law_changed : Stmt := topS 44
abbrev N__law_changed : List Str := ["tokens", "other", "chosen", "digit", "at", "behind", "due"]
theorem sc__law_changed : FnScope N__law_changed ["tokens", "other", "chosen"] (defScope s__law_changed) := ⟨rfl, rfl, rfl, by decide +kernel, rfl, by decide +kernel, by decide +kernel⟩
abbrev s__law_strangers : Stmt := topS 45
abbrev N__law_strangers : List Str := ["tokens", "other", "routes", "ds", "many", "wrong", "number", "leaves", "k", "route", "turn"]
theorem sc__law_strangers : FnScope N__law_strangers ["tokens", "other", "routes", "ds"] (defScope s__law_strangers) := ⟨rfl, rfl, rfl, by decide +kernel, rfl, by decide +kernel, by decide +kernel⟩
abbrev s_law : Stmt := topS 46
abbrev N_law : List Str := ["script", "lower", "bases", "capitals", "asked", "mix", "words", "one", "two", "other", "ds", "chosen", "tokens", "routes", "places", "at", "route"]
theorem sc_law : FnScope N_law ["script"] (defScope s_law) := ⟨rfl, rfl, rfl, by decide +kernel, rfl, by decide +kernel, by decide +kernel⟩
abbrev errFs : List Str := ["place"]
abbrev sI_BadPlace : Stmt := inClass (topS 6) 0
theorem scI_BadPlace : FnScope ["self", "place"] ["self", "place"] (defScope sI_BadPlace) := ⟨rfl, rfl, rfl, by decide +kernel, rfl, by decide +kernel, by decide +kernel⟩
structure Txt (K : PySem.W.Frag) (mg : Str → Option Value) where
  a_is_whole : Addr
  d_is_whole : FuncData
  F_is_whole : Fun K "is_whole" "is_whole" s_is_whole a_is_whole d_is_whole
  g_is_whole : mg "is_whole" = some (.ref a_is_whole)
  b_is_whole : Binds K d_is_whole ["value"] []
  a_kind_ends : Addr
  d_kind_ends : FuncData
  F_kind_ends : Fun K "kind_ends" "kind_ends" s_kind_ends a_kind_ends d_kind_ends
  g_kind_ends : mg "kind_ends" = some (.ref a_kind_ends)
  b_kind_ends : Binds K d_kind_ends ["kind"] []
  a_signs_of : Addr
  d_signs_of : FuncData
  F_signs_of : Fun K "signs_of" "signs_of" s_signs_of a_signs_of d_signs_of
  g_signs_of : mg "signs_of" = some (.ref a_signs_of)
  b_signs_of : Binds K d_signs_of ["kind"] []
  a_check_place : Addr
  d_check_place : FuncData
  F_check_place : Fun K "check_place" "check_place" s_check_place a_check_place d_check_place
  g_check_place : mg "check_place" = some (.ref a_check_place)
  b_check_place : Binds K d_check_place ["kind", "place"] []
  a_path_of : Addr
  d_path_of : FuncData
  F_path_of : Fun K "path_of" "path_of" s_path_of a_path_of d_path_of
  g_path_of : mg "path_of" = some (.ref a_path_of)
  b_path_of : Binds K d_path_of ["kind", "place"] []
  a_place_of : Addr
  d_place_of : FuncData
  F_place_of : Fun K "place_of" "place_of" s_place_of a_place_of d_place_of
  g_place_of : mg "place_of" = some (.ref a_place_of)
  b_place_of : Binds K d_place_of ["kind", "path"] []
  a_kind_at : Addr
  d_kind_at : FuncData
  F_kind_at : Fun K "kind_at" "kind_at" s_kind_at a_kind_at d_kind_at
  g_kind_at : mg "kind_at" = some (.ref a_kind_at)
  b_kind_at : Binds K d_kind_at ["kind", "place"] []
  a_put_kind : Addr
  d_put_kind : FuncData
  F_put_kind : Fun K "put_kind" "put_kind" s_put_kind a_put_kind d_put_kind
  g_put_kind : mg "put_kind" = some (.ref a_put_kind)
  b_put_kind : Binds K d_put_kind ["kind", "place", "new"] []
  a__law_cell : Addr
  d__law_cell : FuncData
  F__law_cell : Fun K "_law_cell" "_law_cell" s__law_cell a__law_cell d__law_cell
  g__law_cell : mg "_law_cell" = some (.ref a__law_cell)
  b__law_cell : Binds K d__law_cell ["script", "k"] []
  a__law_digits : Addr
  d__law_digits : FuncData
  F__law_digits : Fun K "_law_digits" "_law_digits" s__law_digits a__law_digits d__law_digits
  g__law_digits : mg "_law_digits" = some (.ref a__law_digits)
  b__law_digits : Binds K d__law_digits ["cell", "sizes"] []
  a__law_reserved : Addr
  d__law_reserved : FuncData
  F__law_reserved : Fun K "_law_reserved" "_law_reserved" s__law_reserved a__law_reserved d__law_reserved
  g__law_reserved : mg "_law_reserved" = some (.ref a__law_reserved)
  b__law_reserved : Binds K d__law_reserved [] []
  a__law_word : Addr
  d__law_word : FuncData
  F__law_word : Fun K "_law_word" "_law_word" s__law_word a__law_word d__law_word
  g__law_word : mg "_law_word" = some (.ref a__law_word)
  b__law_word : Binds K d__law_word ["ds", "words", "firsts", "barred"] []
  a__law_words : Addr
  d__law_words : FuncData
  F__law_words : Fun K "_law_words" "_law_words" s__law_words a__law_words d__law_words
  g__law_words : mg "_law_words" = some (.ref a__law_words)
  b__law_words : Binds K d__law_words ["script", "at", "many", "firsts", "barred"] []
  a__law_subset : Addr
  d__law_subset : FuncData
  F__law_subset : Fun K "_law_subset" "_law_subset" s__law_subset a__law_subset d__law_subset
  g__law_subset : mg "_law_subset" = some (.ref a__law_subset)
  b__law_subset : Binds K d__law_subset ["words", "digit"] []
  a__law_kind : Addr
  d__law_kind : FuncData
  F__law_kind : Fun K "_law_kind" "_law_kind" s__law_kind a__law_kind d__law_kind
  g__law_kind : mg "_law_kind" = some (.ref a__law_kind)
  b__law_kind : Binds K d__law_kind ["ds", "many", "words", "asked"] []
  a__law_drawn : Addr
  d__law_drawn : FuncData
  F__law_drawn : Fun K "_law_drawn" "_law_drawn" s__law_drawn a__law_drawn d__law_drawn
  g__law_drawn : mg "_law_drawn" = some (.ref a__law_drawn)
  b__law_drawn : Binds K d__law_drawn ["cell", "most", "words", "asked"] []
  a__law_same : Addr
  d__law_same : FuncData
  F__law_same : Fun K "_law_same" "_law_same" s__law_same a__law_same d__law_same
  g__law_same : mg "_law_same" = some (.ref a__law_same)
  b__law_same : Binds K d__law_same ["actual", "due"] []
  a__law_paths : Addr
  d__law_paths : FuncData
  F__law_paths : Fun K "_law_paths" "_law_paths" s__law_paths a__law_paths d__law_paths
  g__law_paths : mg "_law_paths" = some (.ref a__law_paths)
  b__law_paths : Binds K d__law_paths ["tokens"] []
  a__law_end : Addr
  d__law_end : FuncData
  F__law_end : Fun K "_law_end" "_law_end" s__law_end a__law_end d__law_end
  g__law_end : mg "_law_end" = some (.ref a__law_end)
  b__law_end : Binds K d__law_end ["tokens", "at"] []
  a__law_refused : Addr
  d__law_refused : FuncData
  F__law_refused : Fun K "_law_refused" "_law_refused" s__law_refused a__law_refused d__law_refused
  g__law_refused : mg "_law_refused" = some (.ref a__law_refused)
  b__law_refused : Binds K d__law_refused ["number", "tokens", "other", "wrong"] []
  a__law_walked : Addr
  d__law_walked : FuncData
  F__law_walked : Fun K "_law_walked" "_law_walked" s__law_walked a__law_walked d__law_walked
  g__law_walked : mg "_law_walked" = some (.ref a__law_walked)
  b__law_walked : Binds K d__law_walked ["tokens", "routes"] []
  a__law_changed : Addr
  d__law_changed : FuncData
  F__law_changed : Fun K "_law_changed" "_law_changed" s__law_changed a__law_changed d__law_changed
  g__law_changed : mg "_law_changed" = some (.ref a__law_changed)
  b__law_changed : Binds K d__law_changed ["tokens", "other", "chosen"] []
  a__law_strangers : Addr
  d__law_strangers : FuncData
  F__law_strangers : Fun K "_law_strangers" "_law_strangers" s__law_strangers a__law_strangers d__law_strangers
  g__law_strangers : mg "_law_strangers" = some (.ref a__law_strangers)
  b__law_strangers : Binds K d__law_strangers ["tokens", "other", "routes", "ds"] []
  a_law : Addr
  d_law : FuncData
  F_law : Fun K "law" "law" s_law a_law d_law
  g_law : mg "law" = some (.ref a_law)
  b_law : Binds K d_law ["script"] []
  n_ValueError : mg "ValueError" = none
  n_bool : mg "bool" = none
  n_enumerate : mg "enumerate" = none
  n_int : mg "int" = none
  n_isinstance : mg "isinstance" = none
  n_len : mg "len" = none
  n_list : mg "list" = none
  n_range : mg "range" = none
  n_repr : mg "repr" = none
  n_sorted : mg "sorted" = none
  n_tuple : mg "tuple" = none
  err : ErrT K mg errTop errNs errFs
  i_BadPlace : Addr
  di_BadPlace : FuncData
  I_BadPlace : Fun K "__init__" "BadPlace.__init__" sI_BadPlace i_BadPlace di_BadPlace
  iC_BadPlace : PySem.W.findIn K (.ref (adIn K "BadPlace")) "__init__" = some (some (.ref i_BadPlace))
  tI_BadPlace : PySem.W.typeIn K (.ref i_BadPlace) = some (.type "function")
  bI_BadPlace : Binds K di_BadPlace ["self", "place"] []
section
variable {P : Program} {w : World} {K : PySem.W.Frag} {mg : Str → Option Value} {base : Heap}
theorem kb_kind_at_0_10 (T : Txt K mg) : KBinds K T.d_kind_at ["kind", "place"] ["place", "kind"] (kjp 0 [1, 0]) (kjp 0 [1, 0]) := kjp_binds (by decide) T.F_kind_at fun _ _ _ _ _ _ us ws h1 h2 => match us, ws, h1, h2 with | [], [_, _], _, _ => rfl
theorem kb_path_of_0_10 (T : Txt K mg) : KBinds K T.d_path_of ["kind", "place"] ["place", "kind"] (kjp 0 [1, 0]) (kjp 0 [1, 0]) := kjp_binds (by decide) T.F_path_of fun _ _ _ _ _ _ us ws h1 h2 => match us, ws, h1, h2 with | [], [_, _], _, _ => rfl
theorem kb_place_of_0_10 (T : Txt K mg) : KBinds K T.d_place_of ["kind", "path"] ["path", "kind"] (kjp 0 [1, 0]) (kjp 0 [1, 0]) := kjp_binds (by decide) T.F_place_of fun _ _ _ _ _ _ us ws h1 h2 => match us, ws, h1, h2 with | [], [_, _], _, _ => rfl
theorem kb_put_kind_0_210 (T : Txt K mg) : KBinds K T.d_put_kind ["kind", "place", "new"] ["new", "place", "kind"] (kjp 0 [2, 1, 0]) (kjp 0 [2, 1, 0]) := kjp_binds (by decide) T.F_put_kind fun _ _ _ _ _ _ us ws h1 h2 => match us, ws, h1, h2 with | [], [_, _, _], _, _ => rfl
theorem kb_signs_of_0 (T : Txt K mg) : KBinds K T.d_signs_of ["kind"] ["kind"] (kj 0 1) (kj 0 1) := kj_binds (by decide) T.F_signs_of fun _ _ _ _ _ _ us ws h1 h2 => match us, ws, h1, h2 with | [], [_], _, _ => rfl
theorem ini_BadPlace (T : Txt K mg) : FnOk P w K mg base CX0 1 T.i_BadPlace T.di_BadPlace ["self", "place"] (spIni1 (adIn K "BadPlace") "place") := ini1_ok T.I_BadPlace scI_BadPlace (T.err.o _ (by decide +kernel)) (T.err.nf _ (by decide +kernel) _ (by decide +kernel)) fun cdv A outer s H E => pss_one (ps_ost (pv 0) (pv 1))
set_option maxHeartbeats 4000000 in
theorem ok_is_whole (T : Txt K mg) : FnG P w K mg base 1 T.a_is_whole T.d_is_whole ["value"] (spV K mg 1 none false F_is_whole) :=
  fn_ok (N := N_is_whole) (io := none) (ro := false) (body := m_is_whole) T.F_is_whole sc_is_whole rfl (by decide) fun cdv A outer s H E c =>
  (ss_one (ss_ret (se_and (se_isi (T := "int") (by rfl) T.n_isinstance (by rfl) T.n_int boot_int' (se_rd (pv 0))) (se_one (se_not (se_isi (T := "bool") (by rfl) T.n_isinstance (by rfl) T.n_bool (by decide +kernel) (se_rd (pv 0))))))))
set_option maxHeartbeats 4000000 in
theorem ok_kind_ends (T : Txt K mg) : FnG P w K mg base 1 T.a_kind_ends T.d_kind_ends ["kind"] (spV K mg 1 none false F_kind_ends) :=
  fn_ok (N := N_kind_ends) (io := none) (ro := false) (body := m_kind_ends) T.F_kind_ends sc_kind_ends rfl (by decide) fun cdv A outer s H E c =>
  (ss_cons (ss_setO (i := 1) (fun te he => ps_set (i := 1) sc_kind_ends.nd rfl (by first | exact .inl rfl | exact .inr rfl) he) (so_rep (se_of (so_lst (sa_cons se_int sa_nil))) (se_len (by rfl) T.n_len (sa_cons (se_rd (pv 0)) sa_nil))))
  (ss_cons (ss_for c.po rfl (si_range1 (by rfl) T.n_range (sa_cons (se_len (by rfl) T.n_len (sa_cons (se_rd (pv 0)) sa_nil)) sa_nil)) (sg_name (pg_name (i := 2) sc_kind_ends.nd rfl (by first | exact .inl rfl | exact .inr rfl)))
  (ss_cons (ss_set (i := 3) (fun te he => ps_set (i := 3) sc_kind_ends.nd rfl (by first | exact .inl rfl | exact .inr rfl) he) (se_sub (se_sub (se_len (by rfl) T.n_len (sa_cons (se_rd (pv 0)) sa_nil)) se_int) (se_rd (pv 2))))
  (ss_cons (ss_put (fun te ti he hi => ps_asg he (pg_sub (pv 1) hi set_list)) (se_add (se_rd (pv 3)) se_int) (se_rd (pv 3)))
  (ss_one (ss_if (st_val (se_isi (T := "tuple") (by rfl) T.n_isinstance (by rfl) T.n_tuple boot_tuple' (se_ix (se_rd (pv 0)) (se_rd (pv 3))))) (ss_one (ss_put (fun te ti he hi => ps_asg he (pg_sub (pv 1) hi set_list)) (se_with (se_ix (se_rd (pv 1)) (se_ix (se_rd (pv 1)) (se_add (se_rd (pv 3)) se_int)))) (se_rd (pv 3)))) ss_nil)))))
  (ss_one (ss_ret (se_tuplec (by rfl) T.n_tuple (sa_cons (se_mv (pv 1)) sa_nil))))))
set_option maxHeartbeats 4000000 in
theorem ok_signs_of (T : Txt K mg) : FnG P w K mg base 2 T.a_signs_of T.d_signs_of ["kind"] (spV K mg 1 none false F_signs_of) :=
  fn_ok (N := N_signs_of) (io := none) (ro := false) (body := m_signs_of) T.F_signs_of sc_signs_of rfl (by decide) fun cdv A outer s H E c =>
  (ss_cons (ss_set (i := 1) (fun te he => ps_set (i := 1) sc_signs_of.nd rfl (by first | exact .inl rfl | exact .inr rfl) he) (se_call c (by decide) (ok_kind_ends T) (by rfl) T.g_kind_ends T.F_kind_ends.kp T.b_kind_ends .nil DefOk.nil (sa_cons (se_rd (pv 0)) sa_nil)))
  (ss_cons (ss_setO (i := 2) (fun te he => ps_set (i := 2) sc_signs_of.nd rfl (by first | exact .inl rfl | exact .inr rfl) he) (so_rep (se_of (so_lst (sa_cons se_int sa_nil))) (se_len (by rfl) T.n_len (sa_cons (se_rd (pv 0)) sa_nil))))
  (ss_cons (ss_for c.po rfl (si_enum (by rfl) T.n_enumerate (sa_cons (se_rd (pv 0)) sa_nil)) (sg_tup (pg_tup rfl (sgs_cons (sg_name (pg_name (i := 3) sc_signs_of.nd rfl (by first | exact .inl rfl | exact .inr rfl))) (sgs_cons (sg_name (pg_name (i := 4) sc_signs_of.nd rfl (by first | exact .inl rfl | exact .inr rfl))) sgs_nil (pgs_cons (sg_name (pg_name (i := 4) sc_signs_of.nd rfl (by first | exact .inl rfl | exact .inr rfl))) sgs_nil)) (pgs_cons (sg_name (pg_name (i := 3) sc_signs_of.nd rfl (by first | exact .inl rfl | exact .inr rfl))) (sgs_cons (sg_name (pg_name (i := 4) sc_signs_of.nd rfl (by first | exact .inl rfl | exact .inr rfl))) sgs_nil (pgs_cons (sg_name (pg_name (i := 4) sc_signs_of.nd rfl (by first | exact .inl rfl | exact .inr rfl))) sgs_nil))))))
  (ss_one (ss_if (st_val (se_isi (T := "tuple") (by rfl) T.n_isinstance (by rfl) T.n_tuple boot_tuple' (se_rd (pv 4)))) (ss_cons (ss_put (fun te ti he hi => ps_asg he (pg_sub (pv 2) hi set_list)) (se_neg (se_with (se_ix (se_rd (pv 2)) (se_rd (pv 3))))) (se_add (se_rd (pv 3)) se_int))
  (ss_one (ss_put (fun te ti he hi => ps_asg he (pg_sub (pv 2) hi set_list)) (se_with (se_ix (se_rd (pv 2)) (se_rd (pv 3)))) (se_ix (se_rd (pv 1)) (se_add (se_rd (pv 3)) se_int))))) ss_nil)))
  (ss_one (ss_ret (se_tuplec (by rfl) T.n_tuple (sa_cons (se_mv (pv 2)) sa_nil)))))))
set_option maxHeartbeats 4000000 in
theorem ok_check_place (T : Txt K mg) : FnG P w K mg base 3 T.a_check_place T.d_check_place ["kind", "place"] (spV K mg 2 none false F_check_place) :=
  fn_ok (N := N_check_place) (io := none) (ro := false) (body := m_check_place) T.F_check_place sc_check_place rfl (by decide) fun cdv A outer s H E c =>
  (ss_one (ss_if (PW.pt (sw_or (st_not (st_val (se_call c (by decide) (ok_is_whole T) (by rfl) T.g_is_whole T.F_is_whole.kp T.b_is_whole .nil DefOk.nil (sa_cons (se_rd (pv 1)) sa_nil)))) (sw_or (st_lt (se_rd (pv 1)) se_int) (sw_or1 (st_ge (se_rd (pv 1)) (se_len (by rfl) T.n_len (sa_cons (se_rd (pv 0)) sa_nil))))))) (ss_one (ss_raise1 c (by decide) rfl T.err (by decide +kernel) T.iC_BadPlace T.tI_BadPlace (ini_BadPlace T) T.bI_BadPlace (by rfl) (sa_cons (se_rd (pv 1)) sa_nil))) ss_nil))
set_option maxHeartbeats 4000000 in
theorem ok_path_of (T : Txt K mg) : FnG P w K mg base 4 T.a_path_of T.d_path_of ["kind", "place"] (spV K mg 2 none false F_path_of) :=
  fn_ok (N := N_path_of) (io := none) (ro := false) (body := m_path_of) T.F_path_of sc_path_of rfl (by decide) fun cdv A outer s H E c =>
  (ss_cons (ss_expr (se_call c (by decide) (ok_check_place T) (by rfl) T.g_check_place T.F_check_place.kp T.b_check_place .nil DefOk.nil (sa_cons (se_rd (pv 0)) (sa_cons (se_rd (pv 1)) sa_nil))))
  (ss_cons (ss_set (i := 2) (fun te he => ps_set (i := 2) sc_path_of.nd rfl (by first | exact .inl rfl | exact .inr rfl) he) (se_call c (by decide) (ok_kind_ends T) (by rfl) T.g_kind_ends T.F_kind_ends.kp T.b_kind_ends .nil DefOk.nil (sa_cons (se_rd (pv 0)) sa_nil)))
  (ss_cons (ss_setO (i := 3) (fun te he => ps_set (i := 3) sc_path_of.nd rfl (by first | exact .inl rfl | exact .inr rfl) he) (so_rep (se_of (so_lst (sa_cons se_str sa_nil))) (se_len (by rfl) T.n_len (sa_cons (se_rd (pv 0)) sa_nil))))
  (ss_cons (ss_for c.po rfl (si_enum (by rfl) T.n_enumerate (sa_cons (se_rd (pv 0)) sa_nil)) (sg_tup (pg_tup rfl (sgs_cons (sg_name (pg_name (i := 4) sc_path_of.nd rfl (by first | exact .inl rfl | exact .inr rfl))) (sgs_cons (sg_name (pg_name (i := 5) sc_path_of.nd rfl (by first | exact .inl rfl | exact .inr rfl))) sgs_nil (pgs_cons (sg_name (pg_name (i := 5) sc_path_of.nd rfl (by first | exact .inl rfl | exact .inr rfl))) sgs_nil)) (pgs_cons (sg_name (pg_name (i := 4) sc_path_of.nd rfl (by first | exact .inl rfl | exact .inr rfl))) (sgs_cons (sg_name (pg_name (i := 5) sc_path_of.nd rfl (by first | exact .inl rfl | exact .inr rfl))) sgs_nil (pgs_cons (sg_name (pg_name (i := 5) sc_path_of.nd rfl (by first | exact .inl rfl | exact .inr rfl))) sgs_nil))))))
  (ss_one (ss_if (st_val (se_isi (T := "tuple") (by rfl) T.n_isinstance (by rfl) T.n_tuple boot_tuple' (se_rd (pv 5)))) (ss_cons (ss_put (fun te ti he hi => ps_asg he (pg_sub (pv 3) hi set_list)) (se_add (se_with (se_ix (se_rd (pv 3)) (se_rd (pv 4)))) se_str) (se_add (se_rd (pv 4)) se_int))
  (ss_one (ss_put (fun te ti he hi => ps_asg he (pg_sub (pv 3) hi set_list)) (se_add (se_with (se_ix (se_rd (pv 3)) (se_rd (pv 4)))) se_str) (se_ix (se_rd (pv 2)) (se_add (se_rd (pv 4)) se_int))))) ss_nil)))
  (ss_one (ss_ret (se_with (se_ix (se_rd (pv 3)) (se_rd (pv 1))))))))))
set_option maxHeartbeats 4000000 in
theorem ok_place_of (T : Txt K mg) : FnG P w K mg base 3 T.a_place_of T.d_place_of ["kind", "path"] (spV K mg 2 none false F_place_of) :=
  fn_ok (N := N_place_of) (io := none) (ro := false) (body := m_place_of) T.F_place_of sc_place_of rfl (by decide) fun cdv A outer s H E c =>
  (ss_cons (ss_set (i := 2) (fun te he => ps_set (i := 2) sc_place_of.nd rfl (by first | exact .inl rfl | exact .inr rfl) he) (se_call c (by decide) (ok_kind_ends T) (by rfl) T.g_kind_ends T.F_kind_ends.kp T.b_kind_ends .nil DefOk.nil (sa_cons (se_rd (pv 0)) sa_nil)))
  (ss_cons (ss_set (i := 3) (fun te he => ps_set (i := 3) sc_place_of.nd rfl (by first | exact .inl rfl | exact .inr rfl) he) se_int)
  (ss_cons (ss_for c.po rfl (si_seq (se_rd (pv 1))) (sg_name (pg_name (i := 4) sc_place_of.nd rfl (by first | exact .inl rfl | exact .inr rfl)))
  (ss_cons (ss_if (st_not (st_val (se_isi (T := "tuple") (by rfl) T.n_isinstance (by rfl) T.n_tuple boot_tuple' (se_ix (se_rd (pv 0)) (se_rd (pv 3)))))) (ss_one (ss_raise1 c (by decide) rfl T.err (by decide +kernel) T.iC_BadPlace T.tI_BadPlace (ini_BadPlace T) T.bI_BadPlace (by rfl) (sa_cons (se_rd (pv 1)) sa_nil))) ss_nil)
  (ss_one (ss_if (st_eq c.u5 (se_rd (pv 4)) se_str) (ss_one (ss_set (i := 3) (fun te he => ps_set (i := 3) sc_place_of.nd rfl (by first | exact .inl rfl | exact .inr rfl) he) (se_add (se_rd (pv 3)) se_int))) (ss_one (ss_set (i := 3) (fun te he => ps_set (i := 3) sc_place_of.nd rfl (by first | exact .inl rfl | exact .inr rfl) he) (se_ix (se_rd (pv 2)) (se_add (se_rd (pv 3)) se_int))))))))
  (ss_one (ss_ret (se_rd (pv 3)))))))
set_option maxHeartbeats 4000000 in
theorem ok_kind_at (T : Txt K mg) : FnG P w K mg base 4 T.a_kind_at T.d_kind_at ["kind", "place"] (spV K mg 2 none false F_kind_at) :=
  fn_ok (N := N_kind_at) (io := none) (ro := false) (body := m_kind_at) T.F_kind_at sc_kind_at rfl (by decide) fun cdv A outer s H E c =>
  (ss_cons (ss_expr (se_call c (by decide) (ok_check_place T) (by rfl) T.g_check_place T.F_check_place.kp T.b_check_place .nil DefOk.nil (sa_cons (se_rd (pv 0)) (sa_cons (se_rd (pv 1)) sa_nil))))
  (ss_one (ss_ret (se_slice (se_rd (pv 0)) (sp_some (se_rd (pv 1))) (sp_some (se_ix (se_call c (by decide) (ok_kind_ends T) (by rfl) T.g_kind_ends T.F_kind_ends.kp T.b_kind_ends .nil DefOk.nil (sa_cons (se_rd (pv 0)) sa_nil)) (se_rd (pv 1))))))))
set_option maxHeartbeats 4000000 in
theorem ok_put_kind (T : Txt K mg) : FnG P w K mg base 4 T.a_put_kind T.d_put_kind ["kind", "place", "new"] (spV K mg 3 none false F_put_kind) :=
  fn_ok (N := N_put_kind) (io := none) (ro := false) (body := m_put_kind) T.F_put_kind sc_put_kind rfl (by decide) fun cdv A outer s H E c =>
  (ss_cons (ss_expr (se_call c (by decide) (ok_check_place T) (by rfl) T.g_check_place T.F_check_place.kp T.b_check_place .nil DefOk.nil (sa_cons (se_rd (pv 0)) (sa_cons (se_rd (pv 1)) sa_nil))))
  (ss_one (ss_ret (se_add (se_add (se_slice (se_rd (pv 0)) sp_none (sp_some (se_rd (pv 1)))) (se_rd (pv 2))) (se_slice (se_rd (pv 0)) (sp_some (se_ix (se_call c (by decide) (ok_kind_ends T) (by rfl) T.g_kind_ends T.F_kind_ends.kp T.b_kind_ends .nil DefOk.nil (sa_cons (se_rd (pv 0)) sa_nil)) (se_rd (pv 1)))) sp_none)))))
set_option maxHeartbeats 4000000 in
theorem ok__law_cell (T : Txt K mg) : FnG P w K mg base 1 T.a__law_cell T.d__law_cell ["script", "k"] (spV K mg 2 none false F__law_cell) :=
  fn_ok (N := N__law_cell) (io := none) (ro := false) (body := m__law_cell) T.F__law_cell sc__law_cell rfl (by decide) fun cdv A outer s H E c =>
  (ss_cons (ss_if (st_lt (se_rd (pv 1)) (se_len (by rfl) T.n_len (sa_cons (se_rd (pv 0)) sa_nil))) (ss_one (ss_ret (se_ix (se_rd (pv 0)) (se_rd (pv 1))))) ss_nil)
  (ss_cons (ss_set (i := 2) (fun te he => ps_set (i := 2) sc__law_cell.nd rfl (by first | exact .inl rfl | exact .inr rfl) he) se_int)
  (ss_cons (ss_for c.po rfl (si_seq (se_rd (pv 0))) (sg_name (pg_name (i := 3) sc__law_cell.nd rfl (by first | exact .inl rfl | exact .inr rfl)))
  (ss_one (ss_set (i := 2) (fun te he => ps_set (i := 2) sc__law_cell.nd rfl (by first | exact .inl rfl | exact .inr rfl) he) (se_mod (se_intc (by rfl) T.n_int (sa_cons (se_add (se_mul (se_rd (pv 2)) se_int) (se_mod (se_intc (by rfl) T.n_int (sa_cons (se_rd (pv 3)) sa_nil)) se_int)) sa_nil)) se_int))))
  (ss_one (ss_ret (se_mod (se_intc (by rfl) T.n_int (sa_cons (se_mul (se_mul (se_add (se_rd (pv 2)) se_int) (se_add (se_rd (pv 1)) se_int)) se_int) sa_nil)) se_int))))))
set_option maxHeartbeats 4000000 in
theorem ok__law_digits (T : Txt K mg) : FnG P w K mg base 1 T.a__law_digits T.d__law_digits ["cell", "sizes"] (spV K mg 2 none true F__law_digits) :=
  fn_ok (N := N__law_digits) (io := none) (ro := true) (body := m__law_digits) T.F__law_digits sc__law_digits rfl (by decide) fun cdv A outer s H E c =>
  (ss_cons (ss_setO (i := 2) (fun te he => ps_set (i := 2) sc__law_digits.nd rfl (by first | exact .inl rfl | exact .inr rfl) he) (so_lst sa_nil))
  (ss_cons (ss_set (i := 3) (fun te he => ps_set (i := 3) sc__law_digits.nd rfl (by first | exact .inl rfl | exact .inr rfl) he) (se_intc (by rfl) T.n_int (sa_cons (se_rd (pv 0)) sa_nil)))
  (ss_cons (ss_if (st_ge (se_rd (pv 3)) (se_pow se_int se_int)) (ss_cons (ss_set (i := 3) (fun te he => ps_set (i := 3) sc__law_digits.nd rfl (by first | exact .inl rfl | exact .inr rfl) he) (se_sub (se_rd (pv 3)) (se_pow se_int se_int)))
  (ss_cons (ss_for c.po rfl (si_seq (se_rd (pv 1))) (sg_name (pg_name (i := 4) sc__law_digits.nd rfl (by first | exact .inl rfl | exact .inr rfl)))
  (ss_cons (ss_app (i := 2) (fun te he => pe_bm PySem.F.plainAttrs_list PySem.F.slot_list_append PySem.F.type_list_append mt_append (pv 2) (pa_cons he pa_nil)) (se_mod (se_intc (by rfl) T.n_int (sa_cons (se_rd (pv 3)) sa_nil)) (se_rd (pv 4))))
  (ss_one (ss_set (i := 3) (fun te he => ps_set (i := 3) sc__law_digits.nd rfl (by first | exact .inl rfl | exact .inr rfl) he) (se_div (se_intc (by rfl) T.n_int (sa_cons (se_rd (pv 3)) sa_nil)) (se_rd (pv 4)))))))
  (ss_one (ss_retO (so_tk (pv 2)))))) ss_nil)
  (ss_cons (ss_set (i := 5) (fun te he => ps_set (i := 5) sc__law_digits.nd rfl (by first | exact .inl rfl | exact .inr rfl) he) (se_mod (se_intc (by rfl) T.n_int (sa_cons (se_rd (pv 3)) sa_nil)) se_int))
  (ss_cons (ss_for c.po rfl (si_range1 (by rfl) T.n_range (sa_cons (se_len (by rfl) T.n_len (sa_cons (se_rd (pv 1)) sa_nil)) sa_nil)) (sg_name (pg_name (i := 6) sc__law_digits.nd rfl (by first | exact .inl rfl | exact .inr rfl)))
  (ss_cons (ss_set (i := 5) (fun te he => ps_set (i := 5) sc__law_digits.nd rfl (by first | exact .inl rfl | exact .inr rfl) he) (se_mod (se_intc (by rfl) T.n_int (sa_cons (se_add (se_add (se_mul (se_rd (pv 5)) se_int) (se_mul se_int (se_rd (pv 6)))) se_int) sa_nil)) se_int))
  (ss_cons (ss_set (i := 7) (fun te he => ps_set (i := 7) sc__law_digits.nd rfl (by first | exact .inl rfl | exact .inr rfl) he) (se_mod (se_intc (by rfl) T.n_int (sa_cons (se_mul (se_rd (pv 5)) (se_add (se_div (se_rd (pv 5)) se_int) se_int)) sa_nil)) se_int))
  (ss_one (ss_app (i := 2) (fun te he => pe_bm PySem.F.plainAttrs_list PySem.F.slot_list_append PySem.F.type_list_append mt_append (pv 2) (pa_cons he pa_nil)) (se_mod (se_div (se_rd (pv 7)) se_int) (se_ix (se_rd (pv 1)) (se_rd (pv 6)))))))))
  (ss_one (ss_retO (so_tk (pv 2)))))))))
set_option maxHeartbeats 4000000 in
theorem ok__law_reserved (T : Txt K mg) : FnG P w K mg base 1 T.a__law_reserved T.d__law_reserved [] (spV K mg 0 none true F__law_reserved) :=
  fn_ok (N := N__law_reserved) (io := none) (ro := true) (body := m__law_reserved) T.F__law_reserved sc__law_reserved rfl (by decide) fun cdv A outer s H E c =>
  (ss_one (ss_retO (so_lst (sa_cons se_str (sa_cons se_str (sa_cons se_str (sa_cons se_str (sa_cons se_str (sa_cons se_str (sa_cons se_str (sa_cons se_str (sa_cons se_str (sa_cons se_str (sa_cons se_str (sa_cons se_str sa_nil)))))))))))))))
set_option maxHeartbeats 4000000 in
theorem ok__law_word (T : Txt K mg) : FnG P w K mg base 1 T.a__law_word T.d__law_word ["ds", "words", "firsts", "barred"] (spV K mg 4 none false F__law_word) :=
  fn_ok (N := N__law_word) (io := none) (ro := false) (body := m__law_word) T.F__law_word sc__law_word rfl (by decide) fun cdv A outer s H E c =>
  (ss_cons (ss_set (i := 4) (fun te he => ps_set (i := 4) sc__law_word.nd rfl (by first | exact .inl rfl | exact .inr rfl) he) se_str)
  (ss_cons (ss_set (i := 5) (fun te he => ps_set (i := 5) sc__law_word.nd rfl (by first | exact .inl rfl | exact .inr rfl) he) (se_ix (se_rd (pv 2)) (se_ix (se_rd (pv 0)) se_int)))
  (ss_cons (ss_for c.po rfl (si_range1 (by rfl) T.n_range (sa_cons (se_ix (se_rd (pv 0)) se_int) sa_nil)) (sg_name (pg_name (i := 6) sc__law_word.nd rfl (by first | exact .inl rfl | exact .inr rfl)))
  (ss_one (ss_set (i := 5) (fun te he => ps_set (i := 5) sc__law_word.nd rfl (by first | exact .inl rfl | exact .inr rfl) he) (se_add (se_rd (pv 5)) (se_ix (se_rd (pv 4)) (se_ix (se_rd (pv 0)) (se_add se_int (se_rd (pv 6)))))))))
  (ss_cons (ss_if (st_gt (se_len (by rfl) T.n_len (sa_cons (se_rd (pv 1)) sa_nil)) se_int) (ss_cons (ss_set (i := 7) (fun te he => ps_set (i := 7) sc__law_word.nd rfl (by first | exact .inl rfl | exact .inr rfl) he) (se_ix (se_rd (pv 1)) (se_sub (se_len (by rfl) T.n_len (sa_cons (se_rd (pv 1)) sa_nil)) se_int)))
  (ss_cons (ss_set (i := 8) (fun te he => ps_set (i := 8) sc__law_word.nd rfl (by first | exact .inl rfl | exact .inr rfl) he) (se_mod (se_ix (se_rd (pv 0)) se_int) (se_len (by rfl) T.n_len (sa_cons (se_rd (pv 7)) sa_nil))))
  (ss_cons (ss_if (st_eq c.u5 (se_ix (se_rd (pv 0)) se_int) se_int) (ss_one (ss_set (i := 5) (fun te he => ps_set (i := 5) sc__law_word.nd rfl (by first | exact .inl rfl | exact .inr rfl) he) (se_add (se_slice (se_rd (pv 7)) sp_none (sp_some se_int)) (se_ix (se_rd (pv 4)) (se_ix (se_rd (pv 0)) se_int))))) ss_nil)
  (ss_cons (ss_if (PW.pt (sw_and (st_eq c.u5 (se_ix (se_rd (pv 0)) se_int) se_int) (sw_and1 (st_eq c.u5 (se_rd (pv 8)) se_int)))) (ss_one (ss_set (i := 5) (fun te he => ps_set (i := 5) sc__law_word.nd rfl (by first | exact .inl rfl | exact .inr rfl) he) (se_add (se_ix (se_rd (pv 2)) (se_ix (se_rd (pv 0)) se_int)) (se_slice (se_rd (pv 7)) (sp_some se_int) sp_none)))) ss_nil)
  (ss_cons (ss_if (PW.pt (sw_and (st_eq c.u5 (se_ix (se_rd (pv 0)) se_int) se_int) (sw_and1 (st_gt (se_rd (pv 8)) se_int)))) (ss_one (ss_set (i := 5) (fun te he => ps_set (i := 5) sc__law_word.nd rfl (by first | exact .inl rfl | exact .inr rfl) he) (se_add (se_add (se_slice (se_rd (pv 7)) sp_none (sp_some (se_rd (pv 8)))) (se_ix (se_rd (pv 4)) (se_ix (se_rd (pv 0)) se_int))) (se_slice (se_rd (pv 7)) (sp_some (se_add (se_rd (pv 8)) se_int)) sp_none)))) ss_nil)
  (ss_one (ss_if (PW.pt (sw_and (st_eq c.u5 (se_ix (se_rd (pv 0)) se_int) se_int) (sw_and1 (st_gt (se_len (by rfl) T.n_len (sa_cons (se_rd (pv 7)) sa_nil)) se_int)))) (ss_one (ss_set (i := 5) (fun te he => ps_set (i := 5) sc__law_word.nd rfl (by first | exact .inl rfl | exact .inr rfl) he) (se_slice (se_rd (pv 7)) sp_none (sp_some (se_sub (se_len (by rfl) T.n_len (sa_cons (se_rd (pv 7)) sa_nil)) se_int))))) ss_nil))))))) ss_nil)
  (ss_cons (ss_for c.po rfl (si_range1 (by rfl) T.n_range (sa_cons (se_add (se_add (se_len (by rfl) T.n_len (sa_cons (se_rd (pv 1)) sa_nil)) (se_len (by rfl) T.n_len (sa_cons (se_rd (pv 3)) sa_nil))) se_int) sa_nil)) (sg_name (pg_name (i := 9) sc__law_word.nd rfl (by first | exact .inl rfl | exact .inr rfl)))
  (ss_one (ss_if (PW.pt (sw_or (st_in c.u5 (se_rd (pv 5)) (se_rd (pv 1))) (sw_or1 (st_in c.u5 (se_rd (pv 5)) (se_rd (pv 3)))))) (ss_one (ss_set (i := 5) (fun te he => ps_set (i := 5) sc__law_word.nd rfl (by first | exact .inl rfl | exact .inr rfl) he) (se_add (se_slice (se_rd (pv 5)) sp_none (sp_some se_int)) (se_ix (se_rd (pv 4)) (se_mod (se_intc (by rfl) T.n_int (sa_cons (se_add (se_ix (se_rd (pv 0)) se_int) (se_rd (pv 9))) sa_nil)) se_int))))) ss_nil)))
  (ss_one (ss_ret (se_rd (pv 5)))))))))
set_option maxHeartbeats 4000000 in
theorem ok__law_words (T : Txt K mg) : FnG P w K mg base 2 T.a__law_words T.d__law_words ["script", "at", "many", "firsts", "barred"] (spV K mg 5 none true F__law_words) :=
  fn_ok (N := N__law_words) (io := none) (ro := true) (body := m__law_words) T.F__law_words sc__law_words rfl (by decide) fun cdv A outer s H E c =>
  (ss_cons (ss_setO (i := 5) (fun te he => ps_set (i := 5) sc__law_words.nd rfl (by first | exact .inl rfl | exact .inr rfl) he) (so_lst sa_nil))
  (ss_cons (ss_set (i := 6) (fun te he => ps_set (i := 6) sc__law_words.nd rfl (by first | exact .inl rfl | exact .inr rfl) he) (se_of (so_lst sa_nil)))
  (ss_cons (ss_for c.po rfl (si_range1 (by rfl) T.n_range (sa_cons (se_rd (pv 2)) sa_nil)) (sg_name (pg_name (i := 7) sc__law_words.nd rfl (by first | exact .inl rfl | exact .inr rfl)))
  (ss_cons (ss_if (st_eq c.u5 (se_mod (se_rd (pv 7)) se_int) se_int) (ss_one (ss_set (i := 6) (fun te he => ps_set (i := 6) sc__law_words.nd rfl (by first | exact .inl rfl | exact .inr rfl) he) (se_of (so_call c (by decide) (ok__law_digits T) (by rfl) T.g__law_digits T.F__law_digits.kp T.b__law_digits .nil DefOk.nil (sa_cons (se_call c (by decide) (ok__law_cell T) (by rfl) T.g__law_cell T.F__law_cell.kp T.b__law_cell .nil DefOk.nil (sa_cons (se_rd (pv 0)) (sa_cons (se_add (se_rd (pv 1)) (se_div (se_rd (pv 7)) se_int)) sa_nil))) (sa_cons (se_rep (se_add (se_of (so_lst (sa_cons se_int (sa_cons se_int (sa_cons se_int (sa_cons se_int sa_nil)))))) (se_rep (se_of (so_lst (sa_cons se_int sa_nil))) se_int)) se_int) sa_nil)))))) ss_nil)
  (ss_one (ss_app (i := 5) (fun te he => pe_bm PySem.F.plainAttrs_list PySem.F.slot_list_append PySem.F.type_list_append mt_append (pv 5) (pa_cons he pa_nil)) (se_with (se_call c (by decide) (ok__law_word T) (by rfl) T.g__law_word T.F__law_word.kp T.b__law_word .nil DefOk.nil (sa_cons (se_slice (se_rd (pv 6)) (sp_some (se_mul se_int (se_mod (se_rd (pv 7)) se_int))) (sp_some (se_add (se_mul se_int (se_mod (se_rd (pv 7)) se_int)) se_int))) (sa_cons (se_rd (pv 5)) (sa_cons (se_rd (pv 3)) (sa_cons (se_rd (pv 4)) sa_nil))))))))))
  (ss_one (ss_retO (so_tk (pv 5)))))))
set_option maxHeartbeats 4000000 in
theorem ok__law_subset (T : Txt K mg) : FnG P w K mg base 1 T.a__law_subset T.d__law_subset ["words", "digit"] (spV K mg 2 none false F__law_subset) :=
  fn_ok (N := N__law_subset) (io := none) (ro := false) (body := m__law_subset) T.F__law_subset sc__law_subset rfl (by decide) fun cdv A outer s H E c =>
  (ss_cons (ss_setO (i := 2) (fun te he => ps_set (i := 2) sc__law_subset.nd rfl (by first | exact .inl rfl | exact .inr rfl) he) (so_lst sa_nil))
  (ss_cons (ss_set (i := 3) (fun te he => ps_set (i := 3) sc__law_subset.nd rfl (by first | exact .inl rfl | exact .inr rfl) he) (se_intc (by rfl) T.n_int (sa_cons (se_rd (pv 1)) sa_nil)))
  (ss_cons (ss_if (st_lt (se_rd (pv 3)) se_int) (ss_one (ss_set (i := 3) (fun te he => ps_set (i := 3) sc__law_subset.nd rfl (by first | exact .inl rfl | exact .inr rfl) he) se_int)) ss_nil)
  (ss_cons (ss_for c.po rfl (si_seq (se_rd (pv 0))) (sg_name (pg_name (i := 4) sc__law_subset.nd rfl (by first | exact .inl rfl | exact .inr rfl)))
  (ss_cons (ss_if (st_eq c.u5 (se_mod (se_intc (by rfl) T.n_int (sa_cons (se_rd (pv 3)) sa_nil)) se_int) se_int) (ss_one (ss_app (i := 2) (fun te he => pe_bm PySem.F.plainAttrs_list PySem.F.slot_list_append PySem.F.type_list_append mt_append (pv 2) (pa_cons he pa_nil)) (se_rd (pv 4)))) ss_nil)
  (ss_one (ss_set (i := 3) (fun te he => ps_set (i := 3) sc__law_subset.nd rfl (by first | exact .inl rfl | exact .inr rfl) he) (se_div (se_rd (pv 3)) se_int)))))
  (ss_one (ss_ret (se_tuplec (by rfl) T.n_tuple (sa_cons (se_of (so_sorted (by rfl) T.n_sorted (sa_cons (se_mv (pv 2)) sa_nil))) sa_nil))))))))
set_option maxHeartbeats 4000000 in
theorem ok__law_kind (T : Txt K mg) : FnG P w K mg base 2 T.a__law_kind T.d__law_kind ["ds", "many", "words", "asked"] (spV K mg 4 none false F__law_kind) :=
  fn_ok (N := N__law_kind) (io := none) (ro := false) (body := m__law_kind) T.F__law_kind sc__law_kind rfl (by decide) fun cdv A outer s H E c =>
  (ss_cons (ss_setO (i := 4) (fun te he => ps_set (i := 4) sc__law_kind.nd rfl (by first | exact .inl rfl | exact .inr rfl) he) (so_lst sa_nil))
  (ss_cons (ss_set (i := 5) (fun te he => ps_set (i := 5) sc__law_kind.nd rfl (by first | exact .inl rfl | exact .inr rfl) he) se_int)
  (ss_cons (ss_set (i := 6) (fun te he => ps_set (i := 6) sc__law_kind.nd rfl (by first | exact .inl rfl | exact .inr rfl) he) (se_rd (pv 1)))
  (ss_cons (ss_for c.po rfl (si_range1 (by rfl) T.n_range (sa_cons (se_add (se_mul se_int (se_rd (pv 1))) se_int) sa_nil)) (sg_name (pg_name (i := 7) sc__law_kind.nd rfl (by first | exact .inl rfl | exact .inr rfl)))
  (ss_cons (ss_set (i := 8) (fun te he => ps_set (i := 8) sc__law_kind.nd rfl (by first | exact .inl rfl | exact .inr rfl) he) (se_ix (se_rd (pv 0)) (se_add se_int (se_mul se_int (se_mod (se_rd (pv 7)) se_int)))))
  (ss_cons (ss_set (i := 9) (fun te he => ps_set (i := 9) sc__law_kind.nd rfl (by first | exact .inl rfl | exact .inr rfl) he) (se_ix (se_of (so_lst (sa_cons se_int (sa_cons se_int (sa_cons (se_ix (se_rd (pv 0)) (se_add se_int (se_mul se_int (se_mod (se_rd (pv 7)) se_int)))) (sa_cons (se_ix (se_rd (pv 0)) (se_add se_int (se_mul se_int (se_mod (se_rd (pv 7)) se_int)))) sa_nil)))))) (se_ix (se_rd (pv 0)) se_int)))
  (ss_one (ss_if (PW.pt (sw_and (st_gt (se_rd (pv 6)) se_int) (sw_and1 (PW.pt (sw_or (st_eq c.u5 (se_rd (pv 5)) se_int) (sw_or1 (st_eq c.u5 (se_rd (pv 9)) se_int))))))) (ss_cons (ss_app (i := 4) (fun te he => pe_bm PySem.F.plainAttrs_list PySem.F.slot_list_append PySem.F.type_list_append mt_append (pv 4) (pa_cons he pa_nil)) (se_call c (by decide) (ok__law_subset T) (by rfl) T.g__law_subset T.F__law_subset.kp T.b__law_subset .nil DefOk.nil (sa_cons (se_rd (pv 3)) (sa_cons (se_rd (pv 8)) sa_nil))))
  (ss_cons (ss_set (i := 6) (fun te he => ps_set (i := 6) sc__law_kind.nd rfl (by first | exact .inl rfl | exact .inr rfl) he) (se_sub (se_rd (pv 6)) se_int))
  (ss_one (ss_set (i := 5) (fun te he => ps_set (i := 5) sc__law_kind.nd rfl (by first | exact .inl rfl | exact .inr rfl) he) (se_add (se_rd (pv 5)) se_int))))) (ss_cons (ss_app (i := 4) (fun te he => pe_bm PySem.F.plainAttrs_list PySem.F.slot_list_append PySem.F.type_list_append mt_append (pv 4) (pa_cons he pa_nil)) (se_ix (se_rd (pv 2)) (se_mod (se_intc (by rfl) T.n_int (sa_cons (se_rd (pv 8)) sa_nil)) (se_len (by rfl) T.n_len (sa_cons (se_rd (pv 2)) sa_nil)))))
  (ss_one (ss_set (i := 5) (fun te he => ps_set (i := 5) sc__law_kind.nd rfl (by first | exact .inl rfl | exact .inr rfl) he) (se_sub (se_rd (pv 5)) se_int)))))))))
  (ss_one (ss_ret (se_tuplec (by rfl) T.n_tuple (sa_cons (se_mv (pv 4)) sa_nil))))))))
set_option maxHeartbeats 4000000 in
theorem ok__law_drawn (T : Txt K mg) : FnG P w K mg base 3 T.a__law_drawn T.d__law_drawn ["cell", "most", "words", "asked"] (spV K mg 4 none false F__law_drawn) :=
  fn_ok (N := N__law_drawn) (io := none) (ro := false) (body := m__law_drawn) T.F__law_drawn sc__law_drawn rfl (by decide) fun cdv A outer s H E c =>
  (ss_cons (ss_set (i := 4) (fun te he => ps_set (i := 4) sc__law_drawn.nd rfl (by first | exact .inl rfl | exact .inr rfl) he) (se_of (so_call c (by decide) (ok__law_digits T) (by rfl) T.g__law_digits T.F__law_digits.kp T.b__law_digits .nil DefOk.nil (sa_cons (se_rd (pv 0)) (sa_cons (se_add (se_of (so_lst (sa_cons se_int (sa_cons se_int sa_nil)))) (se_rep (se_of (so_lst (sa_cons se_int (sa_cons se_int sa_nil)))) se_int)) sa_nil)))))
  (ss_cons (ss_set (i := 5) (fun te he => ps_set (i := 5) sc__law_drawn.nd rfl (by first | exact .inl rfl | exact .inr rfl) he) (se_ix (se_rd (pv 4)) se_int))
  (ss_cons (ss_if (st_gt (se_rd (pv 5)) se_int) (ss_one (ss_set (i := 5) (fun te he => ps_set (i := 5) sc__law_drawn.nd rfl (by first | exact .inl rfl | exact .inr rfl) he) (se_sub (se_rd (pv 5)) se_int))) ss_nil)
  (ss_one (ss_ret (se_call c (by decide) (ok__law_kind T) (by rfl) T.g__law_kind T.F__law_kind.kp T.b__law_kind .nil DefOk.nil (sa_cons (se_rd (pv 4)) (sa_cons (se_mod (se_intc (by rfl) T.n_int (sa_cons (se_rd (pv 5)) sa_nil)) (se_add (se_rd (pv 1)) se_int)) (sa_cons (se_rd (pv 2)) (sa_cons (se_rd (pv 3)) sa_nil))))))))))
set_option maxHeartbeats 4000000 in
theorem okh__law_same (T : Txt K mg) : FnGH P w K mg base 1 T.a__law_same T.d__law_same ["actual", "due"] (spV K mg 2 none false F__law_same) :=
  fn_okH (N := N__law_same) (ro := false) (body := m__law_same) T.F__law_same sc__law_same rfl (by decide) fun cdv A outer s H E p c =>
  (ss_one (ss_ret (se_eq c.u5 (se_repr c.u c.hg (by rfl) T.n_repr (sa_cons (se_rd (pv 0)) sa_nil)) (se_repr c.u c.hg (by rfl) T.n_repr (sa_cons (se_rd (pv 1)) sa_nil)))))
set_option maxHeartbeats 4000000 in
theorem ok__law_same (T : Txt K mg) : FnG P w K mg base 1 T.a__law_same T.d__law_same ["actual", "due"] (spV K mg 2 none false F__law_same) :=
  fn_ok (N := N__law_same) (io := none) (ro := false) (body := m__law_same) T.F__law_same sc__law_same rfl (by decide) fun cdv A outer s H E c =>
  (ss_one (ss_ret (se_eq c.u5 (se_repr c.u c.hg (by rfl) T.n_repr (sa_cons (se_rd (pv 0)) sa_nil)) (se_repr c.u c.hg (by rfl) T.n_repr (sa_cons (se_rd (pv 1)) sa_nil)))))
set_option maxHeartbeats 4000000 in
theorem ok__law_paths (T : Txt K mg) : FnG P w K mg base 1 T.a__law_paths T.d__law_paths ["tokens"] (spV K mg 1 none true F__law_paths) :=
  fn_ok (N := N__law_paths) (io := none) (ro := true) (body := m__law_paths) T.F__law_paths sc__law_paths rfl (by decide) fun cdv A outer s H E c =>
  (ss_cons (ss_setO (i := 1) (fun te he => ps_set (i := 1) sc__law_paths.nd rfl (by first | exact .inl rfl | exact .inr rfl) he) (so_lst (sa_cons se_str sa_nil)))
  (ss_cons (ss_setO (i := 2) (fun te he => ps_set (i := 2) sc__law_paths.nd rfl (by first | exact .inl rfl | exact .inr rfl) he) (so_lst sa_nil))
  (ss_cons (ss_for c.po rfl (si_seq (se_rd (pv 0))) (sg_name (pg_name (i := 3) sc__law_paths.nd rfl (by first | exact .inl rfl | exact .inr rfl)))
  (ss_cons (ss_set (i := 4) (fun te he => ps_set (i := 4) sc__law_paths.nd rfl (by first | exact .inl rfl | exact .inr rfl) he) (se_pop (pe_bm0 PySem.F.plainAttrs_list PySem.F.slot_list_pop PySem.F.type_list_pop mt_pop (pv 1))))
  (ss_cons (ss_app (i := 2) (fun te he => pe_bm PySem.F.plainAttrs_list PySem.F.slot_list_append PySem.F.type_list_append mt_append (pv 2) (pa_cons he pa_nil)) (se_rd (pv 4)))
  (ss_one (ss_if (st_val (se_isi (T := "tuple") (by rfl) T.n_isinstance (by rfl) T.n_tuple boot_tuple' (se_rd (pv 3)))) (ss_cons (ss_app (i := 1) (fun te he => pe_bm PySem.F.plainAttrs_list PySem.F.slot_list_append PySem.F.type_list_append mt_append (pv 1) (pa_cons he pa_nil)) (se_add (se_rd (pv 4)) se_str))
  (ss_one (ss_app (i := 1) (fun te he => pe_bm PySem.F.plainAttrs_list PySem.F.slot_list_append PySem.F.type_list_append mt_append (pv 1) (pa_cons he pa_nil)) (se_add (se_rd (pv 4)) se_str)))) ss_nil)))))
  (ss_one (ss_retO (so_tk (pv 2)))))))
set_option maxHeartbeats 4000000 in
theorem ok__law_end (T : Txt K mg) : FnG P w K mg base 1 T.a__law_end T.d__law_end ["tokens", "at"] (spV K mg 2 none false F__law_end) :=
  fn_ok (N := N__law_end) (io := none) (ro := false) (body := m__law_end) T.F__law_end sc__law_end rfl (by decide) fun cdv A outer s H E c =>
  (ss_cons (ss_set (i := 2) (fun te he => ps_set (i := 2) sc__law_end.nd rfl (by first | exact .inl rfl | exact .inr rfl) he) se_int)
  (ss_cons (ss_for c.po rfl (si_range2 (by rfl) T.n_range (sa_cons (se_rd (pv 1)) (sa_cons (se_len (by rfl) T.n_len (sa_cons (se_rd (pv 0)) sa_nil)) sa_nil))) (sg_name (pg_name (i := 3) sc__law_end.nd rfl (by first | exact .inl rfl | exact .inr rfl)))
  (ss_cons (ss_set (i := 2) (fun te he => ps_set (i := 2) sc__law_end.nd rfl (by first | exact .inl rfl | exact .inr rfl) he) (se_sub (se_rd (pv 2)) se_int))
  (ss_cons (ss_if (st_val (se_isi (T := "tuple") (by rfl) T.n_isinstance (by rfl) T.n_tuple boot_tuple' (se_ix (se_rd (pv 0)) (se_rd (pv 3))))) (ss_one (ss_set (i := 2) (fun te he => ps_set (i := 2) sc__law_end.nd rfl (by first | exact .inl rfl | exact .inr rfl) he) (se_add (se_rd (pv 2)) se_int))) ss_nil)
  (ss_one (ss_if (st_eq c.u5 (se_rd (pv 2)) se_int) (ss_one (ss_ret (se_add (se_rd (pv 3)) se_int))) ss_nil)))))
  (ss_one (ss_ret (se_len (by rfl) T.n_len (sa_cons (se_rd (pv 0)) sa_nil))))))
set_option maxHeartbeats 4000000 in
theorem ok__law_refused (T : Txt K mg) : FnG P w K mg base 5 T.a__law_refused T.d__law_refused ["number", "tokens", "other", "wrong"] (spV K mg 4 none false F__law_refused) :=
  fn_ok (N := N__law_refused) (io := none) (ro := false) (body := m__law_refused) T.F__law_refused sc__law_refused rfl (by decide) fun cdv A outer s H E c =>
  (ss_cons (ss_try_as (i := 4) c rfl rfl rfl sc__law_refused.nd rfl rfl T.err (by decide +kernel) (by rfl) (by decide) (fun W' pn xe c1 => (ss_one (ss_if (st_eq c1.u5 (se_rd (pv 0)) se_int) (ss_one (ss_expr (se_call c1 (by decide) (ok_path_of T) (by rfl) T.g_path_of T.F_path_of.kp T.b_path_of .nil DefOk.nil (sa_cons (se_rd (pv 1)) (sa_cons (se_rd (pv 3)) sa_nil))))) (ss_one (ss_if (st_eq c1.u5 (se_rd (pv 0)) se_int) (ss_one (ss_expr (se_call c1 (by decide) (ok_kind_at T) (by rfl) T.g_kind_at T.F_kind_at.kp T.b_kind_at .nil DefOk.nil (sa_cons (se_rd (pv 1)) (sa_cons (se_rd (pv 3)) sa_nil))))) (ss_one (ss_if (st_eq c1.u5 (se_rd (pv 0)) se_int) (ss_one (ss_expr (se_call c1 (by decide) (ok_put_kind T) (by rfl) T.g_put_kind T.F_put_kind.kp T.b_put_kind .nil DefOk.nil (sa_cons (se_rd (pv 1)) (sa_cons (se_rd (pv 3)) (sa_cons (se_rd (pv 2)) sa_nil)))))) (ss_one (ss_expr (se_call c1 (by decide) (ok_place_of T) (by rfl) T.g_place_of T.F_place_of.kp T.b_place_of .nil DefOk.nil (sa_cons (se_rd (pv 1)) (sa_cons (se_rd (pv 3)) sa_nil)))))))))))) (fun a oe pn ch1 => (ss_cons (ss_if (st_val (se_isXT T.err (by decide +kernel) (by decide) (by rfl) T.n_isinstance (nl_cons T.err (by decide +kernel) (by rfl) (by decide) (nl_cons T.err (by decide +kernel) (by rfl) (by decide) (nl_cons T.err (by decide +kernel) (by rfl) (by decide) (nl_cons T.err (by decide +kernel) (by rfl) (by decide) (nl_cons T.err (by decide +kernel) (by rfl) (by decide) (nl_cons T.err (by decide +kernel) (by rfl) (by decide) (nl_cons T.err (by decide +kernel) (by rfl) (by decide) (nl_cons T.err (by decide +kernel) (by rfl) (by decide) (nl_cons T.err (by decide +kernel) (by rfl) (by decide) (nl_cons T.err (by decide +kernel) (by rfl) (by decide) nl_nil)))))))))) (pv 4))) (ss_one (ss_ret se_bl)) ss_nil)
  (ss_cons (ss_if (st_val (se_isXT T.err (by decide +kernel) (by decide) (by rfl) T.n_isinstance (nl_cons T.err (by decide +kernel) (by rfl) (by decide) (nl_cons T.err (by decide +kernel) (by rfl) (by decide) (nl_cons T.err (by decide +kernel) (by rfl) (by decide) (nl_cons T.err (by decide +kernel) (by rfl) (by decide) (nl_cons T.err (by decide +kernel) (by rfl) (by decide) (nl_cons T.err (by decide +kernel) (by rfl) (by decide) nl_nil)))))) (pv 4))) (ss_one (ss_ret se_bl)) ss_nil)
  (ss_one (ss_ret (se_and (se_isX T.err (by decide +kernel) (by rfl) T.n_isinstance (by rfl) (by decide) (pv 4)) (se_and (se_isXV T.err (by rfl) T.n_isinstance (by rfl) T.n_ValueError (pv 4)) (se_one (se_callH ch1 (by decide) (okh__law_same T) (by rfl) T.g__law_same T.F__law_same.kp T.b__law_same .nil DefOk.nil (sa_cons (se_exF T.err (by decide +kernel) (pv 4)) (sa_cons (se_rd (pv 3)) sa_nil))))))))))))
  (ss_one (ss_ret se_bl)))
set_option maxHeartbeats 4000000 in
theorem ok__law_walked (T : Txt K mg) : FnG P w K mg base 5 T.a__law_walked T.d__law_walked ["tokens", "routes"] (spV K mg 2 none false F__law_walked) :=
  fn_ok (N := N__law_walked) (io := none) (ro := false) (body := m__law_walked) T.F__law_walked sc__law_walked rfl (by decide) fun cdv A outer s H E c =>
  (ss_cons (ss_set (i := 2) (fun te he => ps_set (i := 2) sc__law_walked.nd rfl (by first | exact .inl rfl | exact .inr rfl) he) (se_tuplec (by rfl) T.n_tuple (sa_cons (se_of (so_lc (own := [("route", 4)]) rfl sc__law_walked.nd (si_seq (se_rd (pv 1))) (blkOk_by (N := N__law_walked) (sc := defScope s__law_walked) (by decide +kernel)) (by decide) (fun s H C cl fp => (sg_name (pg_name (i := 4) sc__law_walked.nd rfl (by first | exact .inl rfl | exact .inr rfl)))) (fun s H C cl fp => sts_nil) (fun s H C cl fp => (se_ix (se_of (so_lst (sa_cons se_int (sa_cons (se_neg se_int) sa_nil)))) (se_mod (se_intc (by rfl) T.n_int (sa_cons (se_count (pe_m1 PySem.F.slot_str_count PySem.F.type_str_count mt_count (se_rd (pv 4)) se_str)) sa_nil)) se_int))))) sa_nil)))
  (ss_cons (ss_if (st_not (st_val (se_call c (by decide) (ok__law_same T) (by rfl) T.g__law_same T.F__law_same.kp T.b__law_same .nil DefOk.nil (sa_cons (se_call c (by decide) (ok_signs_of T) (by rfl) T.g_signs_of T.F_signs_of.kp T.b_signs_of .nil DefOk.nil (sa_cons (se_rd (pv 0)) sa_nil)) (sa_cons (se_rd (pv 2)) sa_nil))))) (ss_one (ss_ret se_bl)) ss_nil)
  (ss_cons (ss_for c.po rfl (si_range1 (by rfl) T.n_range (sa_cons (se_len (by rfl) T.n_len (sa_cons (se_rd (pv 0)) sa_nil)) sa_nil)) (sg_name (pg_name (i := 3) sc__law_walked.nd rfl (by first | exact .inl rfl | exact .inr rfl)))
  (ss_cons (ss_if (PW.pt (sw_or (st_not (st_val (se_call c (by decide) (ok__law_same T) (by rfl) T.g__law_same T.F__law_same.kp T.b__law_same .nil DefOk.nil (sa_cons (se_call c (by decide) (ok_path_of T) (by rfl) T.g_path_of T.F_path_of.kp T.b_path_of .nil DefOk.nil (sa_cons (se_rd (pv 0)) (sa_cons (se_rd (pv 3)) sa_nil))) (sa_cons (se_ix (se_rd (pv 1)) (se_rd (pv 3))) sa_nil))))) (sw_or1 (st_not (st_val (se_call c (by decide) (ok__law_same T) (by rfl) T.g__law_same T.F__law_same.kp T.b__law_same .nil DefOk.nil (sa_cons (se_call c (by decide) (ok_place_of T) (by rfl) T.g_place_of T.F_place_of.kp T.b_place_of .nil DefOk.nil (sa_cons (se_rd (pv 0)) (sa_cons (se_ix (se_rd (pv 1)) (se_rd (pv 3))) sa_nil))) (sa_cons (se_rd (pv 3)) sa_nil)))))))) (ss_one (ss_ret se_bl)) ss_nil)
  (ss_one (ss_if (st_not (st_val (se_call c (by decide) (ok__law_same T) (by rfl) T.g__law_same T.F__law_same.kp T.b__law_same .nil DefOk.nil (sa_cons (se_call c (by decide) (ok_kind_at T) (by rfl) T.g_kind_at T.F_kind_at.kp T.b_kind_at .nil DefOk.nil (sa_cons (se_rd (pv 0)) (sa_cons (se_rd (pv 3)) sa_nil))) (sa_cons (se_slice (se_rd (pv 0)) (sp_some (se_rd (pv 3))) (sp_some (se_call c (by decide) (ok__law_end T) (by rfl) T.g__law_end T.F__law_end.kp T.b__law_end .nil DefOk.nil (sa_cons (se_rd (pv 0)) (sa_cons (se_rd (pv 3)) sa_nil))))) sa_nil))))) (ss_one (ss_ret se_bl)) ss_nil))))
  (ss_one (ss_ret (se_call c (by decide) (ok__law_same T) (by rfl) T.g__law_same T.F__law_same.kp T.b__law_same .nil DefOk.nil (sa_cons (se_call c (by decide) (ok_signs_of T) (by rfl) T.g_signs_of T.F_signs_of.kp T.b_signs_of .nil DefOk.nil (sa_cons (se_rd (pv 0)) sa_nil)) (sa_cons (se_rd (pv 2)) sa_nil))))))))
set_option maxHeartbeats 4000000 in
theorem ok__law_changed (T : Txt K mg) : FnG P w K mg base 5 T.a__law_changed T.d__law_changed ["tokens", "other", "chosen"] (spV K mg 3 none false F__law_changed) :=
  fn_ok (N := N__law_changed) (io := none) (ro := false) (body := m__law_changed) T.F__law_changed sc__law_changed rfl (by decide) fun cdv A outer s H E c =>
  (ss_cons (ss_for c.po rfl (si_seq (se_rd (pv 2))) (sg_name (pg_name (i := 3) sc__law_changed.nd rfl (by first | exact .inl rfl | exact .inr rfl)))
  (ss_cons (ss_set (i := 4) (fun te he => ps_set (i := 4) sc__law_changed.nd rfl (by first | exact .inl rfl | exact .inr rfl) he) (se_mod (se_intc (by rfl) T.n_int (sa_cons (se_rd (pv 3)) sa_nil)) (se_len (by rfl) T.n_len (sa_cons (se_rd (pv 0)) sa_nil))))
  (ss_cons (ss_set (i := 5) (fun te he => ps_set (i := 5) sc__law_changed.nd rfl (by first | exact .inl rfl | exact .inr rfl) he) (se_call c (by decide) (ok__law_end T) (by rfl) T.g__law_end T.F__law_end.kp T.b__law_end .nil DefOk.nil (sa_cons (se_rd (pv 0)) (sa_cons (se_rd (pv 4)) sa_nil))))
  (ss_cons (ss_set (i := 6) (fun te he => ps_set (i := 6) sc__law_changed.nd rfl (by first | exact .inl rfl | exact .inr rfl) he) (se_add (se_add (se_slice (se_rd (pv 0)) sp_none (sp_some (se_rd (pv 4)))) (se_rd (pv 1))) (se_slice (se_rd (pv 0)) (sp_some (se_rd (pv 5))) sp_none)))
  (ss_cons (ss_if (st_not (st_val (se_call c (by decide) (ok__law_same T) (by rfl) T.g__law_same T.F__law_same.kp T.b__law_same .nil DefOk.nil (sa_cons (se_call c (by decide) (ok_put_kind T) (by rfl) T.g_put_kind T.F_put_kind.kp T.b_put_kind .nil DefOk.nil (sa_cons (se_rd (pv 0)) (sa_cons (se_rd (pv 4)) (sa_cons (se_rd (pv 1)) sa_nil)))) (sa_cons (se_rd (pv 6)) sa_nil))))) (ss_one (ss_ret se_bl)) ss_nil)
  (ss_one (ss_if (PW.pt (sw_and (st_lt (se_len (by rfl) T.n_len (sa_cons (se_rd (pv 6)) sa_nil)) se_int) (sw_and1 (st_not (st_val (se_call c (by decide) (ok__law_same T) (by rfl) T.g__law_same T.F__law_same.kp T.b__law_same .nil DefOk.nil (sa_cons (se_call c (by decide) (ok_put_kind T) (by rfl) T.g_put_kind T.F_put_kind.kp T.b_put_kind .nil DefOk.nil (sa_cons (se_rd (pv 6)) (sa_cons (se_rd (pv 4)) (sa_cons (se_slice (se_rd (pv 0)) (sp_some (se_rd (pv 4))) (sp_some (se_rd (pv 5)))) sa_nil)))) (sa_cons (se_rd (pv 0)) sa_nil)))))))) (ss_one (ss_ret se_bl)) ss_nil)))))))
  (ss_one (ss_ret se_bl)))
set_option maxHeartbeats 4000000 in
theorem ok__law_strangers (T : Txt K mg) : FnG P w K mg base 6 T.a__law_strangers T.d__law_strangers ["tokens", "other", "routes", "ds"] (spV K mg 4 none false F__law_strangers) :=
  fn_ok (N := N__law_strangers) (io := none) (ro := false) (body := m__law_strangers) T.F__law_strangers sc__law_strangers rfl (by decide) fun cdv A outer s H E c =>
  (ss_cons (ss_set (i := 4) (fun te he => ps_set (i := 4) sc__law_strangers.nd rfl (by first | exact .inl rfl | exact .inr rfl) he) (se_len (by rfl) T.n_len (sa_cons (se_rd (pv 0)) sa_nil)))
  (ss_cons (ss_for c.po rfl (si_seq (se_of (so_lst (sa_cons (se_neg se_int) (sa_cons (se_neg (se_rd (pv 4))) (sa_cons (se_rd (pv 4)) (sa_cons (se_add (se_add (se_rd (pv 4)) se_int) (se_ix (se_rd (pv 3)) se_int)) (sa_cons (se_sub (se_sub (se_neg (se_rd (pv 4))) se_int) (se_ix (se_rd (pv 3)) se_int)) sa_nil)))))))) (sg_name (pg_name (i := 5) sc__law_strangers.nd rfl (by first | exact .inl rfl | exact .inr rfl)))
  (ss_one (ss_for c.po rfl (si_range1 (by rfl) T.n_range (sa_cons se_int sa_nil)) (sg_name (pg_name (i := 6) sc__law_strangers.nd rfl (by first | exact .inl rfl | exact .inr rfl)))
  (ss_one (ss_if (st_not (st_val (se_call c (by decide) (ok__law_refused T) (by rfl) T.g__law_refused T.F__law_refused.kp T.b__law_refused .nil DefOk.nil (sa_cons (se_rd (pv 6)) (sa_cons (se_rd (pv 0)) (sa_cons (se_rd (pv 1)) (sa_cons (se_rd (pv 5)) sa_nil))))))) (ss_one (ss_ret se_bl)) ss_nil)))))
  (ss_cons (lc_set (i := 7) (own := [("k", 8)]) (ps_setLc (i := 7) (own := [("k", 8)]) rfl sc__law_strangers.nd rfl rfl (sw_true rfl rfl rfl (by decide +kernel)) (si_range1 (by rfl) T.n_range (sa_cons (se_rd (pv 4)) sa_nil)) (blkOk_by (N := N__law_strangers) (sc := defScope s__law_strangers) (by decide +kernel)) (fun s H C cl fp => (sg_name (pg_name (i := 8) sc__law_strangers.nd rfl (by first | exact .inl rfl | exact .inr rfl)))) (fun s H C cl fp => (sts_one (st_not (st_val (se_isi (T := "tuple") (by rfl) T.n_isinstance (by rfl) T.n_tuple boot_tuple' (se_ix (se_rd (pv 0)) (se_rd (pv 8)))))))) (fun s H C cl fp => (se_rd (pv 8)))) (by decide))
  (ss_cons (ss_for c.po rfl (si_range1 (by rfl) T.n_range (sa_cons se_int sa_nil)) (sg_name (pg_name (i := 8) sc__law_strangers.nd rfl (by first | exact .inl rfl | exact .inr rfl)))
  (ss_cons (ss_set (i := 9) (fun te he => ps_set (i := 9) sc__law_strangers.nd rfl (by first | exact .inl rfl | exact .inr rfl) he) (se_ix (se_rd (pv 2)) (se_with (se_ix (se_rd (pv 7)) (se_mod (se_ix (se_rd (pv 3)) (se_add se_int (se_rd (pv 8)))) (se_len (by rfl) T.n_len (sa_cons (se_rd (pv 7)) sa_nil)))))))
  (ss_cons (ss_for c.po rfl (si_range1 (by rfl) T.n_range (sa_cons (se_ix (se_of (so_lst (sa_cons se_int (sa_cons se_int (sa_cons se_int (sa_cons se_int sa_nil)))))) (se_rd (pv 8))) sa_nil)) (sg_name (pg_name (i := 10) sc__law_strangers.nd rfl (by first | exact .inl rfl | exact .inr rfl)))
  (ss_one (ss_set (i := 9) (fun te he => ps_set (i := 9) sc__law_strangers.nd rfl (by first | exact .inl rfl | exact .inr rfl) he) (se_add (se_rd (pv 9)) (se_ix se_str (se_ix (se_rd (pv 3)) (se_add se_int (se_mod (se_intc (by rfl) T.n_int (sa_cons (se_add (se_rd (pv 8)) (se_rd (pv 10))) sa_nil)) se_int))))))))
  (ss_one (ss_if (st_not (st_val (se_call c (by decide) (ok__law_refused T) (by rfl) T.g__law_refused T.F__law_refused.kp T.b__law_refused .nil DefOk.nil (sa_cons se_int (sa_cons (se_rd (pv 0)) (sa_cons (se_rd (pv 1)) (sa_cons (se_rd (pv 9)) sa_nil))))))) (ss_one (ss_ret se_bl)) ss_nil)))))
  (ss_one (ss_ret se_bl))))))
set_option maxHeartbeats 4000000 in
theorem ok_law (T : Txt K mg) : FnG P w K mg base 7 T.a_law T.d_law ["script"] (spV K mg 1 none false F_law) :=
  fn_ok (N := N_law) (io := none) (ro := false) (body := m_law) T.F_law sc_law rfl (by decide) fun cdv A outer s H E c =>
  (ss_cons (ss_set (i := 1) (fun te he => ps_set (i := 1) sc_law.nd rfl (by first | exact .inl rfl | exact .inr rfl) he) se_str)
  (ss_cons (ss_setO (i := 2) (fun te he => ps_set (i := 2) sc_law.nd rfl (by first | exact .inl rfl | exact .inr rfl) he) (so_call c (by decide) (ok__law_words T) (by rfl) T.g__law_words T.F__law_words.kp T.b__law_words .nil DefOk.nil (sa_cons (se_rd (pv 0)) (sa_cons se_int (sa_cons se_int (sa_cons (se_rd (pv 1)) (sa_cons (se_of (so_lst sa_nil)) sa_nil)))))))
  (ss_cons (ss_set (i := 3) (fun te he => ps_set (i := 3) sc_law.nd rfl (by first | exact .inl rfl | exact .inr rfl) he) (se_of (so_call c (by decide) (ok__law_words T) (by rfl) T.g__law_words T.F__law_words.kp T.b__law_words .nil DefOk.nil (sa_cons (se_rd (pv 0)) (sa_cons se_int (sa_cons se_int (sa_cons (se_upper (pe_bm0 PySem.F.plainAttrs_str PySem.F.slot_str_upper PySem.F.type_str_upper mt_upper (se_rd (pv 1)))) (sa_cons (se_of (so_lst sa_nil)) sa_nil))))))))
  (ss_cons (ss_set (i := 4) (fun te he => ps_set (i := 4) sc_law.nd rfl (by first | exact .inl rfl | exact .inr rfl) he) (se_of (so_sorted (by rfl) T.n_sorted (sa_cons (se_of (so_call c (by decide) (ok__law_words T) (by rfl) T.g__law_words T.F__law_words.kp T.b__law_words .nil DefOk.nil (sa_cons (se_rd (pv 0)) (sa_cons se_int (sa_cons se_int (sa_cons (se_rd (pv 1)) (sa_cons (se_of (so_call0 c (by decide) (ok__law_reserved T) (by rfl) T.g__law_reserved T.F__law_reserved.kp T.b__law_reserved .nil DefOk.nil)) sa_nil))))))) sa_nil))))
  (ss_cons (ss_set (i := 5) (fun te he => ps_set (i := 5) sc_law.nd rfl (by first | exact .inl rfl | exact .inr rfl) he) (se_of (so_call c (by decide) (ok__law_digits T) (by rfl) T.g__law_digits T.F__law_digits.kp T.b__law_digits .nil DefOk.nil (sa_cons (se_call c (by decide) (ok__law_cell T) (by rfl) T.g__law_cell T.F__law_cell.kp T.b__law_cell .nil DefOk.nil (sa_cons (se_rd (pv 0)) (sa_cons se_int sa_nil))) (sa_cons (se_of (so_lst (sa_cons se_int (sa_cons se_int (sa_cons se_int (sa_cons se_int (sa_cons se_int sa_nil))))))) sa_nil)))))
  (ss_cons (ss_if (st_eq c.u5 (se_ix (se_rd (pv 5)) se_int) se_int) (ss_one (ss_put (fun te ti he hi => ps_asg he (pg_sub (pv 2) hi set_list)) (se_ix (se_of (so_call0 c (by decide) (ok__law_reserved T) (by rfl) T.g__law_reserved T.F__law_reserved.kp T.b__law_reserved .nil DefOk.nil)) (se_ix (se_rd (pv 5)) se_int)) se_int)) ss_nil)
  (ss_cons (ss_if (st_eq c.u5 (se_ix (se_rd (pv 5)) se_int) se_int) (ss_one (ss_put (fun te ti he hi => ps_asg he (pg_sub (pv 2) hi set_list)) (se_ix (se_rd (pv 4)) (se_ix (se_rd (pv 5)) se_int)) se_int)) ss_nil)
  (ss_cons (ss_set (i := 6) (fun te he => ps_set (i := 6) sc_law.nd rfl (by first | exact .inl rfl | exact .inr rfl) he) (se_add (se_mv (pv 2)) (se_rd (pv 3))))
  (ss_cons (ss_set (i := 7) (fun te he => ps_set (i := 7) sc_law.nd rfl (by first | exact .inl rfl | exact .inr rfl) he) (se_call c (by decide) (ok__law_drawn T) (by rfl) T.g__law_drawn T.F__law_drawn.kp T.b__law_drawn .nil DefOk.nil (sa_cons (se_call c (by decide) (ok__law_cell T) (by rfl) T.g__law_cell T.F__law_cell.kp T.b__law_cell .nil DefOk.nil (sa_cons (se_rd (pv 0)) (sa_cons se_int sa_nil))) (sa_cons se_int (sa_cons (se_rd (pv 6)) (sa_cons (se_rd (pv 4)) sa_nil))))))
  (ss_cons (ss_set (i := 8) (fun te he => ps_set (i := 8) sc_law.nd rfl (by first | exact .inl rfl | exact .inr rfl) he) (se_call c (by decide) (ok__law_drawn T) (by rfl) T.g__law_drawn T.F__law_drawn.kp T.b__law_drawn .nil DefOk.nil (sa_cons (se_call c (by decide) (ok__law_cell T) (by rfl) T.g__law_cell T.F__law_cell.kp T.b__law_cell .nil DefOk.nil (sa_cons (se_rd (pv 0)) (sa_cons se_int sa_nil))) (sa_cons se_int (sa_cons (se_rd (pv 6)) (sa_cons (se_rd (pv 4)) sa_nil))))))
  (ss_cons (ss_set (i := 9) (fun te he => ps_set (i := 9) sc_law.nd rfl (by first | exact .inl rfl | exact .inr rfl) he) (se_call c (by decide) (ok__law_drawn T) (by rfl) T.g__law_drawn T.F__law_drawn.kp T.b__law_drawn .nil DefOk.nil (sa_cons (se_call c (by decide) (ok__law_cell T) (by rfl) T.g__law_cell T.F__law_cell.kp T.b__law_cell .nil DefOk.nil (sa_cons (se_rd (pv 0)) (sa_cons se_int sa_nil))) (sa_cons se_int (sa_cons (se_rd (pv 6)) (sa_cons (se_rd (pv 4)) sa_nil))))))
  (ss_cons (ss_set (i := 10) (fun te he => ps_set (i := 10) sc_law.nd rfl (by first | exact .inl rfl | exact .inr rfl) he) (se_of (so_call c (by decide) (ok__law_digits T) (by rfl) T.g__law_digits T.F__law_digits.kp T.b__law_digits .nil DefOk.nil (sa_cons (se_call c (by decide) (ok__law_cell T) (by rfl) T.g__law_cell T.F__law_cell.kp T.b__law_cell .nil DefOk.nil (sa_cons (se_rd (pv 0)) (sa_cons se_int sa_nil))) (sa_cons (se_add (se_add (se_of (so_lst (sa_cons se_int (sa_cons se_int sa_nil)))) (se_rep (se_of (so_lst (sa_cons se_int sa_nil))) se_int)) (se_rep (se_of (so_lst (sa_cons se_int sa_nil))) se_int)) sa_nil)))))
  (ss_cons (ss_set (i := 11) (fun te he => ps_set (i := 11) sc_law.nd rfl (by first | exact .inl rfl | exact .inr rfl) he) (se_add (se_of (so_lst (sa_cons se_int (sa_cons se_int sa_nil)))) (se_of (so_call c (by decide) (ok__law_digits T) (by rfl) T.g__law_digits T.F__law_digits.kp T.b__law_digits .nil DefOk.nil (sa_cons (se_call c (by decide) (ok__law_cell T) (by rfl) T.g__law_cell T.F__law_cell.kp T.b__law_cell .nil DefOk.nil (sa_cons (se_rd (pv 0)) (sa_cons se_int sa_nil))) (sa_cons (se_rep (se_of (so_lst (sa_cons se_int sa_nil))) se_int) sa_nil))))))
  (ss_cons (ss_for c.po rfl (si_seq (se_of (so_lst (sa_cons (se_rd (pv 7)) (sa_cons (se_rd (pv 8)) (sa_cons (se_rd (pv 7)) sa_nil)))))) (sg_name (pg_name (i := 12) sc_law.nd rfl (by first | exact .inl rfl | exact .inr rfl)))
  (ss_cons (ss_set (i := 13) (fun te he => ps_set (i := 13) sc_law.nd rfl (by first | exact .inl rfl | exact .inr rfl) he) (se_of (so_call c (by decide) (ok__law_paths T) (by rfl) T.g__law_paths T.F__law_paths.kp T.b__law_paths .nil DefOk.nil (sa_cons (se_rd (pv 12)) sa_nil))))
  (ss_cons (ss_set (i := 14) (fun te he => ps_set (i := 14) sc_law.nd rfl (by first | exact .inl rfl | exact .inr rfl) he) (se_add (se_rd (pv 11)) (se_of (so_lst (sa_cons (se_sub (se_len (by rfl) T.n_len (sa_cons (se_rd (pv 12)) sa_nil)) se_int) sa_nil)))))
  (ss_cons (ss_if (st_lt (se_len (by rfl) T.n_len (sa_cons (se_rd (pv 12)) sa_nil)) se_int) (ss_one (ss_set (i := 14) (fun te he => ps_set (i := 14) sc_law.nd rfl (by first | exact .inl rfl | exact .inr rfl) he) (se_of (so_listRg rfl (by rfl) T.n_list (by rfl) T.n_range (se_len (by rfl) T.n_len (sa_cons (se_rd (pv 12)) sa_nil)))))) ss_nil)
  (ss_cons (ss_if (PW.pt (sw_or (st_not (st_val (se_call c (by decide) (ok__law_walked T) (by rfl) T.g__law_walked T.F__law_walked.kp T.b__law_walked .nil DefOk.nil (sa_cons (se_rd (pv 12)) (sa_cons (se_rd (pv 13)) sa_nil))))) (sw_or1 (st_not (st_val (se_call c (by decide) (ok__law_changed T) (by rfl) T.g__law_changed T.F__law_changed.kp T.b__law_changed .nil DefOk.nil (sa_cons (se_rd (pv 12)) (sa_cons (se_rd (pv 9)) (sa_cons (se_rd (pv 14)) sa_nil))))))))) (ss_one (ss_ret se_bl)) ss_nil)
  (ss_one (ss_if (st_not (st_val (se_call c (by decide) (ok__law_strangers T) (by rfl) T.g__law_strangers T.F__law_strangers.kp T.b__law_strangers .nil DefOk.nil (sa_cons (se_rd (pv 12)) (sa_cons (se_rd (pv 9)) (sa_cons (se_rd (pv 13)) (sa_cons (se_rd (pv 10)) sa_nil))))))) (ss_one (ss_ret se_bl)) ss_nil)))))))
  (ss_cons (ss_set (i := 15) (fun te he => ps_set (i := 15) sc_law.nd rfl (by first | exact .inl rfl | exact .inr rfl) he) (se_mod (se_intc (by rfl) T.n_int (sa_cons (se_ix (se_rd (pv 5)) se_int) sa_nil)) (se_len (by rfl) T.n_len (sa_cons (se_rd (pv 7)) sa_nil))))
  (ss_cons (ss_set (i := 16) (fun te he => ps_set (i := 16) sc_law.nd rfl (by first | exact .inl rfl | exact .inr rfl) he) (se_ix (se_of (so_call c (by decide) (ok__law_paths T) (by rfl) T.g__law_paths T.F__law_paths.kp T.b__law_paths .nil DefOk.nil (sa_cons (se_rd (pv 7)) sa_nil))) (se_rd (pv 15))))
  (ss_cons (ss_if (PW.pt (sw_or (st_not (st_val (se_call c (by decide) (ok__law_same T) (by rfl) T.g__law_same T.F__law_same.kp T.b__law_same .nil DefOk.nil (sa_cons (se_kw0 c (by decide) (ok_path_of T) (by rfl) T.g_path_of T.F_path_of.kp (kb_path_of_0_10 T) (kjp_ord _ _) (sk_cons (se_rd (pv 15)) (sk_cons (se_rd (pv 7)) sk_nil))) (sa_cons (se_rd (pv 16)) sa_nil))))) (sw_or1 (st_not (st_val (se_call c (by decide) (ok__law_same T) (by rfl) T.g__law_same T.F__law_same.kp T.b__law_same .nil DefOk.nil (sa_cons (se_kw0 c (by decide) (ok_place_of T) (by rfl) T.g_place_of T.F_place_of.kp (kb_place_of_0_10 T) (kjp_ord _ _) (sk_cons (se_rd (pv 16)) (sk_cons (se_rd (pv 7)) sk_nil))) (sa_cons (se_rd (pv 15)) sa_nil)))))))) (ss_one (ss_ret se_bl)) ss_nil)
  (ss_cons (ss_if (st_not (st_val (se_call c (by decide) (ok__law_same T) (by rfl) T.g__law_same T.F__law_same.kp T.b__law_same .nil DefOk.nil (sa_cons (se_kw0 c (by decide) (ok_signs_of T) (by rfl) T.g_signs_of T.F_signs_of.kp (kb_signs_of_0 T) (kj_ord _ _) (sk_cons (se_tup (sa_cons (se_ix (se_rd (pv 6)) (se_mod (se_intc (by rfl) T.n_int (sa_cons (se_ix (se_rd (pv 5)) se_int) sa_nil)) se_int)) sa_nil)) sk_nil)) (sa_cons (se_tup (sa_cons se_int sa_nil)) sa_nil))))) (ss_one (ss_ret se_bl)) ss_nil)
  (ss_cons (ss_if (st_not (st_val (se_call c (by decide) (ok__law_same T) (by rfl) T.g__law_same T.F__law_same.kp T.b__law_same .nil DefOk.nil (sa_cons (se_kw0 c (by decide) (ok_kind_at T) (by rfl) T.g_kind_at T.F_kind_at.kp (kb_kind_at_0_10 T) (kjp_ord _ _) (sk_cons (se_rd (pv 15)) (sk_cons (se_rd (pv 7)) sk_nil))) (sa_cons (se_slice (se_rd (pv 7)) (sp_some (se_rd (pv 15))) (sp_some (se_call c (by decide) (ok__law_end T) (by rfl) T.g__law_end T.F__law_end.kp T.b__law_end .nil DefOk.nil (sa_cons (se_rd (pv 7)) (sa_cons (se_rd (pv 15)) sa_nil))))) sa_nil))))) (ss_one (ss_ret se_bl)) ss_nil)
  (ss_one (ss_ret (se_call c (by decide) (ok__law_same T) (by rfl) T.g__law_same T.F__law_same.kp T.b__law_same .nil DefOk.nil (sa_cons (se_kw0 c (by decide) (ok_put_kind T) (by rfl) T.g_put_kind T.F_put_kind.kp (kb_put_kind_0_210 T) (kjp_ord _ _) (sk_cons (se_rd (pv 9)) (sk_cons (se_rd (pv 15)) (sk_cons (se_rd (pv 7)) sk_nil)))) (sa_cons (se_add (se_add (se_slice (se_rd (pv 7)) sp_none (sp_some (se_rd (pv 15)))) (se_rd (pv 9))) (se_slice (se_rd (pv 7)) (sp_some (se_call c (by decide) (ok__law_end T) (by rfl) T.g__law_end T.F__law_end.kp T.b__law_end .nil DefOk.nil (sa_cons (se_rd (pv 7)) (sa_cons (se_rd (pv 15)) sa_nil)))) sp_none)) sa_nil))))))))))))))))))))))))
end
end VM.K02

set_option Elab.async false
set_option linter.all false
set_option autoImplicit false
set_option maxRecDepth 100000
set_option maxHeartbeats 400000
namespace VM
open PySem PySem.Spec PyProof.Rows L2

/-! ### a kind's places, visited in their order -/
section
variable {α β : Type} (l r : α → α)
def vis : Kd → α → List α
  | .wd _, v => [v]
  | .fn _ a b, v => v :: (vis a (l v) ++ vis b (r v))
theorem vis_len : ∀ (k : Kd) (v : α), (vis l r k v).length = k.sz
  | .wd _, _ => rfl
  | .fn _ a b, v => by simp [vis, Kd.sz, vis_len a, vis_len b]; omega
theorem vis_map {l' r' : β → β} {f : α → β} (hl : ∀ v, f (l v) = l' (f v)) (hr : ∀ v, f (r v) = r' (f v)) : ∀ (k : Kd) (v : α), (vis l r k v).map f = vis l' r' k (f v)
  | .wd _, _ => rfl
  | .fn _ a b, v => by simp only [vis, List.map_cons, List.map_append, vis_map hl hr a, vis_map hl hr b, hl, hr]
/-- values laid down ahead at the roots of what is still to come -/
def Pend (S : List α) : Nat → List (Kd × α) → Prop
  | _, [] => True
  | i, (t, v) :: F => S[i]? = some v ∧ Pend S (i + t.sz) F
variable {l r}
theorem Pend.set {S : List α} {x : α} {j : Nat} : ∀ {F : List (Kd × α)} {i : Nat}, Pend S i F → j < i → Pend (S.set j x) i F
  | [], _, _, _ => trivial
  | (t, v) :: F, i, h, hj => ⟨by rw [List.getElem?_set_ne (by omega)]; exact h.1, Pend.set h.2 (by omega)⟩
theorem at_drop {k t : Kd} {i : Nat} {q : List Tk} (h : k.fl.drop i = t.fl ++ q) : At k i t := by
  have hi : i < k.sz := by
    rw [← k.fl_len]
    apply Nat.lt_of_not_le
    intro hn
    rw [List.drop_eq_nil_of_le hn] at h
    have h1 := congrArg List.length h
    have h2 := t.sz_pos
    rw [List.length_append, t.fl_len] at h1
    simp at h1
    omega
  obtain ⟨u, hu⟩ := at_ex k i hi
  obtain ⟨q', hq⟩ := hu.drop
  have e := congrArg fp (h.symm.trans hq)
  rw [fp_fl, fp_fl] at e
  obtain rfl : t = u := (List.cons.inj e).1
  exact hu
abbrev flF (F : List (Kd × α)) : List Tk := F.flatMap fun x => x.1.fl
abbrev visF (l r : α → α) (F : List (Kd × α)) : List α := F.flatMap fun x => vis l r x.1 x.2
theorem flF_nil {F : List (Kd × α)} (h : flF F = []) : F = [] := by
  cases F with
  | nil => rfl
  | cons x F =>
    have := x.1.sz_pos
    have e : (x.1.fl ++ flF F).length = 0 := congrArg List.length h
    rw [List.length_append, x.1.fl_len] at e
    omega
structure Fill (l r : α → α) (k : Kd) (v0 : α) (S : List α) (i : Nat) (F : List (Kd × α)) : Prop where
  len : S.length = k.sz
  fl : k.fl.drop i = flF F
  pend : Pend S i F
  done : S.take i ++ visF l r F = vis l r k v0
theorem take_one {S : List α} {i : Nat} {v : α} (h : S[i]? = some v) : S.take (i + 1) = S.take i ++ [v] := by rw [List.take_add_one, h]; rfl
theorem take_lo {S : List α} {i j : Nat} {x : α} (h : i ≤ j) : (S.set j x).take i = S.take i := by rw [List.take_set, List.set_eq_of_length_le (by simp; omega)]
theorem Fill.wd {k : Kd} {v0 v : α} {S : List α} {i : Nat} {F : List (Kd × α)} {w : Str} (h : Fill l r k v0 S i ((.wd w, v) :: F)) : Fill l r k v0 S (i + 1) F := by
  refine ⟨h.len, ?_, h.pend.2, ?_⟩
  · rw [← List.drop_drop, h.fl]; rfl
  · rw [take_one h.pend.1, ← h.done]; simp [visF, vis]
theorem Fill.at {k t : Kd} {v0 v : α} {S : List α} {i : Nat} {F : List (Kd × α)} (h : Fill l r k v0 S i ((t, v) :: F)) : At k i t := at_drop (q := flF F) h.fl
theorem Fill.fn {k a b : Kd} {v0 v : α} {S : List α} {i : Nat} {F : List (Kd × α)} {rw' : List Str} (h : Fill l r k v0 S i ((.fn rw' a b, v) :: F)) : Fill l r k v0 ((S.set (i + 1) (l v)).set (i + 1 + a.sz) (r v)) (i + 1) ((a, l v) :: (b, r v) :: F) := by
  have hb := h.at.r.bound
  have h1 := a.sz_pos
  have h2 := b.sz_pos
  have hl := h.len
  refine ⟨by simp [h.len], ?_, ⟨?_, ?_, ?_⟩, ?_⟩
  · rw [← List.drop_drop, h.fl]; simp [flF, Kd.fl]
  · rw [List.getElem?_set_ne (by omega), List.getElem?_set_self (by omega)]
  · rw [List.getElem?_set_self (by simp; omega)]
  · have := h.pend.2
    rw [show i + (Kd.fn rw' a b).sz = i + 1 + a.sz + b.sz by simp [Kd.sz]; omega] at this
    exact (this.set (by omega)).set (by omega)
  · rw [take_lo (by omega), take_lo (by omega), take_one h.pend.1, ← h.done]; simp [visF, vis]
theorem vis_hd (k : Kd) (v : α) : ∃ q, vis l r k v = v :: q := by cases k <;> exact ⟨_, rfl⟩
theorem Fill.val {k t : Kd} {v0 v : α} {S : List α} {i : Nat} {F : List (Kd × α)} (h : Fill l r k v0 S i ((t, v) :: F)) : (vis l r k v0)[i]? = some v := by
  have hi := h.at.lt
  obtain ⟨q, hq⟩ := vis_hd (l := l) (r := r) t v
  rw [← h.done, List.getElem?_append_right (by simp; omega)]
  have : (S.take i).length = i := by simp [h.len]; omega
  rw [this, Nat.sub_self]
  simp [visF, hq]
theorem Fill.fin {k : Kd} {v0 : α} {S : List α} {F : List (Kd × α)} (h : Fill l r k v0 S k.sz F) : S = vis l r k v0 := by
  have h1 := h.fl
  rw [List.drop_eq_nil_of_le (by rw [k.fl_len]; omega)] at h1
  have h2 := h.done
  rw [flF_nil h1.symm, List.take_of_length_le (by rw [h.len]; omega)] at h2
  simpa using h2
theorem Fill.start {k : Kd} {v0 : α} : Fill l r k v0 (List.replicate k.sz v0) 0 [(k, v0)] := by
  have := k.sz_pos
  refine ⟨by simp, by simp [flF], ⟨by rw [List.getElem?_replicate, if_pos this], trivial⟩, by simp [visF]⟩
theorem Fill.cons {k : Kd} {v0 : α} {S : List α} {i : Nat} {F : List (Kd × α)} (h : Fill l r k v0 S i F) (hi : i < k.sz) : ∃ t v F', F = (t, v) :: F' := by
  cases F with
  | nil =>
    have := congrArg List.length h.fl
    rw [List.length_drop, k.fl_len] at this
    simp at this
    omega
  | cons x F => exact ⟨x.1, x.2, F, rfl⟩
end

/-! ### ways to places -/
def sub : Kd → List Bool → Option (Nat × Kd)
  | k, [] => some (0, k)
  | .wd _, _ :: _ => none
  | .fn _ a _, true :: p => (sub a p).map fun x => (1 + x.1, x.2)
  | .fn _ a b, false :: p => (sub b p).map fun x => (1 + a.sz + x.1, x.2)
theorem sub_at : ∀ {k t : Kd} {p : List Bool} {i : Nat}, sub k p = some (i, t) → At k i t
  | k, t, [], i, h => by simp [sub] at h; obtain ⟨rfl, rfl⟩ := h; exact .here
  | .wd _, _, _ :: _, _, h => by simp [sub] at h
  | .fn r a b, t, true :: p, i, h => by
    simp only [sub, Option.map_eq_some_iff] at h
    obtain ⟨⟨j, u⟩, h1, h2⟩ := h
    obtain ⟨rfl, rfl⟩ := Prod.mk.inj h2
    have := At.trans (At.left .here : At (.fn r a b) 1 a) (sub_at h1)
    simpa using this
  | .fn r a b, t, false :: p, i, h => by
    simp only [sub, Option.map_eq_some_iff] at h
    obtain ⟨⟨j, u⟩, h1, h2⟩ := h
    obtain ⟨rfl, rfl⟩ := Prod.mk.inj h2
    have := At.trans (At.right .here : At (.fn r a b) _ b) (sub_at h1)
    simpa using this
theorem sub_app : ∀ (k : Kd) (p q : List Bool), sub k (p ++ q) = (sub k p).bind fun x => (sub x.2 q).map fun y => (x.1 + y.1, y.2)
  | k, [], q => by simp [sub]
  | .wd _, _ :: _, q => rfl
  | .fn r a b, true :: p, q => by
    simp only [List.cons_append, sub, sub_app a p q]
    cases sub a p with
    | none => rfl
    | some x => cases h : sub x.2 q <;> simp [h, Nat.add_assoc]
  | .fn r a b, false :: p, q => by
    simp only [List.cons_append, sub, sub_app b p q]
    cases sub b p with
    | none => rfl
    | some x => cases h : sub x.2 q <;> simp [h, Nat.add_assoc]
theorem sub_len : ∀ {k t : Kd} {p : List Bool} {i : Nat}, sub k p = some (i, t) → p.length ≤ i
  | _, _, [], _, _ => Nat.zero_le _
  | .wd _, _, _ :: _, _, h => by simp [sub] at h
  | .fn r a b, t, true :: p, i, h => by
    simp only [sub, Option.map_eq_some_iff] at h
    obtain ⟨⟨j, u⟩, h1, h2⟩ := h
    obtain ⟨rfl, rfl⟩ := Prod.mk.inj h2
    have := sub_len h1
    simp; omega
  | .fn r a b, t, false :: p, i, h => by
    simp only [sub, Option.map_eq_some_iff] at h
    obtain ⟨⟨j, u⟩, h1, h2⟩ := h
    obtain ⟨rfl, rfl⟩ := Prod.mk.inj h2
    have := sub_len h1
    simp; omega
abbrev rts (k : Kd) (v : List Bool) : List (List Bool) := vis (fun p => p ++ [true]) (fun p => p ++ [false]) k v
theorem rts_sub : ∀ (k : Kd) (v : List Bool) {i : Nat} {p : List Bool}, (rts k v)[i]? = some p → ∃ q t, p = v ++ q ∧ sub k q = some (i, t)
  | .wd w, v, i, p, h => by
    cases i with
    | zero => simp [rts, vis] at h; subst h; exact ⟨[], .wd w, by simp, rfl⟩
    | succ i => simp [rts, vis] at h
  | .fn r a b, v, i, p, h => by
    cases i with
    | zero => simp [rts, vis] at h; subst h; exact ⟨[], .fn r a b, by simp, rfl⟩
    | succ i =>
      simp only [rts, vis, List.getElem?_cons_succ] at h
      by_cases hi : i < a.sz
      · rw [List.getElem?_append_left (by rw [vis_len]; exact hi)] at h
        obtain ⟨q, t, rfl, h2⟩ := rts_sub a _ h
        exact ⟨true :: q, t, by simp, by simp [sub, h2, Nat.add_comm]⟩
      · rw [List.getElem?_append_right (by rw [vis_len]; omega), vis_len] at h
        obtain ⟨q, t, rfl, h2⟩ := rts_sub b _ h
        exact ⟨false :: q, t, by simp, by simp [sub, h2]; omega⟩
theorem rts_len {k : Kd} {i : Nat} {p : List Bool} (h : (rts k [])[i]? = some p) : p.length ≤ i := by
  obtain ⟨q, t, rfl, h2⟩ := rts_sub k [] h
  simpa using sub_len h2
def pc (b : Bool) : Nat := if b = true then 108 else 114
def pst (p : List Bool) : Str := ⟨(p.map pc).toArray⟩
theorem pst_l (p : List Bool) : pst p ++ "l" = pst (p ++ [true]) := by
  show (⟨(p.map pc).toArray ++ #[108]⟩ : Str) = ⟨((p ++ [true]).map pc).toArray⟩
  congr 1
  apply Array.ext'
  simp [pc]
theorem pst_r (p : List Bool) : pst p ++ "r" = pst (p ++ [false]) := by
  show (⟨(p.map pc).toArray ++ #[114]⟩ : Str) = ⟨((p ++ [false]).map pc).toArray⟩
  congr 1
  apply Array.ext'
  simp [pc]
theorem pst_len (p : List Bool) : (pst p).length = p.length := by simp [pst, Str.length]
theorem add_l {p : List Bool} (h : p.length ≤ 10000) : dAdd (.str (pst p)) (.str "l") = some (.str (pst (p ++ [true]))) := by
  rw [← pst_l]
  exact q_adds (a := pst p) (b := "l") (by rw [pst_len]; have : (("l" : Str)).length = 1 := by decide
                                           omega)
theorem add_r {p : List Bool} (h : p.length ≤ 10000) : dAdd (.str (pst p)) (.str "r") = some (.str (pst (p ++ [false]))) := by
  rw [← pst_r]
  exact q_adds (a := pst p) (b := "r") (by rw [pst_len]; have : (("r" : Str)).length = 1 := by decide
                                           omega)
theorem pst_rk {p : List Bool} : Rk (.str (pst p)) p.length 0 := by
  have := Rk.str (z := pst p) (fun c hc => by
    simp only [pst, List.mem_map] at hc
    obtain ⟨b, _, rfl⟩ := hc
    cases b <;> decide)
  rwa [pst_len] at this
/-- the sign by the count of left sides -/
def sgn (p : List Bool) : Int := if cnt 108 (p.map pc) % 2 = 0 then 1 else -1
theorem sgn_nil : sgn [] = 1 := by decide
theorem sgn_l (p : List Bool) : sgn (p ++ [true]) = -sgn p := by
  unfold sgn
  rw [List.map_append, cnt_append]
  have : cnt 108 ([true].map pc) = 1 := by decide
  rw [this]
  split <;> split <;> omega
theorem sgn_r (p : List Bool) : sgn (p ++ [false]) = sgn p := by
  unfold sgn
  rw [List.map_append, cnt_append]
  have : cnt 108 ([false].map pc) = 0 := by decide
  rw [this, Int.add_zero]
theorem sgn_count (p : List Bool) : Txt.count (pst p) "l" = cnt 108 (p.map pc) := by
  have := count_is (pst p) 108
  show Txt.count (pst p) ⟨#[108]⟩ = _
  rw [this]
  rfl
/-- another kind in a place -/
theorem put_ex {o : Kd} : ∀ {k t : Kd} {i : Nat}, At k i t → ∃ k', k'.fl = k.fl.take i ++ (o.fl ++ k.fl.drop (i + t.sz)) ∧ At k' i o
  | k, _, _, .here => ⟨o, by simp [← k.fl_len], .here⟩
  | .fn r a b, t, _, .left h => by
    obtain ⟨a', h1, h2⟩ := put_ex (o := o) h
    have hb := h.bound
    refine ⟨.fn r a' b, ?_, .left h2⟩
    rename_i i
    simp only [Kd.fl, h1]
    rw [show 1 + i + t.sz = (i + t.sz) + 1 by omega, show 1 + i = i + 1 by omega]
    simp only [List.take_succ_cons, List.drop_succ_cons]
    rw [List.take_append_of_le_length (by rw [a.fl_len]; omega), List.drop_append_of_le_length (by rw [a.fl_len]; omega)]
    simp
  | .fn r a b, t, _, .right h => by
    obtain ⟨b', h1, h2⟩ := put_ex (o := o) h
    refine ⟨.fn r a b', ?_, .right h2⟩
    rename_i i
    simp only [Kd.fl, h1]
    rw [show 1 + a.sz + i + t.sz = (a.sz + (i + t.sz)) + 1 by omega, show 1 + a.sz + i = (a.sz + i) + 1 by omega]
    simp only [List.take_succ_cons, List.drop_succ_cons]
    rw [← a.fl_len, List.take_length_add_append, List.drop_length_add_append]
    simp
theorem neg_small : (List.range 1000).all (fun n => PyData.showable (.int (-(n : Int))) && PyData.leavesShort 60 (.int (-(n : Int))) && decide (PyData.weight (.int (-(n : Int))) ≤ 180)) = true := by decide +kernel
theorem Rk.neg {n : Nat} (h : n < 1000) : Rk (.int (-(n : Int))) 180 0 := by
  have := List.all_eq_true.mp neg_small n (List.mem_range.mpr h)
  simp only [Bool.and_eq_true, decide_eq_true_eq] at this
  exact ⟨.int (-(n : Int)), rfl, this.1.1, rfl, Nat.le_refl _, this.1.2, this.2⟩
end VM

set_option Elab.async false
set_option linter.all false
set_option autoImplicit false
set_option maxRecDepth 100000
set_option maxHeartbeats 400000
namespace VM.K02
open PySem PySem.Spec PyProof.Rows L2 VM
theorem cell_ok (ns : List Int) (k : Nat) : Ans (F__law_cell [.fl (ns.map .int), .int k]) fun d => ∃ c : Int, d = .int c := by
  unfold F__law_cell
  rw [fnOf_none]
  unfold m__law_cell
  by_cases hk : k < ns.length
  · simp [dCmp, dLen, ciLt, hk, dIx, atI_natL]
  · obtain ⟨s, e1, x, y, hx, e2⟩ := for_turns (t := mtN 3) (b := b__law_cell_0) (ds := ns.map D.int) (sv := [.pl (.fl (ns.map .int)), .pl (.int k), .pl (.int 17), .un])
      (fun i s => ∃ (x : Int) (y : Sl), (0 ≤ x ∧ x < 1000003) ∧ s = [.pl (.fl (ns.map .int)), .pl (.int k), .pl (.int x), y]) ⟨17, .un, by decide, rfl⟩ fun i d s hd hP => by
        obtain ⟨x, y, hx, rfl⟩ := hP
        obtain ⟨n, hn, rfl⟩ : ∃ n, ns[i]? = some n ∧ D.int n = d := by simpa using hd
        simp [b__law_cell_0, dInt, dAdd, cMul, cMod, dI2]
        exact ⟨Int.emod_nonneg _ (by decide), Int.emod_lt_of_pos _ (by decide)⟩
    subst e2
    have h1 := cMulL (i := x + 7) (k + 3) (by omega) (by omega)
    have h2 := fun i => cMulR i (j := 69621) (by decide) (by decide)
    have hF : f__law_cell_1 [.pl (.fl (ns.map .int)), .pl (.int k), .pl (.int 17), .un] = .nx [.pl (.fl (ns.map .int)), .pl (.int k), .pl (.int x), y] := for_of (by simp) e1
    simp [dCmp, dLen, ciLt, hk, hF, dAdd, dInt, h1, h2, cMod, dI2]
theorem digits_ok (c : Int) (zs : List Int) (hz : ∀ z ∈ zs, SizeOk z) (hl : zs.length ≤ 1000) : Ans (F__law_digits [.int c, .lst (zs.map .int)]) fun d => ∃ ds : List Int, d = .lst (ds.map .int) ∧ ds.length = zs.length ∧ ∀ (i : Nat) (z e : Int), zs[i]? = some z → ds[i]? = some e → 0 ≤ e ∧ e < z := by
  unfold F__law_digits
  rw [fnOf_none]
  unfold m__law_digits
  have hs : ∀ n : Nat, n ≤ 1000 → n < sizeLine := fun n h => small1000 h
  by_cases hc : 1000000000000000000 ≤ c
  · obtain ⟨s, e1, ds, x, y, hl2, hb, e2⟩ := for_turns (t := mtN 4) (b := b__law_digits_0) (ds := zs.map D.int) (sv := [.pl (.int c), .pl (.lst (zs.map .int)), .ow (.lst []), .pl (.int (c - 1000000000000000000)), .un, .un, .un, .un])
      (fun i s => ∃ (ds : List Int) (x : Int) (y : Sl), ds.length = i ∧ (∀ (i : Nat) (z e : Int), zs[i]? = some z → ds[i]? = some e → 0 ≤ e ∧ e < z) ∧ s = [.pl (.int c), .pl (.lst (zs.map .int)), .ow (.lst (ds.map .int)), .pl (.int x), y, .un, .un, .un]) ⟨[], _, .un, rfl, by simp, rfl⟩ fun i d s hd hP => by
        obtain ⟨ds, x, y, hl2, hb, rfl⟩ := hP
        obtain ⟨z, hn, rfl⟩ : ∃ n, zs[i]? = some n ∧ D.int n = d := by simpa using hd
        have hz1 := hz z (List.mem_of_getElem? hn)
        have hi : i < zs.length := (List.getElem?_eq_some_iff.mp hn).1
        simp [b__law_digits_0, dInt, dAdd, cMul, cMod, cDiv, dI2, hz1.1, show z < 1073741824 by have := hz1.2; omega, hs i (by omega), hl2]
        refine ⟨ds ++ [x % z], by simp [hl2], ?_, by simp⟩
        intro j z' e h1 h2
        rcases Nat.lt_or_ge j ds.length with h | h
        · exact hb j z' e h1 (by rwa [List.getElem?_append_left h] at h2)
        · have hj : j = i := by
            have := (List.getElem?_eq_some_iff.mp h2).1
            simp at this; omega
          subst hj
          rw [List.getElem?_append_right h, hl2] at h2
          simp at h2
          rw [hn] at h1; cases h1
          subst h2
          exact ⟨Int.emod_nonneg _ (by have := hz1.1; omega), Int.emod_lt_of_pos _ hz1.1⟩
    subst e2
    simp at hl2
    have hF : f__law_digits_1 [.pl (.int c), .pl (.lst (zs.map .int)), .ow (.lst []), .pl (.int (c - 1000000000000000000)), .un, .un, .un, .un] = .nx [.pl (.int c), .pl (.lst (zs.map .int)), .ow (.lst (ds.map .int)), .pl (.int x), y, .un, .un, .un] := for_of (by simp) e1
    simp [dCI, ciGe, hc, hF, dAdd, dInt, cMul, cMod, pow18, cSub, dI2]
    exact ⟨ds, rfl, hl2, hb⟩
  · obtain ⟨s, e1, ds, x, y, z1, hl2, hb, e2⟩ := for_turns (t := mtN 6) (b := b__law_digits_2) (ds := rngs 0 zs.length) (sv := [.pl (.int c), .pl (.lst (zs.map .int)), .ow (.lst []), .pl (.int c), .un, .pl (.int (c % 2147483629)), .un, .un])
      (fun i s => ∃ (ds : List Int) (x : Int) (y z1 : Sl), ds.length = i ∧ (∀ (i : Nat) (z e : Int), zs[i]? = some z → ds[i]? = some e → 0 ≤ e ∧ e < z) ∧ s = [.pl (.int c), .pl (.lst (zs.map .int)), .ow (.lst (ds.map .int)), .pl (.int c), .un, .pl (.int x), y, z1]) ⟨[], _, .un, .un, rfl, by simp, rfl⟩ fun i d s hd hP => by
        obtain ⟨ds, x, y, z1, hl2, hb, rfl⟩ := hP
        obtain ⟨hi, rfl⟩ := rngs_get hd
        have hn : zs[i]? = some zs[i] := List.getElem?_eq_getElem hi
        have hz1 := hz _ (List.mem_of_getElem? hn)
        generalize hzz : zs[i] = z at hn hz1
        have ha : atI (zs.map D.int) (i : Int) = some (.int z) := by rw [atI_natL (by simpa using hi)]; simp [hzz]
        have hcm : ∀ w : Int, cMul (w % 2147483647) (w % 2147483647 / 65537 + 3) = some (.int (w % 2147483647 * (w % 2147483647 / 65537 + 3))) := fun w => by
          have h1 := Int.emod_nonneg w (show (2147483647 : Int) ≠ 0 by decide)
          have h2 := Int.emod_lt_of_pos w (show (0 : Int) < 2147483647 by decide)
          unfold cMul
          rw [if_pos (.inl ⟨by omega, by omega⟩)]
        have hc2 : ∀ w : Int, cMul w 48271 = some (.int (w * 48271)) := fun w => by unfold cMul; rw [if_pos (.inr ⟨by decide, by decide⟩)]
        have hc3 : ∀ w : Int, cMul 974711 w = some (.int (974711 * w)) := fun w => by unfold cMul; rw [if_pos (.inl ⟨by decide, by decide⟩)]
        simp [b__law_digits_2, dInt, dAdd, hcm, hc2, hc3, cMod, cDiv, dI2, dIx, ha, hz1.1, hs i (by omega), hl2]
        refine ⟨ds ++ [_], by simp [hl2], ?_, by rw [List.map_append]; rfl⟩
        intro j z' e h1 h2
        rcases Nat.lt_or_ge j ds.length with h | h
        · exact hb j z' e h1 (by rwa [List.getElem?_append_left h] at h2)
        · have hj : j = i := by
            have := (List.getElem?_eq_some_iff.mp h2).1
            simp at this; omega
          subst hj
          rw [List.getElem?_append_right h, hl2] at h2
          simp at h2
          rw [hn] at h1; cases h1
          subst h2
          exact ⟨Int.emod_nonneg _ (by have := hz1.1; omega), Int.emod_lt_of_pos _ hz1.1⟩
    subst e2
    rw [rngs_len] at hl2
    have hF : f__law_digits_3 [.pl (.int c), .pl (.lst (zs.map .int)), .ow (.lst []), .pl (.int c), .un, .pl (.int (c % 2147483629)), .un, .un] = .nx [.pl (.int c), .pl (.lst (zs.map .int)), .ow (.lst (ds.map .int)), .pl (.int c), .un, .pl (.int x), y, z1] :=
      for_of (rng1_of (by simp [dLen]) (by omega)) e1
    simp [dCI, ciGe, hc, hF, dAdd, dInt, dLen, cMod, pow18, cSub, dI2]
    exact ⟨ds, rfl, hl2, hb⟩
theorem word_mid {ds : List Int} {ws bs : List Str} {f : Str} (hd : Ds ds) (hf : Fs f) (hw : ∀ w ∈ ws, Wl f.cps.toList 12 w) (hl : ws.length ≤ 100) (hb : bs.length ≤ 100) {w : Str} (hw6 : Wl f.cps.toList 12 w) (y6 : Sl) :
    Nxt (i__law_word_2 [.pl (.lst (ds.map .int)), .pl (.lst (ws.map .str)), .pl (.str f), .pl (.lst (bs.map .str)), .pl (.str sgns), .pl (.str w), y6, .un, .un, .un]) fun s => ∃ w y7 y8, Wl f.cps.toList 12 w ∧ s = [.pl (.lst (ds.map .int)), .pl (.lst (ws.map .str)), .pl (.str f), .pl (.lst (bs.map .str)), .pl (.str sgns), .pl (.str w), y6, y7, y8, .un] := by
  obtain ⟨n1, e1, h1⟩ := hd.b1
  obtain ⟨n2, e2, h2⟩ := hd.b2
  obtain ⟨n3, e3, h3⟩ := hd.b3
  obtain ⟨n0, e0, h0⟩ := hd.b0
  have a0 : dIx (.lst (ds.map D.int)) (.int 0) = some (.int n0) := at_of e0
  have a1 : dIx (.lst (ds.map D.int)) (.int 1) = some (.int n1) := at_of e1
  have a2 : dIx (.lst (ds.map D.int)) (.int 2) = some (.int n2) := at_of e2
  have a3 : dIx (.lst (ds.map D.int)) (.int 3) = some (.int n3) := at_of e3
  obtain ⟨n4, e4, h4⟩ := hd.bj 0 (by decide)
  obtain ⟨n5, e5, h5⟩ := hd.bj 1 (by decide)
  have a4 : dIx (.lst (ds.map D.int)) (.int 4) = some (.int n4) := at_of (i := 4) e4
  have a5 : dIx (.lst (ds.map D.int)) (.int 5) = some (.int n5) := at_of (i := 5) e5
  obtain ⟨c1, hc1, i1⟩ := hf.at h1
  obtain ⟨c4, hc4, i4⟩ := letter_al h4
  have w1 := hf.one hc1
  unfold i__law_word_2
  by_cases hn : ws = []
  · subst hn
    exact nxt_if (c := false) (by simp [dLen, dCI, ciGt]) (fun z => nomatch z) fun _ => nxt_of rfl ⟨w, _, _, hw6, rfl⟩
  · have hpos : 0 < ws.length := List.length_pos_iff.mpr hn
    refine nxt_if (c := true) (by simp [dLen, dCI, ciGt, hpos]) (fun _ => ?_) (fun z => nomatch z)
    obtain ⟨bf, ebf⟩ : ∃ b, ws[ws.length - 1]? = some b := ⟨_, List.getElem?_eq_getElem (by omega)⟩
    have wb := hw bf (List.mem_of_getElem? ebf)
    have eb : atI (ws.map D.str) ((ws.length : Int) - 1) = some (.str bf) := by
      have h1 : ws.length - 1 < (ws.map D.str).length := by simp; omega
      rw [show (ws.length : Int) - 1 = ((ws.length - 1 : Nat) : Int) by omega, atI_natL h1]
      have := (List.getElem?_eq_some_iff.mp ebf).2
      simp [this]
    have ebx : dIx (.lst (ws.map .str)) (.int ((ws.length : Int) - 1)) = some (.str bf) := eb
    have lb : 0 < bf.length := by
      obtain ⟨c, r, e, _⟩ := wb.hd
      rw [str_len, e]; simp
    have lb2 := wb.ln
    have sb : bf.length ≤ sizeLine := small_str (by omega)
    refine nxt_seq (fun s => s = [.pl (.lst (ds.map .int)), .pl (.lst (ws.map .str)), .pl (.str f), .pl (.lst (bs.map .str)), .pl (.str sgns), .pl (.str w), y6, .pl (.str bf), .un, .un]) (by simp [dLen, dI2, cSub, ebx]) fun s e => ?_
    subst e
    obtain ⟨sp, esp⟩ : ∃ sp : Nat, (n3 : Int) % (bf.length : Int) = (sp : Int) ∧ sp < bf.length := ⟨n3 % bf.length, by omega, Nat.mod_lt _ lb⟩
    have hlb : dLen [.str bf] = some (.int (bf.length : Nat)) := by
      unfold dLen
      dsimp only
      rw [if_pos sb]
    refine nxt_seq (fun s => s = [.pl (.lst (ds.map .int)), .pl (.lst (ws.map .str)), .pl (.str f), .pl (.lst (bs.map .str)), .pl (.str sgns), .pl (.str w), y6, .pl (.str bf), .pl (.int sp), .un]) (by simp [hlb, dI2, cMod, a3, lb, esp.1]) fun s e => ?_
    subst e
    have hto : ∀ k : Nat, dSl (.str bf) none (some (k : Int)) = some (.str (cutS bf none (some (k : Int)))) := fun k => by
      unfold dSl
      dsimp only
      rw [if_pos sb]
    have hfr : ∀ k : Nat, dSl (.str bf) (some (k : Int)) none = some (.str (cutS bf (some (k : Int)) none)) := fun k => by
      unfold dSl
      dsimp only
      rw [if_pos sb]
    have h11 : dSl (.str bf) none (some 11) = some (.str (cutS bf none (some ((11 : Nat) : Int)))) := hto 11
    have h1f : dSl (.str bf) (some 1) none = some (.str (cutS bf (some ((1 : Nat) : Int)) none)) := hfr 1
    refine nxt_seq (fun s => ∃ w, Wl f.cps.toList 12 w ∧ s = [.pl (.lst (ds.map .int)), .pl (.lst (ws.map .str)), .pl (.str f), .pl (.lst (bs.map .str)), .pl (.str sgns), .pl (.str w), y6, .pl (.str bf), .pl (.int sp), .un]) (nxt_if (c := decide ((n0 : Int) = 3)) (by simp [a0, dEq, eqD]) (fun _ => ?_) fun _ => nxt_of rfl ⟨w, hw6, rfl⟩) fun s e => ?_
    · have k := wb.cut (k := 11) (by decide)
      have hadd := add_str (a := cutS bf none (some ((11 : Nat) : Int))) (b := ⟨#[c4]⟩) (by have := k.ln; rw [show (⟨#[c4]⟩ : Str).length = 1 from rfl]; omega)
      simp only [ev_Asg, ev_Bind, ev_2, ev_Sl, ev_Rd, ev_oN, ev_oS, ev_C, ev_ok, List.getElem?_cons_succ, List.getElem?_cons_zero, h11, a4, i4, hadd, nxt_nx, List.set_cons_succ, List.set_cons_zero]
      exact ⟨_, k.add hc4, rfl⟩
    obtain ⟨w, hw7, rfl⟩ := e
    refine nxt_seq (fun s => ∃ w, Wl f.cps.toList 12 w ∧ s = [.pl (.lst (ds.map .int)), .pl (.lst (ws.map .str)), .pl (.str f), .pl (.lst (bs.map .str)), .pl (.str sgns), .pl (.str w), y6, .pl (.str bf), .pl (.int sp), .un]) (nxt_if (c := decide ((n0 : Int) = 4) && decide ((sp : Int) = 0)) (by by_cases h : (n0 : Int) = 4 <;> simp [a0, dEq, eqD, h]) (fun _ => ?_) fun _ => nxt_of rfl ⟨w, hw7, rfl⟩) fun s e => ?_
    · have k := tail_al wb 1
      have hadd := add_str (a := ⟨#[c1]⟩) (b := cutS bf (some ((1 : Nat) : Int)) none) (by rw [k.2, show (⟨#[c1]⟩ : Str).length = 1 from rfl]; omega)
      simp only [ev_Asg, ev_Bind, ev_2, ev_Sl, ev_Rd, ev_oN, ev_oS, ev_C, ev_ok, List.getElem?_cons_succ, List.getElem?_cons_zero, h1f, a1, i1, hadd, nxt_nx, List.set_cons_succ, List.set_cons_zero]
      exact ⟨_, w1.join k.1 (m := 11) (by rw [k.2]; omega), rfl⟩
    obtain ⟨w, hw8, rfl⟩ := e
    refine nxt_seq (fun s => ∃ w, Wl f.cps.toList 12 w ∧ s = [.pl (.lst (ds.map .int)), .pl (.lst (ws.map .str)), .pl (.str f), .pl (.lst (bs.map .str)), .pl (.str sgns), .pl (.str w), y6, .pl (.str bf), .pl (.int sp), .un]) (nxt_if (c := decide ((n0 : Int) = 4) && decide (0 < (sp : Int))) (by by_cases h : (n0 : Int) = 4 <;> simp [a0, dEq, eqD, h, dCI, ciGt]) (fun z => ?_) fun _ => nxt_of rfl ⟨w, hw8, rfl⟩) fun s e => ?_
    · have hsp : 0 < sp := by simp at z; omega
      have k1 := wb.cut (k := sp) hsp
      have k2 := tail_al wb (sp + 1)
      have had1 := add_str (a := cutS bf none (some (sp : Int))) (b := ⟨#[c4]⟩) (by have := k1.ln; rw [show (⟨#[c4]⟩ : Str).length = 1 from rfl]; omega)
      have k3 := k1.add hc4
      have had2 := add_str (a := cutS bf none (some (sp : Int)) ++ (⟨#[c4]⟩ : Str)) (b := cutS bf (some ((sp + 1 : Nat) : Int)) none) (by have := k3.ln; rw [k2.2]; omega)
      have hs1 : dAdd (.int (sp : Int)) (.int 1) = some (.int ((sp + 1 : Nat) : Int)) := rfl
      simp only [ev_Asg, ev_Bind, ev_2, ev_Sl, ev_Rd, ev_oN, ev_oS, ev_C, ev_ok, List.getElem?_cons_succ, List.getElem?_cons_zero, hto, hfr, a4, i4, hs1, had1, had2, nxt_nx, List.set_cons_succ, List.set_cons_zero]
      exact ⟨_, (k3.join k2.1 (Nat.le_refl _)).mono (by rw [k2.2]; omega), rfl⟩
    obtain ⟨w, hw9, rfl⟩ := e
    refine nxt_mono (P := fun s => ∃ w, Wl f.cps.toList 12 w ∧ s = [.pl (.lst (ds.map .int)), .pl (.lst (ws.map .str)), .pl (.str f), .pl (.lst (bs.map .str)), .pl (.str sgns), .pl (.str w), y6, .pl (.str bf), .pl (.int sp), .un]) (nxt_if (c := decide ((n0 : Int) = 5) && decide (1 < (bf.length : Int))) (by by_cases h : (n0 : Int) = 5 <;> simp [a0, dEq, eqD, h, dCI, ciGt, hlb]) (fun z => ?_) fun _ => nxt_of rfl ⟨w, hw9, rfl⟩) fun s e => ?_
    · have hsp : 1 < bf.length := by simp at z; omega
      have k1 := wb.cut (k := bf.length - 1) (by omega)
      have hs1 : dI2 cSub (.int ((bf.length : Nat) : Int)) (.int 1) = some (.int ((bf.length - 1 : Nat) : Int)) := by
        show some (D.int ((bf.length : Int) - 1)) = _
        rw [show (bf.length : Int) - 1 = ((bf.length - 1 : Nat) : Int) by omega]
      simp only [ev_Asg, ev_Bind, ev_2, ev_Sl, ev_Rd, ev_oN, ev_oS, ev_C, ev_Call1, ev_cons, ev_nil, ev_ok, hlb, List.getElem?_cons_succ, List.getElem?_cons_zero, hto, hs1, nxt_nx, List.set_cons_succ, List.set_cons_zero]
      exact ⟨_, k1.mono (by omega), rfl⟩
    · obtain ⟨w, hw, rfl⟩ := e
      exact ⟨w, _, _, hw, rfl⟩

theorem word_end {ds : List Int} {ws bs : List Str} {f : Str} (hd : Ds ds) (hf : Fs f) (hw : ∀ w ∈ ws, Wl f.cps.toList 12 w) (hl : ws.length ≤ 100) (hb : bs.length ≤ 100) {w : Str} (hw7 : Wl f.cps.toList 12 w) (y6 y7 y8 : Sl) :
    Ans (endN false (mSeq f__law_word_4 (mRet (mRd 5)) [.pl (.lst (ds.map .int)), .pl (.lst (ws.map .str)), .pl (.str f), .pl (.lst (bs.map .str)), .pl (.str sgns), .pl (.str w), y6, y7, y8, .un])) fun d => ∃ w, d = .str w ∧ Wl f.cps.toList 12 w := by
  obtain ⟨n1, e1, h1⟩ := hd.b1
  obtain ⟨n2, e2, h2⟩ := hd.b2
  obtain ⟨n3, e3, h3⟩ := hd.b3
  obtain ⟨n0, e0, h0⟩ := hd.b0
  have a0 : dIx (.lst (ds.map D.int)) (.int 0) = some (.int n0) := at_of e0
  have a1 : dIx (.lst (ds.map D.int)) (.int 1) = some (.int n1) := at_of e1
  have a2 : dIx (.lst (ds.map D.int)) (.int 2) = some (.int n2) := at_of e2
  have a3 : dIx (.lst (ds.map D.int)) (.int 3) = some (.int n3) := at_of e3
  obtain ⟨n4, e4, h4⟩ := hd.bj 0 (by decide)
  obtain ⟨n5, e5, h5⟩ := hd.bj 1 (by decide)
  have a4 : dIx (.lst (ds.map D.int)) (.int 4) = some (.int n4) := at_of (i := 4) e4
  have a5 : dIx (.lst (ds.map D.int)) (.int 5) = some (.int n5) := at_of (i := 5) e5
  obtain ⟨c1, hc1, i1⟩ := hf.at h1
  obtain ⟨c4, hc4, i4⟩ := letter_al h4
  have w1 := hf.one hc1
  refine fin_seq (fun s => ∃ w y9, Wl f.cps.toList 12 w ∧ s = [.pl (.lst (ds.map .int)), .pl (.lst (ws.map .str)), .pl (.str f), .pl (.lst (bs.map .str)), .pl (.str sgns), .pl (.str w), y6, y7, y8, y9]) ?_ fun s e => ?_
  · have hcl : mCons (m2 dAdd (m2 dAdd (mCall1 dLen (mCons (mRd 1) mNil)) (mCall1 dLen (mCons (mRd 3) mNil))) (mC (.int 1))) mNil [.pl (.lst (ds.map .int)), .pl (.lst (ws.map .str)), .pl (.str f), .pl (.lst (bs.map .str)), .pl (.str sgns), .pl (.str w), y6, y7, y8, .un] = .ok [.int ((ws.length + bs.length + 1 : Nat) : Int)] [.pl (.lst (ds.map .int)), .pl (.lst (ws.map .str)), .pl (.str f), .pl (.lst (bs.map .str)), .pl (.str sgns), .pl (.str w), y6, y7, y8, .un] := by
      simp [dLen, dAdd]
    have hrg := rng1_of hcl (by omega)
    unfold f__law_word_4
    refine nxt_for (fun i s => ∃ w y9, Wl f.cps.toList 12 w ∧ s = [.pl (.lst (ds.map .int)), .pl (.lst (ws.map .str)), .pl (.str f), .pl (.lst (bs.map .str)), .pl (.str sgns), .pl (.str w), y6, y7, y8, y9]) hrg ⟨w, .un, hw7, rfl⟩ (fun i d s hdi hP => ?_) fun s hP => hP
    obtain ⟨w, y9, hw8, rfl⟩ := hP
    obtain ⟨hi, rfl⟩ := rngs_get hdi
    obtain ⟨q1, hq1⟩ := in_strs w ws
    obtain ⟨q2, hq2⟩ := in_strs w bs
    rw [turn_n]
    refine nxt_if (c := q1 || q2) (by cases q1 <;> simp [hq1, hq2]) (fun _ => ?_) fun _ => nxt_of rfl ⟨w, _, hw8, rfl⟩
    obtain ⟨c, hc, ic⟩ := letter_al (n := (n5 + i) % 62) (Nat.mod_lt _ (by decide))
    have k := hw8.cut (k := 11) (by decide)
    have hto : dSl (.str w) none (some 11) = some (.str (cutS w none (some ((11 : Nat) : Int)))) := by
      unfold dSl
      dsimp only
      rw [if_pos (small_str (by have := hw8.ln; omega))]
      rfl
    have hadd := add_str (a := cutS w none (some ((11 : Nat) : Int))) (b := ⟨#[c]⟩) (by have := k.ln; rw [show (⟨#[c]⟩ : Str).length = 1 from rfl]; omega)
    have hm : dI2 cMod (.int ((n5 : Int) + (i : Int))) (.int 62) = some (.int (((n5 + i) % 62 : Nat) : Int)) := by
      have h := cModL ((n5 : Int) + (i : Int)) (j := 62) (by decide)
      have e : (((n5 + i) % 62 : Nat) : Int) = ((n5 : Int) + (i : Int)) % 62 := by omega
      exact h.trans (congrArg (fun z => some (D.int z)) e.symm)
    have hs5 : dAdd (.int (n5 : Int)) (.int (i : Int)) = some (.int ((n5 : Int) + (i : Int))) := rfl
    have hi5 : dInt [.int ((n5 : Int) + (i : Int))] = some (.int ((n5 : Int) + (i : Int))) := rfl
    simp only [ev_Asg, ev_Bind, ev_2, ev_Sl, ev_Rd, ev_oN, ev_oS, ev_C, ev_Call1, ev_cons, ev_nil, ev_ok, List.getElem?_cons_succ, List.getElem?_cons_zero, hto, a5, hs5, hi5, hm, ic, hadd, nxt_nx, List.set_cons_succ, List.set_cons_zero]
    exact ⟨_, _, k.add hc, rfl⟩
  · obtain ⟨w, y9, hw8, rfl⟩ := e
    simp
    exact hw8

theorem word_ok {ds : List Int} {ws bs : List Str} {f : Str} (hd : Ds ds) (hf : Fs f) (hw : ∀ w ∈ ws, Wl f.cps.toList 12 w) (hl : ws.length ≤ 100) (hb : bs.length ≤ 100) :
    Ans (F__law_word [.lst (ds.map .int), .lst (ws.map .str), .str f, .lst (bs.map .str)]) fun d => ∃ w, d = .str w ∧ Wl f.cps.toList 12 w := by
  obtain ⟨n1, e1, h1⟩ := hd.b1
  obtain ⟨n2, e2, h2⟩ := hd.b2
  obtain ⟨n3, e3, h3⟩ := hd.b3
  obtain ⟨n0, e0, h0⟩ := hd.b0
  have a0 : dIx (.lst (ds.map D.int)) (.int 0) = some (.int n0) := at_of e0
  have a1 : dIx (.lst (ds.map D.int)) (.int 1) = some (.int n1) := at_of e1
  have a2 : dIx (.lst (ds.map D.int)) (.int 2) = some (.int n2) := at_of e2
  have a3 : dIx (.lst (ds.map D.int)) (.int 3) = some (.int n3) := at_of e3
  obtain ⟨n4, e4, h4⟩ := hd.bj 0 (by decide)
  obtain ⟨n5, e5, h5⟩ := hd.bj 1 (by decide)
  have a4 : dIx (.lst (ds.map D.int)) (.int 4) = some (.int n4) := at_of (i := 4) e4
  have a5 : dIx (.lst (ds.map D.int)) (.int 5) = some (.int n5) := at_of (i := 5) e5
  obtain ⟨c1, hc1, i1⟩ := hf.at h1
  obtain ⟨c4, hc4, i4⟩ := letter_al h4
  have w1 := hf.one hc1
  unfold F__law_word
  rw [fnOf_none]
  unfold m__law_word
  refine fin_seq (fun s => s = [.pl (.lst (ds.map .int)), .pl (.lst (ws.map .str)), .pl (.str f), .pl (.lst (bs.map .str)), .pl (.str sgns), .un, .un, .un, .un, .un]) (by simp) fun s e => ?_
  subst e
  refine fin_seq (fun s => s = [.pl (.lst (ds.map .int)), .pl (.lst (ws.map .str)), .pl (.str f), .pl (.lst (bs.map .str)), .pl (.str sgns), .pl (.str ⟨#[c1]⟩), .un, .un, .un, .un]) (by simp [a1, i1]) fun s e => ?_
  subst e
  refine fin_seq (fun s => ∃ w y6, Wl f.cps.toList 12 w ∧ s = [.pl (.lst (ds.map .int)), .pl (.lst (ws.map .str)), .pl (.str f), .pl (.lst (bs.map .str)), .pl (.str sgns), .pl (.str w), y6, .un, .un, .un]) ?_ fun s e => ?_
  · refine nxt_for (fun i s => ∃ w y6, Wl f.cps.toList (1 + i) w ∧ s = [.pl (.lst (ds.map .int)), .pl (.lst (ws.map .str)), .pl (.str f), .pl (.lst (bs.map .str)), .pl (.str sgns), .pl (.str w), y6, .un, .un, .un]) (rng1_of (n := n2) (by simp [a2]) (by omega)) ⟨_, .un, w1, rfl⟩ (fun i d s hdi hP => ?_) fun s hP => ?_
    · obtain ⟨w, y6, hw6, rfl⟩ := hP
      obtain ⟨hi, rfl⟩ := rngs_get hdi
      obtain ⟨m, em, hm⟩ := hd.bj i (by omega)
      obtain ⟨c, hc, ic⟩ := letter_al hm
      have am : atI (ds.map D.int) (4 + (i : Int)) = some (.int m) := by
        have := at_of em
        rwa [show ((4 + i : Nat) : Int) = 4 + (i : Int) by omega] at this
      have hadd := add_str (a := w) (b := ⟨#[c]⟩) (by have := hw6.ln; rw [show (⟨#[c]⟩ : Str).length = 1 from rfl]; omega)
      have ea : dIx (.lst (ds.map .int)) (.int (4 + (i : Int))) = some (.int m) := am
      have ed : dAdd (.int 4) (.int (i : Int)) = some (.int (4 + (i : Int))) := rfl
      simp [b__law_word_0, ed, ea, ic, hadd]
      exact (hw6.add hc).mono (by omega)
    · obtain ⟨w, y6, hw6, rfl⟩ := hP
      rw [rngs_len] at hw6
      exact ⟨w, y6, hw6.mono (by omega), rfl⟩
  · obtain ⟨w, y6, hw6, rfl⟩ := e
    refine fin_seq (fun s => ∃ w y7 y8, Wl f.cps.toList 12 w ∧ s = [.pl (.lst (ds.map .int)), .pl (.lst (ws.map .str)), .pl (.str f), .pl (.lst (bs.map .str)), .pl (.str sgns), .pl (.str w), y6, y7, y8, .un]) (word_mid hd hf hw hl hb hw6 y6) fun s e => ?_
    obtain ⟨w, y7, y8, hw7, rfl⟩ := e
    exact word_end hd hf hw hl hb hw7 y6 y7 y8
theorem words_ok {ns : List Int} {a m : Nat} {f : Str} {bs : List Str} (hf : Fs f) (hm : m ≤ 50) (hb : bs.length ≤ 100) :
    Ans (F__law_words [.fl (ns.map .int), .int a, .int m, .str f, .lst (bs.map .str)]) fun d => ∃ ws : List Str, d = .lst (ws.map .str) ∧ ws.length = m ∧ ∀ w ∈ ws, Wl f.cps.toList 12 w := by
  unfold F__law_words
  rw [fnOf_none]
  unfold m__law_words
  refine fin_seq (fun s => s = [.pl (.fl (ns.map .int)), .pl (.int a), .pl (.int m), .pl (.str f), .pl (.lst (bs.map .str)), .ow (.lst []), .un, .un]) (by simp) fun s e => ?_
  subst e
  refine fin_seq (fun s => s = [.pl (.fl (ns.map .int)), .pl (.int a), .pl (.int m), .pl (.str f), .pl (.lst (bs.map .str)), .ow (.lst []), .pl (.lst []), .un]) (by simp) fun s e => ?_
  subst e
  refine fin_seq (fun s => ∃ (ws : List Str) (y6 y7 : Sl), ws.length = m ∧ (∀ w ∈ ws, Wl f.cps.toList 12 w) ∧ s = [.pl (.fl (ns.map .int)), .pl (.int a), .pl (.int m), .pl (.str f), .pl (.lst (bs.map .str)), .ow (.lst (ws.map .str)), y6, y7]) ?_ fun s e => ?_
  · have hrg := rng1_of (ms := mCons (mRd 2) mNil) (sv := [.pl (.fl (ns.map .int)), .pl (.int a), .pl (.int m), .pl (.str f), .pl (.lst (bs.map .str)), .ow (.lst []), .pl (.lst []), .un]) (n := m) (by simp; rfl) (by omega)
    refine nxt_for (fun i s => ∃ (ws : List Str) (y6 y7 : Sl), ws.length = i ∧ (∀ w ∈ ws, Wl f.cps.toList 12 w) ∧ (i = 0 ∨ ∃ ds : List Int, Dz ds ∧ y6 = .pl (.lst (ds.map .int))) ∧ s = [.pl (.fl (ns.map .int)), .pl (.int a), .pl (.int m), .pl (.str f), .pl (.lst (bs.map .str)), .ow (.lst (ws.map .str)), y6, y7]) hrg ⟨[], _, _, rfl, by simp, .inl rfl, rfl⟩ (fun i d s hdi hP => ?_) fun s hP => ?_
    · obtain ⟨ws, y6, y7, hl, hw, h6, rfl⟩ := hP
      obtain ⟨hi, rfl⟩ := rngs_get hdi
      rw [turn_n]
      refine nxt_seq (fun s => ∃ ds : List Int, Dz ds ∧ s = [.pl (.fl (ns.map .int)), .pl (.int a), .pl (.int m), .pl (.str f), .pl (.lst (bs.map .str)), .ow (.lst (ws.map .str)), .pl (.lst (ds.map .int)), .pl (.int i)]) (nxt_if (c := decide ((i : Int) % 5 = 0)) (by simp [dI2, cModL, dEq, eqD]) (fun _ => ?_) fun z => ?_) fun s e => ?_
      · have hd : dI2 cDiv (.int (i : Int)) (.int 5) = some (.int ((i / 5 : Nat) : Int)) := rfl
        have ha : dAdd (.int (a : Int)) (.int ((i / 5 : Nat) : Int)) = some (.int ((a + i / 5 : Nat) : Int)) := rfl
        obtain ⟨dc, ec, c, rfl⟩ := (cell_ok ns (a + i / 5)).eq
        obtain ⟨dd, ed, ds, rfl, hl1, hb1⟩ := (digits_ok c zs75 zs75_sz (by decide)).eq
        refine nxt_of (s := [.pl (.fl (ns.map .int)), .pl (.int a), .pl (.int m), .pl (.str f), .pl (.lst (bs.map .str)), .ow (.lst (ws.map .str)), .pl (.lst (ds.map .int)), .pl (.int i)]) ?_ ⟨ds, ⟨hl1, hb1⟩, rfl⟩
        rw [show ((a + i / 5 : Nat) : Int) = (a : Int) + (i : Int) / 5 by omega] at ec ha
        rw [show ((i / 5 : Nat) : Int) = (i : Int) / 5 by omega] at hd ha
        simp [↓zs75_ev, hd, ha, ec, ed]
      · rcases h6 with h6 | ⟨ds, h6, rfl⟩
        · subst h6
          simp at z
        · exact nxt_of rfl ⟨ds, h6, rfl⟩
      · obtain ⟨ds, hD, rfl⟩ := e
        have hr : i % 5 < 5 := Nat.mod_lt _ (by decide)
        obtain ⟨dw, ew, w, rfl, hw1⟩ := (word_ok (hD.cut hr) hf hw (by omega) hb).eq
        have hm5 : dI2 cMod (.int (i : Int)) (.int 5) = some (.int ((i % 5 : Nat) : Int)) := rfl
        have h15 : dI2 cMul (.int 15) (.int ((i % 5 : Nat) : Int)) = some (.int ((15 * (i % 5) : Nat) : Int)) := cMulL _ (by decide) (by decide)
        have h30 : dAdd (.int ((15 * (i % 5) : Nat) : Int)) (.int 15) = some (.int ((15 * (i % 5) + 15 : Nat) : Int)) := rfl
        have hs : dSl (.lst (ds.map .int)) (some ((15 * (i % 5) : Nat) : Int)) (some ((15 * (i % 5) + 15 : Nat) : Int)) = some (.lst (((ds.drop (15 * (i % 5))).take 15).map .int)) := by
          show some (D.lst (cutD _ _ _)) = _
          rw [cut_list, Nat.add_sub_cancel_left, List.map_take, List.map_drop]
        refine nxt_of (s := [.pl (.fl (ns.map .int)), .pl (.int a), .pl (.int m), .pl (.str f), .pl (.lst (bs.map .str)), .ow (.lst ((ws ++ [w]).map .str)), .pl (.lst (ds.map .int)), .pl (.int i)]) ?_ ⟨ws ++ [w], _, _, by simp [hl], ?_, .inr ⟨ds, hD, rfl⟩, rfl⟩
        · have hws : ws.length < sizeLine := small1000 (by omega)
          have e5 : ((i % 5 : Nat) : Int) = (i : Int) % 5 := by omega
          have e6 : ((15 * (i % 5) : Nat) : Int) = 15 * ((i : Int) % 5) := by omega
          have e7 : ((15 * (i % 5) + 15 : Nat) : Int) = 15 * ((i : Int) % 5) + 15 := by omega
          rw [e7, e6] at hs h30
          rw [e6, e5] at h15
          rw [e5] at hm5
          generalize (ds.drop (15 * (i % 5))).take 15 = sl at hs ew
          simp [hm5, h15, h30, hs, ew, lfree, hws]
        · intro x hx
          rcases List.mem_append.mp hx with h | h
          · exact hw x h
          · simp at h; subst h; exact hw1
    · obtain ⟨ws, y6, y7, hl, hw, h6, rfl⟩ := hP
      rw [rngs_len] at hl
      exact ⟨ws, y6, y7, hl, hw, rfl⟩
  · obtain ⟨ws, y6, y7, hl, hw, rfl⟩ := e
    simp
    exact ⟨ws, rfl, hl, hw⟩
theorem txts_map (ss : List Str) : txts (ss.map .str) = some ss := strs_map ss
theorem subset_ok {ws : List Str} (dg : Int) (hl : ws.length ≤ 50) :
    Ans (F__law_subset [.lst (ws.map .str), .int dg]) fun d => ∃ fs : List Str, d = .tup (fs.map .str) ∧ fs.length ≤ ws.length ∧ ∀ w ∈ fs, w ∈ ws := by
  unfold F__law_subset
  rw [fnOf_none]
  unfold m__law_subset
  refine fin_seq (fun s => s = [.pl (.lst (ws.map .str)), .pl (.int dg), .ow (.lst []), .un, .un]) (by simp) fun s e => ?_
  subst e
  refine fin_seq (fun s => s = [.pl (.lst (ws.map .str)), .pl (.int dg), .ow (.lst []), .pl (.int dg), .un]) (by simp [dInt]) fun s e => ?_
  subst e
  refine fin_seq (fun s => ∃ r : Int, s = [.pl (.lst (ws.map .str)), .pl (.int dg), .ow (.lst []), .pl (.int r), .un]) (nxt_if (c := decide (dg < 64)) (by simp [dCmp, ciLt]) (fun _ => by simp) fun _ => by simp) fun s e => ?_
  obtain ⟨r, rfl⟩ := e
  refine fin_seq (fun s => ∃ (fs : List Str) (r : Int) (y4 : Sl), fs.length ≤ ws.length ∧ (∀ w ∈ fs, w ∈ ws) ∧ s = [.pl (.lst (ws.map .str)), .pl (.int dg), .ow (.lst (fs.map .str)), .pl (.int r), y4]) ?_ fun s e => ?_
  · refine nxt_for (ds := ws.map .str) (fun i s => ∃ (fs : List Str) (r : Int) (y4 : Sl), fs.length ≤ i ∧ (∀ w ∈ fs, w ∈ ws) ∧ s = [.pl (.lst (ws.map .str)), .pl (.int dg), .ow (.lst (fs.map .str)), .pl (.int r), y4]) (by simp) ⟨[], r, .un, Nat.le_refl _, by simp, rfl⟩ (fun i d s hdi hP => ?_) fun s hP => ?_
    · obtain ⟨fs, r, y4, hfl, hfs, rfl⟩ := hP
      obtain ⟨w, hw, rfl⟩ : ∃ w, ws[i]? = some w ∧ D.str w = d := by simpa using hdi
      have hi : i < ws.length := (List.getElem?_eq_some_iff.mp hw).1
      rw [turn_n]
      have hd : dI2 cDiv (.int r) (.int 2) = some (.int (r / 2)) := rfl
      refine nxt_seq (fun s => ∃ (fs : List Str), fs.length ≤ i + 1 ∧ (∀ w ∈ fs, w ∈ ws) ∧ s = [.pl (.lst (ws.map .str)), .pl (.int dg), .ow (.lst (fs.map .str)), .pl (.int r), .pl (.str w)]) (nxt_if (c := decide (r % 2 = 1)) (by simp [dInt, dI2, cModL, dEq, eqD]) (fun _ => ?_) fun _ => nxt_of rfl ⟨fs, by omega, hfs, rfl⟩) fun s e => ?_
      · refine nxt_of (s := [.pl (.lst (ws.map .str)), .pl (.int dg), .ow (.lst ((fs ++ [w]).map .str)), .pl (.int r), .pl (.str w)]) ?_ ⟨fs ++ [w], by simp; omega, ?_, rfl⟩
        · have hws : fs.length < sizeLine := small1000 (by omega)
          simp [hws]
        · intro x hx
          rcases List.mem_append.mp hx with h | h
          · exact hfs x h
          · simp at h; subst h; exact List.mem_of_getElem? hw
      · obtain ⟨fs, h1, h2, rfl⟩ := e
        refine nxt_of (s := [.pl (.lst (ws.map .str)), .pl (.int dg), .ow (.lst (fs.map .str)), .pl (.int (r / 2)), .pl (.str w)]) (by simp [hd]) ⟨fs, _, _, h1, h2, rfl⟩
    · obtain ⟨fs, r, y4, h1, h2, rfl⟩ := hP
      exact ⟨fs, r, y4, by simpa using h1, h2, rfl⟩
  · obtain ⟨fs, r, y4, h1, h2, rfl⟩ := e
    have hs : dSorted [.lst (fs.map .str)] = some (.lst ((sortS fs).map .str)) := by
      unfold dSorted
      dsimp only
      rw [txts_map]
      dsimp only
      rw [if_pos (by omega)]
    simp [hs, dTuple]
    exact ⟨sortS fs, rfl, by unfold sortS; rw [List.length_mergeSort]; exact h1, fun w hw => h2 w (by unfold sortS at hw; exact List.mem_mergeSort.mp hw)⟩
theorem kind_ok {ds : List Int} {m : Nat} {ws as : List Str} (hd : Dk ds) (hm : m ≤ 31) (hw : ∀ w ∈ ws, Gw w) (ha : ∀ w ∈ as, Gw w) (hl : 0 < ws.length) (hla : as.length ≤ 6) :
    Ans (F__law_kind [.lst (ds.map .int), .int m, .lst (ws.map .str), .lst (as.map .str)]) fun d => ∃ ts : List Tk, d = .tup (ts.map Tk.d) ∧ run 1 ts = some 0 ∧ ts.length = 2 * m + 1 ∧ ∀ t ∈ ts, Gt t := by
  obtain ⟨n0, e0, h0⟩ := hd.b0
  have a0 : dIx (.lst (ds.map D.int)) (.int 0) = some (.int n0) := at_of e0
  unfold F__law_kind
  rw [fnOf_none]
  unfold m__law_kind
  refine fin_seq (fun s => s = [.pl (.lst (ds.map .int)), .pl (.int m), .pl (.lst (ws.map .str)), .pl (.lst (as.map .str)), .ow (.lst []), .un, .un, .un, .un, .un]) (by simp) fun s e => ?_
  subst e
  refine fin_seq (fun s => s = [.pl (.lst (ds.map .int)), .pl (.int m), .pl (.lst (ws.map .str)), .pl (.lst (as.map .str)), .ow (.lst []), .pl (.int 1), .un, .un, .un, .un]) (by simp) fun s e => ?_
  subst e
  refine fin_seq (fun s => s = [.pl (.lst (ds.map .int)), .pl (.int m), .pl (.lst (ws.map .str)), .pl (.lst (as.map .str)), .ow (.lst []), .pl (.int 1), .pl (.int m), .un, .un, .un]) (by simp) fun s e => ?_
  subst e
  refine fin_seq (fun s => ∃ (ts : List Tk) (y5 y6 y7 y8 y9 : Sl), run 1 ts = some 0 ∧ ts.length = 2 * m + 1 ∧ (∀ t ∈ ts, Gt t) ∧ s = [.pl (.lst (ds.map .int)), .pl (.int m), .pl (.lst (ws.map .str)), .pl (.lst (as.map .str)), .ow (.lst (ts.map Tk.d)), y5, y6, y7, y8, y9]) ?_ fun s e => ?_
  · have hrg := rng1_of (ms := mCons (m2 dAdd (m2 (dI2 cMul) (mC (.int 2)) (mRd 1)) (mC (.int 1))) mNil) (sv := [.pl (.lst (ds.map .int)), .pl (.int m), .pl (.lst (ws.map .str)), .pl (.lst (as.map .str)), .ow (.lst []), .pl (.int 1), .pl (.int m), .un, .un, .un]) (n := 2 * m + 1) (by simp [dI2, cMulL, dAdd]; rfl) (by omega)
    refine nxt_for (fun i s => ∃ (ts : List Tk) (p r : Nat) (y7 y8 y9 : Sl), run 1 ts = some p ∧ ts.length = i ∧ p + i + 2 * r = 1 + 2 * m ∧ (0 < r → 0 < p) ∧ (∀ t ∈ ts, Gt t) ∧ s = [.pl (.lst (ds.map .int)), .pl (.int m), .pl (.lst (ws.map .str)), .pl (.lst (as.map .str)), .ow (.lst (ts.map Tk.d)), .pl (.int p), .pl (.int r), y7, y8, y9]) hrg ⟨[], 1, m, _, _, _, rfl, rfl, by omega, fun _ => by decide, by simp, rfl⟩ (fun i d s hdi hP => ?_) fun s hP => ?_
    · obtain ⟨ts, p, r, y7, y8, y9, hr, hts, hpr, hp0, hg, rfl⟩ := hP
      obtain ⟨hi, rfl⟩ := rngs_get hdi
      rw [turn_n]
      have hp1 : 0 < p := by
        rcases Nat.eq_zero_or_pos r with z | z
        · omega
        · exact hp0 z
      have hlen := hd.ln
      have i1 := ix_int (xs := ds) (i := 3 + 2 * (i % 63)) (by omega)
      have i2 := ix_int (xs := ds) (i := 2 + 2 * (i % 63)) (by omega)
      have i3 := ix_int (xs := ds) (i := 2 + 2 * (i % 6)) (by omega)
      rw [show ((3 + 2 * (i % 63) : Nat) : Int) = 3 + 2 * ((i : Int) % 63) by omega] at i1
      rw [show ((2 + 2 * (i % 63) : Nat) : Int) = 2 + 2 * ((i : Int) % 63) by omega] at i2
      rw [show ((2 + 2 * (i % 6) : Nat) : Int) = 2 + 2 * ((i : Int) % 6) by omega] at i3
      generalize ds[3 + 2 * (i % 63)] = dg at i1
      generalize ds[2 + 2 * (i % 63)] = u1 at i2
      generalize ds[2 + 2 * (i % 6)] = u2 at i3
      have hcm : ∀ z : Int, cMul 2 z = some (.int (2 * z)) := fun z => cMulL z (by decide) (by decide)
      refine nxt_seq (fun s => s = [.pl (.lst (ds.map .int)), .pl (.int m), .pl (.lst (ws.map .str)), .pl (.lst (as.map .str)), .ow (.lst (ts.map Tk.d)), .pl (.int p), .pl (.int r), .pl (.int i), .pl (.int dg), y9]) (by simp [dI2, cModL, hcm, dAdd, i1]) fun s e => ?_
      subst e
      refine nxt_seq (fun s => ∃ t : Int, s = [.pl (.lst (ds.map .int)), .pl (.int m), .pl (.lst (ws.map .str)), .pl (.lst (as.map .str)), .ow (.lst (ts.map Tk.d)), .pl (.int p), .pl (.int r), .pl (.int i), .pl (.int dg), .pl (.int t)]) ?_ fun s e => ?_
      · have ht : ∃ t : Int, dIx (.lst [.int 0, .int 1, .int u1, .int u2]) (.int (n0 : Int)) = some (.int t) := ⟨_, ix_int (xs := [0, 1, u1, u2]) (by simpa using h0)⟩
        obtain ⟨t, ht⟩ := ht
        have hs4 : 4 ≤ sizeLine := small_str (by decide)
        simp [dI2, cModL, hcm, dAdd, i2, i3, a0, ht, hs4]
      obtain ⟨t, rfl⟩ := e
      have hq : ∃ q : Bool, (mAnd (mB (m2 (dCI ciGt) (mRd 6) (mC (.int 0)))) (mOr (mB (m2 dEq (mRd 5) (mC (.int 1)))) (mB (m2 dEq (mRd 9) (mC (.int 1)))))) [.pl (.lst (ds.map .int)), .pl (.int m), .pl (.lst (ws.map .str)), .pl (.lst (as.map .str)), .ow (.lst (ts.map Tk.d)), .pl (.int p), .pl (.int r), .pl (.int i), .pl (.int dg), .pl (.int t)] = .ok q [.pl (.lst (ds.map .int)), .pl (.int m), .pl (.lst (ws.map .str)), .pl (.lst (as.map .str)), .ow (.lst (ts.map Tk.d)), .pl (.int p), .pl (.int r), .pl (.int i), .pl (.int dg), .pl (.int t)] ∧ (q = true → 0 < r) ∧ (q = false → r = 0 ∨ p ≠ 1) := by
        by_cases h1 : 0 < r
        · by_cases h2 : p = 1
          · exact ⟨true, by simp [dCI, ciGt, h1, h2, dEq, eqD], fun _ => h1, fun z => nomatch z⟩
          · by_cases h3 : t = 1
            · exact ⟨true, by simp [dCI, ciGt, h1, h2, h3, dEq, eqD], fun _ => h1, fun z => nomatch z⟩
            · have h2' : ¬ ((p : Int) = 1) := by omega
              exact ⟨false, by simp [dCI, ciGt, h1, h2', h3, dEq, eqD], fun z => (nomatch z), fun _ => .inr h2⟩
        · exact ⟨false, by simp [dCI, ciGt, h1], fun z => (nomatch z), fun _ => .inl (by omega)⟩
      obtain ⟨q, hq1, hq2, hq3⟩ := hq
      have hsz : ts.length < sizeLine := small1000 (by omega)
      refine nxt_if (c := q) hq1 (fun z => ?_) fun z => ?_
      · have hr0 := hq2 z
        obtain ⟨df, ef, fs, rfl, hf1, hf2⟩ := (subset_ok (ws := as) dg (by omega)).eq
        have c1 : ((r - 1 : Nat) : Int) = (r : Int) - 1 := by omega
        refine nxt_of (s := [.pl (.lst (ds.map .int)), .pl (.int m), .pl (.lst (ws.map .str)), .pl (.lst (as.map .str)), .ow (.lst ((ts ++ [Tk.row fs]).map Tk.d)), .pl (.int (p + 1 : Nat)), .pl (.int (r - 1 : Nat)), .pl (.int i), .pl (.int dg), .pl (.int t)]) ?_ ⟨ts ++ [Tk.row fs], p + 1, r - 1, _, _, _, ?_, by simp [hts], by omega, fun _ => by omega, ?_, rfl⟩
        · simp [ef, hsz, dI2, cSub, dAdd, c1, Tk.d]
        · rw [run_app, hr]
          obtain ⟨p', rfl⟩ : ∃ p', p = p' + 1 := ⟨p - 1, by omega⟩
          rfl
        · intro x hx
          rcases List.mem_append.mp hx with h | h
          · exact hg x h
          · simp at h; subst h
            exact ⟨by omega, fun w hw => ha w (hf2 w hw)⟩
      · have hmod : ((dg % (ws.length : Int)).toNat : Int) = dg % (ws.length : Int) := Int.toNat_of_nonneg (Int.emod_nonneg _ (by omega))
        have hlt : (dg % (ws.length : Int)).toNat < ws.length := by
          have := Int.emod_lt_of_pos dg (show (0 : Int) < ws.length by omega)
          omega
        have iw := ix_lstr hlt
        rw [hmod] at iw
        have hmem : ws[(dg % (ws.length : Int)).toNat] ∈ ws := List.getElem_mem hlt
        generalize ws[(dg % (ws.length : Int)).toNat] = w at iw hmem
        have c1 : ((p - 1 : Nat) : Int) = (p : Int) - 1 := by omega
        have hmo : cMod dg (ws.length : Int) = some (.int (dg % (ws.length : Int))) := cModL _ (by omega)
        refine nxt_of (s := [.pl (.lst (ds.map .int)), .pl (.int m), .pl (.lst (ws.map .str)), .pl (.lst (as.map .str)), .ow (.lst ((ts ++ [Tk.wd w]).map Tk.d)), .pl (.int (p - 1 : Nat)), .pl (.int r), .pl (.int i), .pl (.int dg), .pl (.int t)]) ?_ ⟨ts ++ [Tk.wd w], p - 1, r, _, _, _, ?_, by simp [hts], by omega, fun h => ?_, ?_, rfl⟩
        · simp [hsz, dI2, cSub, dInt, dLen, hmo, iw, c1, Tk.d]
        · rw [run_app, hr]
          obtain ⟨p', rfl⟩ : ∃ p', p = p' + 1 := ⟨p - 1, by omega⟩
          rfl
        · rcases hq3 z with h' | h' <;> omega
        · intro x hx
          rcases List.mem_append.mp hx with h | h
          · exact hg x h
          · simp at h; subst h
            exact hw _ hmem
    · obtain ⟨ts, p, r, y7, y8, y9, hr, hts, hpr, hp0, hg, rfl⟩ := hP
      rw [rngs_len] at hts hpr
      have hp : p = 0 := by omega
      subst hp
      exact ⟨ts, _, _, _, _, _, hr, hts, hg, rfl⟩
  · obtain ⟨ts, y5, y6, y7, y8, y9, hr, hts, hg, rfl⟩ := e
    simp [dTuple]
    exact ⟨ts, rfl, hr, hts, hg⟩
theorem drawn_ok {c : Int} {mo : Nat} {ws as : List Str} (hm : mo ≤ 31) (hw : ∀ w ∈ ws, Gw w) (ha : ∀ w ∈ as, Gw w) (hl : 0 < ws.length) (hla : as.length ≤ 6) :
    Ans (F__law_drawn [.int c, .int mo, .lst (ws.map .str), .lst (as.map .str)]) fun d => ∃ ts : List Tk, d = .tup (ts.map Tk.d) ∧ run 1 ts = some 0 ∧ ts.length ≤ 2 * mo + 1 ∧ ∀ t ∈ ts, Gt t := by
  obtain ⟨dd, ed, ds, rfl, hl1, hb1⟩ := (digits_ok c zs128 zs128_sz (by rw [zs128_len]; decide)).eq
  rw [zs128_len] at hl1
  have hD : Dk ds := ⟨hl1, by
    have e1 : ds[0]? = some ds[0] := List.getElem?_eq_getElem (by omega)
    obtain ⟨b1, b2⟩ := hb1 0 4 _ rfl e1
    exact ⟨(ds[0]).toNat, by rw [e1, Int.toNat_of_nonneg b1], by omega⟩⟩
  obtain ⟨n1, e1, h1⟩ : ∃ n : Nat, ds[1]? = some (n : Int) ∧ n < 40 := by
    have e1 : ds[1]? = some ds[1] := List.getElem?_eq_getElem (by omega)
    obtain ⟨b1, b2⟩ := hb1 1 40 _ rfl e1
    exact ⟨(ds[1]).toNat, by rw [e1, Int.toNat_of_nonneg b1], by omega⟩
  have a1 : dIx (.lst (ds.map D.int)) (.int 1) = some (.int n1) := at_of e1
  unfold F__law_drawn
  rw [fnOf_none]
  unfold m__law_drawn
  refine fin_seq (fun s => s = [.pl (.int c), .pl (.int mo), .pl (.lst (ws.map .str)), .pl (.lst (as.map .str)), .pl (.lst (ds.map .int)), .un]) (by simp [↓zs128_ev, ed]) fun s e => ?_
  subst e
  refine fin_seq (fun s => s = [.pl (.int c), .pl (.int mo), .pl (.lst (ws.map .str)), .pl (.lst (as.map .str)), .pl (.lst (ds.map .int)), .pl (.int n1)]) (by simp [a1]) fun s e => ?_
  subst e
  refine fin_seq (fun s => ∃ n : Nat, s = [.pl (.int c), .pl (.int mo), .pl (.lst (ws.map .str)), .pl (.lst (as.map .str)), .pl (.lst (ds.map .int)), .pl (.int n)]) (nxt_if (c := decide ((31 : Int) < n1)) (by simp [dCI, ciGt]) (fun z => ?_) fun _ => nxt_of rfl ⟨n1, rfl⟩) fun s e => ?_
  · have : 31 < n1 := by simp at z; omega
    exact nxt_of (s := [.pl (.int c), .pl (.int mo), .pl (.lst (ws.map .str)), .pl (.lst (as.map .str)), .pl (.lst (ds.map .int)), .pl (.int (n1 - 32 : Nat))]) (by
      have : ((n1 - 32 : Nat) : Int) = (n1 : Int) - 32 := by omega
      simp [dI2, cSub, this]) ⟨_, rfl⟩
  · obtain ⟨n, rfl⟩ := e
    obtain ⟨dk, ek, ts, rfl, h1, h2, h3⟩ := (kind_ok (m := n % (mo + 1)) hD (by have := Nat.mod_lt n (show 0 < mo + 1 by omega); omega) hw ha hl hla).eq
    have hmo : cMod (n : Int) ((mo : Int) + 1) = some (.int ((n : Int) % ((mo : Int) + 1))) := cModL _ (by omega)
    rw [show ((n % (mo + 1) : Nat) : Int) = (n : Int) % ((mo : Int) + 1) by simp] at ek
    simp [dInt, dAdd, dI2, hmo, ek]
    exact ⟨ts, rfl, h1, by have := Nat.mod_lt n (show 0 < mo + 1 by omega); omega, h3⟩
theorem reserved_ok : F__law_reserved [] = .ok (.lst (res.map .str)) none := by
  have h12 : 12 ≤ sizeLine := small_str (by decide)
  unfold F__law_reserved
  rw [fnOf_none]
  unfold m__law_reserved
  simp [h12]
end VM.K02

set_option Elab.async false
set_option linter.all false
set_option autoImplicit false
set_option maxRecDepth 100000
set_option maxHeartbeats 400000
namespace VM.K02
open PySem PySem.Spec PyProof.Rows L2 VM
local macro_rules | `(tactic| walk_at "ev") => `(tactic| simp (disch := first | omega | (simp only [List.length_cons, List.length_nil, List.length_map, List.length_append, List.length_replicate, List.length_set, rngs_length]; omega)) only [*, q_seq, q_skip, q_knx, q_krt, q_kro, q_kbk, q_kct, q_ker, q_kk, q_bind, q_bok, q_ber, q_drop, q_ret, q_reto, q_ifs, q_ct, q_cf, q_asg, q_asgo, q_asgt, q_rok, q_rer, q_c, q_rd, q_mv, q_tk, q_2, q_1, q_os, q_b, q_not, q_and, q_or, q_at, q_af, q_ao, q_rt, q_rf, q_ro, q_andv, q_orv, q_avt, q_avf, q_avo, q_rvt, q_rvf, q_rvo, q_ife, q_it, q_if, q_io, q_on, q_oS, q_sl, q_nil, q_cons, q_tup, q_lst, q_call1, q_call, q_f0, q_f1, q_f2, q_f3, q_f4, q_f5, q_f6, q_f7, q_callk, q_frok, q_frer, q_calli, q_mihere, q_micons, q_fri, q_sdo, q_sdi, q_rso, q_rsi, q_app, q_ext, q_put, q_pop, q_with, q_wok, q_for, q_enum, q_items, q_raise, q_gt, q_grt, q_lt, q_le, q_rng1, q_rng2, q_rg1, q_lrg, q_lrgi, q_rg2, q_add, q_adds, q_addl, q_addt, q_cat, q_sub, q_mulr, q_mull, q_div, q_mod, q_p18, q_p12, q_cmplt, q_cmple, q_cmpgt, q_cmpge, q_eqi, q_eqs, q_eqb, q_nei, q_nes, q_isn, q_isnn, q_isb, q_isnb, q_neg, q_dnot, q_lenl, q_lent, q_lenf, q_lens, q_int, q_intb, q_tupl, q_tupt, q_lstl, q_lstt, q_min, q_max, q_ixn, q_ixm, q_ixl, q_ixt, q_ixf, q_rep, q_isi_tt, q_isi_ts, q_isi_ti, q_isi_ss, q_isi_st, q_isi_ii, q_isi_it, q_isi_is, q_isi_bi, q_lfi, q_lfb, q_lfs, q_lfn, q_itt, q_itl, q_itf, q_slt, q_sll, q_sls, tk_row, tk_wd, q_cut, q_cutf, q_cutt, q_try, q_tryo, q_tnx, q_trt, q_tonx, q_tort, w_irt, w_inx, w_iro, w_lnx, w_lct, w_lbk, w_lrt, w_lro, w_ler, w_nnx, w_nrt, w_nro, w_ner, w_rnx, w_rrt, w_rro, w_rer, w_tn, w_tt, w_tt3, ev_ownL, ev_putL, ev_lend, ev_hn, ev_hp, ev_hu, ev_ho, ev_hi, ev_i0, ev_i1, ev_tN, ev_tnil, ev_tcons, ev_tTup, List.getElem?_cons_zero, List.getElem?_cons_succ, List.set_cons_zero, List.set_cons_succ, List.length_cons, List.length_nil, List.length_append, List.length_map, List.length_replicate, List.length_set, rngs_length, List.nil_append, List.cons_append, Int.toNat_natCast, Int.toNat_zero, Int.toNat_one, Int.reduceToNat, List.getElem?_map, Option.map_some, Nat.reduceAdd, Nat.reduceSub, Nat.reduceLT, Nat.reduceLeDiff, Nat.reduceEqDiff, Int.reduceEq, Int.reduceLT, Int.reduceLE, Int.reduceAdd, Int.reduceSub, Int.reduceMul, Int.reduceNeg, List.replicate_succ, List.replicate_zero, Bool.not_true, Bool.not_false, Bool.and_true, Bool.true_and, Bool.and_false, Bool.false_and, Bool.or_true, Bool.true_or, Bool.or_false, Bool.false_or, decide_true, decide_false, if_true, if_false, and_self, true_and, and_true, Nat.sub_self, Nat.add_zero, Nat.zero_add, Bool.true_eq_false, Bool.false_eq_true, ite_true, ite_false, reduceIte, eq_self])
theorem nget {n j : Nat} {d : D} (h : (rngs 0 n)[j]? = some d) : j < n ∧ d = .int (j : Int) := by
  obtain ⟨h1, h2⟩ := rngs_at h
  exact ⟨h1, by rw [h2, Int.zero_add]⟩
theorem kdlen (k : Kd) : (k.fl.map Tk.d).length = k.sz := by rw [List.length_map, k.fl_len]
theorem tokd {k : Kd} {i : Nat} {t : Tk} (h : k.fl[i]? = some t) : (k.fl.map Tk.d)[i]? = some t.d := by rw [List.getElem?_map, h]; rfl
/-- the ends -/
def En (k : Kd) (E : List Nat) : Prop := E.length = k.sz ∧ ∀ j t, At k j t → E[j]? = some (j + t.sz)
theorem En.uniq {k : Kd} {E E' : List Nat} (h : En k E) (h' : En k E') : E = E' := by
  apply List.ext_getElem?
  intro j
  by_cases hj : j < k.sz
  · obtain ⟨t, ht⟩ := at_ex k j hj
    rw [h.2 j t ht, h'.2 j t ht]
  · rw [List.getElem?_eq_none (by rw [h.1]; omega), List.getElem?_eq_none (by rw [h'.1]; omega)]
abbrev iN (E : List Nat) : List D := E.map fun (n : Nat) => D.int (n : Int)
theorem iN_at {E : List Nat} {j x : Nat} (h : E[j]? = some x) : (iN E)[j]? = some (.int (x : Int)) := by
  show (E.map _)[j]? = _
  rw [List.getElem?_map, h]; rfl
theorem same_ok {d : D} {w dp : Nat} (h : Rk d w dp) (h1 : w ≤ 200000 := by omega) (h2 : dp ≤ 60 := by omega) : F__law_same [d, d] = .ok (.bl true) none := Cmp.eq <| cmp_of <| by
  obtain ⟨z, hz⟩ := repr_of h h1 h2
  unfold m__law_same
  walk_at "ev"
theorem ends_ok (k : Kd) (hl : k.sz ≤ 1000) : ∃ E, F_kind_ends [k.d] = .ok (.tup (iN E)) none ∧ En k E := by
  have h : Cmp (F_kind_ends [k.d]) (fun d => ∃ E, d = .tup (iN E) ∧ En k E) fun _ => False := by
    refine cmp_of ?_
    have hlen := kdlen k
    unfold m_kind_ends
    walk_at "ev"
    unfold f_kind_ends_1
    walk_at "ev"
    refine w_for (Y := List Nat × Sl × Sl) (fun y => [.pl k.d, .ow (.lst (iN y.1)), y.2.1, y.2.2]) (fun i y => y.1.length = k.sz ∧ ∀ j t, k.sz - i ≤ j → At k j t → y.1[j]? = some (j + t.sz)) (List.replicate k.sz 0, .un, .un) (by simp) ⟨by simp, fun j t h1 h2 => by have := h2.lt; omega⟩ (fun i d y hd hy => ?_) fun y hy => ?_
    · obtain ⟨E, y2, y3⟩ := y
      obtain ⟨hi, rfl⟩ := nget hd
      obtain ⟨hE, hEj⟩ := hy
      dsimp only at hE hEj
      obtain ⟨p, hp, hpn⟩ : ∃ p : Nat, (k.sz : Int) - 1 - i = p ∧ p + 1 + i = k.sz := ⟨k.sz - 1 - i, by omega, by omega⟩
      obtain ⟨t, ht⟩ := at_ex k p (by omega)
      unfold b_kind_ends_0
      rcases t with w | ⟨r, a, b⟩
      · have e0 := ht.tok_wd
        walk_at "ev"
        refine ⟨(E.set p (p + 1), .pl (.int i), .pl (.int p)), by simp, by simp [hE], fun j u h1 h2 => ?_⟩
        by_cases hj : j = p
        · subst hj
          rw [List.getElem?_set_self (by omega), h2.uniq ht]; rfl
        · rw [List.getElem?_set_ne (by omega)]
          exact hEj j u (by omega) h2
      · have e0 := ht.tok_fn
        have g1 := hEj _ _ (by omega) ht.l
        have g2 := hEj _ _ (by omega) ht.r
        have l1 := ht.r.bound
        have e1 : ((iN E).set p (D.int (p + 1)))[((p : Int) + 1).toNat]? = some (.int ((p + 1 + a.sz : Nat) : Int)) := by
          rw [show ((p : Int) + 1).toNat = p + 1 by omega, List.getElem?_set_ne (by omega)]
          exact iN_at g1
        have e2 : ((iN E).set p (D.int (p + 1)))[p + 1 + a.sz]? = some (.int ((p + 1 + a.sz + b.sz : Nat) : Int)) := by
          rw [List.getElem?_set_ne (by omega)]
          exact iN_at g2
        walk_at "ev"
        refine ⟨((E.set p (p + 1)).set p (p + 1 + a.sz + b.sz), .pl (.int i), .pl (.int p)), by simp, by simp [hE], fun j u h1 h2 => ?_⟩
        by_cases hj : j = p
        · subst hj
          rw [List.getElem?_set_self (by simp; omega), h2.uniq ht]
          simp only [Kd.sz, Option.some.injEq]; omega
        · rw [List.getElem?_set_ne (by omega), List.getElem?_set_ne (by omega)]
          exact hEj j u (by omega) h2
    · obtain ⟨E, y2, y3⟩ := y
      walk_at "ev"
      obtain ⟨h1, h2⟩ := hy
      exact ⟨E, rfl, h1, fun j t ht => h2 j t (by rw [rngs_length]; omega) ht⟩
  obtain ⟨d, h1, E, rfl, h2⟩ := h.ok
  exact ⟨E, h1, h2⟩
theorem end_ok {k t : Kd} {i : Nat} (h : At k i t) (hl : k.sz ≤ 1000) : F__law_end [k.d, .int i] = .ok (.int ((i + t.sz : Nat) : Int)) none := Cmp.eq <| cmp_of <| by
  obtain ⟨q, hq⟩ := h.drop
  have hlen := kdlen k
  have hb := h.bound
  unfold m__law_end
  walk_at "ev"
  unfold f__law_end_1
  walk_at "ev"
  refine w_for (Y := Nat × Sl) (fun y => [.pl k.d, .pl (.int i), .pl (.int y.1), y.2]) (fun j y => ∃ F : List Kd, F ≠ [] ∧ y.1 = F.length ∧ k.fl.drop (i + j) = F.flatMap Kd.fl ++ q ∧ j + (F.map Kd.sz).sum = t.sz) (1, .un) rfl ⟨[t], by simp, rfl, by simp [hq], by simp⟩ (fun j d y hd hy => ?_) fun y hy => ?_
  · obtain ⟨n, y3⟩ := y
    obtain ⟨F, h1, h2, h3, h4⟩ := hy
    obtain ⟨hj, rfl⟩ := rngs_at hd
    dsimp only at h2
    subst h2
    cases F with
    | nil => exact absurd rfl h1
    | cons T F =>
      cases T with
      | wd w =>
        obtain ⟨e1, e2⟩ := drop_hd (x := Tk.wd w) (r := F.flatMap Kd.fl ++ q) h3
        have e3 : ((i : Int) + (j : Int)).toNat = i + j := by omega
        unfold b__law_end_0
        walk_at "ev"
        refine w_if (fun z => ?_) fun z => ?_
        · walk_at "ev"
          have z := of_decide_eq_true z
          cases F with
          | nil => simp [Kd.sz] at h4; congr 1; omega
          | cons _ _ => simp at z; omega
        · walk_at "ev"
          have z := of_decide_eq_false z
          refine ⟨(F.length, _), by simp; exact rfl, F, fun e => z (by simp [e]), rfl, by rw [← e2]; rfl, by simp [Kd.sz] at h4; omega⟩
      | fn r a b =>
        obtain ⟨e1, e2⟩ := drop_hd (x := Tk.row r) (r := (a.fl ++ b.fl) ++ (F.flatMap Kd.fl ++ q)) (by rw [h3]; simp [Kd.fl])
        have e3 : ((i : Int) + (j : Int)).toNat = i + j := by omega
        unfold b__law_end_0
        walk_at "ev"
        refine w_if (fun z => ?_) fun z => ?_
        · have z := of_decide_eq_true z
          omega
        · walk_at "ev"
          refine ⟨(F.length + 2, .pl (.int ((i : Int) + j))), by simp, a :: b :: F, by simp, rfl, by rw [← Nat.add_assoc, e2]; simp, by simp [Kd.sz] at h4 ⊢; omega⟩
  · obtain ⟨n, y3⟩ := y
    obtain ⟨F, h1, h2, h3, h4⟩ := hy
    rw [rngs_length] at h3 h4
    exfalso
    cases F with
    | nil => exact h1 rfl
    | cons T F =>
      have := T.sz_pos
      simp at h4
      omega
theorem rngs_nat (n : Nat) : rngs 0 n = (List.range n).map fun (j : Nat) => D.int (j : Int) := by
  apply List.ext_getElem?
  intro j
  by_cases h : j < n
  · have h1 : (rngs 0 n)[j]? = some ((rngs 0 n)[j]'(by rw [rngs_length]; exact h)) := List.getElem?_eq_getElem _
    rw [h1]
    obtain ⟨_, h2⟩ := nget h1
    rw [h2]
    simp [h]
  · rw [List.getElem?_eq_none (by rw [rngs_length]; omega), List.getElem?_eq_none (by simp; omega)]
/-- a script's head -/
theorem heads (ns : List Int) : ∃ bs cs as : List Str, ∃ c4 c5 c6 c7 c8 : Int, ∃ n0 n1 n2 n3 n4 : Nat,
    bs.length = 3 ∧ cs.length = 3 ∧ as.length = 6 ∧ (∀ w ∈ bs, Wl lower.cps.toList 12 w) ∧ (∀ w ∈ cs, Wl caps.cps.toList 12 w) ∧ (∀ w ∈ as, Wl lower.cps.toList 12 w) ∧ n1 < 12 ∧ n2 < 6 ∧
    F__law_words [.fl (ns.map .int), .int 0, .int 3, .str lower, .lst []] = .ok (.lst (bs.map .str)) none ∧
    F__law_words [.fl (ns.map .int), .int 1, .int 3, .str caps, .lst []] = .ok (.lst (cs.map .str)) none ∧
    (∃ qs : List Str, F__law_words [.fl (ns.map .int), .int 2, .int 6, .str lower, .lst (res.map .str)] = .ok (.lst (qs.map .str)) none ∧ dSorted [.lst (qs.map .str)] = some (.lst (as.map .str))) ∧
    F__law_cell [.fl (ns.map .int), .int 4] = .ok (.int c4) none ∧ F__law_cell [.fl (ns.map .int), .int 5] = .ok (.int c5) none ∧ F__law_cell [.fl (ns.map .int), .int 6] = .ok (.int c6) none ∧ F__law_cell [.fl (ns.map .int), .int 7] = .ok (.int c7) none ∧ F__law_cell [.fl (ns.map .int), .int 8] = .ok (.int c8) none ∧
    F__law_digits [.int c4, .lst [.int 3, .int 12, .int 6, .int 12, .int 192]] = .ok (.lst [.int (n0 : Int), .int (n1 : Int), .int (n2 : Int), .int (n3 : Int), .int (n4 : Int)]) none := by
  obtain ⟨d1, a1, bs, rfl, b1, g1⟩ := (words_ok (ns := ns) (a := 0) (m := 3) (bs := []) fs_lower (by decide) (by decide)).eq
  obtain ⟨d2, a2, cs, rfl, b2, g2⟩ := (words_ok (ns := ns) (a := 1) (m := 3) (bs := []) fs_caps (by decide) (by decide)).eq
  obtain ⟨d3, a3, qs, rfl, b3, g3⟩ := (words_ok (ns := ns) (a := 2) (m := 6) (bs := res) fs_lower (by decide) (by decide)).eq
  obtain ⟨d4, a4, c4, rfl⟩ := (cell_ok ns 4).eq
  obtain ⟨d5, a5, c5, rfl⟩ := (cell_ok ns 5).eq
  obtain ⟨d6, a6, c6, rfl⟩ := (cell_ok ns 6).eq
  obtain ⟨d7, a7, c7, rfl⟩ := (cell_ok ns 7).eq
  obtain ⟨d8, a8, c8, rfl⟩ := (cell_ok ns 8).eq
  obtain ⟨d9, a9, ds, rfl, l9, h9⟩ := (digits_ok c4 [3, 12, 6, 12, 192] (by intro z hz; simp at hz; unfold SizeOk; omega) (by decide)).eq
  obtain ⟨n0, x0, y0⟩ := dig (i := 0) l9 h9 rfl
  obtain ⟨n1, x1, y1⟩ := dig (i := 1) l9 h9 rfl
  obtain ⟨n2, x2, y2⟩ := dig (i := 2) l9 h9 rfl
  obtain ⟨n3, x3, y3⟩ := dig (i := 3) l9 h9 rfl
  obtain ⟨n4, x4, y4⟩ := dig (i := 4) l9 h9 rfl
  obtain rfl : ds = [(n0 : Int), n1, n2, n3, n4] := by
    match ds, l9 with
    | [p0, p1, p2, p3, p4], _ => simp at x0 x1 x2 x3 x4; simp [*]
  exact ⟨bs, cs, sortS qs, c4, c5, c6, c7, c8, n0, n1, n2, n3, n4, b1, b2, by rw [(sort_perm qs).length_eq]; exact b3, g1, g2, fun w hw => g3 w ((sort_perm qs).mem_iff.mp hw), by omega, by omega, a1, a2, ⟨qs, a3, sorted_of (by omega)⟩, a4, a5, a6, a7, a8, a9⟩
theorem drawn_kd {c : Int} {mo : Nat} {ws as : List Str} (hm : mo ≤ 31) (hw : ∀ w ∈ ws, Gw w) (ha : ∀ w ∈ as, Gw w) (hl : 0 < ws.length) (hla : as.length ≤ 6) :
    ∃ k : Kd, F__law_drawn [.int c, .int mo, .lst (ws.map .str), .lst (as.map .str)] = .ok k.d none ∧ k.sz ≤ 2 * mo + 1 ∧ k.Ok := by
  obtain ⟨d, a, ts, rfl, h1, h2, h3⟩ := (drawn_ok (c := c) hm hw ha hl hla).eq
  obtain ⟨k, rfl⟩ := kd_of h1
  exact ⟨k, a, by rw [← k.fl_len]; exact h2, h3⟩
theorem set_str {bs : List Str} {w : Str} (h : bs.length = 3) (hb : ∀ w ∈ bs, Gw w) (hw : Gw w) : ∃ bs' : List Str, ((bs.map D.str).set 1 (.str w) : List D) = bs'.map .str ∧ bs'.length = 3 ∧ ∀ w ∈ bs', Gw w := by
  match bs, h with
  | [a, b, c], _ => exact ⟨[a, w, c], rfl, rfl, by simp at hb ⊢; exact ⟨hb.1, hw, hb.2.2⟩⟩
end VM.K02

set_option Elab.async false
set_option linter.all false
set_option autoImplicit false
set_option maxRecDepth 100000
set_option maxHeartbeats 400000
namespace VM.K02
open PySem PySem.Spec PyProof.Rows L2 VM
local macro_rules | `(tactic| walk_at "ev") => `(tactic| simp (disch := first | omega | (simp only [List.length_cons, List.length_nil, List.length_map, List.length_append, List.length_replicate, List.length_set, rngs_length]; omega)) only [*, q_seq, q_skip, q_knx, q_krt, q_kro, q_kbk, q_kct, q_ker, q_kk, q_bind, q_bok, q_ber, q_drop, q_ret, q_reto, q_ifs, q_ct, q_cf, q_asg, q_asgo, q_asgt, q_rok, q_rer, q_c, q_rd, q_mv, q_tk, q_2, q_1, q_os, q_b, q_not, q_and, q_or, q_at, q_af, q_ao, q_rt, q_rf, q_ro, q_andv, q_orv, q_avt, q_avf, q_avo, q_rvt, q_rvf, q_rvo, q_ife, q_it, q_if, q_io, q_on, q_oS, q_sl, q_nil, q_cons, q_tup, q_lst, q_call1, q_call, q_f0, q_f1, q_f2, q_f3, q_f4, q_f5, q_f6, q_f7, q_callk, q_frok, q_frer, q_calli, q_mihere, q_micons, q_fri, q_sdo, q_sdi, q_rso, q_rsi, q_app, q_ext, q_put, q_pop, q_with, q_wok, q_for, q_enum, q_items, q_raise, q_gt, q_grt, q_lt, q_le, q_rng1, q_rng2, q_rg1, q_lrg, q_lrgi, q_rg2, q_add, q_adds, q_addl, q_addt, q_cat, q_sub, q_mulr, q_mull, q_div, q_mod, q_p18, q_p12, q_cmplt, q_cmple, q_cmpgt, q_cmpge, q_eqi, q_eqs, q_eqb, q_nei, q_nes, q_isn, q_isnn, q_isb, q_isnb, q_neg, q_dnot, q_lenl, q_lent, q_lenf, q_lens, q_int, q_intb, q_tupl, q_tupt, q_lstl, q_lstt, q_min, q_max, q_ixn, q_ixm, q_ixl, q_ixt, q_ixf, q_rep, q_isi_tt, q_isi_ts, q_isi_ti, q_isi_ss, q_isi_st, q_isi_ii, q_isi_it, q_isi_is, q_isi_bi, q_lfi, q_lfb, q_lfs, q_lfn, q_itt, q_itl, q_itf, q_slt, q_sll, q_sls, tk_row, tk_wd, q_cut, q_cutf, q_cutt, q_try, q_tryo, q_tnx, q_trt, q_tonx, q_tort, w_irt, w_inx, w_iro, w_lnx, w_lct, w_lbk, w_lrt, w_lro, w_ler, w_nnx, w_nrt, w_nro, w_ner, w_rnx, w_rrt, w_rro, w_rer, w_tn, w_tt, w_tt3, ev_ownL, ev_putL, ev_lend, ev_hn, ev_hp, ev_hu, ev_ho, ev_hi, ev_i0, ev_i1, ev_tN, ev_tnil, ev_tcons, ev_tTup, List.getElem?_cons_zero, List.getElem?_cons_succ, List.set_cons_zero, List.set_cons_succ, List.length_cons, List.length_nil, List.length_append, List.length_map, List.length_replicate, List.length_set, rngs_length, List.nil_append, List.cons_append, Int.toNat_natCast, Int.toNat_zero, Int.toNat_one, Int.reduceToNat, List.getElem?_map, Option.map_some, Nat.reduceAdd, Nat.reduceSub, Nat.reduceLT, Nat.reduceLeDiff, Nat.reduceEqDiff, Int.reduceEq, Int.reduceLT, Int.reduceLE, Int.reduceAdd, Int.reduceSub, Int.reduceMul, Int.reduceNeg, List.replicate_succ, List.replicate_zero, Bool.not_true, Bool.not_false, Bool.and_true, Bool.true_and, Bool.and_false, Bool.false_and, Bool.or_true, Bool.true_or, Bool.or_false, Bool.false_or, decide_true, decide_false, if_true, if_false, and_self, true_and, and_true, Nat.sub_self, Nat.add_zero, Nat.zero_add, Bool.true_eq_false, Bool.false_eq_true, ite_true, ite_false, reduceIte, eq_self])
theorem enumK {k : Kd} {j : Nat} {d : D} (h : (enumD 0 (k.fl.map Tk.d))[j]? = some d) : ∃ t, k.fl[j]? = some t ∧ d = .tup [.int (j : Int), t.d] := by
  obtain ⟨i, hi, rfl⟩ : ∃ t, (k.fl.map Tk.d)[j]? = some t ∧ d = .tup [.int (j : Int), t] := by
    have aux : ∀ (xs : List D) (m j : Nat) (d : D), (enumD m xs)[j]? = some d → ∃ t, xs[j]? = some t ∧ d = .tup [.int ((m + j : Nat) : Int), t] := by
      intro xs
      induction xs with
      | nil => intro m j d h; simp [enumD] at h
      | cons x xs ih =>
        intro m j d h
        cases j with
        | zero => simp [enumD] at h; exact ⟨x, rfl, h.symm⟩
        | succ j =>
          simp only [enumD, List.getElem?_cons_succ] at h
          obtain ⟨t, h1, h2⟩ := ih _ _ _ h
          exact ⟨t, by simpa using h1, by rw [h2]; congr 3; omega⟩
    obtain ⟨t, h1, h2⟩ := aux _ 0 j d h
    exact ⟨t, h1, by rw [h2, Nat.zero_add]⟩
  rw [List.getElem?_map] at hi
  obtain ⟨t, h1, rfl⟩ := Option.map_eq_some_iff.mp hi
  exact ⟨t, h1, rfl⟩
theorem whole_ok (z : Int) : F_is_whole [.int z] = .ok (.bl true) none := Cmp.eq <| cmp_of <| by
  unfold m_is_whole
  walk_at "ev"
theorem check_ok (k : Kd) {i : Nat} (h : i < k.sz) (hl : k.sz ≤ 1000) : F_check_place [k.d, .int i] = .ok .non none := Cmp.eq <| cmp_of <| by
  have h1 := whole_ok (i : Int)
  have h2 := kdlen k
  have h3 := k.fl_len
  have c1 : decide ((i : Int) < 0) = false := decide_eq_false (by omega)
  have c2 : decide ((i : Int) ≥ (k.sz : Int)) = false := decide_eq_false (by omega)
  unfold m_check_place
  walk_at "ev"
theorem check_bad (k : Kd) {z : Int} (h : z < 0 ∨ (k.sz : Int) ≤ z) (hl : k.sz ≤ 1000) : F_check_place [k.d, .int z] = .err ⟨"BadPlace", [("place", .int z)]⟩ none := Cmp.er <| cmp_of <| by
  have h1 := whole_ok z
  have h2 := kdlen k
  have h3 := k.fl_len
  unfold m_check_place
  by_cases h : z < 0
  · have c1 : decide (z < 0) = true := decide_eq_true h
    walk_at "ev"
    rfl
  · have c1 : decide (z < 0) = false := decide_eq_false h
    have c2 : decide (z ≥ (k.sz : Int)) = true := decide_eq_true (by omega)
    walk_at "ev"
    rfl
abbrev sgs (k : Kd) : List Int := vis (fun v => -v) (fun v => v) k 1
theorem signs_ok (k : Kd) (hl : k.sz ≤ 1000) : F_signs_of [k.d] = .ok (.tup ((sgs k).map .int)) none := Cmp.eq <| cmp_of <| by
  obtain ⟨E, h1, h2, h3⟩ := ends_ok k hl
  have hlen := kdlen k
  have hfl := k.fl_len
  unfold m_signs_of
  walk_at "ev"
  unfold f_signs_of_1
  walk_at "ev"
  refine w_for (Y := List Int × Sl × Sl) (fun y => [.pl k.d, .pl (.tup (iN E)), .ow (.lst (y.1.map .int)), y.2.1, y.2.2]) (fun i y => ∃ F, Fill (fun v => -v) (fun v => v) k 1 y.1 i F) (List.replicate k.sz 1, .un, .un) (by simp) ⟨_, Fill.start⟩ (fun i d y hd hy => ?_) fun y hy => ?_
  · obtain ⟨S, y2, y3⟩ := y
    obtain ⟨F, hF⟩ := hy
    dsimp only at hF
    obtain ⟨t, e0, rfl⟩ := enumK hd
    obtain ⟨hi, _⟩ := List.getElem?_eq_some_iff.mp e0
    rw [hfl] at hi
    obtain ⟨u, v, F, rfl⟩ := hF.cons hi
    have hS := hF.len
    have e1 : (S.map D.int)[i]? = some (.int v) := by rw [List.getElem?_map, hF.pend.1]; rfl
    unfold b_signs_of_0
    rcases u with w | ⟨r, a, b⟩
    · have e2 := hF.at.tok_wd
      obtain rfl := Option.some.inj (e0.symm.trans e2)
      walk_at "ev"
      exact ⟨(S, .pl (.int i), .pl (.str w)), rfl, _, hF.wd⟩
    · have e2 := hF.at.tok_fn
      obtain rfl := Option.some.inj (e0.symm.trans e2)
      have hb := hF.at.r.bound
      have hz := b.sz_pos
      have e3 : E[i + 1]? = some (i + 1 + a.sz) := h3 _ _ hF.at.l
      have e4 : ((S.map D.int).set (i + 1) (.int (-v)))[i]? = some (.int v) := by rw [List.getElem?_set_ne (by omega)]; exact e1
      have e5 : ((i : Int) + 1).toNat = i + 1 := by omega
      walk_at "ev"
      refine ⟨((S.set (i + 1) (-v)).set (i + 1 + a.sz) v, .pl (.int i), .pl (.tup (r.map .str))), by simp, _, hF.fn⟩
  · obtain ⟨S, y2, y3⟩ := y
    obtain ⟨F, hF⟩ := hy
    dsimp only at hF
    have : (enumD 0 (k.fl.map Tk.d)).length = k.sz := by rw [← hlen]; generalize k.fl.map Tk.d = xs; generalize 0 = n; induction xs generalizing n with
      | nil => rfl
      | cons x xs ih => simp [enumD, ih]
    rw [this] at hF
    have hS := hF.fin
    subst hS
    walk_at "ev"
abbrev sts (S : List (List Bool)) : List D := S.map fun p => D.str (pst p)
theorem enum_len (k : Kd) : (enumD 0 (k.fl.map Tk.d)).length = k.sz := by
  rw [← kdlen k]; generalize k.fl.map Tk.d = xs; generalize 0 = n; induction xs generalizing n with
  | nil => rfl
  | cons x xs ih => simp [enumD, ih]
theorem rts_at {k : Kd} {i : Nat} (h : i < k.sz) : ∃ p, (rts k [])[i]? = some p := ⟨_, List.getElem?_eq_getElem (by rw [vis_len]; exact h)⟩
theorem pst_nil : pst [] = "" := rfl
theorem path_ok (k : Kd) (hl : k.sz ≤ 1000) {i0 : Nat} {p0 : List Bool} (hp : (rts k [])[i0]? = some p0) : F_path_of [k.d, .int i0] = .ok (.str (pst p0)) none := Cmp.eq <| cmp_of <| by
  obtain ⟨E, h1, h2, h3⟩ := ends_ok k hl
  have hlen := kdlen k
  have hfl := k.fl_len
  have hi0 : i0 < k.sz := by rw [← vis_len (fun p => p ++ [true]) (fun p => p ++ [false]) k []]; exact (List.getElem?_eq_some_iff.mp hp).1
  have hc := check_ok k hi0 hl
  unfold m_path_of
  walk_at "ev"
  unfold f_path_of_1
  walk_at "ev"
  refine w_for (Y := List (List Bool) × Sl × Sl) (fun y => [.pl k.d, .pl (.int i0), .pl (.tup (iN E)), .ow (.lst (sts y.1)), y.2.1, y.2.2]) (fun i y => ∃ F, Fill (fun p => p ++ [true]) (fun p => p ++ [false]) k [] y.1 i F) (List.replicate k.sz [], .un, .un) (by simp [sts, pst_nil]) ⟨_, Fill.start⟩ (fun i d y hd hy => ?_) fun y hy => ?_
  · obtain ⟨S, y2, y3⟩ := y
    obtain ⟨F, hF⟩ := hy
    dsimp only at hF
    obtain ⟨t, e0, rfl⟩ := enumK hd
    obtain ⟨hi, _⟩ := List.getElem?_eq_some_iff.mp e0
    rw [hfl] at hi
    obtain ⟨u, v, F, rfl⟩ := hF.cons hi
    have hS := hF.len
    have e1 : (sts S)[i]? = some (.str (pst v)) := by rw [List.getElem?_map, hF.pend.1]; rfl
    unfold b_path_of_0
    rcases u with w | ⟨r, a, b⟩
    · have e2 := hF.at.tok_wd
      obtain rfl := Option.some.inj (e0.symm.trans e2)
      walk_at "ev"
      exact ⟨(S, .pl (.int i), .pl (.str w)), rfl, _, hF.wd⟩
    · have e2 := hF.at.tok_fn
      obtain rfl := Option.some.inj (e0.symm.trans e2)
      have hb := hF.at.r.bound
      have hz := b.sz_pos
      have hv := rts_len hF.val
      have a1 := add_l (p := v) (by omega)
      have a2 := add_r (p := v) (by omega)
      have e3 : E[i + 1]? = some (i + 1 + a.sz) := h3 _ _ hF.at.l
      have e4 : ((sts S).set (i + 1) (.str (pst (v ++ [true]))))[i]? = some (.str (pst v)) := by rw [List.getElem?_set_ne (by omega)]; exact e1
      have e5 : ((i : Int) + 1).toNat = i + 1 := by omega
      walk_at "ev"
      refine ⟨((S.set (i + 1) (v ++ [true])).set (i + 1 + a.sz) (v ++ [false]), .pl (.int i), .pl (.tup (r.map .str))), by simp [sts], _, hF.fn⟩
  · obtain ⟨S, y2, y3⟩ := y
    obtain ⟨F, hF⟩ := hy
    dsimp only at hF
    rw [enum_len] at hF
    have hS := hF.fin
    subst hS
    have e1 : (sts (rts k []))[i0]? = some (.str (pst p0)) := by rw [List.getElem?_map, hp]; rfl
    have hrl : (rts k []).length = k.sz := vis_len _ _ _ _
    walk_at "ev"
end VM.K02

set_option Elab.async false
set_option linter.all false
set_option autoImplicit false
set_option maxRecDepth 100000
set_option maxHeartbeats 400000
namespace VM.K02
open PySem PySem.Spec PyProof.Rows L2 VM
local macro_rules | `(tactic| walk_at "ev") => `(tactic| simp (disch := first | omega | (simp only [List.length_cons, List.length_nil, List.length_map, List.length_append, List.length_replicate, List.length_set, rngs_length]; omega)) only [*, q_seq, q_skip, q_knx, q_krt, q_kro, q_kbk, q_kct, q_ker, q_kk, q_bind, q_bok, q_ber, q_drop, q_ret, q_reto, q_ifs, q_ct, q_cf, q_asg, q_asgo, q_asgt, q_rok, q_rer, q_c, q_rd, q_mv, q_tk, q_2, q_1, q_os, q_b, q_not, q_and, q_or, q_at, q_af, q_ao, q_rt, q_rf, q_ro, q_andv, q_orv, q_avt, q_avf, q_avo, q_rvt, q_rvf, q_rvo, q_ife, q_it, q_if, q_io, q_on, q_oS, q_sl, q_nil, q_cons, q_tup, q_lst, q_call1, q_call, q_f0, q_f1, q_f2, q_f3, q_f4, q_f5, q_f6, q_f7, q_callk, q_frok, q_frer, q_calli, q_mihere, q_micons, q_fri, q_sdo, q_sdi, q_rso, q_rsi, q_app, q_ext, q_put, q_pop, q_with, q_wok, q_for, q_enum, q_items, q_raise, q_gt, q_grt, q_lt, q_le, q_rng1, q_rng2, q_rg1, q_lrg, q_lrgi, q_rg2, q_add, q_adds, q_addl, q_addt, q_cat, q_sub, q_mulr, q_mull, q_div, q_mod, q_p18, q_p12, q_cmplt, q_cmple, q_cmpgt, q_cmpge, q_eqi, q_eqs, q_eqb, q_nei, q_nes, q_isn, q_isnn, q_isb, q_isnb, q_neg, q_dnot, q_lenl, q_lent, q_lenf, q_lens, q_int, q_intb, q_tupl, q_tupt, q_lstl, q_lstt, q_min, q_max, q_ixn, q_ixm, q_ixl, q_ixt, q_ixf, q_rep, q_isi_tt, q_isi_ts, q_isi_ti, q_isi_ss, q_isi_st, q_isi_ii, q_isi_it, q_isi_is, q_isi_bi, q_lfi, q_lfb, q_lfs, q_lfn, q_itt, q_itl, q_itf, q_slt, q_sll, q_sls, tk_row, tk_wd, q_cut, q_cutf, q_cutt, q_try, q_tryo, q_tnx, q_trt, q_tonx, q_tort, w_irt, w_inx, w_iro, w_lnx, w_lct, w_lbk, w_lrt, w_lro, w_ler, w_nnx, w_nrt, w_nro, w_ner, w_rnx, w_rrt, w_rro, w_rer, w_tn, w_tt, w_tt3, ev_ownL, ev_putL, ev_lend, ev_hn, ev_hp, ev_hu, ev_ho, ev_hi, ev_i0, ev_i1, ev_tN, ev_tnil, ev_tcons, ev_tTup, List.getElem?_cons_zero, List.getElem?_cons_succ, List.set_cons_zero, List.set_cons_succ, List.length_cons, List.length_nil, List.length_append, List.length_map, List.length_replicate, List.length_set, rngs_length, List.nil_append, List.cons_append, Int.toNat_natCast, Int.toNat_zero, Int.toNat_one, Int.reduceToNat, List.getElem?_map, Option.map_some, Nat.reduceAdd, Nat.reduceSub, Nat.reduceLT, Nat.reduceLeDiff, Nat.reduceEqDiff, Int.reduceEq, Int.reduceLT, Int.reduceLE, Int.reduceAdd, Int.reduceSub, Int.reduceMul, Int.reduceNeg, List.replicate_succ, List.replicate_zero, Bool.not_true, Bool.not_false, Bool.and_true, Bool.true_and, Bool.and_false, Bool.false_and, Bool.or_true, Bool.true_or, Bool.or_false, Bool.false_or, decide_true, decide_false, if_true, if_false, and_self, true_and, and_true, Nat.sub_self, Nat.add_zero, Nat.zero_add, Bool.true_eq_false, Bool.false_eq_true, ite_true, ite_false, reduceIte, eq_self])
theorem lpaths_ok (k : Kd) (hl : k.sz ≤ 1000) : F__law_paths [k.d] = .ok (.lst (sts (rts k []))) none := Cmp.eq <| cmp_of <| by
  have hlen := kdlen k
  have hfl := k.fl_len
  unfold m__law_paths
  walk_at "ev"
  unfold f__law_paths_1
  walk_at "ev"
  refine w_for (Y := List (Kd × List Bool) × List (List Bool) × Sl × Sl) (fun y => [.pl k.d, .ow (.lst (sts (y.1.map (·.2)).reverse)), .ow (.lst (sts y.2.1)), y.2.2.1, y.2.2.2]) (fun i y => k.fl.drop i = flF y.1 ∧ y.2.1.length = i ∧ y.2.1 ++ visF (fun p => p ++ [true]) (fun p => p ++ [false]) y.1 = rts k []) ([(k, [])], [], .un, .un) rfl ⟨by simp [flF], rfl, by simp [visF]⟩ (fun i d y hd hy => ?_) fun y hy => ?_
  · obtain ⟨F, S, y2, y3⟩ := y
    obtain ⟨hF, hS, hV⟩ := hy
    dsimp only at hF hS hV
    have hd0 := hd
    rw [List.getElem?_map] at hd
    obtain ⟨t, e0, rfl⟩ := Option.map_eq_some_iff.mp hd
    obtain ⟨hi, _⟩ := List.getElem?_eq_some_iff.mp e0
    rw [hfl] at hi
    cases F with
    | nil =>
      have := congrArg List.length hF
      rw [List.length_drop, hfl] at this
      simp at this
      omega
    | cons x F =>
    obtain ⟨u, v⟩ := x
    have hat : At k i u := at_drop (q := flF F) hF
    have hvl : v.length ≤ i := rts_len (k := k) (i := i) (by
      obtain ⟨q, hq⟩ := vis_hd (l := fun p : List Bool => p ++ [true]) (r := fun p => p ++ [false]) u v
      rw [← hV, List.getElem?_append_right (by omega), hS, Nat.sub_self]
      simp [visF, hq])
    have hFl : F.length ≤ 1000 := by
      have h1 := congrArg List.length hF
      have h2 : ∀ F : List (Kd × List Bool), F.length ≤ (flF F).length := fun F => by
        induction F with
        | nil => exact Nat.zero_le _
        | cons x F ih => have := x.1.sz_pos; rw [← x.1.fl_len] at this; simp only [flF, List.flatMap_cons, List.length_append, List.length_cons] at ih ⊢; omega
      have h3 := h2 F
      rw [List.length_drop, hfl] at h1
      have h4 : (flF ((u, v) :: F)).length = u.fl.length + (flF F).length := by simp [flF]
      omega
    have a1 := add_l (p := v) (by omega)
    have a2 := add_r (p := v) (by omega)
    obtain ⟨W, hW⟩ : ∃ W, sts (F.map (·.2)).reverse = W := ⟨_, rfl⟩
    have hw : sts (((u, v) :: F).map (·.2)).reverse = W ++ [.str (pst v)] := by rw [← hW]; simp [sts]
    have hWl : W.length ≤ 1000 := by rw [← hW]; simpa [sts] using hFl
    have p1 : (W ++ [D.str (pst v)])[W.length + 1 - 1]? = some (.str (pst v)) := by simp
    have p2 : (W ++ [D.str (pst v)]).dropLast = W := by simp
    unfold b__law_paths_0
    show Tn _ _ _ [.pl k.d, .ow (.lst (sts (((u, v) :: F).map (·.2)).reverse)), .ow (.lst (sts S)), y2, y3] _
    rw [hw]
    have hdr : k.fl.drop (i + 1) = (flF ((u, v) :: F)).drop 1 := by rw [← hF, List.drop_drop]
    rcases u with w | ⟨r, a, b⟩
    · have e2 := hat.tok_wd
      obtain rfl := Option.some.inj (e0.symm.trans e2)
      walk_at "ev"
      refine ⟨(F, S ++ [v], .pl (.str w), .pl (.str (pst v))), by simp [← hW], rfl, by simp [hS], by rw [← hV]; simp [visF, vis]⟩
    · have e2 := hat.tok_fn
      obtain rfl := Option.some.inj (e0.symm.trans e2)
      walk_at "ev"
      refine ⟨((a, v ++ [true]) :: (b, v ++ [false]) :: F, S ++ [v], .pl (.tup (r.map .str)), .pl (.str (pst v))), by simp [← hW], by simp [flF, Kd.fl], by simp [hS], by rw [← hV]; simp [visF, vis]⟩
  · obtain ⟨F, S, y2, y3⟩ := y
    obtain ⟨hF, hS, hV⟩ := hy
    dsimp only at hF hS hV
    rw [hlen, List.drop_eq_nil_of_le (by omega)] at hF
    obtain rfl := flF_nil hF.symm
    have hS : S = rts k [] := by simpa [visF] using hV
    subst hS
    walk_at "ev"
end VM.K02

set_option Elab.async false
set_option linter.all false
set_option autoImplicit false
set_option maxRecDepth 100000
set_option maxHeartbeats 400000
namespace VM.K02
open PySem PySem.Spec PyProof.Rows L2 VM
local macro_rules | `(tactic| walk_at "ev") => `(tactic| simp (disch := first | omega | (simp only [List.length_cons, List.length_nil, List.length_map, List.length_append, List.length_replicate, List.length_set, rngs_length]; omega)) only [*, q_seq, q_skip, q_knx, q_krt, q_kro, q_kbk, q_kct, q_ker, q_kk, q_bind, q_bok, q_ber, q_drop, q_ret, q_reto, q_ifs, q_ct, q_cf, q_asg, q_asgo, q_asgt, q_rok, q_rer, q_c, q_rd, q_mv, q_tk, q_2, q_1, q_os, q_b, q_not, q_and, q_or, q_at, q_af, q_ao, q_rt, q_rf, q_ro, q_andv, q_orv, q_avt, q_avf, q_avo, q_rvt, q_rvf, q_rvo, q_ife, q_it, q_if, q_io, q_on, q_oS, q_sl, q_nil, q_cons, q_tup, q_lst, q_call1, q_call, q_f0, q_f1, q_f2, q_f3, q_f4, q_f5, q_f6, q_f7, q_callk, q_frok, q_frer, q_calli, q_mihere, q_micons, q_fri, q_sdo, q_sdi, q_rso, q_rsi, q_app, q_ext, q_put, q_pop, q_with, q_wok, q_for, q_enum, q_items, q_raise, q_gt, q_grt, q_lt, q_le, q_rng1, q_rng2, q_rg1, q_lrg, q_lrgi, q_rg2, q_add, q_adds, q_addl, q_addt, q_cat, q_sub, q_mulr, q_mull, q_div, q_mod, q_p18, q_p12, q_cmplt, q_cmple, q_cmpgt, q_cmpge, q_eqi, q_eqs, q_eqb, q_nei, q_nes, q_isn, q_isnn, q_isb, q_isnb, q_neg, q_dnot, q_lenl, q_lent, q_lenf, q_lens, q_int, q_intb, q_tupl, q_tupt, q_lstl, q_lstt, q_min, q_max, q_ixn, q_ixm, q_ixl, q_ixt, q_ixf, q_rep, q_isi_tt, q_isi_ts, q_isi_ti, q_isi_ss, q_isi_st, q_isi_ii, q_isi_it, q_isi_is, q_isi_bi, q_lfi, q_lfb, q_lfs, q_lfn, q_itt, q_itl, q_itf, q_slt, q_sll, q_sls, tk_row, tk_wd, q_cut, q_cutf, q_cutt, q_try, q_tryo, q_tnx, q_trt, q_tonx, q_tort, w_irt, w_inx, w_iro, w_lnx, w_lct, w_lbk, w_lrt, w_lro, w_ler, w_nnx, w_nrt, w_nro, w_ner, w_rnx, w_rrt, w_rro, w_rer, w_tn, w_tt, w_tt3, ev_ownL, ev_putL, ev_lend, ev_hn, ev_hp, ev_hu, ev_ho, ev_hi, ev_i0, ev_i1, ev_tN, ev_tnil, ev_tcons, ev_tTup, List.getElem?_cons_zero, List.getElem?_cons_succ, List.set_cons_zero, List.set_cons_succ, List.length_cons, List.length_nil, List.length_append, List.length_map, List.length_replicate, List.length_set, rngs_length, List.nil_append, List.cons_append, Int.toNat_natCast, Int.toNat_zero, Int.toNat_one, Int.reduceToNat, List.getElem?_map, Option.map_some, Nat.reduceAdd, Nat.reduceSub, Nat.reduceLT, Nat.reduceLeDiff, Nat.reduceEqDiff, Int.reduceEq, Int.reduceLT, Int.reduceLE, Int.reduceAdd, Int.reduceSub, Int.reduceMul, Int.reduceNeg, List.replicate_succ, List.replicate_zero, Bool.not_true, Bool.not_false, Bool.and_true, Bool.true_and, Bool.and_false, Bool.false_and, Bool.or_true, Bool.true_or, Bool.or_false, Bool.false_or, decide_true, decide_false, if_true, if_false, and_self, true_and, and_true, Nat.sub_self, Nat.add_zero, Nat.zero_add, Bool.true_eq_false, Bool.false_eq_true, ite_true, ite_false, reduceIte, eq_self])
theorem items_pst (p : List Bool) : itemsD (.str (pst p)) = some (p.map fun b => D.str ⟨#[pc b]⟩) := by
  show some ((pst p).cps.toList.map _) = _
  simp [pst]
theorem sub_tk {k : Kd} {p q : List Bool} {x : Nat × Kd} (h : sub k (p ++ q) = some x) : ∃ y, sub k p = some y := by
  rw [sub_app] at h
  cases hs : sub k p with
  | none => rw [hs] at h; cases h
  | some y => exact ⟨y, rfl⟩
theorem sub_one {k t : Kd} {p : List Bool} {i : Nat} {c : Bool} {x : Nat × Kd} (h : sub k p = some (i, t)) (h2 : sub k (p ++ [c]) = some x) : ∃ r a b, t = .fn r a b ∧ x = if c = true then (i + 1, a) else (i + (1 + a.sz), b) := by
  rw [sub_app, h] at h2
  cases t with
  | wd w => simp [sub] at h2
  | fn r a b =>
    refine ⟨r, a, b, rfl, ?_⟩
    cases c <;> simp [sub] at h2 ⊢ <;> exact h2.symm
theorem pc_l : (D.str ⟨#[pc true]⟩) = .str "l" := rfl
theorem pc_r : (D.str ⟨#[pc false]⟩) = .str "r" := rfl
/-- one step of the way -/
theorem step_ok {Q : O → Prop} {B : SV → Prop} {N : SV → Prop} {k : Kd} {E : List Nat} (hE : En k E) (hl : k.sz ≤ 1000) {j i : Nat} {pd : D} {r : List Str} {a b : Kd} (hat : At k i (.fn r a b)) {c : Bool} {y4 : Sl}
    (hN : N [.pl k.d, .pl pd, .pl (.tup (iN E)), .pl (.int ((if c = true then i + 1 else i + (1 + a.sz) : Nat) : Int)), .pl (.str ⟨#[pc c]⟩)]) :
    Wp (b_place_of_0 [.pl k.d, .pl pd, .pl (.tup (iN E)), .pl (.int (i : Int)), .pl (.str ⟨#[pc c]⟩)]) (LpQ N B Q) := by
  have hfl := k.fl_len
  have hb := hat.r.bound
  have hlt := hat.lt
  have hEl := hE.1
  have e2 := hat.tok_fn
  have e3 : E[i + 1]? = some (i + 1 + a.sz) := hE.2 _ _ hat.l
  have e5 : ((i : Int) + 1).toNat = i + 1 := by omega
  unfold b_place_of_0
  cases c with
  | true =>
    rw [pc_l] at hN ⊢
    have e6 : ((i : Int) + 1) = ((i + 1 : Nat) : Int) := by omega
    walk_at "ev"
    simpa using hN
  | false =>
    rw [pc_r] at hN ⊢
    have e6 : decide (("r" : Str) = "l") = false := by decide
    walk_at "ev"
    simpa [Nat.add_assoc] using hN
theorem place_ok {k t : Kd} {p : List Bool} {i : Nat} (h : sub k p = some (i, t)) (hl : k.sz ≤ 1000) : F_place_of [k.d, .str (pst p)] = .ok (.int (i : Int)) none := Cmp.eq <| cmp_of <| by
  obtain ⟨E, h1, hE⟩ := ends_ok k hl
  have hit := items_pst p
  unfold m_place_of
  walk_at "ev"
  unfold f_place_of_1
  walk_at "ev"
  refine w_for (Y := Nat × Sl) (fun y => [.pl k.d, .pl (.str (pst p)), .pl (.tup (iN E)), .pl (.int (y.1 : Int)), y.2]) (fun j y => ∃ t, sub k (p.take j) = some (y.1, t)) (0, .un) rfl ⟨k, by simp [sub]⟩ (fun j d y hd hy => ?_) fun y hy => ?_
  · obtain ⟨x, y4⟩ := y
    obtain ⟨u, hu⟩ := hy
    dsimp only at hu
    rw [List.getElem?_map] at hd
    obtain ⟨c, e0, rfl⟩ := Option.map_eq_some_iff.mp hd
    have e1 := take_one e0
    obtain ⟨z, hz⟩ := sub_tk (k := k) (p := p.take (j + 1)) (q := p.drop (j + 1)) (x := (i, t)) (by rw [List.take_append_drop]; exact h)
    have hz' := hz
    rw [e1] at hz'
    obtain ⟨r, a, b, rfl, hx⟩ := sub_one hu hz'
    refine step_ok hE hl (sub_at hu) (j := j) (y4 := y4) ?_
    cases c with
    | true => exact ⟨(x + 1, _), rfl, a, by rw [hz, hx]; rfl⟩
    | false => exact ⟨(x + (1 + a.sz), _), rfl, b, by rw [hz, hx]; rfl⟩
  · obtain ⟨x, y4⟩ := y
    obtain ⟨u, hu⟩ := hy
    dsimp only at hu
    rw [List.length_map, List.take_length, h] at hu
    obtain ⟨rfl, rfl⟩ := Prod.mk.inj (Option.some.inj hu)
    walk_at "ev"
theorem place_bad {k : Kd} {p q : List Bool} {i : Nat} {w : Str} (h : sub k p = some (i, .wd w)) (hq : q ≠ []) (hl : k.sz ≤ 1000) : F_place_of [k.d, .str (pst (p ++ q))] = .err ⟨"BadPlace", [("place", .str (pst (p ++ q)))]⟩ none := Cmp.er <| cmp_of <| by
  obtain ⟨E, h1, hE⟩ := ends_ok k hl
  have hit := items_pst (p ++ q)
  unfold m_place_of
  walk_at "ev"
  unfold f_place_of_1
  walk_at "ev"
  refine w_for (Y := Nat × Sl) (fun y => [.pl k.d, .pl (.str (pst (p ++ q))), .pl (.tup (iN E)), .pl (.int (y.1 : Int)), y.2]) (fun j y => j ≤ p.length ∧ ∃ t, sub k (p.take j) = some (y.1, t)) (0, .un) rfl ⟨Nat.zero_le _, k, by simp [sub]⟩ (fun j d y hd hy => ?_) fun y hy => ?_
  · obtain ⟨x, y4⟩ := y
    obtain ⟨hj, u, hu⟩ := hy
    dsimp only at hu
    rw [List.getElem?_map] at hd
    obtain ⟨c, e0, rfl⟩ := Option.map_eq_some_iff.mp hd
    by_cases hj' : j < p.length
    · rw [List.getElem?_append_left hj'] at e0
      have e1 := take_one e0
      obtain ⟨z, hz⟩ := sub_tk (k := k) (p := p.take (j + 1)) (q := p.drop (j + 1)) (x := (i, .wd w)) (by rw [List.take_append_drop]; exact h)
      have hz' := hz
      rw [e1] at hz'
      obtain ⟨r, a, b, rfl, hx⟩ := sub_one hu hz'
      refine step_ok hE hl (sub_at hu) (j := j) (y4 := y4) ?_
      cases c with
      | true => exact ⟨(x + 1, _), rfl, hj', a, by rw [hz, hx]; rfl⟩
      | false => exact ⟨(x + (1 + a.sz), _), rfl, hj', b, by rw [hz, hx]; rfl⟩
    · obtain rfl : j = p.length := by omega
      rw [List.take_length, h] at hu
      obtain ⟨rfl, rfl⟩ := Prod.mk.inj (Option.some.inj hu)
      have e2 := (sub_at h).tok_wd
      have hfl := k.fl_len
      have hlt := (sub_at h).lt
      generalize pst (p ++ q) = pp
      unfold b_place_of_0
      walk_at "ev"
      rfl
  · obtain ⟨x, y4⟩ := y
    obtain ⟨hj, u, hu⟩ := hy
    rw [List.length_map, List.length_append] at hj
    have := List.length_pos_iff.mpr hq
    omega
theorem kat_ok {k t : Kd} {i : Nat} (h : At k i t) (hl : k.sz ≤ 1000) : F_kind_at [k.d, .int i] = .ok t.d none := Cmp.eq <| cmp_of <| by
  obtain ⟨E, h1, hE⟩ := ends_ok k hl
  have hfl := k.fl_len
  have hEl := hE.1
  have hb := h.bound
  have hc := check_ok k h.lt hl
  have e3 : E[i]? = some (i + t.sz) := hE.2 _ _ h
  have hlt := h.lt
  have c1 : List.take (i + t.sz - i) (List.drop i (List.map Tk.d k.fl)) = t.fl.map Tk.d := by
    have : i + t.sz - i = t.sz := by omega
    rw [this, ← List.map_drop, ← List.map_take, h.cut]
  unfold m_kind_at
  walk_at "ev"
theorem put_ok {k k' t o : Kd} {i : Nat} (h : At k i t) (he : k'.fl = k.fl.take i ++ (o.fl ++ k.fl.drop (i + t.sz))) (hl : k.sz ≤ 1000) (hlo : o.sz ≤ 1000) : F_put_kind [k.d, .int i, o.d] = .ok k'.d none := Cmp.eq <| cmp_of <| by
  obtain ⟨E, h1, hE⟩ := ends_ok k hl
  have hfl := k.fl_len
  have hflo := o.fl_len
  have hEl := hE.1
  have hb := h.bound
  have hc := check_ok k h.lt hl
  have e3 : E[i]? = some (i + t.sz) := hE.2 _ _ h
  have hlt := h.lt
  have c1 : List.take i (List.map Tk.d k.fl) ++ List.map Tk.d o.fl ++ List.drop (i + t.sz) (List.map Tk.d k.fl) = k'.fl.map Tk.d := by
    rw [he]; simp [List.map_take, List.map_drop]
  have l1 : (List.take i (List.map Tk.d k.fl)).length = i := by simp; omega
  have l2 : (List.drop (i + t.sz) (List.map Tk.d k.fl)).length = k.sz - (i + t.sz) := by simp [hfl]
  unfold m_put_kind
  walk_at "ev"
  show _ = D.tup (k'.fl.map Tk.d)
  rw [he]
theorem path_bad {k : Kd} {z : Int} (h : z < 0 ∨ (k.sz : Int) ≤ z) (hl : k.sz ≤ 1000) : F_path_of [k.d, .int z] = .err ⟨"BadPlace", [("place", .int z)]⟩ none := Cmp.er <| cmp_of <| by
  have hc := check_bad k h hl
  unfold m_path_of
  walk_at "ev"
theorem kat_bad {k : Kd} {z : Int} (h : z < 0 ∨ (k.sz : Int) ≤ z) (hl : k.sz ≤ 1000) : F_kind_at [k.d, .int z] = .err ⟨"BadPlace", [("place", .int z)]⟩ none := Cmp.er <| cmp_of <| by
  have hc := check_bad k h hl
  unfold m_kind_at
  walk_at "ev"
theorem put_bad {k : Kd} {z : Int} (o : D) (h : z < 0 ∨ (k.sz : Int) ≤ z) (hl : k.sz ≤ 1000) : F_put_kind [k.d, .int z, o] = .err ⟨"BadPlace", [("place", .int z)]⟩ none := Cmp.er <| cmp_of <| by
  have hc := check_bad k h hl
  unfold m_put_kind
  walk_at "ev"
end VM.K02

set_option Elab.async false
set_option linter.all false
set_option autoImplicit false
set_option maxRecDepth 100000
set_option maxHeartbeats 400000
namespace VM.K02
open PySem PySem.Spec PyProof.Rows L2 VM
local macro_rules | `(tactic| walk_at "ev") => `(tactic| simp (disch := first | omega | (simp only [List.length_cons, List.length_nil, List.length_map, List.length_append, List.length_replicate, List.length_set, rngs_length]; omega)) only [*, q_seq, q_skip, q_knx, q_krt, q_kro, q_kbk, q_kct, q_ker, q_kk, q_bind, q_bok, q_ber, q_drop, q_ret, q_reto, q_ifs, q_ct, q_cf, q_asg, q_asgo, q_asgt, q_rok, q_rer, q_c, q_rd, q_mv, q_tk, q_2, q_1, q_os, q_b, q_not, q_and, q_or, q_at, q_af, q_ao, q_rt, q_rf, q_ro, q_andv, q_orv, q_avt, q_avf, q_avo, q_rvt, q_rvf, q_rvo, q_ife, q_it, q_if, q_io, q_on, q_oS, q_sl, q_nil, q_cons, q_tup, q_lst, q_call1, q_call, q_f0, q_f1, q_f2, q_f3, q_f4, q_f5, q_f6, q_f7, q_callk, q_frok, q_frer, q_calli, q_mihere, q_micons, q_fri, q_sdo, q_sdi, q_rso, q_rsi, q_app, q_ext, q_put, q_pop, q_with, q_wok, q_for, q_enum, q_items, q_raise, q_gt, q_grt, q_lt, q_le, q_rng1, q_rng2, q_rg1, q_lrg, q_lrgi, q_rg2, q_add, q_adds, q_addl, q_addt, q_cat, q_sub, q_mulr, q_mull, q_div, q_mod, q_p18, q_p12, q_cmplt, q_cmple, q_cmpgt, q_cmpge, q_eqi, q_eqs, q_eqb, q_nei, q_nes, q_isn, q_isnn, q_isb, q_isnb, q_neg, q_dnot, q_lenl, q_lent, q_lenf, q_lens, q_int, q_intb, q_tupl, q_tupt, q_lstl, q_lstt, q_min, q_max, q_ixn, q_ixm, q_ixl, q_ixt, q_ixf, q_rep, q_isi_tt, q_isi_ts, q_isi_ti, q_isi_ss, q_isi_st, q_isi_ii, q_isi_it, q_isi_is, q_isi_bi, q_lfi, q_lfb, q_lfs, q_lfn, q_itt, q_itl, q_itf, q_slt, q_sll, q_sls, tk_row, tk_wd, q_cut, q_cutf, q_cutt, q_try, q_tryo, q_tnx, q_trt, q_tonx, q_tort, w_irt, w_inx, w_iro, w_lnx, w_lct, w_lbk, w_lrt, w_lro, w_ler, w_nnx, w_nrt, w_nro, w_ner, w_rnx, w_rrt, w_rro, w_rer, w_tn, w_tt, w_tt3, ev_ownL, ev_putL, ev_lend, ev_hn, ev_hp, ev_hu, ev_ho, ev_hi, ev_i0, ev_i1, ev_tN, ev_tnil, ev_tcons, ev_tTup, List.getElem?_cons_zero, List.getElem?_cons_succ, List.set_cons_zero, List.set_cons_succ, List.length_cons, List.length_nil, List.length_append, List.length_map, List.length_replicate, List.length_set, rngs_length, List.nil_append, List.cons_append, Int.toNat_natCast, Int.toNat_zero, Int.toNat_one, Int.reduceToNat, List.getElem?_map, Option.map_some, Nat.reduceAdd, Nat.reduceSub, Nat.reduceLT, Nat.reduceLeDiff, Nat.reduceEqDiff, Int.reduceEq, Int.reduceLT, Int.reduceLE, Int.reduceAdd, Int.reduceSub, Int.reduceMul, Int.reduceNeg, List.replicate_succ, List.replicate_zero, Bool.not_true, Bool.not_false, Bool.and_true, Bool.true_and, Bool.and_false, Bool.false_and, Bool.or_true, Bool.true_or, Bool.or_false, Bool.false_or, decide_true, decide_false, if_true, if_false, and_self, true_and, and_true, Nat.sub_self, Nat.add_zero, Nat.zero_add, Bool.true_eq_false, Bool.false_eq_true, ite_true, ite_false, reduceIte, eq_self])
theorem refused_of {kd o pd : D} {n : Int} {w dp : Nat} (hr : Rk pd w dp) (h1 : w ≤ 200000) (h2 : dp ≤ 60) (hb : i__law_refused_0 [.pl (.int n), .pl kd, .pl o, .pl pd, .un] = .err ⟨"BadPlace", [("place", pd)]⟩ [.pl (.int n), .pl kd, .pl o, .pl pd, .un]) : F__law_refused [.int n, kd, o, pd] = .ok (.bl true) none := Cmp.eq <| cmp_of <| by
  have hs := same_ok hr
  have hB : ("BadPlace" : Str) ∈ errNs := by decide +kernel
  have hS : isSub errTop "BadPlace" "BadPlace" = true := by decide +kernel
  have ht : ∀ ms s, trO errTop errNs "BadPlace" 4 ms (.err ⟨"BadPlace", [("place", pd)]⟩ s) = endEx 4 (ms (s.set 4 (.ex ⟨"BadPlace", [("place", pd)]⟩))) := fun ms s => q_ter hB hS
  have hx : ∀ (x0 x1 x2 : Sl) t, mExIs errNs 4 t [x0, x1, x2, .pl pd, .ex ⟨"BadPlace", [("place", pd)]⟩] = .ok (.bl (t "BadPlace")) [x0, x1, x2, .pl pd, .ex ⟨"BadPlace", [("place", pd)]⟩] := fun x0 x1 x2 t => q_exis (e := ⟨"BadPlace", [("place", pd)]⟩) rfl hB
  have hf : ∀ x0 x1 x2 : Sl, mExF errNs 4 "place" [x0, x1, x2, .pl pd, .ex ⟨"BadPlace", [("place", pd)]⟩] = .ok pd [x0, x1, x2, .pl pd, .ex ⟨"BadPlace", [("place", pd)]⟩] := fun x0 x1 x2 => q_exf (e := ⟨"BadPlace", [("place", pd)]⟩) rfl hB rfl
  have c1 : (["BadWord", "Twice", "BadKind", "Unknown", "Misfit", "NoStep", "NotPlain", "NoWay", "BadRing", "BadText"] : List Str).any (isSub errTop "BadPlace") = false := by decide +kernel
  have c2 : (["BadPaper", "Clash", "RowClash", "NotQuiet", "NothingToUndo", "NothingToRedo"] : List Str).any (isSub errTop "BadPlace") = false := by decide +kernel
  have c3 : isSub errTop "BadPlace" "OwnleftError" = true := by decide +kernel
  have he : ∀ d' s, endEx 4 (.rt d' [.pl (.int n), .pl kd, .pl o, .pl pd, .ex s]) = .rt d' [.pl (.int n), .pl kd, .pl o, .pl pd, .un] := fun d' s => q_ert rfl
  unfold m__law_refused
  walk_at "ev"
theorem ref_int {k : Kd} {z : Int} (o : D) (h : z < 0 ∨ (k.sz : Int) ≤ z) (hl : k.sz ≤ 1000) (hz : Rk (.int z) 180 0) {n : Nat} (hn : n < 3) : F__law_refused [.int (n : Int), k.d, o, .int z] = .ok (.bl true) none := by
  refine refused_of hz (by omega) (by omega) ?_
  have e1 := path_bad h hl
  have e2 := kat_bad h hl
  have e3 := put_bad o h hl
  generalize k.d = kd at *
  unfold i__law_refused_0
  match n, hn with
  | 0, _ =>
    show mIfS _ _ _ [.pl (.int 0), _, _, _, _] = O.err _ [.pl (.int 0), _, _, _, _]
    walk_at "ev"
  | 1, _ =>
    show mIfS _ _ _ [.pl (.int 1), _, _, _, _] = O.err _ [.pl (.int 1), _, _, _, _]
    walk_at "ev"
  | 2, _ =>
    show mIfS _ _ _ [.pl (.int 2), _, _, _, _] = O.err _ [.pl (.int 2), _, _, _, _]
    walk_at "ev"
theorem ref_path {k : Kd} {p q : List Bool} {i : Nat} {w : Str} (o : D) (h : sub k p = some (i, .wd w)) (hq : q ≠ []) (hl : k.sz ≤ 1000) (hpq : (p ++ q).length ≤ 1000) : F__law_refused [.int 3, k.d, o, .str (pst (p ++ q))] = .ok (.bl true) none := by
  refine refused_of (pst_rk) (by omega) (by omega) ?_
  have e1 := place_bad h hq hl
  generalize k.d = kd at *
  generalize pst (p ++ q) = pp at *
  unfold i__law_refused_0
  walk_at "ev"
theorem sgs_map (k : Kd) : (rts k []).map sgn = sgs k := by
  show _ = vis (fun v => -v) (fun v => v) k 1
  rw [← sgn_nil]
  exact vis_map _ _ sgn_l sgn_r k []
theorem sgs_mem {k : Kd} : ∀ s ∈ sgs k, s = 1 ∨ s = -1 := by
  rw [← sgs_map]
  intro s hs
  obtain ⟨p, _, rfl⟩ := List.mem_map.mp hs
  unfold sgn
  split
  · exact .inl rfl
  · exact .inr rfl
theorem sgs_rk (k : Kd) : Rk (.tup ((sgs k).map .int)) (181 * k.sz) 1 := Rk.mono (.tup (RkL.all (w := 180) (dp := 0) fun d hd => by
  obtain ⟨e, he, rfl⟩ := List.mem_map.mp hd
  rcases sgs_mem e he with rfl | rfl
  · exact Rk.nat (n := 1) (by decide)
  · exact Rk.m1)) (by simp [vis_len]) (by omega)
theorem lc_sgs {x0 x2 x3 : Sl} {k : Kd} (hl : k.sz ≤ 1000) : mLc [4] (mItems (mRd 1)) (mtN 4) mYes (m2 dIx (mLst (mCons (mC (.int 1)) (mCons (m1 dNeg (mC (.int 1))) mNil))) (m2 (dI2 cMod) (mCall1 dInt (mCons (mS2 (fun x y => some (.int (PySem.Txt.count x y))) (mRd 4) (mC (.str "l"))) mNil)) (mC (.int 2)))) [x0, .pl (.lst (sts (rts k []))), x2, x3, .un] = .ok (.lst ((sgs k).map .int)) [x0, .pl (.lst (sts (rts k []))), x2, x3, .un] := by
  rw [← sgs_map k, List.map_map]
  refine lc_map (rts k []) (fun p => D.str (pst p)) _ rfl ?_ (by rw [vis_len]; omega) fun p hp => ⟨[x0, .pl (.lst (sts (rts k []))), x2, x3, .pl (.str (pst p))], rfl, ?_, rfl⟩
  · rfl
  · have hq : mS2 (fun x y => some (.int (PySem.Txt.count x y))) (mRd 4) (mC (.str "l")) [x0, .pl (.lst (sts (rts k []))), x2, x3, .pl (.str (pst p))] = .ok (.int (Txt.count (pst p) "l")) [x0, .pl (.lst (sts (rts k []))), x2, x3, .pl (.str (pst p))] := rfl
    rw [sgn_count] at hq
    show _ = R.ok (D.int (sgn p)) _
    unfold sgn
    by_cases h : cnt 108 (p.map pc) % 2 = 0
    · walk_at "ev"
    · have h1 : cnt 108 (p.map pc) % 2 = 1 := by omega
      walk_at "ev"
end VM.K02

set_option Elab.async false
set_option linter.all false
set_option autoImplicit false
set_option maxRecDepth 100000
set_option maxHeartbeats 400000
namespace VM.K02
open PySem PySem.Spec PyProof.Rows L2 VM
local macro_rules | `(tactic| walk_at "ev") => `(tactic| simp (disch := first | omega | (simp only [List.length_cons, List.length_nil, List.length_map, List.length_append, List.length_replicate, List.length_set, rngs_length]; omega)) only [*, q_seq, q_skip, q_knx, q_krt, q_kro, q_kbk, q_kct, q_ker, q_kk, q_bind, q_bok, q_ber, q_drop, q_ret, q_reto, q_ifs, q_ct, q_cf, q_asg, q_asgo, q_asgt, q_rok, q_rer, q_c, q_rd, q_mv, q_tk, q_2, q_1, q_os, q_b, q_not, q_and, q_or, q_at, q_af, q_ao, q_rt, q_rf, q_ro, q_andv, q_orv, q_avt, q_avf, q_avo, q_rvt, q_rvf, q_rvo, q_ife, q_it, q_if, q_io, q_on, q_oS, q_sl, q_nil, q_cons, q_tup, q_lst, q_call1, q_call, q_f0, q_f1, q_f2, q_f3, q_f4, q_f5, q_f6, q_f7, q_callk, q_frok, q_frer, q_calli, q_mihere, q_micons, q_fri, q_sdo, q_sdi, q_rso, q_rsi, q_app, q_ext, q_put, q_pop, q_with, q_wok, q_for, q_enum, q_items, q_raise, q_gt, q_grt, q_lt, q_le, q_rng1, q_rng2, q_rg1, q_lrg, q_lrgi, q_rg2, q_add, q_adds, q_addl, q_addt, q_cat, q_sub, q_mulr, q_mull, q_div, q_mod, q_p18, q_p12, q_cmplt, q_cmple, q_cmpgt, q_cmpge, q_eqi, q_eqs, q_eqb, q_nei, q_nes, q_isn, q_isnn, q_isb, q_isnb, q_neg, q_dnot, q_lenl, q_lent, q_lenf, q_lens, q_int, q_intb, q_tupl, q_tupt, q_lstl, q_lstt, q_min, q_max, q_ixn, q_ixm, q_ixl, q_ixt, q_ixf, q_rep, q_isi_tt, q_isi_ts, q_isi_ti, q_isi_ss, q_isi_st, q_isi_ii, q_isi_it, q_isi_is, q_isi_bi, q_lfi, q_lfb, q_lfs, q_lfn, q_itt, q_itl, q_itf, q_slt, q_sll, q_sls, tk_row, tk_wd, q_cut, q_cutf, q_cutt, q_try, q_tryo, q_tnx, q_trt, q_tonx, q_tort, w_irt, w_inx, w_iro, w_lnx, w_lct, w_lbk, w_lrt, w_lro, w_ler, w_nnx, w_nrt, w_nro, w_ner, w_rnx, w_rrt, w_rro, w_rer, w_tn, w_tt, w_tt3, ev_ownL, ev_putL, ev_lend, ev_hn, ev_hp, ev_hu, ev_ho, ev_hi, ev_i0, ev_i1, ev_tN, ev_tnil, ev_tcons, ev_tTup, List.getElem?_cons_zero, List.getElem?_cons_succ, List.set_cons_zero, List.set_cons_succ, List.length_cons, List.length_nil, List.length_append, List.length_map, List.length_replicate, List.length_set, rngs_length, List.nil_append, List.cons_append, Int.toNat_natCast, Int.toNat_zero, Int.toNat_one, Int.reduceToNat, List.getElem?_map, Option.map_some, Nat.reduceAdd, Nat.reduceSub, Nat.reduceLT, Nat.reduceLeDiff, Nat.reduceEqDiff, Int.reduceEq, Int.reduceLT, Int.reduceLE, Int.reduceAdd, Int.reduceSub, Int.reduceMul, Int.reduceNeg, List.replicate_succ, List.replicate_zero, Bool.not_true, Bool.not_false, Bool.and_true, Bool.true_and, Bool.and_false, Bool.false_and, Bool.or_true, Bool.true_or, Bool.or_false, Bool.false_or, decide_true, decide_false, if_true, if_false, and_self, true_and, and_true, Nat.sub_self, Nat.add_zero, Nat.zero_add, Bool.true_eq_false, Bool.false_eq_true, ite_true, ite_false, reduceIte, eq_self])
theorem sub_of {k : Kd} {i : Nat} {p : List Bool} (h : (rts k [])[i]? = some p) : ∃ t, sub k p = some (i, t) := by
  obtain ⟨q, t, rfl, h2⟩ := rts_sub k [] h
  exact ⟨t, by simpa using h2⟩
theorem cut_d {k t : Kd} {i : Nat} (h : At k i t) : List.take (i + t.sz - i) (List.drop i (List.map Tk.d k.fl)) = t.fl.map Tk.d := by
  have : i + t.sz - i = t.sz := by omega
  rw [this, ← List.map_drop, ← List.map_take, h.cut]
theorem walked_ok {k : Kd} (hk : k.Ok) (hl : k.sz ≤ 63) : F__law_walked [k.d, .lst (sts (rts k []))] = .ok (.bl true) none := Cmp.eq <| cmp_of <| by
  have h1 := fun x0 x2 x3 => lc_sgs (x0 := x0) (x2 := x2) (x3 := x3) (k := k) (by omega)
  have h2 := signs_ok k (by omega)
  have h3 := same_ok (sgs_rk k)
  have hlen := kdlen k
  have hfl := k.fl_len
  have hs : (sgs k).length = k.sz := vis_len _ _ _ _
  have hr : (rts k []).length = k.sz := vis_len _ _ _ _
  unfold m__law_walked
  walk_at "ev"
  unfold f__law_walked_1
  walk_at "ev"
  clear h1
  refine w_for (Y := Sl) (fun y => [.pl k.d, .pl (.lst (sts (rts k []))), .pl (.tup ((sgs k).map .int)), y, .un]) (fun j y => True) .un rfl trivial (fun j d y hd hy => ?_) fun y hy => ?_
  · obtain ⟨hj, rfl⟩ := nget hd
    obtain ⟨p, hp⟩ := rts_at (k := k) (i := j) (by omega)
    obtain ⟨t, ht⟩ := sub_of hp
    have hat := sub_at ht
    have hb := hat.bound
    have hpl := rts_len hp
    have g1 := path_ok k (by omega) hp
    have g2 := same_ok (pst_rk (p := p)) (by omega)
    have g3 := place_ok ht (by omega)
    have g4 := same_ok (Rk.nat (n := j) (Nat.lt_of_le_of_lt (by omega : j ≤ 100) (by decide)))
    have g5 := kat_ok hat (by omega)
    have g6 := end_ok hat (by omega)
    have g7 := cut_d hat
    have g8 := same_ok (Kd.rk (hat.ok hk)) (by omega)
    have e1 : (sts (rts k []))[j]? = some (.str (pst p)) := by rw [List.getElem?_map, hp]; rfl
    generalize pst p = pp at *
    unfold b__law_walked_0
    walk_at "ev"
    exact ⟨_, rfl⟩
  · walk_at "ev"
theorem put_rk {k k' t o : Kd} {i : Nat} (hk : k.Ok) (ho : o.Ok) (he : k'.fl = k.fl.take i ++ (o.fl ++ k.fl.drop (i + t.sz))) : k'.Ok := fun x hx => by
  rw [he] at hx
  rcases List.mem_append.mp hx with hx | hx
  · exact hk x (List.mem_of_mem_take hx)
  · rcases List.mem_append.mp hx with hx | hx
    · exact ho x hx
    · exact hk x (List.mem_of_mem_drop hx)
theorem put_sz {k k' t o : Kd} {i : Nat} (h : At k i t) (he : k'.fl = k.fl.take i ++ (o.fl ++ k.fl.drop (i + t.sz))) : k'.sz = i + o.sz + (k.sz - (i + t.sz)) := by
  have := h.bound
  rw [← k'.fl_len, he]
  simp [k.fl_len, o.fl_len]
  omega
theorem trip {α : Type} {A B C X : List α} {p t o : Nat} (hA : A.length = p) (hB : B.length = t) (hX : X.length = o) : (A ++ (X ++ C)).take p ++ (B ++ (A ++ (X ++ C)).drop (p + o)) = A ++ (B ++ C) := by
  subst hA hB hX
  simp [List.drop_length_add_append]
theorem turn2_ok {Q : O → Prop} {B : SV → Prop} {k t o : Kd} {p : Nat} {z : Int} (hk : k.Ok) (ho : o.Ok) (hl : k.sz ≤ 63) (hlo : o.sz ≤ 63) (ht : At k p t) (hz : z % (k.sz : Int) = (p : Int)) (x2 y1 y2 y3 : Sl) :
    Wp (b__law_changed_0 [.pl k.d, .pl o.d, x2, .pl (.int z), y1, y2, y3]) (LpQ (fun s' => ∃ y' : Sl × Sl × Sl × Sl, s' = [.pl k.d, .pl o.d, x2, y'.1, y'.2.1, y'.2.2.1, y'.2.2.2] ∧ True) B Q) := by
  obtain ⟨k', he, hat'⟩ := put_ex (o := o) ht
  obtain ⟨k'', he'', _⟩ := put_ex (o := t) hat'
  have hsz := put_sz ht he
  have hb := ht.bound
  have hfl := k.fl_len
  have hlo' := o.fl_len
  have hlt' := t.fl_len
  have ek : k''.fl = k.fl := by
    rw [he'', he, trip (by simp; omega) hlt' hlo', ← ht.cut, ← List.drop_drop, List.take_append_drop, List.take_append_drop]
  have g6 := end_ok ht (by omega)
  have g1 := put_ok ht he (by omega) (by omega)
  have g2 := put_ok hat' he'' (by omega) (by omega)
  have g3 := same_ok (Kd.rk (put_rk hk ho he)) (by omega)
  have g4 := same_ok (Kd.rk hk) (by omega)
  have g7 := cut_d ht
  have c1 : List.take p (List.map Tk.d k.fl) ++ List.map Tk.d o.fl ++ List.drop (p + t.sz) (List.map Tk.d k.fl) = k'.fl.map Tk.d := by
    rw [he]; simp [List.map_take, List.map_drop]
  have l1 : (List.take p (List.map Tk.d k.fl)).length = p := by simp; omega
  obtain ⟨m, l2, lm⟩ : ∃ m, (List.drop (p + t.sz) (List.map Tk.d k.fl)).length = m ∧ m ≤ 63 := ⟨_, rfl, by simp; omega⟩
  have l3 := k'.fl_len
  have hp := k.sz_pos
  have l4 : k'.sz ≤ 200 := by omega
  have ekd : k''.d = k.d := by show D.tup _ = D.tup _; rw [ek]
  rw [ekd] at g2
  have hlt := ht.lt
  clear he he'' ek ekd hsz hk ho hat'
  unfold b__law_changed_0
  walk_at "ev"
  exact ⟨(_, _, _, _), rfl⟩
theorem changed_ok {k o : Kd} (hk : k.Ok) (ho : o.Ok) (hl : k.sz ≤ 63) (hlo : o.sz ≤ 63) (ps : List Int) : F__law_changed [k.d, o.d, .lst (ps.map .int)] = .ok (.bl true) none := Cmp.eq <| cmp_of <| by
  have hlen := kdlen k
  have hfl := k.fl_len
  have hp := k.sz_pos
  unfold m__law_changed
  walk_at "ev"
  unfold f__law_changed_1
  walk_at "ev"
  refine w_for (Y := Sl × Sl × Sl × Sl) (fun y => [.pl k.d, .pl o.d, .pl (.lst (ps.map .int)), y.1, y.2.1, y.2.2.1, y.2.2.2]) (fun j y => True) (.un, .un, .un, .un) rfl trivial (fun j d y hd hy => ?_) fun y hy => ?_
  · obtain ⟨z, rfl⟩ : ∃ z : Int, d = .int z := by
      rw [List.getElem?_map] at hd
      obtain ⟨z, _, rfl⟩ := Option.map_eq_some_iff.mp hd
      exact ⟨z, rfl⟩
    obtain ⟨p, hp', hz⟩ : ∃ p : Nat, p < k.sz ∧ z % (k.sz : Int) = (p : Int) := ⟨(z % (k.sz : Int)).toNat, by
      have := Int.emod_lt_of_pos z (b := (k.sz : Int)) (by omega)
      have := Int.emod_nonneg z (b := (k.sz : Int)) (by omega)
      omega, by
      have := Int.emod_nonneg z (b := (k.sz : Int)) (by omega)
      omega⟩
    obtain ⟨t, ht⟩ := at_ex k p hp'
    exact turn2_ok hk ho hl hlo ht hz _ _ _ _
  · walk_at "ev"
end VM.K02

set_option Elab.async false
set_option linter.all false
set_option autoImplicit false
set_option maxRecDepth 100000
set_option maxHeartbeats 400000
namespace VM.K02
open PySem PySem.Spec PyProof.Rows L2 VM
local macro_rules | `(tactic| walk_at "ev") => `(tactic| simp (disch := first | omega | (simp only [List.length_cons, List.length_nil, List.length_map, List.length_append, List.length_replicate, List.length_set, rngs_length]; omega)) only [*, q_seq, q_skip, q_knx, q_krt, q_kro, q_kbk, q_kct, q_ker, q_kk, q_bind, q_bok, q_ber, q_drop, q_ret, q_reto, q_ifs, q_ct, q_cf, q_asg, q_asgo, q_asgt, q_rok, q_rer, q_c, q_rd, q_mv, q_tk, q_2, q_1, q_os, q_b, q_not, q_and, q_or, q_at, q_af, q_ao, q_rt, q_rf, q_ro, q_andv, q_orv, q_avt, q_avf, q_avo, q_rvt, q_rvf, q_rvo, q_ife, q_it, q_if, q_io, q_on, q_oS, q_sl, q_nil, q_cons, q_tup, q_lst, q_call1, q_call, q_f0, q_f1, q_f2, q_f3, q_f4, q_f5, q_f6, q_f7, q_callk, q_frok, q_frer, q_calli, q_mihere, q_micons, q_fri, q_sdo, q_sdi, q_rso, q_rsi, q_app, q_ext, q_put, q_pop, q_with, q_wok, q_for, q_enum, q_items, q_raise, q_gt, q_grt, q_lt, q_le, q_rng1, q_rng2, q_rg1, q_lrg, q_lrgi, q_rg2, q_add, q_adds, q_addl, q_addt, q_cat, q_sub, q_mulr, q_mull, q_div, q_mod, q_p18, q_p12, q_cmplt, q_cmple, q_cmpgt, q_cmpge, q_eqi, q_eqs, q_eqb, q_nei, q_nes, q_isn, q_isnn, q_isb, q_isnb, q_neg, q_dnot, q_lenl, q_lent, q_lenf, q_lens, q_int, q_intb, q_tupl, q_tupt, q_lstl, q_lstt, q_min, q_max, q_ixn, q_ixm, q_ixl, q_ixt, q_ixf, q_rep, q_isi_tt, q_isi_ts, q_isi_ti, q_isi_ss, q_isi_st, q_isi_ii, q_isi_it, q_isi_is, q_isi_bi, q_lfi, q_lfb, q_lfs, q_lfn, q_itt, q_itl, q_itf, q_slt, q_sll, q_sls, tk_row, tk_wd, q_cut, q_cutf, q_cutt, q_try, q_tryo, q_tnx, q_trt, q_tonx, q_tort, w_irt, w_inx, w_iro, w_lnx, w_lct, w_lbk, w_lrt, w_lro, w_ler, w_nnx, w_nrt, w_nro, w_ner, w_rnx, w_rrt, w_rro, w_rer, w_tn, w_tt, w_tt3, ev_ownL, ev_putL, ev_lend, ev_hn, ev_hp, ev_hu, ev_ho, ev_hi, ev_i0, ev_i1, ev_tN, ev_tnil, ev_tcons, ev_tTup, List.getElem?_cons_zero, List.getElem?_cons_succ, List.set_cons_zero, List.set_cons_succ, List.length_cons, List.length_nil, List.length_append, List.length_map, List.length_replicate, List.length_set, rngs_length, List.nil_append, List.cons_append, Int.toNat_natCast, Int.toNat_zero, Int.toNat_one, Int.reduceToNat, List.getElem?_map, Option.map_some, Nat.reduceAdd, Nat.reduceSub, Nat.reduceLT, Nat.reduceLeDiff, Nat.reduceEqDiff, Int.reduceEq, Int.reduceLT, Int.reduceLE, Int.reduceAdd, Int.reduceSub, Int.reduceMul, Int.reduceNeg, List.replicate_succ, List.replicate_zero, Bool.not_true, Bool.not_false, Bool.and_true, Bool.true_and, Bool.and_false, Bool.false_and, Bool.or_true, Bool.true_or, Bool.or_false, Bool.false_or, decide_true, decide_false, if_true, if_false, and_self, true_and, and_true, Nat.sub_self, Nat.add_zero, Nat.zero_add, Bool.true_eq_false, Bool.false_eq_true, ite_true, ite_false, reduceIte, eq_self])
def leafB (k : Kd) (j : Nat) : Bool := match k.fl[j]? with
  | some (.wd _) => true
  | _ => false
abbrev lvs (k : Kd) : List Nat := (List.range k.sz).filter (leafB k)
theorem leaf_at {k : Kd} {j : Nat} (h : j ∈ lvs k) : ∃ w, At k j (.wd w) := by
  obtain ⟨h1, h2⟩ := List.mem_filter.mp h
  obtain ⟨t, ht⟩ := at_ex k j (List.mem_range.mp h1)
  cases t with
  | wd w => exact ⟨w, ht⟩
  | fn r a b => rw [leafB, ht.tok_fn] at h2; cases h2
theorem leaf_ex : ∀ k : Kd, ∃ j w, At k j (.wd w)
  | .wd w => ⟨0, w, .here⟩
  | .fn r a b => by
    obtain ⟨j, w, h⟩ := leaf_ex b
    exact ⟨_, w, .right h⟩
theorem lvs_pos (k : Kd) : 0 < (lvs k).length := by
  obtain ⟨j, w, h⟩ := leaf_ex k
  have : j ∈ lvs k := List.mem_filter.mpr ⟨List.mem_range.mpr h.lt, by rw [leafB, h.tok_wd]⟩
  exact List.length_pos_of_mem this
theorem lvs_len (k : Kd) : (lvs k).length ≤ k.sz := by
  have := List.length_filter_le (leafB k) (List.range k.sz)
  simpa using this
theorem lc_lvs {k : Kd} (hl : k.sz ≤ 1000) (x1 x2 x3 x5 x6 x7 x9 x10 : Sl) : mLc [8] (mRng1 (mCons (mRd 4) mNil)) (mtN 8) (mNot (mB (m1 (isi "tuple") (m2 dIx (mRd 0) (mRd 8))))) (mRd 8) [.pl k.d, x1, x2, x3, .pl (.int (k.sz : Int)), x5, x6, x7, .un, x9, x10] = .ok (.lst (iN (lvs k))) [.pl k.d, x1, x2, x3, .pl (.int (k.sz : Int)), x5, x6, x7, .un, x9, x10] := by
  have hlen := kdlen k
  have hfl := k.fl_len
  refine lc_of (List.range k.sz) (fun (i : Nat) => D.int (i : Int)) (fun (i : Nat) => D.int (i : Int)) (leafB k) ?_ rfl (by simp; omega) fun i hi => ⟨[.pl k.d, x1, x2, x3, .pl (.int (k.sz : Int)), x5, x6, x7, .pl (.int (i : Int)), x9, x10], rfl, ?_, fun _ => rfl, rfl⟩
  · rw [← rngs_nat]
    walk_at "ev"
  · have hi := List.mem_range.mp hi
    obtain ⟨t, ht⟩ := at_ex k i hi
    cases t with
    | wd w =>
      have e1 := ht.tok_wd
      have e2 : leafB k i = true := by rw [leafB, e1]
      walk_at "ev"
    | fn r a b =>
      have e1 := ht.tok_fn
      have e2 : leafB k i = false := by rw [leafB, e1]
      walk_at "ev"
def Hd (x : Sl) : Prop := ∀ r, hideS (x :: r) = x :: hideS r
theorem Hd.pl (d : D) : Hd (.pl d) := fun _ => rfl
theorem Hd.un : Hd .un := fun _ => rfl
structure D14 (ds : List Int) : Prop where
  len : ds.length = 14
  d0 : ∃ n : Nat, ds[0]? = some (n : Int) ∧ n < 900
  d1 : ∃ n : Nat, ds[1]? = some (n : Int) ∧ n < 900
  mid : ∀ i, i < 4 → ∃ n : Nat, ds[2 + i]? = some (n : Int)
  hi : ∀ i, i < 8 → ∃ n : Nat, ds[6 + i]? = some (n : Int) ∧ n < 2
theorem str_one {Q : O → Prop} {B N : SV → Prop} {k : Kd} {o : D} {z : Int} (hl : k.sz ≤ 63) (h : z < 0 ∨ (k.sz : Int) ≤ z) (hz : Rk (.int z) 180 0) (x2 x3 x4 x6 x7 x8 x9 x10 : Sl) (h6 : Hd x6)
    (hN : ∀ y, Hd y → N [.pl k.d, .pl o, x2, x3, x4, .pl (.int z), y, x7, x8, x9, x10]) :
    Wp (b__law_strangers_2 [.pl k.d, .pl o, x2, x3, x4, .pl (.int z), x6, x7, x8, x9, x10]) (LpQ N B Q) := by
  have hr := fun (n : Nat) (hn : n < 3) => ref_int o h (by omega) hz hn
  unfold b__law_strangers_2 f__law_strangers_1
  refine w_end ?_
  generalize k.d = kd at *
  walk_at "ev"
  refine w_for (Y := Sl) (fun y => [.pl kd, .pl o, x2, x3, x4, .pl (.int z), y, x7, x8, x9, x10]) (fun j y => Hd y) x6 rfl h6 (fun j d y hd hy => ?_) fun y hy => ?_
  · obtain ⟨hj, rfl⟩ := nget hd
    have := hr j hj
    clear hr
    unfold b__law_strangers_0
    walk_at "ev"
    exact ⟨_, rfl, fun _ => rfl⟩
  · have hN := hN y hy
    walk_at "ev"
theorem wrong_of {k : Kd} (hl : k.sz ≤ 63) {n0 n1 : Nat} (h0 : n0 < 900) (h1 : n1 < 900) {j : Nat} {d : D} (h : [D.int (-1), D.int (-(k.sz : Int)), D.int (k.sz : Int), D.int ((k.sz : Int) + 1 + (n0 : Int)), D.int (-(k.sz : Int) - 1 - (n1 : Int))][j]? = some d) : ∃ z : Int, d = .int z ∧ (z < 0 ∨ (k.sz : Int) ≤ z) ∧ Rk (.int z) 180 0 := by
  have hp := k.sz_pos
  have hm := List.mem_of_getElem? h
  simp only [List.mem_cons, List.not_mem_nil, or_false] at hm
  have small : ∀ n : Nat, n < 2000 → n < 10 ^ 50 := fun n hn => Nat.lt_of_lt_of_le hn (by decide)
  rcases hm with rfl | rfl | rfl | rfl | rfl
  · exact ⟨_, rfl, .inl (by omega), Rk.m1⟩
  · exact ⟨_, rfl, .inl (by omega), Rk.neg (by omega)⟩
  · exact ⟨_, rfl, .inr (by omega), Rk.nat (small _ (by omega))⟩
  · refine ⟨_, rfl, .inr (by omega), ?_⟩
    have := Rk.nat (n := k.sz + 1 + n0) (small _ (by omega))
    rwa [show ((k.sz + 1 + n0 : Nat) : Int) = (k.sz : Int) + 1 + (n0 : Int) by omega] at this
  · refine ⟨_, rfl, .inl (by omega), ?_⟩
    have := Rk.neg (n := k.sz + 1 + n1) (by omega)
    rwa [show -((k.sz + 1 + n1 : Nat) : Int) = -(k.sz : Int) - 1 - (n1 : Int) by omega] at this
end VM.K02

set_option Elab.async false
set_option linter.all false
set_option autoImplicit false
set_option maxRecDepth 100000
set_option maxHeartbeats 400000
namespace VM.K02
open PySem PySem.Spec PyProof.Rows L2 VM
local macro_rules | `(tactic| walk_at "ev") => `(tactic| simp (disch := first | omega | (simp only [List.length_cons, List.length_nil, List.length_map, List.length_append, List.length_replicate, List.length_set, rngs_length]; omega)) only [*, q_seq, q_skip, q_knx, q_krt, q_kro, q_kbk, q_kct, q_ker, q_kk, q_bind, q_bok, q_ber, q_drop, q_ret, q_reto, q_ifs, q_ct, q_cf, q_asg, q_asgo, q_asgt, q_rok, q_rer, q_c, q_rd, q_mv, q_tk, q_2, q_1, q_os, q_b, q_not, q_and, q_or, q_at, q_af, q_ao, q_rt, q_rf, q_ro, q_andv, q_orv, q_avt, q_avf, q_avo, q_rvt, q_rvf, q_rvo, q_ife, q_it, q_if, q_io, q_on, q_oS, q_sl, q_nil, q_cons, q_tup, q_lst, q_call1, q_call, q_f0, q_f1, q_f2, q_f3, q_f4, q_f5, q_f6, q_f7, q_callk, q_frok, q_frer, q_calli, q_mihere, q_micons, q_fri, q_sdo, q_sdi, q_rso, q_rsi, q_app, q_ext, q_put, q_pop, q_with, q_wok, q_for, q_enum, q_items, q_raise, q_gt, q_grt, q_lt, q_le, q_rng1, q_rng2, q_rg1, q_lrg, q_lrgi, q_rg2, q_add, q_adds, q_addl, q_addt, q_cat, q_sub, q_mulr, q_mull, q_div, q_mod, q_p18, q_p12, q_cmplt, q_cmple, q_cmpgt, q_cmpge, q_eqi, q_eqs, q_eqb, q_nei, q_nes, q_isn, q_isnn, q_isb, q_isnb, q_neg, q_dnot, q_lenl, q_lent, q_lenf, q_lens, q_int, q_intb, q_tupl, q_tupt, q_lstl, q_lstt, q_min, q_max, q_ixn, q_ixm, q_ixl, q_ixt, q_ixf, q_rep, q_isi_tt, q_isi_ts, q_isi_ti, q_isi_ss, q_isi_st, q_isi_ii, q_isi_it, q_isi_is, q_isi_bi, q_lfi, q_lfb, q_lfs, q_lfn, q_itt, q_itl, q_itf, q_slt, q_sll, q_sls, tk_row, tk_wd, q_cut, q_cutf, q_cutt, q_try, q_tryo, q_tnx, q_trt, q_tonx, q_tort, w_irt, w_inx, w_iro, w_lnx, w_lct, w_lbk, w_lrt, w_lro, w_ler, w_nnx, w_nrt, w_nro, w_ner, w_rnx, w_rrt, w_rro, w_rer, w_tn, w_tt, w_tt3, ev_ownL, ev_putL, ev_lend, ev_hn, ev_hp, ev_hu, ev_ho, ev_hi, ev_i0, ev_i1, ev_tN, ev_tnil, ev_tcons, ev_tTup, List.getElem?_cons_zero, List.getElem?_cons_succ, List.set_cons_zero, List.set_cons_succ, List.length_cons, List.length_nil, List.length_append, List.length_map, List.length_replicate, List.length_set, rngs_length, List.nil_append, List.cons_append, Int.toNat_natCast, Int.toNat_zero, Int.toNat_one, Int.reduceToNat, List.getElem?_map, Option.map_some, Nat.reduceAdd, Nat.reduceSub, Nat.reduceLT, Nat.reduceLeDiff, Nat.reduceEqDiff, Int.reduceEq, Int.reduceLT, Int.reduceLE, Int.reduceAdd, Int.reduceSub, Int.reduceMul, Int.reduceNeg, List.replicate_succ, List.replicate_zero, Bool.not_true, Bool.not_false, Bool.and_true, Bool.true_and, Bool.and_false, Bool.false_and, Bool.or_true, Bool.true_or, Bool.or_false, Bool.false_or, decide_true, decide_false, if_true, if_false, and_self, true_and, and_true, Nat.sub_self, Nat.add_zero, Nat.zero_add, Bool.true_eq_false, Bool.false_eq_true, ite_true, ite_false, reduceIte, eq_self])
theorem add_c {p : List Bool} {e : Nat} (he : e < 2) (h : p.length ≤ 10000) : ∃ c : Str, ∃ b : Bool, dIx (.str "lr") (.int (e : Int)) = some (.str c) ∧ dAdd (.str (pst p)) (.str c) = some (.str (pst (p ++ [b]))) := by
  match e, he with
  | 0, _ => exact ⟨"l", true, rfl, add_l h⟩
  | 1, _ => exact ⟨"r", false, rfl, add_r h⟩
theorem mod_ex {n : Nat} (m : Nat) (h : 0 < n) : ∃ q, q < n ∧ ∀ x : Int, x = (n : Int) → (m : Int) % x = (q : Int) := ⟨m % n, Nat.mod_lt _ h, fun x e => by subst e; exact (Int.natCast_emod m n).symm⟩
theorem route_ok {Q : O → Prop} {B N : SV → Prop} {k : Kd} {o : Kd} {ds : List Int} (hD : D14 ds) (hl : k.sz ≤ 63) {j : Nat} (hj : j < 4) {x4 x5 x6 x9 x10 : Sl} (p4 : Hd x4) (p5 : Hd x5) (p6 : Hd x6) (p9 : Hd x9) (p10 : Hd x10)
    (hN : ∀ d z, Hd z → N [.pl k.d, .pl o.d, .pl (.lst (sts (rts k []))), .pl (.lst (ds.map .int)), x4, x5, x6, .ow (.lst (iN (lvs k))), .pl (.int (j : Int)), .pl d, z]) :
    Wp (b__law_strangers_6 [.pl k.d, .pl o.d, .pl (.lst (sts (rts k []))), .pl (.lst (ds.map .int)), x4, x5, x6, .ow (.lst (iN (lvs k))), .pl (.int (j : Int)), x9, x10]) (LpQ N B Q) := by
  obtain ⟨m, hm⟩ := hD.mid j hj
  have hlp := lvs_pos k
  have hll := lvs_len k
  obtain ⟨q, hq, e3⟩ := mod_ex m hlp
  obtain ⟨l, hl1, hl2⟩ := at_mem (xs := lvs k) (n := q) hq
  obtain ⟨w, hw⟩ := leaf_at hl1
  obtain ⟨p, hp⟩ := rts_at (k := k) (i := l) hw.lt
  obtain ⟨t, ht⟩ := sub_of hp
  obtain rfl : t = .wd w := (sub_at ht).uniq hw
  have hpl := rts_len hp
  have hlt := hw.lt
  obtain ⟨c, hc1, hc2, hc3⟩ : ∃ c : Nat, [D.int 1, D.int 1, D.int 2, D.int 40][j]? = some (.int (c : Int)) ∧ 1 ≤ c ∧ c ≤ 40 := by
    match j, hj with
    | 0, _ => exact ⟨1, rfl, by omega, by omega⟩
    | 1, _ => exact ⟨1, rfl, by omega, by omega⟩
    | 2, _ => exact ⟨2, rfl, by omega, by omega⟩
    | 3, _ => exact ⟨40, rfl, by omega, by omega⟩
  have e1 : (2 + (j : Int)).toNat = 2 + j := by omega
  have e2 : (ds.map D.int)[2 + j]? = some (.int (m : Int)) := by rw [List.getElem?_map, hm]; rfl
  have e4 : (iN (lvs k))[q]? = some (.int (l : Int)) := iN_at hl2
  have e5 : (sts (rts k []))[l]? = some (.str (pst p)) := by rw [List.getElem?_map, hp]; rfl
  have e6 : (iN (lvs k)).length = (lvs k).length := by simp [iN]
  have hsl : (sts (rts k [])).length = k.sz := by simp [sts, vis_len]
  have hdl := hD.len
  have href := fun (q : List Bool) (hq : q ≠ []) (h : q.length ≤ 40) => ref_path (q := q) o.d ht hq (by omega) (by simp; omega)
  generalize hL : iN (lvs k) = L at *
  generalize hR : sts (rts k []) = R at *
  unfold Hd at p4 p5 p6 p9 p10
  unfold b__law_strangers_6
  walk_at "ev"
  unfold f__law_strangers_5
  walk_at "ev"
  have hD' := hD.hi
  refine w_for (Y := List Bool × Sl) (fun y => [.pl k.d, .pl o.d, .pl (.lst R), .pl (.lst (ds.map .int)), x4, x5, x6, .ow (.lst L), .pl (.int (j : Int)), .pl (.str (pst (p ++ y.1))), y.2]) (fun i y => y.1.length = i ∧ Hd y.2) ([], x10) (by simp) ⟨rfl, p10⟩ (fun i d y hd hy => ?_) fun y hy => ?_
  · obtain ⟨q', y2⟩ := y
    obtain ⟨hy, _⟩ := hy
    dsimp only at hy
    obtain ⟨hi, rfl⟩ := nget hd
    obtain ⟨r, hr, f3⟩ := mod_ex (n := 8) (j + i) (by decide)
    obtain ⟨e, f1, f2⟩ := hD' r hr
    obtain ⟨s, b, f4, f5⟩ := add_c (p := p ++ q') f2 (by simp; omega)
    have f6 : ((j : Int) + (i : Int)) % 8 = (r : Int) := by have := f3 8 rfl; rw [← this, Int.natCast_add]
    have f7 : (6 + (r : Int)).toNat = 6 + r := by omega
    have f8 : (ds.map D.int)[6 + r]? = some (.int (e : Int)) := by rw [List.getElem?_map, f1]; rfl
    have f9 : (((6 + r : Nat) : Int)) = 6 + (r : Int) := by omega
    clear hN href hD' hD hw ht hp hL hR e4 e5 hl1 hl2 hm e3 f3 hc1 e2
    generalize k.d = kd
    generalize o.d = od
    unfold b__law_strangers_4
    walk_at "ev"
    exact ⟨(q' ++ [b], _), by simp; rfl, by simp [hy], fun _ => rfl⟩
  · obtain ⟨q', y2⟩ := y
    obtain ⟨hy, hy2⟩ := hy
    dsimp only at hy hy2
    rw [rngs_length] at hy
    have g := href q' (fun h => by subst h; simp at hy; omega) (by omega)
    have gN := hN (.str (pst (p ++ q'))) y2 hy2
    clear href hN e1 e2 e3 e4 e5 e6 hc1
    generalize k.d = kd at *
    generalize o.d = od at *
    walk_at "ev"
end VM.K02

set_option Elab.async false
set_option linter.all false
set_option autoImplicit false
set_option maxRecDepth 100000
set_option maxHeartbeats 400000
namespace VM.K02
open PySem PySem.Spec PyProof.Rows L2 VM
local macro_rules | `(tactic| walk_at "ev") => `(tactic| simp (disch := first | omega | (simp only [List.length_cons, List.length_nil, List.length_map, List.length_append, List.length_replicate, List.length_set, rngs_length]; omega)) only [*, q_seq, q_skip, q_knx, q_krt, q_kro, q_kbk, q_kct, q_ker, q_kk, q_bind, q_bok, q_ber, q_drop, q_ret, q_reto, q_ifs, q_ct, q_cf, q_asg, q_asgo, q_asgt, q_rok, q_rer, q_c, q_rd, q_mv, q_tk, q_2, q_1, q_os, q_b, q_not, q_and, q_or, q_at, q_af, q_ao, q_rt, q_rf, q_ro, q_andv, q_orv, q_avt, q_avf, q_avo, q_rvt, q_rvf, q_rvo, q_ife, q_it, q_if, q_io, q_on, q_oS, q_sl, q_nil, q_cons, q_tup, q_lst, q_call1, q_call, q_f0, q_f1, q_f2, q_f3, q_f4, q_f5, q_f6, q_f7, q_callk, q_frok, q_frer, q_calli, q_mihere, q_micons, q_fri, q_sdo, q_sdi, q_rso, q_rsi, q_app, q_ext, q_put, q_pop, q_with, q_wok, q_for, q_enum, q_items, q_raise, q_gt, q_grt, q_lt, q_le, q_rng1, q_rng2, q_rg1, q_lrg, q_lrgi, q_rg2, q_add, q_adds, q_addl, q_addt, q_cat, q_sub, q_mulr, q_mull, q_div, q_mod, q_p18, q_p12, q_cmplt, q_cmple, q_cmpgt, q_cmpge, q_eqi, q_eqs, q_eqb, q_nei, q_nes, q_isn, q_isnn, q_isb, q_isnb, q_neg, q_dnot, q_lenl, q_lent, q_lenf, q_lens, q_int, q_intb, q_tupl, q_tupt, q_lstl, q_lstt, q_min, q_max, q_ixn, q_ixm, q_ixl, q_ixt, q_ixf, q_rep, q_isi_tt, q_isi_ts, q_isi_ti, q_isi_ss, q_isi_st, q_isi_ii, q_isi_it, q_isi_is, q_isi_bi, q_lfi, q_lfb, q_lfs, q_lfn, q_itt, q_itl, q_itf, q_slt, q_sll, q_sls, tk_row, tk_wd, q_cut, q_cutf, q_cutt, q_try, q_tryo, q_tnx, q_trt, q_tonx, q_tort, w_irt, w_inx, w_iro, w_lnx, w_lct, w_lbk, w_lrt, w_lro, w_ler, w_nnx, w_nrt, w_nro, w_ner, w_rnx, w_rrt, w_rro, w_rer, w_tn, w_tt, w_tt3, ev_ownL, ev_putL, ev_lend, ev_hn, ev_hp, ev_hu, ev_ho, ev_hi, ev_i0, ev_i1, ev_tN, ev_tnil, ev_tcons, ev_tTup, List.getElem?_cons_zero, List.getElem?_cons_succ, List.set_cons_zero, List.set_cons_succ, List.length_cons, List.length_nil, List.length_append, List.length_map, List.length_replicate, List.length_set, rngs_length, List.nil_append, List.cons_append, Int.toNat_natCast, Int.toNat_zero, Int.toNat_one, Int.reduceToNat, List.getElem?_map, Option.map_some, Nat.reduceAdd, Nat.reduceSub, Nat.reduceLT, Nat.reduceLeDiff, Nat.reduceEqDiff, Int.reduceEq, Int.reduceLT, Int.reduceLE, Int.reduceAdd, Int.reduceSub, Int.reduceMul, Int.reduceNeg, List.replicate_succ, List.replicate_zero, Bool.not_true, Bool.not_false, Bool.and_true, Bool.true_and, Bool.and_false, Bool.false_and, Bool.or_true, Bool.true_or, Bool.or_false, Bool.false_or, decide_true, decide_false, if_true, if_false, and_self, true_and, and_true, Nat.sub_self, Nat.add_zero, Nat.zero_add, Bool.true_eq_false, Bool.false_eq_true, ite_true, ite_false, reduceIte, eq_self])
theorem strangers_ok {k o : Kd} {ds : List Int} (hD : D14 ds) (hl : k.sz ≤ 63) : F__law_strangers [k.d, o.d, .lst (sts (rts k [])), .lst (ds.map .int)] = .ok (.bl true) none := Cmp.eq <| cmp_of <| by
  obtain ⟨n0, d0, b0⟩ := hD.d0
  obtain ⟨n1, d1, b1⟩ := hD.d1
  have hlen := kdlen k
  have hfl := k.fl_len
  have hdl := hD.len
  have hll := lvs_len k
  have h1 := lc_lvs (k := k) (by omega)
  have hw := fun (j : Nat) (d : D) => wrong_of (k := k) hl b0 b1 (j := j) (d := d)
  have e0 : (ds.map D.int)[0]? = some (.int (n0 : Int)) := by rw [List.getElem?_map, d0]; rfl
  have e1 : (ds.map D.int)[1]? = some (.int (n1 : Int)) := by rw [List.getElem?_map, d1]; rfl
  unfold m__law_strangers
  walk_at "ev"
  unfold f__law_strangers_3
  walk_at "ev"
  refine w_for (Y := Sl × Sl) (fun y => [.pl k.d, .pl o.d, .pl (.lst (sts (rts k []))), .pl (.lst (ds.map .int)), .pl (.int (k.sz : Int)), y.1, y.2, .un, .un, .un, .un]) (fun j y => Hd y.1 ∧ Hd y.2) (.un, .un) rfl ⟨fun _ => rfl, fun _ => rfl⟩ (fun j d y hd hy => ?_) fun y hy => ?_
  · obtain ⟨z, rfl, hz, hr⟩ := hw j d hd
    exact str_one hl hz hr _ _ _ _ _ _ _ _ hy.2 fun y h => ⟨(_, y), rfl, fun _ => rfl, h⟩
  · obtain ⟨y1, y2⟩ := y
    obtain ⟨p1, p2⟩ := hy
    dsimp only at p1 p2
    clear hw e0 e1
    walk_at "ev"
    unfold f__law_strangers_7
    clear h1
    walk_at "ev"
    refine w_for (Y := Sl × Sl × Sl) (fun y => [.pl k.d, .pl o.d, .pl (.lst (sts (rts k []))), .pl (.lst (ds.map .int)), .pl (.int (k.sz : Int)), y1, y2, .ow (.lst (iN (lvs k))), y.1, y.2.1, y.2.2]) (fun j y => Hd y.2.1 ∧ Hd y.2.2) (.un, .un, .un) rfl ⟨fun _ => rfl, fun _ => rfl⟩ (fun j d y hd hy => ?_) fun y hy => ?_
    · obtain ⟨z, y3, y4⟩ := y
      obtain ⟨hj, rfl⟩ := nget hd
      exact route_ok hD hl hj (fun _ => rfl) p1 p2 hy.1 hy.2 fun d z hz => ⟨(_, _, _), rfl, fun _ => rfl, hz⟩
    · walk_at "ev"
end VM.K02

set_option Elab.async false
set_option linter.all false
set_option autoImplicit false
set_option maxRecDepth 100000
set_option maxHeartbeats 400000
namespace VM.K02
open PySem PySem.Spec PyProof.Rows L2 VM
local macro_rules | `(tactic| walk_at "ev") => `(tactic| simp (disch := first | omega | (simp only [List.length_cons, List.length_nil, List.length_map, List.length_append, List.length_replicate, List.length_set, rngs_length]; omega)) only [*, q_seq, q_skip, q_knx, q_krt, q_kro, q_kbk, q_kct, q_ker, q_kk, q_bind, q_bok, q_ber, q_drop, q_ret, q_reto, q_ifs, q_ct, q_cf, q_asg, q_asgo, q_asgt, q_rok, q_rer, q_c, q_rd, q_mv, q_tk, q_2, q_1, q_os, q_b, q_not, q_and, q_or, q_at, q_af, q_ao, q_rt, q_rf, q_ro, q_andv, q_orv, q_avt, q_avf, q_avo, q_rvt, q_rvf, q_rvo, q_ife, q_it, q_if, q_io, q_on, q_oS, q_sl, q_nil, q_cons, q_tup, q_lst, q_call1, q_call, q_f0, q_f1, q_f2, q_f3, q_f4, q_f5, q_f6, q_f7, q_callk, q_frok, q_frer, q_calli, q_mihere, q_micons, q_fri, q_sdo, q_sdi, q_rso, q_rsi, q_app, q_ext, q_put, q_pop, q_with, q_wok, q_for, q_enum, q_items, q_raise, q_gt, q_grt, q_lt, q_le, q_rng1, q_rng2, q_rg1, q_lrg, q_lrgi, q_rg2, q_add, q_adds, q_addl, q_addt, q_cat, q_sub, q_mulr, q_mull, q_div, q_mod, q_p18, q_p12, q_cmplt, q_cmple, q_cmpgt, q_cmpge, q_eqi, q_eqs, q_eqb, q_nei, q_nes, q_isn, q_isnn, q_isb, q_isnb, q_neg, q_dnot, q_lenl, q_lent, q_lenf, q_lens, q_int, q_intb, q_tupl, q_tupt, q_lstl, q_lstt, q_min, q_max, q_ixn, q_ixm, q_ixl, q_ixt, q_ixf, q_rep, q_isi_tt, q_isi_ts, q_isi_ti, q_isi_ss, q_isi_st, q_isi_ii, q_isi_it, q_isi_is, q_isi_bi, q_lfi, q_lfb, q_lfs, q_lfn, q_itt, q_itl, q_itf, q_slt, q_sll, q_sls, tk_row, tk_wd, q_cut, q_cutf, q_cutt, q_try, q_tryo, q_tnx, q_trt, q_tonx, q_tort, w_irt, w_inx, w_iro, w_lnx, w_lct, w_lbk, w_lrt, w_lro, w_ler, w_nnx, w_nrt, w_nro, w_ner, w_rnx, w_rrt, w_rro, w_rer, w_tn, w_tt, w_tt3, ev_ownL, ev_putL, ev_lend, ev_hn, ev_hp, ev_hu, ev_ho, ev_hi, ev_i0, ev_i1, ev_tN, ev_tnil, ev_tcons, ev_tTup, List.getElem?_cons_zero, List.getElem?_cons_succ, List.set_cons_zero, List.set_cons_succ, List.length_cons, List.length_nil, List.length_append, List.length_map, List.length_replicate, List.length_set, rngs_length, List.nil_append, List.cons_append, Int.toNat_natCast, Int.toNat_zero, Int.toNat_one, Int.reduceToNat, List.getElem?_map, Option.map_some, Nat.reduceAdd, Nat.reduceSub, Nat.reduceLT, Nat.reduceLeDiff, Nat.reduceEqDiff, Int.reduceEq, Int.reduceLT, Int.reduceLE, Int.reduceAdd, Int.reduceSub, Int.reduceMul, Int.reduceNeg, List.replicate_succ, List.replicate_zero, Bool.not_true, Bool.not_false, Bool.and_true, Bool.true_and, Bool.and_false, Bool.false_and, Bool.or_true, Bool.true_or, Bool.or_false, Bool.false_or, decide_true, decide_false, if_true, if_false, and_self, true_and, and_true, Nat.sub_self, Nat.add_zero, Nat.zero_add, Bool.true_eq_false, Bool.false_eq_true, ite_true, ite_false, reduceIte, eq_self])
theorem turn_ok {Q : O → Prop} {B N : SV → Prop} {u o : Kd} {ds ps : List Int} (hD : D14 ds) (hu : u.Ok) (ho : o.Ok) (us : u.sz ≤ 63) (os : o.sz ≤ 63) (hps : ps.length ≤ 100) (x0 x1 x2 x3 x4 x5 x6 x7 x8 x13 x14 x15 x16 : Sl)
    (hN : ∀ a b, N [x0, x1, x2, x3, x4, x5, x6, x7, x8, .pl o.d, .pl (.lst (ds.map .int)), .pl (.lst (ps.map .int)), .pl u.d, a, b, x15, x16]) :
    Wp (b_law_0 [x0, x1, x2, x3, x4, x5, x6, x7, x8, .pl o.d, .pl (.lst (ds.map .int)), .pl (.lst (ps.map .int)), .pl u.d, x13, x14, x15, x16]) (LpQ N B Q) := by
  have lu2 := u.fl_len
  have g1 := lpaths_ok u (by omega)
  have g2 := walked_ok hu us
  have g3 : F__law_changed [u.d, o.d, .lst (ps.map .int ++ [.int ((u.sz : Int) - 1)])] = .ok (.bl true) none := by
    have := changed_ok hu ho us os (ps ++ [(u.sz : Int) - 1])
    rwa [List.map_append] at this
  have g4 : F__law_changed [u.d, o.d, .lst (rngs 0 u.sz)] = .ok (.bl true) none := by
    have := changed_ok hu ho us os ((List.range u.sz).map fun (j : Nat) => (j : Int))
    rw [List.map_map] at this
    rw [rngs_nat]
    exact this
  have g5 := strangers_ok (k := u) (o := o) hD us
  clear hD hu ho
  generalize o.d = od at *
  unfold b_law_0
  walk_at "ev"
  refine w_kif (fun _ => ?_) fun _ => ?_
  · walk_at "ev"
  · walk_at "ev"
set_option maxHeartbeats 4000000 in
theorem law_true : ∀ ns : List Int, ns.length ≤ 63 → F_law [.fl (ns.map .int)] = .ok (.bl true) none := fun ns _ => Cmp.eq <| cmp_of <| by
  obtain ⟨bs, cs, as, c4, c5, c6, c7, c8, n0, n1, n2, n3, n4, lb, lc, la, hb, hc, ha, hn1, hn2, w1, w2, ⟨qs, w3, w4⟩, x4, x5, x6, x7, x8, x9⟩ := heads ns
  have hr := reserved_ok
  have hu := upper_lower
  obtain ⟨r1, hr1, er1⟩ := at_mem (xs := res) (n := n1) hn1
  obtain ⟨r2, hr2, er2⟩ := at_mem (xs := as) (n := n2) (by omega)
  have gb : ∀ w ∈ bs, Gw w := fun w h => (hb w h).gw
  have gc : ∀ w ∈ cs, Gw w := fun w h => (hc w h).gw
  have ga : ∀ w ∈ as, Gw w := fun w h => (ha w h).gw
  have g1 : Gw r1 := (res_ok _ hr1).gw
  have g2 : Gw r2 := ga _ hr2
  have er1' : (res.map D.str)[n1]? = some (.str r1) := by rw [List.getElem?_map, er1]; rfl
  have er2' : (as.map D.str)[n2]? = some (.str r2) := by rw [List.getElem?_map, er2]; rfl
  have lr : res.length = 12 := rfl
  generalize res = rs at hr er1 er1' lr w3
  clear hr1
  unfold m_law
  walk_at "ev"
  refine w_k (fun s => ∃ b' : List Str, b'.length = 3 ∧ (∀ w ∈ b', Gw w) ∧ s = [.pl (.fl (ns.map .int)), .pl (.str lower), .ow (.lst (b'.map .str)), .pl (.lst (cs.map .str)), .pl (.lst (as.map .str)), .pl (.lst [.int (n0 : Int), .int (n1 : Int), .int (n2 : Int), .int (n3 : Int), .int (n4 : Int)]), .un, .un, .un, .un, .un, .un, .un, .un, .un, .un, .un]) ?_ ?_
  · obtain ⟨b', e1, l1, g⟩ := set_str lb gb g1
    refine w_if (fun _ => ?_) fun _ => ?_
    · walk_at "ev"
      exact ⟨b', l1, g, rfl⟩
    · walk_at "ev"
      exact ⟨bs, lb, gb, rfl⟩
  clear lb gb w1 w2 w3 w4 hb bs
  rintro _ ⟨bs, lb, gb, rfl⟩
  walk_at "ev"
  refine w_k (fun s => ∃ b' : List Str, b'.length = 3 ∧ (∀ w ∈ b', Gw w) ∧ s = [.pl (.fl (ns.map .int)), .pl (.str lower), .ow (.lst (b'.map .str)), .pl (.lst (cs.map .str)), .pl (.lst (as.map .str)), .pl (.lst [.int (n0 : Int), .int (n1 : Int), .int (n2 : Int), .int (n3 : Int), .int (n4 : Int)]), .un, .un, .un, .un, .un, .un, .un, .un, .un, .un, .un]) ?_ ?_
  · obtain ⟨b', e1, l1, g⟩ := set_str lb gb g2
    refine w_if (fun _ => ?_) fun _ => ?_
    · walk_at "ev"
      exact ⟨b', l1, g, rfl⟩
    · walk_at "ev"
      exact ⟨bs, lb, gb, rfl⟩
  clear lb gb bs er1 er1' er2 er2' hr hu
  rintro _ ⟨bs, lb, gb, rfl⟩
  have gw : ∀ w ∈ bs ++ cs, Gw w := fun w h => (List.mem_append.mp h).elim (gb w) (gc w)
  obtain ⟨a, hka, sa, oa⟩ := drawn_kd (c := c5) (mo := 31) (ws := bs ++ cs) (as := as) (by decide) gw ga (by simp; omega) (by omega)
  obtain ⟨b, hkb, sb, ob⟩ := drawn_kd (c := c6) (mo := 31) (ws := bs ++ cs) (as := as) (by decide) gw ga (by simp; omega) (by omega)
  obtain ⟨o, hko, so, oo⟩ := drawn_kd (c := c7) (mo := 7) (ws := bs ++ cs) (as := as) (by decide) gw ga (by simp; omega) (by omega)
  rw [List.map_append] at hka hkb hko
  have hka : F__law_drawn [.int c5, .int 31, .lst (bs.map .str ++ cs.map .str), .lst (as.map .str)] = .ok a.d none := hka
  have hkb : F__law_drawn [.int c6, .int 31, .lst (bs.map .str ++ cs.map .str), .lst (as.map .str)] = .ok b.d none := hkb
  have hko : F__law_drawn [.int c7, .int 7, .lst (bs.map .str ++ cs.map .str), .lst (as.map .str)] = .ok o.d none := hko
  obtain ⟨_, h14, ds, rfl, l14, b14⟩ := (digits_ok c8 [900, 900, 32, 32, 32, 32, 2, 2, 2, 2, 2, 2, 2, 2] (by intro z hz; simp at hz; unfold SizeOk; omega) (by decide)).eq
  have h14 : F__law_digits [.int c8, .lst [.int 900, .int 900, .int 32, .int 32, .int 32, .int 32, .int 2, .int 2, .int 2, .int 2, .int 2, .int 2, .int 2, .int 2]] = .ok (.lst (ds.map .int)) none := h14
  have hD : D14 ds := ⟨l14, by
      obtain ⟨n, h1, h2⟩ := dig (i := 0) l14 b14 rfl
      exact ⟨n, h1, by omega⟩, by
      obtain ⟨n, h1, h2⟩ := dig (i := 1) l14 b14 rfl
      exact ⟨n, h1, by omega⟩, fun i hi => by
      obtain ⟨n, h1, h2⟩ := dig (i := 2 + i) (z := 32) l14 b14 (by
        match i, hi with
        | 0, _ => rfl
        | 1, _ => rfl
        | 2, _ => rfl
        | 3, _ => rfl)
      exact ⟨n, h1⟩, fun i hi => by
      obtain ⟨n, h1, h2⟩ := dig (i := 6 + i) (z := 2) l14 b14 (by
        match i, hi with
        | 0, _ => rfl
        | 1, _ => rfl
        | 2, _ => rfl
        | 3, _ => rfl
        | 4, _ => rfl
        | 5, _ => rfl
        | 6, _ => rfl
        | 7, _ => rfl)
      exact ⟨n, h1, by omega⟩⟩
  obtain ⟨_, x9', c9, rfl⟩ := (cell_ok ns 9).eq
  have x9' : F__law_cell [.fl (ns.map .int), .int 9] = .ok (.int c9) none := x9'
  obtain ⟨_, h63, ps, rfl, l63, _⟩ := (digits_ok c9 [63, 63, 63, 63, 63, 63] (by intro z hz; simp at hz; unfold SizeOk; omega) (by decide)).eq
  have h63 : F__law_digits [.int c9, .lst [.int 63, .int 63, .int 63, .int 63, .int 63, .int 63]] = .ok (.lst (ps.map .int)) none := h63
  have l63 : ps.length = 6 := l63
  have la1 := a.fl_len
  have lo1 := o.fl_len
  clear gb gc hc ha g1 g2 hr2 lr rs r1 r2
  walk_at "ev"
  unfold f_law_1
  walk_at "ev"
  refine w_for (Y := Sl × Sl × Sl) (fun y => [.pl (.fl (ns.map .int)), .pl (.str lower), .pl (.lst (bs.map .str)), .pl (.lst (cs.map .str)), .pl (.lst (as.map .str)), .pl (.lst [.int (n0 : Int), .int (n1 : Int), .int (n2 : Int), .int (n3 : Int), .int (n4 : Int)]), .pl (.lst (bs.map .str ++ cs.map .str)), .pl a.d, .pl b.d, .pl o.d, .pl (.lst (ds.map .int)), .pl (.lst (.int 0 :: .int 62 :: ps.map .int)), y.1, y.2.1, y.2.2, .un, .un]) (fun j y => True) (.un, .un, .un) rfl trivial (fun j d y hd _ => ?_) fun y hy => ?_
  · obtain ⟨u, rfl, uo, us⟩ : ∃ u : Kd, d = u.d ∧ u.Ok ∧ u.sz ≤ 63 := by
      have hm := List.mem_of_getElem? hd
      simp only [List.mem_cons, List.not_mem_nil, or_false] at hm
      rcases hm with rfl | rfl | rfl
      · exact ⟨a, rfl, oa, sa⟩
      · exact ⟨b, rfl, ob, sb⟩
      · exact ⟨a, rfl, oa, sa⟩
    exact turn_ok (ps := 0 :: 62 :: ps) hD uo oo us (by omega) (by simp; omega) _ _ _ _ _ _ _ _ _ _ _ _ _ fun p q => ⟨(_, _, _), rfl, trivial⟩
  · clear hka hkb hko h14 h63 x4 x5 x6 x7 x8 x9 x9'
    obtain ⟨p, hp, f1⟩ := mod_ex n4 a.sz_pos
    obtain ⟨q, hq, f2⟩ := mod_ex (n := 6) n3 (by decide)
    have f2 := f2 6 rfl
    obtain ⟨v, hv, ev⟩ := at_mem (xs := bs ++ cs) (n := q) (by simp; omega)
    have ev : (bs.map D.str ++ cs.map D.str)[q]? = some (.str v) := by rw [← List.map_append, List.getElem?_map, ev]; rfl
    obtain ⟨r, hr⟩ := rts_at (k := a) (i := p) hp
    obtain ⟨t, ht⟩ := sub_of hr
    have hat := sub_at ht
    have hb := hat.bound
    have hrl := rts_len hr
    obtain ⟨k', he, _⟩ := put_ex (o := o) hat
    have g1 := lpaths_ok a (by omega)
    have g2 := path_ok a (by omega) hr
    have g3 := place_ok ht (by omega)
    have g4 := kat_ok hat (by omega)
    have g5 := put_ok hat he (by omega) (by omega)
    have g6 := end_ok hat (by omega)
    have g7 := cut_d hat
    have g8 : F_signs_of [.tup [.str v]] = .ok (.tup [.int 1]) none := signs_ok (.wd v) (by simp [Kd.sz])
    have g9 : F__law_same [.tup [.int 1], .tup [.int 1]] = .ok (.bl true) none := same_ok (sgs_rk (.wd v)) (by simp [Kd.sz])
    have s1 := same_ok (pst_rk (p := r)) (by omega)
    have s2 := same_ok (Rk.nat (n := p) (Nat.lt_of_le_of_lt (by omega : p ≤ 100) (by decide)))
    have s3 := same_ok (Kd.rk (hat.ok oa)) (by omega)
    have s4 := same_ok (Kd.rk (put_rk oa oo he)) (by have := put_sz hat he; omega)
    have c1 : List.take p (List.map Tk.d a.fl) ++ List.map Tk.d o.fl ++ List.drop (p + t.sz) (List.map Tk.d a.fl) = k'.fl.map Tk.d := by
      rw [he]; simp [List.map_take, List.map_drop]
    have l1 : (List.take p (List.map Tk.d a.fl)).length = p := by simp; omega
    obtain ⟨m, l2, lm⟩ : ∃ m, (List.drop (p + t.sz) (List.map Tk.d a.fl)).length = m ∧ m ≤ 63 := ⟨_, rfl, by simp; omega⟩
    have e1 : (sts (rts a []))[p]? = some (.str (pst r)) := by rw [List.getElem?_map, hr]; rfl
    have hrs : (sts (rts a [])).length = a.sz := by simp [sts, vis_len]
    have k1 : ∀ x y : D, kjp 0 [1, 0] ([] : List D) [x, y] = [y, x] := fun _ _ => rfl
    have k2 : ∀ x y z : D, kjp 0 [2, 1, 0] ([] : List D) [x, y, z] = [z, y, x] := fun _ _ _ => rfl
    have k3 : ∀ x : D, kj 0 1 ([] : List D) [x] = [x] := fun _ => rfl
    clear he hr ht hat
    generalize sts (rts a []) = R at *
    generalize pst r = pr at *
    walk_at "ev"
end VM.K02

set_option Elab.async false
set_option linter.all false
set_option autoImplicit false
set_option maxRecDepth 100000
set_option maxHeartbeats 400000
namespace VM.K02
open PySem PySem.Spec PyProof.Rows L2 VM
theorem all_mk {P : Program} {w : World} {K : PySem.W.Frag} {h : Heap} {mg : Str → Option Value} {fa : Addr} (X : K.In h) (G : h.Ns mainGlobals mg) (hfa : mg "law" = some (.ref fa))
    {f0 : Addr} {od0 an0 : Option Addr} {sl0 : Array (Option Value)} {oc0 kV0 dc0 pm0 cd0 ct0 : Value}
    {f1 : Addr} {od1 an1 : Option Addr} {sl1 : Array (Option Value)} {oc1 kV1 dc1 pm1 cd1 ct1 : Value}
    {f2 : Addr} {od2 an2 : Option Addr} {sl2 : Array (Option Value)} {oc2 kV2 dc2 pm2 cd2 ct2 : Value}
    {f3 : Addr} {od3 an3 : Option Addr} {sl3 : Array (Option Value)} {oc3 kV3 dc3 pm3 cd3 ct3 : Value}
    {f4 : Addr} {od4 an4 : Option Addr} {sl4 : Array (Option Value)} {oc4 kV4 dc4 pm4 cd4 ct4 : Value}
    {f5 : Addr} {od5 an5 : Option Addr} {sl5 : Array (Option Value)} {oc5 kV5 dc5 pm5 cd5 ct5 : Value}
    {f6 : Addr} {od6 an6 : Option Addr} {sl6 : Array (Option Value)} {oc6 kV6 dc6 pm6 cd6 ct6 : Value}
    {f7 : Addr} {od7 an7 : Option Addr} {sl7 : Array (Option Value)} {oc7 kV7 dc7 pm7 cd7 ct7 : Value}
    {f8 : Addr} {od8 an8 : Option Addr} {sl8 : Array (Option Value)} {oc8 kV8 dc8 pm8 cd8 ct8 : Value}
    {f9 : Addr} {od9 an9 : Option Addr} {sl9 : Array (Option Value)} {oc9 kV9 dc9 pm9 cd9 ct9 : Value}
    {f10 : Addr} {od10 an10 : Option Addr} {sl10 : Array (Option Value)} {oc10 kV10 dc10 pm10 cd10 ct10 : Value}
    {f11 : Addr} {od11 an11 : Option Addr} {sl11 : Array (Option Value)} {oc11 kV11 dc11 pm11 cd11 ct11 : Value}
    {f12 : Addr} {od12 an12 : Option Addr} {sl12 : Array (Option Value)} {oc12 kV12 dc12 pm12 cd12 ct12 : Value}
    {f13 : Addr} {od13 an13 : Option Addr} {sl13 : Array (Option Value)} {oc13 kV13 dc13 pm13 cd13 ct13 : Value}
    {f14 : Addr} {od14 an14 : Option Addr} {sl14 : Array (Option Value)} {oc14 kV14 dc14 pm14 cd14 ct14 : Value}
    {f15 : Addr} {od15 an15 : Option Addr} {sl15 : Array (Option Value)} {oc15 kV15 dc15 pm15 cd15 ct15 : Value}
    {f16 : Addr} {od16 an16 : Option Addr} {sl16 : Array (Option Value)} {oc16 kV16 dc16 pm16 cd16 ct16 : Value}
    {f17 : Addr} {od17 an17 : Option Addr} {sl17 : Array (Option Value)} {oc17 kV17 dc17 pm17 cd17 ct17 : Value}
    {f18 : Addr} {od18 an18 : Option Addr} {sl18 : Array (Option Value)} {oc18 kV18 dc18 pm18 cd18 ct18 : Value}
    {f19 : Addr} {od19 an19 : Option Addr} {sl19 : Array (Option Value)} {oc19 kV19 dc19 pm19 cd19 ct19 : Value}
    {f20 : Addr} {od20 an20 : Option Addr} {sl20 : Array (Option Value)} {oc20 kV20 dc20 pm20 cd20 ct20 : Value}
    {f21 : Addr} {od21 an21 : Option Addr} {sl21 : Array (Option Value)} {oc21 kV21 dc21 pm21 cd21 ct21 : Value}
    {f22 : Addr} {od22 an22 : Option Addr} {sl22 : Array (Option Value)} {oc22 kV22 dc22 pm22 cd22 ct22 : Value}
    {f23 : Addr} {od23 an23 : Option Addr} {sl23 : Array (Option Value)} {oc23 kV23 dc23 pm23 cd23 ct23 : Value}
    (a0 : PySem.W.nsIn K mainGlobals "is_whole" = some (some (.ref f0))) (l0 : K.lookup f0 = some ⟨oc0, od0, .func (PySem.W.fnOf "is_whole" "is_whole" (defArgs s_is_whole) (defBody s_is_whole) (defScope s_is_whole) .none kV0 dc0 pm0 an0 cd0 ct0), sl0⟩) (c0 : PySem.W.codeIn K cd0 "is_whole" = true) (k0 : PySem.W.keepIn K (.ref f0) = true)
    (a1 : PySem.W.nsIn K mainGlobals "kind_ends" = some (some (.ref f1))) (l1 : K.lookup f1 = some ⟨oc1, od1, .func (PySem.W.fnOf "kind_ends" "kind_ends" (defArgs s_kind_ends) (defBody s_kind_ends) (defScope s_kind_ends) .none kV1 dc1 pm1 an1 cd1 ct1), sl1⟩) (c1 : PySem.W.codeIn K cd1 "kind_ends" = true) (k1 : PySem.W.keepIn K (.ref f1) = true)
    (a2 : PySem.W.nsIn K mainGlobals "signs_of" = some (some (.ref f2))) (l2 : K.lookup f2 = some ⟨oc2, od2, .func (PySem.W.fnOf "signs_of" "signs_of" (defArgs s_signs_of) (defBody s_signs_of) (defScope s_signs_of) .none kV2 dc2 pm2 an2 cd2 ct2), sl2⟩) (c2 : PySem.W.codeIn K cd2 "signs_of" = true) (k2 : PySem.W.keepIn K (.ref f2) = true)
    (a3 : PySem.W.nsIn K mainGlobals "check_place" = some (some (.ref f3))) (l3 : K.lookup f3 = some ⟨oc3, od3, .func (PySem.W.fnOf "check_place" "check_place" (defArgs s_check_place) (defBody s_check_place) (defScope s_check_place) .none kV3 dc3 pm3 an3 cd3 ct3), sl3⟩) (c3 : PySem.W.codeIn K cd3 "check_place" = true) (k3 : PySem.W.keepIn K (.ref f3) = true)
    (a4 : PySem.W.nsIn K mainGlobals "path_of" = some (some (.ref f4))) (l4 : K.lookup f4 = some ⟨oc4, od4, .func (PySem.W.fnOf "path_of" "path_of" (defArgs s_path_of) (defBody s_path_of) (defScope s_path_of) .none kV4 dc4 pm4 an4 cd4 ct4), sl4⟩) (c4 : PySem.W.codeIn K cd4 "path_of" = true) (k4 : PySem.W.keepIn K (.ref f4) = true)
    (a5 : PySem.W.nsIn K mainGlobals "place_of" = some (some (.ref f5))) (l5 : K.lookup f5 = some ⟨oc5, od5, .func (PySem.W.fnOf "place_of" "place_of" (defArgs s_place_of) (defBody s_place_of) (defScope s_place_of) .none kV5 dc5 pm5 an5 cd5 ct5), sl5⟩) (c5 : PySem.W.codeIn K cd5 "place_of" = true) (k5 : PySem.W.keepIn K (.ref f5) = true)
    (a6 : PySem.W.nsIn K mainGlobals "kind_at" = some (some (.ref f6))) (l6 : K.lookup f6 = some ⟨oc6, od6, .func (PySem.W.fnOf "kind_at" "kind_at" (defArgs s_kind_at) (defBody s_kind_at) (defScope s_kind_at) .none kV6 dc6 pm6 an6 cd6 ct6), sl6⟩) (c6 : PySem.W.codeIn K cd6 "kind_at" = true) (k6 : PySem.W.keepIn K (.ref f6) = true)
    (a7 : PySem.W.nsIn K mainGlobals "put_kind" = some (some (.ref f7))) (l7 : K.lookup f7 = some ⟨oc7, od7, .func (PySem.W.fnOf "put_kind" "put_kind" (defArgs s_put_kind) (defBody s_put_kind) (defScope s_put_kind) .none kV7 dc7 pm7 an7 cd7 ct7), sl7⟩) (c7 : PySem.W.codeIn K cd7 "put_kind" = true) (k7 : PySem.W.keepIn K (.ref f7) = true)
    (a8 : PySem.W.nsIn K mainGlobals "_law_cell" = some (some (.ref f8))) (l8 : K.lookup f8 = some ⟨oc8, od8, .func (PySem.W.fnOf "_law_cell" "_law_cell" (defArgs s__law_cell) (defBody s__law_cell) (defScope s__law_cell) .none kV8 dc8 pm8 an8 cd8 ct8), sl8⟩) (c8 : PySem.W.codeIn K cd8 "_law_cell" = true) (k8 : PySem.W.keepIn K (.ref f8) = true)
    (a9 : PySem.W.nsIn K mainGlobals "_law_digits" = some (some (.ref f9))) (l9 : K.lookup f9 = some ⟨oc9, od9, .func (PySem.W.fnOf "_law_digits" "_law_digits" (defArgs s__law_digits) (defBody s__law_digits) (defScope s__law_digits) .none kV9 dc9 pm9 an9 cd9 ct9), sl9⟩) (c9 : PySem.W.codeIn K cd9 "_law_digits" = true) (k9 : PySem.W.keepIn K (.ref f9) = true)
    (a10 : PySem.W.nsIn K mainGlobals "_law_reserved" = some (some (.ref f10))) (l10 : K.lookup f10 = some ⟨oc10, od10, .func (PySem.W.fnOf "_law_reserved" "_law_reserved" (defArgs s__law_reserved) (defBody s__law_reserved) (defScope s__law_reserved) .none kV10 dc10 pm10 an10 cd10 ct10), sl10⟩) (c10 : PySem.W.codeIn K cd10 "_law_reserved" = true) (k10 : PySem.W.keepIn K (.ref f10) = true)
    (a11 : PySem.W.nsIn K mainGlobals "_law_word" = some (some (.ref f11))) (l11 : K.lookup f11 = some ⟨oc11, od11, .func (PySem.W.fnOf "_law_word" "_law_word" (defArgs s__law_word) (defBody s__law_word) (defScope s__law_word) .none kV11 dc11 pm11 an11 cd11 ct11), sl11⟩) (c11 : PySem.W.codeIn K cd11 "_law_word" = true) (k11 : PySem.W.keepIn K (.ref f11) = true)
    (a12 : PySem.W.nsIn K mainGlobals "_law_words" = some (some (.ref f12))) (l12 : K.lookup f12 = some ⟨oc12, od12, .func (PySem.W.fnOf "_law_words" "_law_words" (defArgs s__law_words) (defBody s__law_words) (defScope s__law_words) .none kV12 dc12 pm12 an12 cd12 ct12), sl12⟩) (c12 : PySem.W.codeIn K cd12 "_law_words" = true) (k12 : PySem.W.keepIn K (.ref f12) = true)
    (a13 : PySem.W.nsIn K mainGlobals "_law_subset" = some (some (.ref f13))) (l13 : K.lookup f13 = some ⟨oc13, od13, .func (PySem.W.fnOf "_law_subset" "_law_subset" (defArgs s__law_subset) (defBody s__law_subset) (defScope s__law_subset) .none kV13 dc13 pm13 an13 cd13 ct13), sl13⟩) (c13 : PySem.W.codeIn K cd13 "_law_subset" = true) (k13 : PySem.W.keepIn K (.ref f13) = true)
    (a14 : PySem.W.nsIn K mainGlobals "_law_kind" = some (some (.ref f14))) (l14 : K.lookup f14 = some ⟨oc14, od14, .func (PySem.W.fnOf "_law_kind" "_law_kind" (defArgs s__law_kind) (defBody s__law_kind) (defScope s__law_kind) .none kV14 dc14 pm14 an14 cd14 ct14), sl14⟩) (c14 : PySem.W.codeIn K cd14 "_law_kind" = true) (k14 : PySem.W.keepIn K (.ref f14) = true)
    (a15 : PySem.W.nsIn K mainGlobals "_law_drawn" = some (some (.ref f15))) (l15 : K.lookup f15 = some ⟨oc15, od15, .func (PySem.W.fnOf "_law_drawn" "_law_drawn" (defArgs s__law_drawn) (defBody s__law_drawn) (defScope s__law_drawn) .none kV15 dc15 pm15 an15 cd15 ct15), sl15⟩) (c15 : PySem.W.codeIn K cd15 "_law_drawn" = true) (k15 : PySem.W.keepIn K (.ref f15) = true)
    (a16 : PySem.W.nsIn K mainGlobals "_law_same" = some (some (.ref f16))) (l16 : K.lookup f16 = some ⟨oc16, od16, .func (PySem.W.fnOf "_law_same" "_law_same" (defArgs s__law_same) (defBody s__law_same) (defScope s__law_same) .none kV16 dc16 pm16 an16 cd16 ct16), sl16⟩) (c16 : PySem.W.codeIn K cd16 "_law_same" = true) (k16 : PySem.W.keepIn K (.ref f16) = true)
    (a17 : PySem.W.nsIn K mainGlobals "_law_paths" = some (some (.ref f17))) (l17 : K.lookup f17 = some ⟨oc17, od17, .func (PySem.W.fnOf "_law_paths" "_law_paths" (defArgs s__law_paths) (defBody s__law_paths) (defScope s__law_paths) .none kV17 dc17 pm17 an17 cd17 ct17), sl17⟩) (c17 : PySem.W.codeIn K cd17 "_law_paths" = true) (k17 : PySem.W.keepIn K (.ref f17) = true)
    (a18 : PySem.W.nsIn K mainGlobals "_law_end" = some (some (.ref f18))) (l18 : K.lookup f18 = some ⟨oc18, od18, .func (PySem.W.fnOf "_law_end" "_law_end" (defArgs s__law_end) (defBody s__law_end) (defScope s__law_end) .none kV18 dc18 pm18 an18 cd18 ct18), sl18⟩) (c18 : PySem.W.codeIn K cd18 "_law_end" = true) (k18 : PySem.W.keepIn K (.ref f18) = true)
    (a19 : PySem.W.nsIn K mainGlobals "_law_refused" = some (some (.ref f19))) (l19 : K.lookup f19 = some ⟨oc19, od19, .func (PySem.W.fnOf "_law_refused" "_law_refused" (defArgs s__law_refused) (defBody s__law_refused) (defScope s__law_refused) .none kV19 dc19 pm19 an19 cd19 ct19), sl19⟩) (c19 : PySem.W.codeIn K cd19 "_law_refused" = true) (k19 : PySem.W.keepIn K (.ref f19) = true)
    (a20 : PySem.W.nsIn K mainGlobals "_law_walked" = some (some (.ref f20))) (l20 : K.lookup f20 = some ⟨oc20, od20, .func (PySem.W.fnOf "_law_walked" "_law_walked" (defArgs s__law_walked) (defBody s__law_walked) (defScope s__law_walked) .none kV20 dc20 pm20 an20 cd20 ct20), sl20⟩) (c20 : PySem.W.codeIn K cd20 "_law_walked" = true) (k20 : PySem.W.keepIn K (.ref f20) = true)
    (a21 : PySem.W.nsIn K mainGlobals "_law_changed" = some (some (.ref f21))) (l21 : K.lookup f21 = some ⟨oc21, od21, .func (PySem.W.fnOf "_law_changed" "_law_changed" (defArgs s__law_changed) (defBody s__law_changed) (defScope s__law_changed) .none kV21 dc21 pm21 an21 cd21 ct21), sl21⟩) (c21 : PySem.W.codeIn K cd21 "_law_changed" = true) (k21 : PySem.W.keepIn K (.ref f21) = true)
    (a22 : PySem.W.nsIn K mainGlobals "_law_strangers" = some (some (.ref f22))) (l22 : K.lookup f22 = some ⟨oc22, od22, .func (PySem.W.fnOf "_law_strangers" "_law_strangers" (defArgs s__law_strangers) (defBody s__law_strangers) (defScope s__law_strangers) .none kV22 dc22 pm22 an22 cd22 ct22), sl22⟩) (c22 : PySem.W.codeIn K cd22 "_law_strangers" = true) (k22 : PySem.W.keepIn K (.ref f22) = true)
    (a23 : PySem.W.nsIn K mainGlobals "law" = some (some (.ref f23))) (l23 : K.lookup f23 = some ⟨oc23, od23, .func (PySem.W.fnOf "law" "law" (defArgs s_law) (defBody s_law) (defScope s_law) .none kV23 dc23 pm23 an23 cd23 ct23), sl23⟩) (c23 : PySem.W.codeIn K cd23 "law" = true) (k23 : PySem.W.keepIn K (.ref f23) = true)
    (n_ValueError : PySem.W.nsIn K mainGlobals "ValueError" = some none)
    (n_bool : PySem.W.nsIn K mainGlobals "bool" = some none)
    (n_enumerate : PySem.W.nsIn K mainGlobals "enumerate" = some none)
    (n_int : PySem.W.nsIn K mainGlobals "int" = some none)
    (n_isinstance : PySem.W.nsIn K mainGlobals "isinstance" = some none)
    (n_len : PySem.W.nsIn K mainGlobals "len" = some none)
    (n_list : PySem.W.nsIn K mainGlobals "list" = some none)
    (n_range : PySem.W.nsIn K mainGlobals "range" = some none)
    (n_repr : PySem.W.nsIn K mainGlobals "repr" = some none)
    (n_sorted : PySem.W.nsIn K mainGlobals "sorted" = some none)
    (n_tuple : PySem.W.nsIn K mainGlobals "tuple" = some none)
    {C_BadPlace i_BadPlace : Addr} {iod_BadPlace ian_BadPlace : Option Addr} {isl_BadPlace : Array (Option Value)} {ioc_BadPlace ikV_BadPlace idc_BadPlace ipm_BadPlace icd_BadPlace ict_BadPlace : Value}
    (eA_BadPlace : PySem.W.nsIn K mainGlobals "BadPlace" = some (some (.ref C_BadPlace))) (eF_BadPlace : PySem.W.findIn K (.ref C_BadPlace) "__init__" = some (some (.ref i_BadPlace))) (eT_BadPlace : PySem.W.typeIn K (.ref i_BadPlace) = some (.type "function")) (eL_BadPlace : K.lookup i_BadPlace = some ⟨ioc_BadPlace, iod_BadPlace, .func (PySem.W.fnOf "__init__" "BadPlace.__init__" (defArgs sI_BadPlace) (defBody sI_BadPlace) (defScope sI_BadPlace) .none ikV_BadPlace idc_BadPlace ipm_BadPlace ian_BadPlace icd_BadPlace ict_BadPlace), isl_BadPlace⟩) (eC_BadPlace : PySem.W.codeIn K icd_BadPlace "BadPlace.__init__" = true) (eK_BadPlace : PySem.W.keepIn K (.ref i_BadPlace) = true)
    (eB : errB K errTop errNs errFs = true) :
    ∃ fd : FuncData, (∀ (s : Shared) (v : Value), BindsTo s fd ⟨[v], []⟩ [("script", v)]) ∧ ∀ base : Heap, K.In base → base.Ns mainGlobals mg → FnG P w K mg base 7 fa fd ["script"] (spLaw K) := by
  have e := hfa.symm.trans (PySem.W.mg_of X G a23)
  cases e
  let T : Txt K mg := {
    i_BadPlace := i_BadPlace, di_BadPlace := _, I_BadPlace := fun_mk (st := sI_BadPlace) eL_BadPlace eC_BadPlace eK_BadPlace, iC_BadPlace := by rw [adIn_of eA_BadPlace]; exact eF_BadPlace, tI_BadPlace := eT_BadPlace, bI_BadPlace := (fun_mk (st := sI_BadPlace) eL_BadPlace eC_BadPlace eK_BadPlace).binds (ps := ["self", "place"]) fun _ _ _ _ _ _ us hl => match us, hl with | [_, _], _ => rfl,
    err := errB_ok X G eB,
    a_is_whole := f0, d_is_whole := _, F_is_whole := fun_mk (st := s_is_whole) l0 c0 k0, g_is_whole := PySem.W.mg_of X G a0, b_is_whole := (fun_mk (st := s_is_whole) l0 c0 k0).binds (ps := ["value"]) fun _ _ _ _ _ _ us hl => match us, hl with | [_], _ => rfl,
    a_kind_ends := f1, d_kind_ends := _, F_kind_ends := fun_mk (st := s_kind_ends) l1 c1 k1, g_kind_ends := PySem.W.mg_of X G a1, b_kind_ends := (fun_mk (st := s_kind_ends) l1 c1 k1).binds (ps := ["kind"]) fun _ _ _ _ _ _ us hl => match us, hl with | [_], _ => rfl,
    a_signs_of := f2, d_signs_of := _, F_signs_of := fun_mk (st := s_signs_of) l2 c2 k2, g_signs_of := PySem.W.mg_of X G a2, b_signs_of := (fun_mk (st := s_signs_of) l2 c2 k2).binds (ps := ["kind"]) fun _ _ _ _ _ _ us hl => match us, hl with | [_], _ => rfl,
    a_check_place := f3, d_check_place := _, F_check_place := fun_mk (st := s_check_place) l3 c3 k3, g_check_place := PySem.W.mg_of X G a3, b_check_place := (fun_mk (st := s_check_place) l3 c3 k3).binds (ps := ["kind", "place"]) fun _ _ _ _ _ _ us hl => match us, hl with | [_, _], _ => rfl,
    a_path_of := f4, d_path_of := _, F_path_of := fun_mk (st := s_path_of) l4 c4 k4, g_path_of := PySem.W.mg_of X G a4, b_path_of := (fun_mk (st := s_path_of) l4 c4 k4).binds (ps := ["kind", "place"]) fun _ _ _ _ _ _ us hl => match us, hl with | [_, _], _ => rfl,
    a_place_of := f5, d_place_of := _, F_place_of := fun_mk (st := s_place_of) l5 c5 k5, g_place_of := PySem.W.mg_of X G a5, b_place_of := (fun_mk (st := s_place_of) l5 c5 k5).binds (ps := ["kind", "path"]) fun _ _ _ _ _ _ us hl => match us, hl with | [_, _], _ => rfl,
    a_kind_at := f6, d_kind_at := _, F_kind_at := fun_mk (st := s_kind_at) l6 c6 k6, g_kind_at := PySem.W.mg_of X G a6, b_kind_at := (fun_mk (st := s_kind_at) l6 c6 k6).binds (ps := ["kind", "place"]) fun _ _ _ _ _ _ us hl => match us, hl with | [_, _], _ => rfl,
    a_put_kind := f7, d_put_kind := _, F_put_kind := fun_mk (st := s_put_kind) l7 c7 k7, g_put_kind := PySem.W.mg_of X G a7, b_put_kind := (fun_mk (st := s_put_kind) l7 c7 k7).binds (ps := ["kind", "place", "new"]) fun _ _ _ _ _ _ us hl => match us, hl with | [_, _, _], _ => rfl,
    a__law_cell := f8, d__law_cell := _, F__law_cell := fun_mk (st := s__law_cell) l8 c8 k8, g__law_cell := PySem.W.mg_of X G a8, b__law_cell := (fun_mk (st := s__law_cell) l8 c8 k8).binds (ps := ["script", "k"]) fun _ _ _ _ _ _ us hl => match us, hl with | [_, _], _ => rfl,
    a__law_digits := f9, d__law_digits := _, F__law_digits := fun_mk (st := s__law_digits) l9 c9 k9, g__law_digits := PySem.W.mg_of X G a9, b__law_digits := (fun_mk (st := s__law_digits) l9 c9 k9).binds (ps := ["cell", "sizes"]) fun _ _ _ _ _ _ us hl => match us, hl with | [_, _], _ => rfl,
    a__law_reserved := f10, d__law_reserved := _, F__law_reserved := fun_mk (st := s__law_reserved) l10 c10 k10, g__law_reserved := PySem.W.mg_of X G a10, b__law_reserved := (fun_mk (st := s__law_reserved) l10 c10 k10).binds (ps := []) fun _ _ _ _ _ _ us hl => match us, hl with | [], _ => rfl,
    a__law_word := f11, d__law_word := _, F__law_word := fun_mk (st := s__law_word) l11 c11 k11, g__law_word := PySem.W.mg_of X G a11, b__law_word := (fun_mk (st := s__law_word) l11 c11 k11).binds (ps := ["ds", "words", "firsts", "barred"]) fun _ _ _ _ _ _ us hl => match us, hl with | [_, _, _, _], _ => rfl,
    a__law_words := f12, d__law_words := _, F__law_words := fun_mk (st := s__law_words) l12 c12 k12, g__law_words := PySem.W.mg_of X G a12, b__law_words := (fun_mk (st := s__law_words) l12 c12 k12).binds (ps := ["script", "at", "many", "firsts", "barred"]) fun _ _ _ _ _ _ us hl => match us, hl with | [_, _, _, _, _], _ => rfl,
    a__law_subset := f13, d__law_subset := _, F__law_subset := fun_mk (st := s__law_subset) l13 c13 k13, g__law_subset := PySem.W.mg_of X G a13, b__law_subset := (fun_mk (st := s__law_subset) l13 c13 k13).binds (ps := ["words", "digit"]) fun _ _ _ _ _ _ us hl => match us, hl with | [_, _], _ => rfl,
    a__law_kind := f14, d__law_kind := _, F__law_kind := fun_mk (st := s__law_kind) l14 c14 k14, g__law_kind := PySem.W.mg_of X G a14, b__law_kind := (fun_mk (st := s__law_kind) l14 c14 k14).binds (ps := ["ds", "many", "words", "asked"]) fun _ _ _ _ _ _ us hl => match us, hl with | [_, _, _, _], _ => rfl,
    a__law_drawn := f15, d__law_drawn := _, F__law_drawn := fun_mk (st := s__law_drawn) l15 c15 k15, g__law_drawn := PySem.W.mg_of X G a15, b__law_drawn := (fun_mk (st := s__law_drawn) l15 c15 k15).binds (ps := ["cell", "most", "words", "asked"]) fun _ _ _ _ _ _ us hl => match us, hl with | [_, _, _, _], _ => rfl,
    a__law_same := f16, d__law_same := _, F__law_same := fun_mk (st := s__law_same) l16 c16 k16, g__law_same := PySem.W.mg_of X G a16, b__law_same := (fun_mk (st := s__law_same) l16 c16 k16).binds (ps := ["actual", "due"]) fun _ _ _ _ _ _ us hl => match us, hl with | [_, _], _ => rfl,
    a__law_paths := f17, d__law_paths := _, F__law_paths := fun_mk (st := s__law_paths) l17 c17 k17, g__law_paths := PySem.W.mg_of X G a17, b__law_paths := (fun_mk (st := s__law_paths) l17 c17 k17).binds (ps := ["tokens"]) fun _ _ _ _ _ _ us hl => match us, hl with | [_], _ => rfl,
    a__law_end := f18, d__law_end := _, F__law_end := fun_mk (st := s__law_end) l18 c18 k18, g__law_end := PySem.W.mg_of X G a18, b__law_end := (fun_mk (st := s__law_end) l18 c18 k18).binds (ps := ["tokens", "at"]) fun _ _ _ _ _ _ us hl => match us, hl with | [_, _], _ => rfl,
    a__law_refused := f19, d__law_refused := _, F__law_refused := fun_mk (st := s__law_refused) l19 c19 k19, g__law_refused := PySem.W.mg_of X G a19, b__law_refused := (fun_mk (st := s__law_refused) l19 c19 k19).binds (ps := ["number", "tokens", "other", "wrong"]) fun _ _ _ _ _ _ us hl => match us, hl with | [_, _, _, _], _ => rfl,
    a__law_walked := f20, d__law_walked := _, F__law_walked := fun_mk (st := s__law_walked) l20 c20 k20, g__law_walked := PySem.W.mg_of X G a20, b__law_walked := (fun_mk (st := s__law_walked) l20 c20 k20).binds (ps := ["tokens", "routes"]) fun _ _ _ _ _ _ us hl => match us, hl with | [_, _], _ => rfl,
    a__law_changed := f21, d__law_changed := _, F__law_changed := fun_mk (st := s__law_changed) l21 c21 k21, g__law_changed := PySem.W.mg_of X G a21, b__law_changed := (fun_mk (st := s__law_changed) l21 c21 k21).binds (ps := ["tokens", "other", "chosen"]) fun _ _ _ _ _ _ us hl => match us, hl with | [_, _, _], _ => rfl,
    a__law_strangers := f22, d__law_strangers := _, F__law_strangers := fun_mk (st := s__law_strangers) l22 c22 k22, g__law_strangers := PySem.W.mg_of X G a22, b__law_strangers := (fun_mk (st := s__law_strangers) l22 c22 k22).binds (ps := ["tokens", "other", "routes", "ds"]) fun _ _ _ _ _ _ us hl => match us, hl with | [_, _, _, _], _ => rfl,
    a_law := fa, d_law := _, F_law := fun_mk (st := s_law) l23 c23 k23, g_law := PySem.W.mg_of X G a23, b_law := (fun_mk (st := s_law) l23 c23 k23).binds (ps := ["script"]) fun _ _ _ _ _ _ us hl => match us, hl with | [_], _ => rfl,
    n_ValueError := PySem.W.mg_none_of X G n_ValueError,
    n_bool := PySem.W.mg_none_of X G n_bool,
    n_enumerate := PySem.W.mg_none_of X G n_enumerate,
    n_int := PySem.W.mg_none_of X G n_int,
    n_isinstance := PySem.W.mg_none_of X G n_isinstance,
    n_len := PySem.W.mg_none_of X G n_len,
    n_list := PySem.W.mg_none_of X G n_list,
    n_range := PySem.W.mg_none_of X G n_range,
    n_repr := PySem.W.mg_none_of X G n_repr,
    n_sorted := PySem.W.mg_none_of X G n_sorted,
    n_tuple := PySem.W.mg_none_of X G n_tuple }
  exact ⟨T.d_law, fun s v => .of_eq rfl, fun base _ _ => law_of rfl (ok_law T) law_true⟩
end VM.K02
open PySem PySem.W PyProof.Rows
set_option maxHeartbeats 0 in
theorem PySem.Challenge.cw_ownleft_k02_places_and_signs_holds : PySem.Challenge.rw_ownleft_k02_places_and_signs.Holds := by
  w_on; o_law; k_head; (case hw => w_witness2)
  k_fill
  refine VM.walk_ofG (l := PySem.Challenge.rw_ownleft_k02_places_and_signs) (k := 7) (x := "script") rfl rfl ⟨rfl, by decide, by decide⟩ (fun w h Y => PySem.W.kIn_of Y) ?F
  case F =>
    intro w mg fa h KX G hmg
    refine' VM.K02.all_mk KX G hmg ?a0 ?l0 ?c0 ?k0 ?a1 ?l1 ?c1 ?k1 ?a2 ?l2 ?c2 ?k2 ?a3 ?l3 ?c3 ?k3 ?a4 ?l4 ?c4 ?k4 ?a5 ?l5 ?c5 ?k5 ?a6 ?l6 ?c6 ?k6 ?a7 ?l7 ?c7 ?k7 ?a8 ?l8 ?c8 ?k8 ?a9 ?l9 ?c9 ?k9 ?a10 ?l10 ?c10 ?k10 ?a11 ?l11 ?c11 ?k11 ?a12 ?l12 ?c12 ?k12 ?a13 ?l13 ?c13 ?k13 ?a14 ?l14 ?c14 ?k14 ?a15 ?l15 ?c15 ?k15 ?a16 ?l16 ?c16 ?k16 ?a17 ?l17 ?c17 ?k17 ?a18 ?l18 ?c18 ?k18 ?a19 ?l19 ?c19 ?k19 ?a20 ?l20 ?c20 ?k20 ?a21 ?l21 ?c21 ?k21 ?a22 ?l22 ?c22 ?k22 ?a23 ?l23 ?c23 ?k23 ?n_ValueError ?n_bool ?n_enumerate ?n_int ?n_isinstance ?n_len ?n_list ?n_range ?n_repr ?n_sorted ?n_tuple ?eA_BadPlace ?eF_BadPlace ?eT_BadPlace ?eL_BadPlace ?eC_BadPlace ?eK_BadPlace ?eB
    (case a0 => k_is); (case l0 => k_is); (case c0 => k_is); (case k0 => k_is); (case a1 => k_is); (case l1 => k_is); (case c1 => k_is); (case k1 => k_is); (case a2 => k_is); (case l2 => k_is); (case c2 => k_is); (case k2 => k_is); (case a3 => k_is); (case l3 => k_is); (case c3 => k_is); (case k3 => k_is); (case a4 => k_is); (case l4 => k_is); (case c4 => k_is); (case k4 => k_is); (case a5 => k_is); (case l5 => k_is); (case c5 => k_is); (case k5 => k_is); (case a6 => k_is); (case l6 => k_is); (case c6 => k_is); (case k6 => k_is); (case a7 => k_is); (case l7 => k_is); (case c7 => k_is); (case k7 => k_is); (case a8 => k_is); (case l8 => k_is); (case c8 => k_is); (case k8 => k_is); (case a9 => k_is); (case l9 => k_is); (case c9 => k_is); (case k9 => k_is); (case a10 => k_is); (case l10 => k_is); (case c10 => k_is); (case k10 => k_is); (case a11 => k_is); (case l11 => k_is); (case c11 => k_is); (case k11 => k_is); (case a12 => k_is); (case l12 => k_is); (case c12 => k_is); (case k12 => k_is); (case a13 => k_is); (case l13 => k_is); (case c13 => k_is); (case k13 => k_is); (case a14 => k_is); (case l14 => k_is); (case c14 => k_is); (case k14 => k_is); (case a15 => k_is); (case l15 => k_is); (case c15 => k_is); (case k15 => k_is); (case a16 => k_is); (case l16 => k_is); (case c16 => k_is); (case k16 => k_is); (case a17 => k_is); (case l17 => k_is); (case c17 => k_is); (case k17 => k_is); (case a18 => k_is); (case l18 => k_is); (case c18 => k_is); (case k18 => k_is); (case a19 => k_is); (case l19 => k_is); (case c19 => k_is); (case k19 => k_is); (case a20 => k_is); (case l20 => k_is); (case c20 => k_is); (case k20 => k_is); (case a21 => k_is); (case l21 => k_is); (case c21 => k_is); (case k21 => k_is); (case a22 => k_is); (case l22 => k_is); (case c22 => k_is); (case k22 => k_is); (case a23 => k_is); (case l23 => k_is); (case c23 => k_is); (case k23 => k_is); (case n_ValueError => k_is); (case n_bool => k_is); (case n_enumerate => k_is); (case n_int => k_is); (case n_isinstance => k_is); (case n_len => k_is); (case n_list => k_is); (case n_range => k_is); (case n_repr => k_is); (case n_sorted => k_is); (case n_tuple => k_is); (case eA_BadPlace => k_is); (case eF_BadPlace => k_is); (case eT_BadPlace => k_is); (case eL_BadPlace => k_is); (case eC_BadPlace => k_is); (case eK_BadPlace => k_is)
    case eB => kernel_rfl

