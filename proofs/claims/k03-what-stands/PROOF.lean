import PyProof.Rows.All
import Wide.All
import OpenK.AllK
import Wide.FinOn
import HandS.ForMost
import HandS.Exc
import HandS.ExcOwn
import HandS.WordsExc
import HandS.CallSlots
import HandS.IsInst
import HandS.Wide
import HandS.Deep
import HandS.TupAny
import HandS.Style
import KE.GoesEnum
import HandS.Ends
import PySem.Challenge.RW_ownleft_k03_what_stands
set_option Elab.async false
set_option linter.all false
set_option autoImplicit false
set_option maxRecDepth 100000
set_option maxHeartbeats 1000000
namespace VM
open PySem PySem.Spec PyProof.Rows L2

/-! ### data -/
inductive D where
  | non | bl (b : Bool) | int (i : Int) | str (x : Str)
  | tup (xs : List D) | lst (xs : List D) | fl (xs : List D)
  | dct (kvs : List (D × D))
  | obj (c : Str) (fs : List (Str × D))
  deriving Inhabited

mutual
def Rp (K : PySem.W.Frag) (F : Hp) : D → V → Prop
  | .non, v => v = .non
  | .bl b, v => v = .bl b
  | .int i, v => v = .int i
  | .str x, v => v = .str x
  | .tup ds, v => ∃ a vs, v = .ref a ∧ SqT K F a vs ∧ RpL K F ds vs
  | .lst ds, v => ∃ a vs, v = .ref a ∧ F a = some (.lst vs) ∧ RpL K F ds vs
  | .fl ds, v => ∃ a vs, v = .ref a ∧ SqL K F a vs ∧ RpL K F ds vs
  | .dct _, _ => False
  | .obj _ _, _ => False
def RpL (K : PySem.W.Frag) (F : Hp) : List D → List V → Prop
  | [], vs => vs = []
  | d :: ds, vs => ∃ v r, vs = v :: r ∧ Rp K F d v ∧ RpL K F ds r
end

section
variable {K : PySem.W.Frag} {F F' H : Hp}
theorem sqT_mono {a : Addr} {xs : List V} (e : Same F F') (h : SqT K F a xs) : SqT K F' a xs := by
  rcases h with (h | ⟨o, h⟩) | h
  · exact .inl (.inl (e _ _ h))
  · exact .inl (.inr ⟨o, e _ _ h⟩)
  · exact .inr h
mutual
theorem Rp.mono (e : Same F F') : ∀ (d : D) (v : V), Rp K F d v → Rp K F' d v
  | .non, _, h => h
  | .bl _, _, h => h
  | .int _, _, h => h
  | .str _, _, h => h
  | .tup ds, v, h => by
    obtain ⟨a, vs, rfl, h1, h2⟩ := h
    exact ⟨a, vs, rfl, sqT_mono e h1, RpL.mono e ds vs h2⟩
  | .lst ds, v, h => by
    obtain ⟨a, vs, rfl, h1, h2⟩ := h
    exact ⟨a, vs, rfl, e _ _ h1, RpL.mono e ds vs h2⟩
  | .fl ds, v, h => by
    obtain ⟨a, vs, rfl, h1, h2⟩ := h
    exact ⟨a, vs, rfl, e.seq h1, RpL.mono e ds vs h2⟩
  | .dct _, _, h => h
  | .obj _ _, _, h => h
theorem RpL.mono (e : Same F F') : ∀ (ds : List D) (vs : List V), RpL K F ds vs → RpL K F' ds vs
  | [], vs, h => h
  | d :: ds, vs, h => by
    obtain ⟨v, r, rfl, h1, h2⟩ := h
    exact ⟨v, r, rfl, Rp.mono e d v h1, RpL.mono e ds r h2⟩
end
theorem RpL.length : ∀ {ds : List D} {vs : List V}, RpL K F ds vs → ds.length = vs.length
  | [], vs, h => by cases h; rfl
  | d :: ds, vs, h => by
    obtain ⟨v, r, rfl, _, h2⟩ := h
    simp [RpL.length h2]
theorem RpL.get : ∀ {ds : List D} {vs : List V} (i : Nat) (d : D), RpL K F ds vs → ds[i]? = some d → ∃ v, vs[i]? = some v ∧ Rp K F d v
  | [], vs, i, d, h, e => by simp at e
  | d0 :: ds, vs, i, d, h, e => by
    obtain ⟨v, r, rfl, h1, h2⟩ := h
    cases i with
    | zero => simp at e; subst e; exact ⟨v, rfl, h1⟩
    | succ i => exact RpL.get (ds := ds) (vs := r) i d h2 (by simpa using e)
theorem RpL.get' : ∀ {ds : List D} {vs : List V} (i : Nat) (v : V), RpL K F ds vs → vs[i]? = some v → ∃ d, ds[i]? = some d ∧ Rp K F d v := fun {ds vs} i v h e => by
  have hl := h.length
  obtain ⟨hi, _⟩ := List.getElem?_eq_some_iff.mp e
  have : ds[i]? = some ds[i] := List.getElem?_eq_getElem (by omega)
  obtain ⟨v', e', h'⟩ := h.get i _ this
  rw [e] at e'; cases e'
  exact ⟨_, this, h'⟩
theorem RpL.append : ∀ {ds es : List D} {vs us : List V}, RpL K F ds vs → RpL K F es us → RpL K F (ds ++ es) (vs ++ us)
  | [], es, vs, us, h, h' => by cases h; exact h'
  | d :: ds, es, vs, us, h, h' => by
    obtain ⟨v, r, rfl, h1, h2⟩ := h
    exact ⟨v, r ++ us, rfl, h1, RpL.append h2 h'⟩
theorem RpL.set : ∀ {ds : List D} {vs : List V} {d : D} {v : V} (i : Nat), RpL K F ds vs → Rp K F d v → RpL K F (ds.set i d) (vs.set i v)
  | [], vs, d, v, i, h, _ => by cases h; exact rfl
  | d0 :: ds, vs, d, v, i, h, hv => by
    obtain ⟨v0, r, rfl, h1, h2⟩ := h
    cases i with
    | zero => exact ⟨v, r, rfl, hv, h2⟩
    | succ i => exact ⟨v0, _, rfl, h1, RpL.set i h2 hv⟩
theorem RpL.take : ∀ {ds : List D} {vs : List V} (n : Nat), RpL K F ds vs → RpL K F (ds.take n) (vs.take n)
  | _, _, 0, _ => rfl
  | [], vs, n + 1, h => by cases h; exact rfl
  | d :: ds, vs, n + 1, h => by
    obtain ⟨v, r, rfl, h1, h2⟩ := h
    exact ⟨v, _, rfl, h1, RpL.take n h2⟩
theorem RpL.drop : ∀ {ds : List D} {vs : List V} (n : Nat), RpL K F ds vs → RpL K F (ds.drop n) (vs.drop n)
  | _, _, 0, h => h
  | [], vs, n + 1, h => by cases h; exact rfl
  | d :: ds, vs, n + 1, h => by
    obtain ⟨v, r, rfl, h1, h2⟩ := h
    exact RpL.drop (ds := ds) n h2
theorem RpL.one {d : D} {v : V} (h : Rp K F d v) : RpL K F [d] [v] := ⟨v, [], rfl, h, rfl⟩
end

/-! ### slots -/
inductive Sl where
  | un | pl (d : D) | ow (d : D) | io (k : Nat) (d : D)
  deriving Inhabited
abbrev SV := List Sl

structure Exn where
  c : Str
  fs : List (Str × D)

/-- a frame's ghost: what is protected, where the frozen part is fixed, the in-out objects -/
structure G where
  K : PySem.W.Frag
  pH : Hp
  fx : Addr → Prop
  F0 : Hp
  io : Nat → Option Addr

/-- an owned object at p -/
def OwnP (K : PySem.W.Frag) (F H : Hp) (d : D) (p : Addr) : Prop := F p = none ∧ match d with
  | .lst ds => ∃ vs, H p = some (.lst vs) ∧ RpL K F ds vs
  | _ => False

def SlOk (g : G) (F H : Hp) (ov : Option (Option V)) : Sl → Prop
  | .un => True
  | .pl d => ∃ v, ov = some (some v) ∧ Rp g.K F d v
  | .ow d => ∃ p, ov = some (some (.ref p)) ∧ ¬ g.fx p ∧ OwnP g.K F H d p
  | .io k d => ∃ p, ov = some (some (.ref p)) ∧ g.io k = some p ∧ OwnP g.K F H d p

def Ref (σ : L2.St) (sv : SV) (i : Nat) (p : Addr) : Prop := (∃ s, sv[i]? = some s ∧ ((∃ d, s = .ow d) ∨ ∃ k d, s = .io k d)) ∧ σ[i]? = some (some (.ref p))

structure Rl (g : G) (F H : Hp) (σ : L2.St) (sv : SV) : Prop where
  sub : Same F H
  kH : Same g.pH H
  kF : ∀ a, g.fx a → F a = g.F0 a
  fxH : ∀ a, g.fx a → H a ≠ none
  pf : ∀ a o, g.pH a = some o → g.fx a
  ion : ∀ k p, g.io k = some p → g.pH p = none ∧ g.fx p
  len : sv.length = σ.length
  sl : ∀ (i : Nat) (s : Sl), sv[i]? = some s → SlOk g F H σ[i]? s
  dj : ∀ (i j : Nat) (p : Addr), Ref σ sv i p → Ref σ sv j p → i = j

inductive R (α : Type) where
  | ok (a : α) (s : SV) | err (x : Exn) (s : SV) | bad
abbrev M (α : Type) := SV → R α
@[simp] def R.bind {α β : Type} (r : R α) (f : α → SV → R β) : R β := match r with
  | .ok a s => f a s
  | .err x s => .err x s
  | .bad => .bad

/-- how an exception is represented: its class, the dict's fields -/
def ErrOk (K : PySem.W.Frag) (mg : Str → Option Value) (F H : Hp) (x : Exn) (cls : Value) (dd : Option Addr) : Prop :=
  ∃ C, mg x.c = some (.ref C) ∧ cls = .ref C ∧ ((x.fs = [] ∧ dd = none) ∨ ∃ a vs, dd = some a ∧ H a = some (.xd ((x.fs.map (·.1)).zip vs)) ∧ F a = none ∧ RpL K F (x.fs.map (·.2)) vs)

abbrev WX' := Value → Option Addr → L2.St → Hp → Prop

def PostG {α β : Type} (mg : Str → Option Value) (g : G) (F : Hp) (σ : L2.St) (r : R α) (W : WX') (Rel : G → Hp → Hp → L2.St → SV → α → β → Prop) (Q : β → Hp → Prop) : Prop := match r with
  | .ok a sv' => ∀ b F' H', Same F F' → Rl g F' H' σ sv' → Rel g F' H' σ sv' a b → Q b H'
  | .err x sv' => ∀ cls dd F' H', Same F F' → Rl g F' H' σ sv' → ErrOk g.K mg F' H' x cls dd → W cls dd σ H'
  | .bad => False
def RelE (g : G) (F' _H' : Hp) (_ : L2.St) (_ : SV) (d : D) (v : V) : Prop := Rp g.K F' d v
def RelO' (g : G) (F' H' : Hp) (σ : L2.St) (sv : SV) (d : D) (v : V) : Prop := ∃ p, v = .ref p ∧ ¬ g.fx p ∧ OwnP g.K F' H' d p ∧ ∀ i, ¬ Ref σ sv i p
def RelT (_ : G) (_F' _H' : Hp) (_ : L2.St) (_ : SV) (b : Bool) (c : Bool) : Prop := c = b
def tG {α β : Type} (K : PySem.W.Frag) (mg : Str → Option Value) (W : WX') (Rel : G → Hp → Hp → L2.St → SV → α → β → Prop) (m : M α) : L2.St → Hp → (β → Hp → Prop) → Prop :=
  fun σ H Q => ∃ g F sv, g.K = K ∧ Rl g F H σ sv ∧ PostG mg g F σ (m sv) W Rel Q
abbrev tE (K : PySem.W.Frag) (mg : Str → Option Value) (W : WX') (m : M D) : TE := tG K mg W RelE m
abbrev tO (K : PySem.W.Frag) (mg : Str → Option Value) (W : WX') (m : M D) : TE := tG K mg W RelO' m
abbrev tT (K : PySem.W.Frag) (mg : Str → Option Value) (W : WX') (m : M Bool) : TT := tG K mg W RelT m

theorem PostG.bind {α β γ δ : Type} {mg : Str → Option Value} {g : G} {F : Hp} {σ : L2.St} {r : R α} {k : α → SV → R γ} {W : WX'} {Rel1 : G → Hp → Hp → L2.St → SV → α → β → Prop} {Rel2 : G → Hp → Hp → L2.St → SV → γ → δ → Prop} {Q : δ → Hp → Prop} {Q1 : β → Hp → Prop}
    (h : PostG mg g F σ (r.bind k) W Rel2 Q)
    (kk : ∀ a sv1 b F1 H1, Same F F1 → Rl g F1 H1 σ sv1 → Rel1 g F1 H1 σ sv1 a b → PostG mg g F1 σ (k a sv1) W Rel2 Q → Q1 b H1) : PostG mg g F σ r W Rel1 Q1 := by
  cases r with
  | ok a s =>
    intro b F1 H1 e rl rel
    refine kk a s b F1 H1 e rl rel ?_
    have h' : PostG mg g F σ (k a s) W Rel2 Q := h
    revert h'
    cases k a s with
    | ok c s2 => exact fun h' d F2 H2 e2 => h' d F2 H2 (e.trans e2)
    | err x s2 => exact fun h' cls dd F2 H2 e2 => h' cls dd F2 H2 (e.trans e2)
    | bad => exact fun h' => h'
  | err x s => exact h
  | bad => exact h

abbrev SE (X : Cx) (W : WX') (e : Expr) (m : M D) : Prop := PE X e (tE X.K X.mg W m)
abbrev SO (X : Cx) (W : WX') (e : Expr) (m : M D) : Prop := PE X e (tO X.K X.mg W m)
abbrev ST (X : Cx) (W : WX') (e : Expr) (m : M Bool) : Prop := PT X e (tT X.K X.mg W m)

theorem pe_imp {X : Cx} {e : Expr} {t t' : TE} (h : PE X e t) (k : ∀ σ H Q, t' σ H Q → t σ H Q) : PE X e t' := ⟨fun pins s σ H Q I q => h.run pins s σ H Q I (k σ H Q q)⟩
theorem pt_imp {X : Cx} {e : Expr} {t t' : TT} (h : PT X e t) (k : ∀ σ H Q, t' σ H Q → t σ H Q) : PT X e t' := ⟨fun pins s σ H Q I q => h.run pins s σ H Q I (k σ H Q q)⟩
theorem pw_imp {X : Cx} {e : Expr} {t t' : TT} (h : PW X e t) (k : ∀ σ H Q, t' σ H Q → t σ H Q) : PW X e t' := ⟨fun w pins s σ H Q I q => h.run w pins s σ H Q I (k σ H Q q)⟩

section
variable {g : G} {F H F' H' : Hp} {σ : L2.St} {sv : SV}
theorem same_upd {H : Hp} {p : Addr} {o : HO} (h : H p = none) : Same H (upd H p o) := fun b x e => by
  rw [upd_ne (ne_of_none e h)]
  exact e
theorem OwnP.monoF {K : PySem.W.Frag} {d : D} {p : Addr} (h : OwnP K F H d p) (e : Same F F') (hp : F' p = none) : OwnP K F' H d p := by
  obtain ⟨_, h⟩ := h
  refine ⟨hp, ?_⟩
  cases d with
  | lst ds =>
    obtain ⟨vs, h1, h2⟩ := h
    exact ⟨vs, h1, RpL.mono e ds vs h2⟩
  | _ => exact h
theorem OwnP.monoH {K : PySem.W.Frag} {d : D} {p : Addr} (h : OwnP K F H d p) (e : H' p = H p) : OwnP K F H' d p := by
  obtain ⟨hp, h⟩ := h
  refine ⟨hp, ?_⟩
  cases d with
  | lst ds =>
    obtain ⟨vs, h1, h2⟩ := h
    exact ⟨vs, e.trans h1, h2⟩
  | _ => exact h
theorem OwnP.nn {K : PySem.W.Frag} {d : D} {p : Addr} (h : OwnP K F H d p) : H p ≠ none := by
  obtain ⟨_, h⟩ := h
  cases d with
  | lst ds =>
    obtain ⟨vs, h1, h2⟩ := h
    rw [h1]; exact fun z => nomatch z
  | _ => exact False.elim h

/-- a slot that owns p -/
theorem Rl.own (r : Rl g F H σ sv) {i : Nat} {p : Addr} (h : Ref σ sv i p) : F p = none ∧ H p ≠ none ∧ g.pH p = none := by
  obtain ⟨⟨s, e1, e2⟩, e3⟩ := h
  have q := r.sl i s e1
  rcases e2 with ⟨d, rfl⟩ | ⟨k, d, rfl⟩
  · obtain ⟨p', e4, nf, o⟩ := q
    rw [e3] at e4; cases e4
    refine ⟨o.1, o.nn, ?_⟩
    cases hh : g.pH p with
    | none => rfl
    | some x => exact absurd (r.pf _ _ hh) nf
  · obtain ⟨p', e4, nf, o⟩ := q
    rw [e3] at e4; cases e4
    exact ⟨o.1, o.nn, (r.ion _ _ nf).1⟩
/-- the heap grows at a place that nobody has: laid open, frozen at once -/
theorem Rl.lay (r : Rl g F H σ sv) {p : Addr} {o : HO} (n : H p = none) : Rl g (upd F p o) (upd H p o) σ sv := by
  have nF : F p = none := r.sub.free n
  have sF : Same F (upd F p o) := same_upd nF
  have ne : ∀ i q, Ref σ sv i q → q ≠ p := fun i q h e => by
    have := (r.own h).2.1
    rw [e] at this
    exact this n
  refine ⟨fun a u e => ?_, r.kH.trans (same_upd n), fun a ha => ?_, fun a ha => ?_, r.pf, r.ion, r.len, fun i s e => ?_, r.dj⟩
  · by_cases h : a = p
    · subst h; rw [upd_same] at e ⊢; exact e
    · rw [upd_ne h] at e ⊢; exact r.sub a u e
  · have : a ≠ p := fun e => by subst e; exact r.fxH _ ha n
    rw [upd_ne this]; exact r.kF a ha
  · have : a ≠ p := fun e => by subst e; exact r.fxH _ ha n
    rw [upd_ne this]; exact r.fxH a ha
  · have q := r.sl i s e
    cases s with
    | un => trivial
    | pl d =>
      obtain ⟨v, e1, h⟩ := q
      exact ⟨v, e1, Rp.mono sF d v h⟩
    | ow d =>
      obtain ⟨q', e1, nf, o'⟩ := q
      have hne := ne i q' ⟨⟨_, e, .inl ⟨d, rfl⟩⟩, e1⟩
      exact ⟨q', e1, nf, (o'.monoF sF (by rw [upd_ne hne]; exact o'.1)).monoH (upd_ne hne)⟩
    | io k d =>
      obtain ⟨q', e1, nf, o'⟩ := q
      have hne := ne i q' ⟨⟨_, e, .inr ⟨k, d, rfl⟩⟩, e1⟩
      exact ⟨q', e1, nf, (o'.monoF sF (by rw [upd_ne hne]; exact o'.1)).monoH (upd_ne hne)⟩
/-- .. laid open, not frozen -/
theorem Rl.layO (r : Rl g F H σ sv) {p : Addr} {o : HO} (n : H p = none) : Rl g F (upd H p o) σ sv := by
  have ne : ∀ i q, Ref σ sv i q → q ≠ p := fun i q h e => by
    have := (r.own h).2.1
    rw [e] at this
    exact this n
  refine ⟨r.sub.trans (same_upd n), r.kH.trans (same_upd n), r.kF, fun a ha => ?_, r.pf, r.ion, r.len, fun i s e => ?_, r.dj⟩
  · have : a ≠ p := fun e => by subst e; exact r.fxH _ ha n
    rw [upd_ne this]; exact r.fxH a ha
  · have q := r.sl i s e
    cases s with
    | un => trivial
    | pl d => exact q
    | ow d =>
      obtain ⟨q', e1, nf, o'⟩ := q
      have hne := ne i q' ⟨⟨_, e, .inl ⟨d, rfl⟩⟩, e1⟩
      exact ⟨q', e1, nf, o'.monoH (upd_ne hne)⟩
    | io k d =>
      obtain ⟨q', e1, nf, o'⟩ := q
      have hne := ne i q' ⟨⟨_, e, .inr ⟨k, d, rfl⟩⟩, e1⟩
      exact ⟨q', e1, nf, o'.monoH (upd_ne hne)⟩
theorem Rl.noRef (r : Rl g F H σ sv) {p : Addr} (n : H p = none) : ∀ i, ¬ Ref σ sv i p := fun i h => (r.own h).2.1 n
theorem Rl.nofx (r : Rl g F H σ sv) {p : Addr} (n : H p = none) : ¬ g.fx p := fun h => r.fxH _ h n
/-- an object that no slot owns is frozen -/
theorem Rl.frz (r : Rl g F H σ sv) {p : Addr} {o : HO} (nf : ¬ g.fx p) (nF : F p = none) (hH : H p = some o) (nr : ∀ i, ¬ Ref σ sv i p) : Rl g (upd F p o) H σ sv := by
  have sF : Same F (upd F p o) := same_upd nF
  refine ⟨fun a u e => ?_, r.kH, fun a ha => ?_, r.fxH, r.pf, r.ion, r.len, fun i s e => ?_, r.dj⟩
  · by_cases h : a = p
    · subst h; rw [upd_same] at e; rw [hH]; exact e
    · rw [upd_ne h] at e; exact r.sub a u e
  · have : a ≠ p := fun e => by subst e; exact nf ha
    rw [upd_ne this]; exact r.kF a ha
  · have q := r.sl i s e
    cases s with
    | un => trivial
    | pl d =>
      obtain ⟨v, e1, h⟩ := q
      exact ⟨v, e1, Rp.mono sF d v h⟩
    | ow d =>
      obtain ⟨q', e1, nf', o'⟩ := q
      have hne : q' ≠ p := fun z => nr i (by subst z; exact ⟨⟨_, e, .inl ⟨d, rfl⟩⟩, e1⟩)
      exact ⟨q', e1, nf', o'.monoF sF (by rw [upd_ne hne]; exact o'.1)⟩
    | io k d =>
      obtain ⟨q', e1, nf', o'⟩ := q
      have hne : q' ≠ p := fun z => nr i (by subst z; exact ⟨⟨_, e, .inr ⟨k, d, rfl⟩⟩, e1⟩)
      exact ⟨q', e1, nf', o'.monoF sF (by rw [upd_ne hne]; exact o'.1)⟩
/-- a slot is forgotten -/
theorem Rl.forget (r : Rl g F H σ sv) (i : Nat) : Rl g F H σ (sv.set i .un) := by
  have rr : ∀ j p, Ref σ (sv.set i .un) j p → Ref σ sv j p := fun j p ⟨⟨s, e1, e2⟩, e3⟩ => by
    by_cases h : i = j
    · subst h
      by_cases hl : i < sv.length
      · rw [List.getElem?_set_self hl] at e1
        cases e1
        rcases e2 with ⟨d, z⟩ | ⟨k, d, z⟩ <;> cases z
      · rw [List.getElem?_eq_none (by simp; omega)] at e1; cases e1
    · rw [List.getElem?_set_ne h] at e1
      exact ⟨⟨s, e1, e2⟩, e3⟩
  refine ⟨r.sub, r.kH, r.kF, r.fxH, r.pf, r.ion, by simp [r.len], fun j s e => ?_, fun j k p a b => r.dj j k p (rr _ _ a) (rr _ _ b)⟩
  by_cases h : i = j
  · subst h
    by_cases hl : i < sv.length
    · rw [List.getElem?_set_self hl] at e
      cases e
      trivial
    · rw [List.getElem?_eq_none (by simp; omega)] at e; cases e
  · rw [List.getElem?_set_ne h] at e
    exact r.sl j s e
/-- a slot of plain value -/
theorem Rl.setPl (r : Rl g F H σ sv) (i : Nat) {d : D} {v : V} (h : Rp g.K F d v) : Rl g F H (σ.set i (some v)) (sv.set i (.pl d)) := by
  have rr : ∀ j p, Ref (σ.set i (some v)) (sv.set i (.pl d)) j p → j ≠ i ∧ Ref σ sv j p := fun j p ⟨⟨s, e1, e2⟩, e3⟩ => by
    by_cases h : i = j
    · subst h
      by_cases hl : i < sv.length
      · rw [List.getElem?_set_self hl] at e1
        cases e1
        rcases e2 with ⟨d, z⟩ | ⟨k, d, z⟩ <;> cases z
      · rw [List.getElem?_eq_none (by simp; omega)] at e1; cases e1
    · rw [List.getElem?_set_ne h] at e1 e3
      exact ⟨Ne.symm h, ⟨s, e1, e2⟩, e3⟩
  refine ⟨r.sub, r.kH, r.kF, r.fxH, r.pf, r.ion, by simp [r.len], fun j s e => ?_, fun j k p a b => r.dj j k p (rr _ _ a).2 (rr _ _ b).2⟩
  by_cases hj : i = j
  · subst hj
    by_cases hl : i < sv.length
    · rw [List.getElem?_set_self hl] at e
      cases e
      refine ⟨v, ?_, h⟩
      rw [List.getElem?_set_self (by rw [← r.len]; exact hl)]
    · rw [List.getElem?_eq_none (by simp; omega)] at e; cases e
  · rw [List.getElem?_set_ne hj] at e
    rw [List.getElem?_set_ne hj]
    exact r.sl j s e
/-- a slot of an owned object -/
theorem Rl.setOw (r : Rl g F H σ sv) (i : Nat) {d : D} {p : Addr} (nf : ¬ g.fx p) (h : OwnP g.K F H d p) (nr : ∀ i, ¬ Ref σ sv i p) : Rl g F H (σ.set i (some (.ref p))) (sv.set i (.ow d)) := by
  have rr : ∀ j q, Ref (σ.set i (some (.ref p))) (sv.set i (.ow d)) j q → (j = i ∧ q = p) ∨ (j ≠ i ∧ q ≠ p ∧ Ref σ sv j q) := fun j q ⟨⟨s, e1, e2⟩, e3⟩ => by
    by_cases h : i = j
    · subst h
      by_cases hl : i < sv.length
      · rw [List.getElem?_set_self (by rw [← r.len]; exact hl)] at e3
        cases e3
        exact .inl ⟨rfl, rfl⟩
      · rw [List.getElem?_eq_none (by simp; omega)] at e1; cases e1
    · rw [List.getElem?_set_ne h] at e1 e3
      have z : Ref σ sv j q := ⟨⟨s, e1, e2⟩, e3⟩
      exact .inr ⟨Ne.symm h, fun w => nr j (by rw [← w]; exact z), z⟩
  refine ⟨r.sub, r.kH, r.kF, r.fxH, r.pf, r.ion, by simp [r.len], fun j s e => ?_, fun j k q a b => ?_⟩
  · by_cases hj : i = j
    · subst hj
      by_cases hl : i < sv.length
      · rw [List.getElem?_set_self hl] at e
        cases e
        refine ⟨p, ?_, nf, h⟩
        rw [List.getElem?_set_self (by rw [← r.len]; exact hl)]
      · rw [List.getElem?_eq_none (by simp; omega)] at e; cases e
    · rw [List.getElem?_set_ne hj] at e
      rw [List.getElem?_set_ne hj]
      exact r.sl j s e
  · rcases rr j q a with ⟨rfl, rfl⟩ | ⟨h1, h2, h3⟩
    · rcases rr k q b with ⟨rfl, _⟩ | ⟨_, h2, _⟩
      · rfl
      · exact absurd rfl h2
    · rcases rr k q b with ⟨_, rfl⟩ | ⟨_, _, h4⟩
      · exact absurd rfl h2
      · exact r.dj j k q h3 h4
end
end VM

set_option Elab.async false
set_option linter.all false
set_option autoImplicit false
set_option maxRecDepth 100000
set_option maxHeartbeats 200000
namespace VM
open PySem PySem.Spec PyProof.Rows L2

/-! ### two-place operations on data -/
def m2 (f : D → D → Option D) (ma mb : M D) : M D := fun sv => (ma sv).bind fun a s1 => (mb s1).bind fun b s2 => match f a b with
  | some d => .ok d s2
  | none => .bad
def m1 (f : D → Option D) (ma : M D) : M D := fun sv => (ma sv).bind fun a s1 => match f a with
  | some d => .ok d s1
  | none => .bad
def O2 (K : PySem.W.Frag) (r : R2) (f : D → D → Option D) : Prop :=
  ∀ (g : G) (F H : Hp) (σ : L2.St) (sv : SV) (a b d : D) (x y : V) (Q : VK), g.K = K → Rl g F H σ sv → f a b = some d → Rp K F a x → Rp K F b y →
    (∀ v F' H', Same F F' → Rl g F' H' σ sv → Rp K F' d v → Q v H') → r x y H Q
def O1 (K : PySem.W.Frag) (r : V → Hp → VK → Prop) (f : D → Option D) : Prop :=
  ∀ (g : G) (F H : Hp) (σ : L2.St) (sv : SV) (a d : D) (x : V) (Q : VK), g.K = K → Rl g F H σ sv → f a = some d → Rp K F a x →
    (∀ v F' H', Same F F' → Rl g F' H' σ sv → Rp K F' d v → Q v H') → r x H Q
theorem O2.or {K : PySem.W.Frag} {r r' : R2} {f f' : D → D → Option D} (h : O2 K r f) (h' : O2 K r' f') : O2 K (fun x y H Q => r x y H Q ∨ r' x y H Q) (fun a b => (f a b).or (f' a b)) := by
  intro g F H σ sv a b d x y Q hK rl e ha hb q
  dsimp only at e
  cases e1 : f a b with
  | some d' =>
    rw [e1] at e
    cases (show d' = d by simpa using e)
    exact .inl (h g F H σ sv a b d x y Q hK rl e1 ha hb q)
  | none =>
    rw [e1] at e
    exact .inr (h' g F H σ sv a b d x y Q hK rl (by simpa using e) ha hb q)
theorem OpR.or {X : Cx} {f : Value → Value → Sem Value} {r r' : R2} (h : OpR X f r) (h' : OpR X f r') : OpR X f (fun x y H Q => r x y H Q ∨ r' x y H Q) := by
  intro pins s σ H x y v u Q I rx ry q
  rcases q with q | q
  · exact h pins s σ H x y v u Q I rx ry q
  · exact h' pins s σ H x y v u Q I rx ry q

section
variable {K : PySem.W.Frag} {mg : Str → Option Value} {W : WX'}
theorem tg_op2 {r : R2} {f : D → D → Option D} (hf : O2 K r f) {ma mb : M D} {σ : L2.St} {H : Hp} {Q : VK} (h : tE K mg W (m2 f ma mb) σ H Q) : tOp r (tE K mg W ma) (tE K mg W mb) σ H Q := by
  obtain ⟨g, F, sv, hK, rl, h⟩ := h
  refine ⟨g, F, sv, hK, rl, PostG.bind h fun a s1 x F1 H1 e1 rl1 rp1 h1 => ?_⟩
  refine ⟨g, F1, s1, hK, rl1, PostG.bind h1 fun b s2 y F2 H2 e2 rl2 rp2 h2 => ?_⟩
  subst hK
  cases e : f a b with
  | none => rw [e] at h2; exact False.elim h2
  | some d =>
    rw [e] at h2
    exact hf g F2 H2 σ s2 a b d x y Q rfl rl2 e (Rp.mono e2 a x rp1) rp2 fun v F' H' e3 rl3 rp3 => h2 v F' H' e3 rl3 rp3
theorem tg_op1 {r : V → Hp → VK → Prop} {f : D → Option D} (hf : O1 K r f) {ma : M D} {σ : L2.St} {H : Hp} {Q : VK} (h : tE K mg W (m1 f ma) σ H Q) : tUn r (tE K mg W ma) σ H Q := by
  obtain ⟨g, F, sv, hK, rl, h⟩ := h
  refine ⟨g, F, sv, hK, rl, PostG.bind h fun a s1 x F1 H1 e1 rl1 rp1 h1 => ?_⟩
  subst hK
  cases e : f a with
  | none => rw [e] at h1; exact False.elim h1
  | some d =>
    rw [e] at h1
    exact hf g F1 H1 σ s1 a d x Q rfl rl1 e rp1 fun v F' H' e3 rl3 rp3 => h1 v F' H' e3 rl3 rp3
end
/-- a pure operation: nothing is laid -/
theorem o2_pure {K : PySem.W.Frag} {r : R2} {f : D → D → Option D} (h : ∀ (F H : Hp) (a b d : D) (x y : V) (Q : VK), Same F H → f a b = some d → Rp K F a x → Rp K F b y → (∀ v, Rp K F d v → Q v H) → r x y H Q) : O2 K r f :=
  fun g F H σ sv a b d x y Q _ rl e ha hb q => h F H a b d x y Q rl.sub e ha hb fun v rv => q v F H (Same.refl F) rl rv
theorem o1_pure {K : PySem.W.Frag} {r : V → Hp → VK → Prop} {f : D → Option D} (h : ∀ (F H : Hp) (a d : D) (x : V) (Q : VK), Same F H → f a = some d → Rp K F a x → (∀ v, Rp K F d v → Q v H) → r x H Q) : O1 K r f :=
  fun g F H σ sv a d x Q _ rl e ha q => h F H a d x Q rl.sub e ha fun v rv => q v F H (Same.refl F) rl rv

/-! #### arithmetic -/
def dI2 (c : Int → Int → Option D) : D → D → Option D
  | .int i, .int j => c i j
  | _, _ => none
theorem o2_int {K : PySem.W.Frag} {C : Int → Int → Prop} {gg : Int → Int → V} {c : Int → Int → Option D} (hc : ∀ i j d, c i j = some d → C i j) (hg : ∀ i j d F v, c i j = some d → v = gg i j → Rp K F d v) : O2 K (rI C gg) (dI2 c) :=
  o2_pure fun F H a b d x y Q _ e ha hb q => by
    cases a <;> try (cases e; done)
    cases b <;> try (cases e; done)
    rename_i i j
    exact ⟨i, j, ha, hb, hc i j d e, q _ (hg i j d F _ e rfl)⟩
def cSub (i j : Int) : Option D := some (.int (i - j))
def cAdd (i j : Int) : Option D := some (.int (i + j))
def cMul (i j : Int) : Option D := if (-(2 ^ 64) < i ∧ i < 2 ^ 64) ∨ (-(2 ^ 64) < j ∧ j < 2 ^ 64) then some (.int (i * j)) else none
def cDiv (i j : Int) : Option D := if 0 < j ∧ j < 1073741824 then some (.int (i / j)) else none
def cMod (i j : Int) : Option D := if 0 < j then some (.int (i % j)) else none
def cPow (i j : Int) : Option D := if 0 ≤ j ∧ j ≤ 1000000 ∧ i.natAbs < 2 ^ 64 then some (.int (i ^ j.toNat)) else none
theorem op_toI {X : Cx} {f : Value → Value → Sem Value} {g : Int → Int → V} (h : OpR X f (rI0 g)) : OpR X f (rI (fun _ _ => True) g) := by
  intro pins s σ H x y v u Q I rx ry q
  obtain ⟨i, j, e1, e2, _, q⟩ := q
  exact h pins s σ H x y v u Q I rx ry ⟨i, j, e1, e2, q⟩
section
variable {K : PySem.W.Frag}
theorem o2_subI : O2 K (rI (fun _ _ => True) fun i j => .int (i - j)) (dI2 cSub) := o2_int (fun _ _ _ _ => trivial) fun i j d F v e ev => by cases e; exact ev
theorem o2_addI : O2 K (rI (fun _ _ => True) fun i j => .int (i + j)) (dI2 cAdd) := o2_int (fun _ _ _ _ => trivial) fun i j d F v e ev => by cases e; exact ev
theorem o2_mulI : O2 K (rI CMul fun i j => .int (i * j)) (dI2 cMul) := o2_int (fun i j d e => by
    unfold cMul at e
    split at e
    · assumption
    · cases e) fun i j d F v e ev => by
    unfold cMul at e
    split at e
    · cases e; exact ev
    · cases e
theorem o2_divI : O2 K (rI CDiv fun i j => .int (i / j)) (dI2 cDiv) := o2_int (fun i j d e => by
    unfold cDiv at e
    split at e
    · assumption
    · cases e) fun i j d F v e ev => by
    unfold cDiv at e
    split at e
    · cases e; exact ev
    · cases e
theorem o2_modI : O2 K (rI (fun _ j => 0 < j) fun i j => .int (i % j)) (dI2 cMod) := o2_int (fun i j d e => by
    unfold cMod at e
    split at e
    · assumption
    · cases e) fun i j d F v e ev => by
    unfold cMod at e
    split at e
    · cases e; exact ev
    · cases e
theorem o2_powI : O2 K (rI CPow fun i j => .int (i ^ j.toNat)) (dI2 cPow) := o2_int (fun i j d e => by
    unfold cPow at e
    split at e
    · assumption
    · cases e) fun i j d F v e ev => by
    unfold cPow at e
    split at e
    · cases e; exact ev
    · cases e
end
/-- + : ints, texts, lists, tuples -/
def dAdd : D → D → Option D
  | .int i, .int j => some (.int (i + j))
  | .str a, .str b => if a.length + b.length ≤ sizeLine then some (.str (a ++ b)) else none
  | .lst xs, .lst ys => if xs.length + ys.length ≤ sizeLine then some (.lst (xs ++ ys)) else none
  | .tup xs, .tup ys => if xs.length + ys.length ≤ sizeLine then some (.tup (xs ++ ys)) else none
  | _, _ => none
def rAddA (K : PySem.W.Frag) : R2 := fun x y H Q =>
  (((rI (fun _ _ => True) fun i j => .int (i + j)) x y H Q ∨ (∃ i j, x = .str i ∧ y = .str j ∧ i.length + j.length ≤ sizeLine ∧ Q (.str (i ++ j)) H)) ∨ rCat x y H Q) ∨ rCatA K x y H Q
theorem op_addA {X : Cx} : OpR X (binaryOp .Add) (rAddA X.K) := OpR.or (OpR.or (OpR.or (op_toI op_add) op_add_str) op_cat) op_catA
theorem o2_addA {K : PySem.W.Frag} : O2 K (rAddA K) dAdd := by
  intro g F H σ sv a b d x y Q hK rl e ha hb q
  subst hK
  cases a <;> cases b <;> try (cases e; done)
  · rename_i i j
    cases e
    exact .inl (.inl (.inl ⟨i, j, ha, hb, trivial, q _ F H (Same.refl F) rl rfl⟩))
  · rename_i i j
    simp only [dAdd] at e
    split at e
    · cases e
      exact .inl (.inl (.inr ⟨i, j, ha, hb, by assumption, q _ F H (Same.refl F) rl rfl⟩))
    · cases e
  · rename_i xs ys
    simp only [dAdd] at e
    split at e
    · cases e
      rename_i hz
      obtain ⟨a, vs, rfl, h1, h2⟩ := ha
      obtain ⟨b, us, rfl, h3, h4⟩ := hb
      refine .inr ⟨a, b, vs, us, rfl, rfl, sqT_mono rl.sub h1, sqT_mono rl.sub h3, by rw [← h2.length, ← h4.length]; exact hz, fun z => ?_, fun z z2 => ?_, fun z z2 p hp => ?_⟩
      · subst z
        have : xs = [] := List.length_eq_zero_iff.mp h2.length
        subst this
        exact q _ F H (Same.refl F) rl ⟨b, us, rfl, h3, h4⟩
      · subst z2
        have : ys = [] := List.length_eq_zero_iff.mp h4.length
        subst this
        refine q _ F H (Same.refl F) rl ⟨a, vs, rfl, h1, ?_⟩
        rw [List.append_nil]; exact h2
      · have sF : Same F (upd F p (.tup (vs ++ us))) := same_upd (rl.sub.free hp)
        exact q _ _ _ sF (rl.lay hp) ⟨p, _, rfl, .inl (.inl upd_same), (RpL.mono sF _ _ h2).append (RpL.mono sF _ _ h4)⟩
    · cases e
  · rename_i xs ys
    simp only [dAdd] at e
    split at e
    · cases e
      rename_i hz
      obtain ⟨a, vs, rfl, h1, h2⟩ := ha
      obtain ⟨b, us, rfl, h3, h4⟩ := hb
      refine .inl (.inr ⟨a, b, vs, us, rfl, rfl, rl.sub _ _ h1, rl.sub _ _ h3, by rw [← h2.length, ← h4.length]; exact hz, fun p hp => ?_⟩)
      have sF : Same F (upd F p (.lst (vs ++ us))) := same_upd (rl.sub.free hp)
      exact q _ _ _ sF (rl.lay hp) ⟨p, _, rfl, upd_same, (RpL.mono sF _ _ h2).append (RpL.mono sF _ _ h4)⟩
    · cases e

/-! #### comparisons -/
mutual
def py : D → Option PyData
  | .non => some .none
  | .bl b => some (.bool b)
  | .int i => some (.int i)
  | .str x => some (.str x)
  | .tup xs => (pyL xs).map .tuple
  | .lst xs => (pyL xs).map .list
  | .fl xs => (pyL xs).map .list
  | .dct _ => none
  | .obj _ _ => none
def pyL : List D → Option (List PyData)
  | [] => some []
  | d :: ds => match py d, pyL ds with
    | some p, some ps => some (p :: ps)
    | _, _ => none
end
section
variable {K : PySem.W.Frag} {F H : Hp}
mutual
theorem dp_of (e : Same F H) : ∀ (d : D) (v : V) (p : PyData), Rp K F d v → py d = some p → Dp K H v p
  | .non, v, p, h, q => by cases h; cases q; exact .non
  | .bl b, v, p, h, q => by cases h; cases q; exact .bl b
  | .int i, v, p, h, q => by cases h; cases q; exact .int i
  | .str x, v, p, h, q => by cases h; cases q; exact .str x
  | .tup ds, v, p, h, q => by
    obtain ⟨a, vs, rfl, h1, h2⟩ := h
    simp only [py, Option.map_eq_some_iff] at q
    obtain ⟨ps, q1, rfl⟩ := q
    exact .tup (sqT_mono e h1) (dpL_of e ds vs ps h2 q1)
  | .lst ds, v, p, h, q => by
    obtain ⟨a, vs, rfl, h1, h2⟩ := h
    simp only [py, Option.map_eq_some_iff] at q
    obtain ⟨ps, q1, rfl⟩ := q
    exact .lst (.inl (.inl (e _ _ h1))) (dpL_of e ds vs ps h2 q1)
  | .fl ds, v, p, h, q => by
    obtain ⟨a, vs, rfl, h1, h2⟩ := h
    simp only [py, Option.map_eq_some_iff] at q
    obtain ⟨ps, q1, rfl⟩ := q
    exact .lst (e.seq h1) (dpL_of e ds vs ps h2 q1)
  | .dct _, v, p, h, q => by cases q
  | .obj _ _, v, p, h, q => by cases q
theorem dpL_of (e : Same F H) : ∀ (ds : List D) (vs : List V) (ps : List PyData), RpL K F ds vs → pyL ds = some ps → DpAll K H vs ps
  | [], vs, ps, h, q => by
    cases h
    simp only [pyL, Option.some.injEq] at q
    subst q
    exact .nil
  | d :: ds, vs, ps, h, q => by
    obtain ⟨v, r, rfl, h1, h2⟩ := h
    unfold pyL at q
    cases e1 : py d with
    | none => rw [e1] at q; cases q
    | some p =>
      cases e2 : pyL ds with
      | none => rw [e1, e2] at q; cases q
      | some ps' =>
        rw [e1, e2] at q
        cases q
        exact .cons (dp_of e d v p h1 e1) (dpL_of e ds r ps' h2 e2)
end
end
def eqP (a b : D) : Option Bool := match py a, py b with
  | some p, some q => if SeqAt.shaped p = true ∧ SeqAt.shaped q = true then some (PyData.eqv p q) else none
  | _, _ => none
def eqD : D → D → Option Bool
  | .str x, .str y => some (decide (x = y))
  | .int i, .int j => some (decide (i = j))
  | .bl i, .bl j => some (decide (i = j))
  | a, b => eqP a b
def dEq (a b : D) : Option D := (eqD a b).map .bl
def dNe (a b : D) : Option D := (eqD a b).map fun c => .bl !c
def rEqA (K : PySem.W.Frag) : R2 := fun x y H Q => rEq x y H Q ∨ rEqD K x y H Q
def rNeA (K : PySem.W.Frag) : R2 := fun x y H Q => rNe x y H Q ∨ rNeD K x y H Q
theorem op_eqA {X : Cx} (hu : X.A.units + 64 < cLine) : OpR X (compareOp .Eq) (rEqA X.K) := OpR.or op_eq (op_eqD hu)
theorem op_neA {X : Cx} (hu : X.A.units + 64 < cLine) : OpR X (compareOp .NotEq) (rNeA X.K) := OpR.or op_ne (op_neD hu)
theorem eqP_of {K : PySem.W.Frag} {F H : Hp} {a b : D} {x y : V} {c : Bool} (e : eqP a b = some c) (s : Same F H) (ha : Rp K F a x) (hb : Rp K F b y) :
    ∃ p q, Dp K H x p ∧ Dp K H y q ∧ SeqAt.shaped p = true ∧ SeqAt.shaped q = true ∧ PyData.eqv p q = c := by
  unfold eqP at e
  cases e1 : py a with
  | none => rw [e1] at e; cases e
  | some p =>
    cases e2 : py b with
    | none => rw [e1, e2] at e; cases e
    | some q =>
      rw [e1, e2] at e
      dsimp only at e
      split at e
      · rename_i hs
        cases e
        exact ⟨p, q, dp_of s a x p ha e1, dp_of s b y q hb e2, hs.1, hs.2, rfl⟩
      · cases e
theorem eqD_cases {a b : D} {c : Bool} (e : eqD a b = some c) :
    (∃ x y, a = .str x ∧ b = .str y ∧ c = decide (x = y)) ∨ (∃ i j, a = .int i ∧ b = .int j ∧ c = decide (i = j)) ∨ (∃ i j, a = .bl i ∧ b = .bl j ∧ c = decide (i = j)) ∨ eqP a b = some c := by
  unfold eqD at e
  split at e
  · cases e; exact .inl ⟨_, _, rfl, rfl, rfl⟩
  · cases e; exact .inr (.inl ⟨_, _, rfl, rfl, rfl⟩)
  · cases e; exact .inr (.inr (.inl ⟨_, _, rfl, rfl, rfl⟩))
  · exact .inr (.inr (.inr e))
theorem o2_eqA {K : PySem.W.Frag} : O2 K (rEqA K) dEq := o2_pure fun F H a b d x y Q s e ha hb q => by
  unfold dEq at e
  obtain ⟨c, e1, rfl⟩ := Option.map_eq_some_iff.mp e
  rcases eqD_cases e1 with ⟨i, j, rfl, rfl, rfl⟩ | ⟨i, j, rfl, rfl, rfl⟩ | ⟨i, j, rfl, rfl, rfl⟩ | e2
  · cases ha; cases hb
    exact .inl ⟨rfl, q _ (by show V.bl _ = V.bl _; congr 1; simp)⟩
  · cases ha; cases hb
    exact .inl ⟨rfl, q _ (by show V.bl _ = V.bl _; congr 1; simp)⟩
  · cases ha; cases hb
    exact .inl ⟨rfl, q _ (by show V.bl _ = V.bl _; congr 1; simp)⟩
  · obtain ⟨p, p', h1, h2, h3, h4, rfl⟩ := eqP_of e2 s ha hb
    exact .inr ⟨p, p', h1, h2, h3, h4, q _ rfl⟩
theorem o2_neA {K : PySem.W.Frag} : O2 K (rNeA K) dNe := o2_pure fun F H a b d x y Q s e ha hb q => by
  unfold dNe at e
  obtain ⟨c, e1, rfl⟩ := Option.map_eq_some_iff.mp e
  rcases eqD_cases e1 with ⟨i, j, rfl, rfl, rfl⟩ | ⟨i, j, rfl, rfl, rfl⟩ | ⟨i, j, rfl, rfl, rfl⟩ | e2
  · cases ha; cases hb
    exact .inl ⟨rfl, q _ (by show V.bl _ = V.bl _; congr 1; simp)⟩
  · cases ha; cases hb
    exact .inl ⟨rfl, q _ (by show V.bl _ = V.bl _; congr 1; simp)⟩
  · cases ha; cases hb
    exact .inl ⟨rfl, q _ (by show V.bl _ = V.bl _; congr 1; simp)⟩
  · obtain ⟨p, p', h1, h2, h3, h4, rfl⟩ := eqP_of e2 s ha hb
    exact .inr ⟨p, p', h1, h2, h3, h4, q _ rfl⟩
/-- order of ints and texts -/
def dCmp (ci : Int → Int → Bool) (cs : List Nat → List Nat → Bool) : D → D → Option D
  | .int i, .int j => some (.bl (ci i j))
  | .str x, .str y => some (.bl (cs x.cps.toList y.cps.toList))
  | _, _ => none
def rCmp (ci : Int → Int → Bool) (cs : List Nat → List Nat → Bool) : R2 := fun x y H Q => (rI0 fun i j => .bl (ci i j)) x y H Q ∨ (∃ i j, x = .str i ∧ y = .str j ∧ Q (.bl (cs i.cps.toList j.cps.toList)) H)
theorem o2_cmp {K : PySem.W.Frag} {ci : Int → Int → Bool} {cs : List Nat → List Nat → Bool} : O2 K (rCmp ci cs) (dCmp ci cs) := o2_pure fun F H a b d x y Q s e ha hb q => by
  cases a <;> cases b <;> try (cases e; done)
  · cases e; exact .inl ⟨_, _, ha, hb, q _ rfl⟩
  · cases e; exact .inr ⟨_, _, ha, hb, q _ rfl⟩
def csLt (a b : List Nat) : Bool := decide (a < b)
def csLe (a b : List Nat) : Bool := !decide (b < a)
def ciLt (i j : Int) : Bool := decide (i < j)
def ciLe (i j : Int) : Bool := decide (i ≤ j)
def ciGt (i j : Int) : Bool := decide (j < i)
def ciGe (i j : Int) : Bool := decide (j ≤ i)
theorem op_ltA {X : Cx} : OpR X (compareOp .Lt) (rCmp ciLt csLt) := OpR.or op_lt op_lt_str
theorem op_leI {X : Cx} : OpR X (compareOp .LtE) (rI0 fun i j => .bl (ciLe i j)) := op_le
theorem op_gtI {X : Cx} : OpR X (compareOp .Gt) (rI0 fun i j => .bl (ciGt i j)) := op_gt
theorem op_geI {X : Cx} : OpR X (compareOp .GtE) (rI0 fun i j => .bl (ciGe i j)) := op_ge
def dCI (ci : Int → Int → Bool) : D → D → Option D
  | .int i, .int j => some (.bl (ci i j))
  | _, _ => none
theorem o2_ci {K : PySem.W.Frag} {ci : Int → Int → Bool} : O2 K (rI0 fun i j => .bl (ci i j)) (dCI ci) := o2_pure fun F H a b d x y Q s e ha hb q => by
  cases a <;> cases b <;> try (cases e; done)
  cases e; exact ⟨_, _, ha, hb, q _ rfl⟩
/-- in, not in -/
def strIn (x y : Str) : Bool := !(Builtin.Str.occurrences y x 0 y.length 1).isEmpty
def flatD : D → Bool
  | .non => true
  | .bl _ => true
  | .int _ => true
  | .str _ => true
  | _ => false
def eqF : D → D → Bool
  | .non, .non => true
  | .bl a, .bl b => a == b
  | .bl a, .int b => (if a then 1 else 0) == b
  | .int a, .bl b => a == (if b then 1 else 0)
  | .int a, .int b => a == b
  | .str a, .str b => a == b
  | _, _ => false
def inF (x : D) (xs : List D) : Bool := xs.any fun y => eqF y x
def inSeq (x : D) (xs : List D) : Option Bool := if flatD x = true ∧ xs.all flatD = true then some (inF x xs) else none
def inP (x : D) (xs : List D) : Option Bool := match py x, pyL xs with
  | some p, some ps => if SeqAt.shaped p = true ∧ SeqAt.shaped (.list ps) = true then some (ps.any fun z => PyData.eqv z p) else none
  | _, _ => none
def inD : D → D → Option Bool
  | .str x, .str y => some (strIn x y)
  | x, .tup xs => inSeq x xs
  | x, .lst xs => (inSeq x xs).or (inP x xs)
  | x, .fl xs => (inSeq x xs).or (inP x xs)
  | _, _ => none
def dIn (a b : D) : Option D := (inD a b).map .bl
def dNotIn (a b : D) : Option D := (inD a b).map fun c => .bl !c
theorem flat_rel {K : PySem.W.Frag} {F : Hp} {d : D} {v : V} (h : Rp K F d v) (f : flatD d = true) : flatV v = true := by
  cases d <;> first | (cases h; rfl) | (cases f)
theorem eq_rel {K : PySem.W.Frag} {F : Hp} {d e : D} {v u : V} (h : Rp K F d v) (f : flatD d = true) (h' : Rp K F e u) (f' : flatD e = true) : eqV v u = eqF d e := by
  cases d <;> first | (cases f; done) | skip
  all_goals cases e <;> first | (cases f'; done) | skip
  all_goals (cases h; cases h'; rfl)
theorem flatL_rel {K : PySem.W.Frag} {F : Hp} : ∀ {ds : List D} {vs : List V}, RpL K F ds vs → ds.all flatD = true → vs.all flatV = true
  | [], vs, h, _ => by cases h; rfl
  | d :: ds, vs, h, f => by
    obtain ⟨v, r, rfl, h1, h2⟩ := h
    simp only [List.all_cons, Bool.and_eq_true] at f ⊢
    exact ⟨flat_rel h1 f.1, flatL_rel h2 f.2⟩
theorem in_rel {K : PySem.W.Frag} {F : Hp} {d : D} {v : V} (h : Rp K F d v) (f : flatD d = true) : ∀ {ds : List D} {vs : List V}, RpL K F ds vs → ds.all flatD = true → inV v vs = inF d ds
  | [], vs, h, _ => by cases h; rfl
  | e :: ds, vs, h', f' => by
    obtain ⟨u, r, rfl, h1, h2⟩ := h'
    simp only [List.all_cons, Bool.and_eq_true] at f'
    show (eqV u v || inV v r) = (eqF e d || inF d ds)
    rw [eq_rel h1 f'.1 h f, in_rel h f h2 f'.2]
def rInA (K : PySem.W.Frag) : R2 := fun x y H Q => ((∃ i j, x = .str i ∧ y = .str j ∧ Q (.bl (!(Builtin.Str.occurrences j i 0 j.length 1).isEmpty)) H) ∨ rIn K false x y H Q) ∨ rInD K x y H Q
def rNotInA (K : PySem.W.Frag) : R2 := fun x y H Q => ((∃ i j, x = .str i ∧ y = .str j ∧ Q (.bl (!(!(Builtin.Str.occurrences j i 0 j.length 1).isEmpty))) H) ∨ rIn K true x y H Q) ∨ rNotInD K x y H Q
theorem op_inA {X : Cx} (hu : X.A.units + 65 < cLine) : OpR X (compareOp .In) (rInA X.K) := OpR.or (OpR.or op_in_str op_in_seq) (op_inD hu)
theorem op_notInA {X : Cx} (hu : X.A.units + 65 < cLine) : OpR X (compareOp .NotIn) (rNotInA X.K) := OpR.or (OpR.or op_notIn_str op_notIn_seq) (op_notInD hu)
theorem inSeq_of {K : PySem.W.Frag} {F H : Hp} {a : D} {xs : List D} {x : V} {vs : List V} {c : Bool} (e : inSeq a xs = some c) (ha : Rp K F a x) (hx : RpL K F xs vs) : flatV x = true ∧ vs.all flatV = true ∧ inV x vs = c := by
  unfold inSeq at e
  split at e
  · rename_i hf
    cases e
    exact ⟨flat_rel ha hf.1, flatL_rel hx hf.2, in_rel ha hf.1 hx hf.2⟩
  · cases e
theorem inP_of {K : PySem.W.Frag} {F H : Hp} {a : D} {xs : List D} {x : V} {p : Addr} {vs : List V} {c : Bool} (e : inP a xs = some c) (s : Same F H) (ha : Rp K F a x) (hp : SqL K H p vs) (hx : RpL K F xs vs) :
    ∃ q qs, Dp K H x q ∧ Dp K H (.ref p) (.list qs) ∧ SeqAt.shaped q = true ∧ SeqAt.shaped (.list qs) = true ∧ (qs.any fun z => PyData.eqv z q) = c := by
  unfold inP at e
  cases e1 : py a with
  | none => rw [e1] at e; cases e
  | some q =>
    cases e2 : pyL xs with
    | none => rw [e1, e2] at e; cases e
    | some qs =>
      rw [e1, e2] at e
      dsimp only at e
      split at e
      · rename_i hs
        cases e
        exact ⟨q, qs, dp_of s a x q ha e1, .lst hp (dpL_of s xs vs qs hx e2), hs.1, hs.2, rfl⟩
      · cases e
def InC (K : PySem.W.Frag) (H : Hp) (x y : V) (c : Bool) : Prop :=
    (∃ i j, x = .str i ∧ y = .str j ∧ (!(Builtin.Str.occurrences j i 0 j.length 1).isEmpty) = c) ∨
    (∃ p xs, y = .ref p ∧ (SqL K H p xs ∨ SqT K H p xs) ∧ flatV x = true ∧ xs.all flatV = true ∧ inV x xs = c) ∨
    (∃ q qs, Dp K H x q ∧ Dp K H y (.list qs) ∧ SeqAt.shaped q = true ∧ SeqAt.shaped (.list qs) = true ∧ (qs.any fun z => PyData.eqv z q) = c)
theorem inL_of {K : PySem.W.Frag} {F H : Hp} {a : D} {x : V} {c : Bool} (s : Same F H) (ha : Rp K F a x) {xs : List D} {p : Addr} {vs : List V} (e : (inSeq a xs).or (inP a xs) = some c) (h1 : SqL K H p vs) (h2 : RpL K F xs vs) : InC K H x (.ref p) c := by
  cases e1 : inSeq a xs with
  | some c' =>
    rw [e1] at e
    cases (show c' = c by simpa using e)
    obtain ⟨h3, h4, h5⟩ := inSeq_of (H := H) e1 ha h2
    exact .inr (.inl ⟨p, vs, rfl, .inl h1, h3, h4, h5⟩)
  | none =>
    rw [e1] at e
    exact .inr (.inr (inP_of (by simpa using e) s ha h1 h2))
theorem inD_of {K : PySem.W.Frag} {F H : Hp} {a b : D} {x y : V} {c : Bool} (e : inD a b = some c) (s : Same F H) (ha : Rp K F a x) (hb : Rp K F b y) : InC K H x y c := by
  unfold inD at e
  split at e
  · cases e; cases ha; cases hb
    exact .inl ⟨_, _, rfl, rfl, rfl⟩
  · obtain ⟨p, vs, rfl, h1, h2⟩ := hb
    obtain ⟨h3, h4, h5⟩ := inSeq_of (H := H) e ha h2
    exact .inr (.inl ⟨p, vs, rfl, .inr (sqT_mono s h1), h3, h4, h5⟩)
  · obtain ⟨p, vs, rfl, h1, h2⟩ := hb
    exact inL_of s ha e (.inl (.inl (s _ _ h1))) h2
  · obtain ⟨p, vs, rfl, h1, h2⟩ := hb
    exact inL_of s ha e (s.seq h1) h2
  · cases e
theorem o2_inA {K : PySem.W.Frag} : O2 K (rInA K) dIn := o2_pure fun F H a b d x y Q s e ha hb q => by
  unfold dIn at e
  obtain ⟨c, e1, rfl⟩ := Option.map_eq_some_iff.mp e
  rcases inD_of e1 s ha hb with ⟨i, j, rfl, rfl, rfl⟩ | ⟨p, xs, rfl, h1, h2, h3, rfl⟩ | ⟨u, us, h1, h2, h3, h4, rfl⟩
  · exact .inl (.inl ⟨i, j, rfl, rfl, q _ rfl⟩)
  · exact .inl (.inr ⟨p, xs, rfl, h1, h2, h3, q _ rfl⟩)
  · exact .inr ⟨u, us, h1, h2, h3, h4, q _ rfl⟩
theorem o2_notInA {K : PySem.W.Frag} : O2 K (rNotInA K) dNotIn := o2_pure fun F H a b d x y Q s e ha hb q => by
  unfold dNotIn at e
  obtain ⟨c, e1, rfl⟩ := Option.map_eq_some_iff.mp e
  rcases inD_of e1 s ha hb with ⟨i, j, rfl, rfl, rfl⟩ | ⟨p, xs, rfl, h1, h2, h3, rfl⟩ | ⟨u, us, h1, h2, h3, h4, rfl⟩
  · exact .inl (.inl ⟨i, j, rfl, rfl, q _ rfl⟩)
  · exact .inl (.inr ⟨p, xs, rfl, h1, h2, h3, q _ rfl⟩)
  · exact .inr ⟨u, us, h1, h2, h3, h4, q _ rfl⟩
/-- is None, is not None -/
def isNon : D → Bool
  | .non => true
  | _ => false
def dIs : D → D → Option D
  | a, .non => some (.bl (isNon a))
  | .bl a, .bl b => some (.bl (decide (a = b)))
  | _, _ => none
def dIsNot : D → D → Option D
  | a, .non => some (.bl !(isNon a))
  | .bl a, .bl b => some (.bl !(decide (a = b)))
  | _, _ => none
theorem isNon_rel {K : PySem.W.Frag} {F : Hp} {d : D} {v : V} (h : Rp K F d v) : decide (v = .non) = isNon d := by
  cases d with
  | non => cases h; rfl
  | bl b => cases h; rfl
  | int b => cases h; rfl
  | str b => cases h; rfl
  | tup ds => obtain ⟨a, vs, rfl, _⟩ := h; rfl
  | lst ds => obtain ⟨a, vs, rfl, _⟩ := h; rfl
  | fl ds => obtain ⟨a, vs, rfl, _⟩ := h; rfl
  | dct _ => exact False.elim h
  | obj _ _ => exact False.elim h
end VM

set_option Elab.async false
set_option linter.all false
set_option autoImplicit false
set_option maxRecDepth 100000
set_option maxHeartbeats 400000
namespace VM
open PySem PySem.Spec PyProof.Rows L2

/-! ### expressions -/
section
variable {X : Cx} {W : WX'} {a b c e : Expr} {pos : Pos} {ma mb m : M D} {mt mu : M Bool}
def mC (d : D) : M D := fun sv => .ok d sv
theorem se_const {d : D} {v : V} (h : PE X e (tC v)) (r : ∀ F, Rp X.K F d v) : SE X W e (mC d) := pe_imp h fun σ H Q q => by
  obtain ⟨g, F, sv, hK, rl, q⟩ := q
  exact q v F H (Same.refl F) rl (by show Rp g.K F d v; rw [hK]; exact r F)
theorem se_int {i j pos} : SE X W (.Constant (.int i) j pos) (mC (.int i)) := se_const pe_int fun _ => rfl
theorem se_bl {b j pos} : SE X W (.Constant (.bool b) j pos) (mC (.bl b)) := se_const pe_bl fun _ => rfl
theorem se_non {j pos} : SE X W (.Constant .none j pos) (mC .non) := se_const pe_non fun _ => rfl
theorem se_str {x j pos} : SE X W (.Constant (.str x) j pos) (mC (.str x)) := se_const pe_str fun _ => rfl
/-- a slot of plain value is read -/
def mRd (i : Nat) : M D := fun sv => match sv[i]? with
  | some (.pl d) => .ok d sv
  | _ => .bad
/-- a slot is read for good: what it owns is frozen -/
def mMv (i : Nat) : M D := fun sv => match sv[i]? with
  | some (.pl d) => .ok d sv
  | some (.ow d) => .ok d (sv.set i (.pl d))
  | _ => .bad
/-- what a slot owns is taken -/
def mTk (i : Nat) : M D := fun sv => match sv[i]? with
  | some (.ow d) => .ok d (sv.set i .un)
  | _ => .bad
theorem Rl.at {g : G} {F H : Hp} {σ : L2.St} {sv : SV} (rl : Rl g F H σ sv) {i : Nat} {s : Sl} (h : sv[i]? = some s) : SlOk g F H σ[i]? s := rl.sl i s h
theorem se_rd {i : Nat} {x : Str} {pos : Pos} (h : PE X (.Name x pos) (tVar i)) : SE X W (.Name x pos) (mRd i) := pe_imp h fun σ H Q q => by
  obtain ⟨g, F, sv, hK, rl, q⟩ := q
  unfold mRd at q
  split at q
  · rename_i d hd
    obtain ⟨v, e1, hv⟩ := rl.at hd
    exact ⟨v, e1, q v F H (Same.refl F) rl hv⟩
  · exact False.elim q
theorem set_self {α : Type} {xs : List α} {i : Nat} {x : α} (h : xs[i]? = some x) : xs.set i x = xs := by
  apply List.ext_getElem?
  intro j
  by_cases e : i = j
  · subst e
    rw [List.getElem?_set_self (List.getElem?_eq_some_iff.mp h).1, h]
  · rw [List.getElem?_set_ne e]
theorem Rl.take {g : G} {F H : Hp} {σ : L2.St} {sv : SV} {i : Nat} {d : D} (rl : Rl g F H σ sv) (h : sv[i]? = some (.ow d)) :
    ∃ p, σ[i]? = some (some (.ref p)) ∧ ¬ g.fx p ∧ OwnP g.K F H d p ∧ Rl g F H σ (sv.set i .un) ∧ ∀ j, ¬ Ref σ (sv.set i .un) j p := by
  obtain ⟨p, e1, nf, o⟩ := rl.at h
  refine ⟨p, e1, nf, o, rl.forget i, fun j hj => ?_⟩
  have hi : i < sv.length := (List.getElem?_eq_some_iff.mp h).1
  obtain ⟨⟨s, e2, e3⟩, e4⟩ := hj
  by_cases hij : i = j
  · subst hij
    rw [List.getElem?_set_self hi] at e2
    cases e2
    rcases e3 with ⟨_, z⟩ | ⟨_, _, z⟩ <;> cases z
  · rw [List.getElem?_set_ne hij] at e2
    exact hij (rl.dj i j p ⟨⟨_, h, .inl ⟨d, rfl⟩⟩, e1⟩ ⟨⟨s, e2, e3⟩, e4⟩)
theorem OwnP.rep {K : PySem.W.Frag} {F H : Hp} {d : D} {p : Addr} (o : OwnP K F H d p) : ∃ u, H p = some u ∧ Rp K (upd F p u) d (.ref p) := by
  obtain ⟨n, o⟩ := o
  cases d with
  | lst ds =>
    obtain ⟨vs, h1, h2⟩ := o
    exact ⟨_, h1, p, vs, rfl, upd_same, RpL.mono (same_upd n) _ _ h2⟩
  | _ => exact False.elim o
/-- an owned object that is in no slot is frozen -/
theorem Rl.freeze {g : G} {F H : Hp} {σ : L2.St} {sv : SV} {d : D} {p : Addr} (rl : Rl g F H σ sv) (nf : ¬ g.fx p) (o : OwnP g.K F H d p) (nr : ∀ i, ¬ Ref σ sv i p) :
    ∃ F', Same F F' ∧ Rl g F' H σ sv ∧ Rp g.K F' d (.ref p) := by
  obtain ⟨u, h1, h2⟩ := o.rep
  exact ⟨_, same_upd o.1, rl.frz nf o.1 h1 nr, h2⟩
theorem se_mv {i : Nat} {x : Str} {pos : Pos} (h : PE X (.Name x pos) (tVar i)) : SE X W (.Name x pos) (mMv i) := pe_imp h fun σ H Q q => by
  obtain ⟨g, F, sv, hK, rl, q⟩ := q
  unfold mMv at q
  split at q
  · rename_i d hd
    obtain ⟨v, e1, hv⟩ := rl.at hd
    exact ⟨v, e1, q v F H (Same.refl F) rl hv⟩
  · rename_i d hd
    obtain ⟨p, e1, nf, o, rl1, nr⟩ := rl.take hd
    obtain ⟨F', s1, rl2, rp⟩ := rl1.freeze nf o nr
    refine ⟨.ref p, e1, q _ F' H s1 ?_ rp⟩
    have rl3 := rl2.setPl i rp
    rw [set_self e1, List.set_set] at rl3
    exact rl3
  · exact False.elim q
theorem so_tk {i : Nat} {x : Str} {pos : Pos} (h : PE X (.Name x pos) (tVar i)) : SO X W (.Name x pos) (mTk i) := pe_imp h fun σ H Q q => by
  obtain ⟨g, F, sv, hK, rl, q⟩ := q
  unfold mTk at q
  split at q
  · rename_i d hd
    obtain ⟨p, e1, nf, o, rl1, nr⟩ := rl.take hd
    exact ⟨.ref p, e1, q _ F H (Same.refl F) rl1 ⟨p, rfl, nf, o, nr⟩⟩
  · exact False.elim q
/-- an owned value, frozen -/
theorem se_of (h : SO X W e m) : SE X W e m := pe_imp h fun σ H Q q => by
  obtain ⟨g, F, sv, hK, rl, q⟩ := q
  refine ⟨g, F, sv, hK, rl, ?_⟩
  revert q
  cases m sv with
  | ok d s =>
    intro q v F1 H1 e1 rl1 r1
    obtain ⟨p, rfl, nf, o, nr⟩ := r1
    obtain ⟨F', s1, rl2, rp⟩ := rl1.freeze nf o nr
    exact q _ F' H1 (e1.trans s1) rl2 rp
  | err x s => exact fun q => q
  | bad => exact fun q => q

/-! #### operators -/
theorem se_op {op : Operator} {r : R2} {f : D → D → Option D} (ho : OpR X (binaryOp op) r) (hf : O2 X.K r f) (ha : SE X W a ma) (hb : SE X W b mb) : SE X W (.BinOp a op b pos) (m2 f ma mb) := pe_imp (pe_op ho ha hb) fun σ H Q q => tg_op2 hf q
theorem se_cmp {op : CmpOp} {r : R2} {f : D → D → Option D} (ho : OpR X (compareOp op) r) (hf : O2 X.K r f) (ha : SE X W a ma) (hb : SE X W b mb) (hm : behindInMarks op b = false) : SE X W (.Compare a [op] [b] pos) (m2 f ma mb) := pe_imp (pe_cmpR ho ha hb hm) fun σ H Q q => tg_op2 hf q
theorem se_un {op : UnaryOp} {r : V → Hp → VK → Prop} {f : D → Option D} (ho : UnR X (unaryOp op) r) (hf : O1 X.K r f) (ha : SE X W a ma) : SE X W (.UnaryOp op a pos) (m1 f ma) := pe_imp (pe_un ho ha) fun σ H Q q => tg_op1 hf q
theorem se_add (ha : SE X W a ma) (hb : SE X W b mb) : SE X W (.BinOp a .Add b pos) (m2 dAdd ma mb) := se_op op_addA o2_addA ha hb
theorem se_sub (ha : SE X W a ma) (hb : SE X W b mb) : SE X W (.BinOp a .Sub b pos) (m2 (dI2 cSub) ma mb) := se_op (op_toI op_sub) o2_subI ha hb
theorem se_mul (ha : SE X W a ma) (hb : SE X W b mb) : SE X W (.BinOp a .Mult b pos) (m2 (dI2 cMul) ma mb) := se_op op_mul o2_mulI ha hb
theorem se_div (ha : SE X W a ma) (hb : SE X W b mb) : SE X W (.BinOp a .FloorDiv b pos) (m2 (dI2 cDiv) ma mb) := se_op op_fdiv o2_divI ha hb
theorem se_mod (ha : SE X W a ma) (hb : SE X W b mb) : SE X W (.BinOp a .Mod b pos) (m2 (dI2 cMod) ma mb) := se_op op_mod o2_modI ha hb
theorem se_pow (ha : SE X W a ma) (hb : SE X W b mb) : SE X W (.BinOp a .Pow b pos) (m2 (dI2 cPow) ma mb) := se_op op_pow o2_powI ha hb
theorem se_eq (hu : X.A.units + 65 < cLine) (ha : SE X W a ma) (hb : SE X W b mb) : SE X W (.Compare a [.Eq] [b] pos) (m2 dEq ma mb) := se_cmp (op_eqA (by omega)) o2_eqA ha hb (nomark _)
theorem se_ne (hu : X.A.units + 65 < cLine) (ha : SE X W a ma) (hb : SE X W b mb) : SE X W (.Compare a [.NotEq] [b] pos) (m2 dNe ma mb) := se_cmp (op_neA (by omega)) o2_neA ha hb (nomark _)
theorem se_lt (ha : SE X W a ma) (hb : SE X W b mb) : SE X W (.Compare a [.Lt] [b] pos) (m2 (dCmp ciLt csLt) ma mb) := se_cmp op_ltA o2_cmp ha hb (nomark _)
theorem se_le (ha : SE X W a ma) (hb : SE X W b mb) : SE X W (.Compare a [.LtE] [b] pos) (m2 (dCI ciLe) ma mb) := se_cmp op_leI o2_ci ha hb (nomark _)
theorem se_gt (ha : SE X W a ma) (hb : SE X W b mb) : SE X W (.Compare a [.Gt] [b] pos) (m2 (dCI ciGt) ma mb) := se_cmp op_gtI o2_ci ha hb (nomark _)
theorem se_ge (ha : SE X W a ma) (hb : SE X W b mb) : SE X W (.Compare a [.GtE] [b] pos) (m2 (dCI ciGe) ma mb) := se_cmp op_geI o2_ci ha hb (nomark _)
theorem se_in (hu : X.A.units + 65 < cLine) (ha : SE X W a ma) (hb : SE X W b mb) (hm : behindInMarks .In b = false := by rfl) : SE X W (.Compare a [.In] [b] pos) (m2 dIn ma mb) := se_cmp (op_inA hu) o2_inA ha hb hm
theorem se_notIn (hu : X.A.units + 65 < cLine) (ha : SE X W a ma) (hb : SE X W b mb) (hm : behindInMarks .NotIn b = false := by rfl) : SE X W (.Compare a [.NotIn] [b] pos) (m2 dNotIn ma mb) := se_cmp (op_notInA hu) o2_notInA ha hb hm
theorem o2_is {K : PySem.W.Frag} : O2 K (fun x y H Q => (y = .non ∧ Q (.bl (decide (x = .non))) H) ∨ rIsB x y H Q) dIs := o2_pure fun F H a b d x y Q s e ha hb q => by
  unfold dIs at e
  split at e
  · cases e; cases hb
    exact .inl ⟨rfl, q _ (congrArg V.bl (isNon_rel ha))⟩
  · cases e; cases ha; cases hb
    exact .inr ⟨_, _, rfl, rfl, q _ rfl⟩
  · cases e
theorem o2_isNot {K : PySem.W.Frag} : O2 K (fun x y H Q => (y = .non ∧ Q (.bl (!decide (x = .non))) H) ∨ rNotB x y H Q) dIsNot := o2_pure fun F H a b d x y Q s e ha hb q => by
  unfold dIsNot at e
  split at e
  · cases e; cases hb
    exact .inl ⟨rfl, q _ (by show V.bl _ = V.bl _; rw [isNon_rel ha])⟩
  · cases e; cases ha; cases hb
    exact .inr ⟨_, _, rfl, rfl, q _ rfl⟩
  · cases e
theorem se_is (ha : SE X W a ma) (hb : SE X W b mb) : SE X W (.Compare a [.Is] [b] pos) (m2 dIs ma mb) := se_cmp (OpR.or op_isN op_isBl) o2_is ha hb (nomark _)
theorem se_isNot (ha : SE X W a ma) (hb : SE X W b mb) : SE X W (.Compare a [.IsNot] [b] pos) (m2 dIsNot ma mb) := se_cmp (OpR.or op_notN op_notBl) o2_isNot ha hb (nomark _)
def dNeg : D → Option D
  | .int i => some (.int (-i))
  | _ => none
theorem o1_neg {K : PySem.W.Frag} : O1 K (rU fun i => .int (-i)) dNeg := o1_pure fun F H a d x Q s e ha q => by
  cases a <;> try (cases e; done)
  cases e; exact ⟨_, ha, q _ rfl⟩
theorem se_neg (ha : SE X W a ma) : SE X W (.UnaryOp .USub a pos) (m1 dNeg ma) := se_un un_neg o1_neg ha

/-! #### tests -/
def mB (m : M D) : M Bool := fun sv => (m sv).bind fun d s => match d with
  | .bl b => .ok b s
  | _ => .bad
def mV (m : M Bool) : M D := fun sv => (m sv).bind fun b s => .ok (.bl b) s
def mNot (m : M Bool) : M Bool := fun sv => (m sv).bind fun b s => .ok (!b) s
def mAnd (ma mb : M Bool) : M Bool := fun sv => (ma sv).bind fun b s => if b = true then mb s else .ok false s
def mOr (ma mb : M Bool) : M Bool := fun sv => (ma sv).bind fun b s => if b = true then .ok true s else mb s
theorem tg_bl {K : PySem.W.Frag} {mg : Str → Option Value} {σ : L2.St} {H : Hp} {Q : Bool → Hp → Prop} (h : tT K mg W (mB m) σ H Q) : tE K mg W m σ H fun x H1 => ∃ k, x = .bl k ∧ Q k H1 := by
  obtain ⟨g, F, sv, hK, rl, h⟩ := h
  refine ⟨g, F, sv, hK, rl, PostG.bind h fun d s1 x F1 H1 e1 rl1 rp1 h1 => ?_⟩
  cases d with
  | bl b => exact ⟨b, rp1, h1 b F1 H1 (Same.refl F1) rl1 rfl⟩
  | _ => exact False.elim h1
theorem st_val (h : SE X W e m) (he : ∀ whole, isTrue e X.env whole = (do let v ← whole; standAt e.pos; holding [v] (truthy v)) := by intro _; rfl) : ST X W e (mB m) := pt_imp (pt_val h he) fun σ H Q q => tg_bl q
theorem st_cmp {op : CmpOp} {r : R2} {f : D → D → Option D} (ho : OpR X (compareOp op) r) (hf : O2 X.K r f) (ha : SE X W a ma) (hb : SE X W b mb) (hm : behindInMarks op b = false) : ST X W (.Compare a [op] [b] pos) (mB (m2 f ma mb)) := pt_imp (pt_cmpR ho ha hb hm) fun σ H Q q => tg_op2 hf (tg_bl q)
theorem st_eq (hu : X.A.units + 65 < cLine) (ha : SE X W a ma) (hb : SE X W b mb) : ST X W (.Compare a [.Eq] [b] pos) (mB (m2 dEq ma mb)) := st_cmp (op_eqA (by omega)) o2_eqA ha hb (nomark _)
theorem st_ne (hu : X.A.units + 65 < cLine) (ha : SE X W a ma) (hb : SE X W b mb) : ST X W (.Compare a [.NotEq] [b] pos) (mB (m2 dNe ma mb)) := st_cmp (op_neA (by omega)) o2_neA ha hb (nomark _)
theorem st_lt (ha : SE X W a ma) (hb : SE X W b mb) : ST X W (.Compare a [.Lt] [b] pos) (mB (m2 (dCmp ciLt csLt) ma mb)) := st_cmp op_ltA o2_cmp ha hb (nomark _)
theorem st_le (ha : SE X W a ma) (hb : SE X W b mb) : ST X W (.Compare a [.LtE] [b] pos) (mB (m2 (dCI ciLe) ma mb)) := st_cmp op_leI o2_ci ha hb (nomark _)
theorem st_gt (ha : SE X W a ma) (hb : SE X W b mb) : ST X W (.Compare a [.Gt] [b] pos) (mB (m2 (dCI ciGt) ma mb)) := st_cmp op_gtI o2_ci ha hb (nomark _)
theorem st_ge (ha : SE X W a ma) (hb : SE X W b mb) : ST X W (.Compare a [.GtE] [b] pos) (mB (m2 (dCI ciGe) ma mb)) := st_cmp op_geI o2_ci ha hb (nomark _)
theorem st_in (hu : X.A.units + 65 < cLine) (ha : SE X W a ma) (hb : SE X W b mb) (hm : behindInMarks .In b = false := by rfl) : ST X W (.Compare a [.In] [b] pos) (mB (m2 dIn ma mb)) := st_cmp (op_inA hu) o2_inA ha hb hm
theorem st_notIn (hu : X.A.units + 65 < cLine) (ha : SE X W a ma) (hb : SE X W b mb) (hm : behindInMarks .NotIn b = false := by rfl) : ST X W (.Compare a [.NotIn] [b] pos) (mB (m2 dNotIn ma mb)) := st_cmp (op_notInA hu) o2_notInA ha hb hm
theorem st_is (ha : SE X W a ma) (hb : SE X W b mb) : ST X W (.Compare a [.Is] [b] pos) (mB (m2 dIs ma mb)) := st_cmp (OpR.or op_isN op_isBl) o2_is ha hb (nomark _)
theorem st_isNot (ha : SE X W a ma) (hb : SE X W b mb) : ST X W (.Compare a [.IsNot] [b] pos) (mB (m2 dIsNot ma mb)) := st_cmp (OpR.or op_notN op_notBl) o2_isNot ha hb (nomark _)
theorem st_not (h : ST X W a mt) : ST X W (.UnaryOp .Not a pos) (mNot mt) := pt_imp (pt_not h) fun σ H Q q => by
  obtain ⟨g, F, sv, hK, rl, q⟩ := q
  refine ⟨g, F, sv, hK, rl, PostG.bind q fun b s1 c F1 H1 e1 rl1 rp1 h1 => ?_⟩
  cases rp1
  exact h1 _ F1 H1 (Same.refl F1) rl1 rfl
abbrev SW (X : Cx) (W : WX') (e : Expr) (m : M Bool) : Prop := PW X e (tT X.K X.mg W m)
variable {rest : List Expr}
theorem sw_and1 (h : ST X W a mt) : SW X W (.BoolOp .And [a] pos) mt := pw_and1 h
theorem sw_or1 (h : ST X W a mt) : SW X W (.BoolOp .Or [a] pos) mt := pw_or1 h
theorem sw_and (ha : ST X W a mt) (hb : SW X W (.BoolOp .And (b :: rest) pos) mu) : SW X W (.BoolOp .And (a :: b :: rest) pos) (mAnd mt mu) := pw_imp (pw_and ha hb) fun σ H Q q => by
  obtain ⟨g, F, sv, hK, rl, q⟩ := q
  refine ⟨g, F, sv, hK, rl, PostG.bind q fun c s1 c' F1 H1 e1 rl1 rp1 h1 => ?_⟩
  cases rp1
  cases c with
  | true => exact ⟨g, F1, s1, hK, rl1, h1⟩
  | false => exact h1 false F1 H1 (Same.refl F1) rl1 rfl
theorem sw_or (ha : ST X W a mt) (hb : SW X W (.BoolOp .Or (b :: rest) pos) mu) : SW X W (.BoolOp .Or (a :: b :: rest) pos) (mOr mt mu) := pw_imp (pw_or ha hb) fun σ H Q q => by
  obtain ⟨g, F, sv, hK, rl, q⟩ := q
  refine ⟨g, F, sv, hK, rl, PostG.bind q fun c s1 c' F1 H1 e1 rl1 rp1 h1 => ?_⟩
  cases rp1
  cases c with
  | true => exact h1 true F1 H1 (Same.refl F1) rl1 rfl
  | false => exact ⟨g, F1, s1, hK, rl1, h1⟩
/-- and, or, not as values (of bools) -/
theorem se_one {op : BoolOp} (h : SE X W a ma) : SE X W (.BoolOp op [a] pos) ma := pe_one h
def mAndV (ma mb : M D) : M D := fun sv => (ma sv).bind fun d s => match d with
  | .bl c => if c = true then mb s else .ok (.bl false) s
  | _ => .bad
theorem se_and (ha : SE X W a ma) (hb : SE X W (.BoolOp .And (b :: rest) pos) mb) : SE X W (.BoolOp .And (a :: b :: rest) pos) (mAndV ma mb) := pe_imp (pe_and ha hb) fun σ H Q q => by
  obtain ⟨g, F, sv, hK, rl, q⟩ := q
  refine ⟨g, F, sv, hK, rl, PostG.bind q fun d s1 x F1 H1 e1 rl1 rp1 h1 => ?_⟩
  cases d with
  | bl c =>
    refine ⟨c, rp1, ?_⟩
    cases c with
    | true => exact ⟨g, F1, s1, hK, rl1, h1⟩
    | false => exact h1 _ F1 H1 (Same.refl F1) rl1 rfl
  | _ => exact False.elim h1
def mOrV (ma mb : M D) : M D := fun sv => (ma sv).bind fun d s => match d with
  | .bl c => if c = true then .ok (.bl true) s else mb s
  | _ => .bad
theorem se_or (ha : SE X W a ma) (hb : SE X W (.BoolOp .Or (b :: rest) pos) mb) : SE X W (.BoolOp .Or (a :: b :: rest) pos) (mOrV ma mb) := pe_imp (pe_or ha hb) fun σ H Q q => by
  obtain ⟨g, F, sv, hK, rl, q⟩ := q
  refine ⟨g, F, sv, hK, rl, PostG.bind q fun d s1 x F1 H1 e1 rl1 rp1 h1 => ?_⟩
  cases d with
  | bl c =>
    refine ⟨c, rp1, ?_⟩
    cases c with
    | true => exact h1 _ F1 H1 (Same.refl F1) rl1 rfl
    | false => exact ⟨g, F1, s1, hK, rl1, h1⟩
  | _ => exact False.elim h1
def dNot : D → Option D
  | .bl b => some (.bl !b)
  | _ => none
theorem se_not (ha : SE X W a ma) : SE X W (.UnaryOp .Not a pos) (m1 dNot ma) := pe_imp (pe_not ha) fun σ H Q q => by
  obtain ⟨g, F, sv, hK, rl, q⟩ := q
  refine ⟨g, F, sv, hK, rl, PostG.bind q fun d s1 x F1 H1 e1 rl1 rp1 h1 => ?_⟩
  cases d with
  | bl c => exact ⟨c, rp1, h1 _ F1 H1 (Same.refl F1) rl1 rfl⟩
  | _ => exact False.elim h1
def mIf (t : M Bool) (ma mb : M D) : M D := fun sv => (t sv).bind fun b s => if b = true then ma s else mb s
theorem se_if (hc : ST X W c mt) (ha : SE X W a ma) (hb : SE X W b mb) : SE X W (.IfExp c a b pos) (mIf mt ma mb) := pe_imp (pe_ifExp hc ha hb) fun σ H Q q => by
  obtain ⟨g, F, sv, hK, rl, q⟩ := q
  refine ⟨g, F, sv, hK, rl, PostG.bind q fun c s1 c' F1 H1 e1 rl1 rp1 h1 => ?_⟩
  cases rp1
  cases c with
  | true => exact ⟨g, F1, s1, hK, rl1, h1⟩
  | false => exact ⟨g, F1, s1, hK, rl1, h1⟩

/-! #### subscripts -/
def dIx : D → D → Option D
  | .tup xs, .int i => atI xs i
  | .lst xs, .int i => atI xs i
  | .fl xs, .int i => atI xs i
  | .str z, .int i => if z.length ≤ sizeLine then (atI z.cps.toList i).map fun c => .str ⟨#[c]⟩ else none
  | _, _ => none
theorem atI_rel {K : PySem.W.Frag} {F : Hp} {ds : List D} {vs : List V} {i : Int} {d : D} (h : RpL K F ds vs) (e : atI ds i = some d) : ∃ v, atI vs i = some v ∧ Rp K F d v := by
  unfold atI at e ⊢
  rw [← h.length]
  cases hx : ixN ds.length i with
  | none => rw [hx] at e; cases e
  | some j =>
    rw [hx] at e
    exact h.get j d e
theorem o2_ix {K : PySem.W.Frag} : O2 K (rIx K) dIx := o2_pure fun F H a b d x y Q s e ha hb q => by
  unfold dIx at e
  split at e
  · obtain ⟨p, vs, rfl, h1, h2⟩ := ha
    obtain ⟨v, e1, rv⟩ := atI_rel h2 e
    exact .inr (.inl ⟨p, vs, _, v, rfl, hb, sqT_mono s h1, e1, q v rv⟩)
  · obtain ⟨p, vs, rfl, h1, h2⟩ := ha
    obtain ⟨v, e1, rv⟩ := atI_rel h2 e
    exact .inl ⟨p, vs, _, v, rfl, hb, .inl (.inl (s _ _ h1)), e1, q v rv⟩
  · obtain ⟨p, vs, rfl, h1, h2⟩ := ha
    obtain ⟨v, e1, rv⟩ := atI_rel h2 e
    exact .inl ⟨p, vs, _, v, rfl, hb, s.seq h1, e1, q v rv⟩
  · split at e
    · obtain ⟨c, e1, rfl⟩ := Option.map_eq_some_iff.mp e
      exact .inr (.inr ⟨_, _, c, ha, hb, by assumption, e1, q _ rfl⟩)
    · cases e
  · cases e
theorem se_ix (ha : SE X W a ma) (hb : SE X W b mb) (hs : PlainIx b := by exact fun _ _ => rfl) : SE X W (.Subscript a b pos) (m2 dIx ma mb) := pe_imp (pe_ix ix_seq ha hb hs) fun σ H Q q => tg_op2 o2_ix q

/-! #### slices -/
abbrev MO := M (Option Int)
def RelOI (_ : G) (_ _ : Hp) (_ : L2.St) (_ : SV) (a b : Option Int) : Prop := b = a
abbrev SP' (X : Cx) (W : WX') (e : Option Expr) (m : MO) : Prop := PO X e (tG X.K X.mg W RelOI m)
def moN : MO := fun sv => .ok none sv
def moS (m : M D) : MO := fun sv => (m sv).bind fun d s => match d with
  | .int i => .ok (some i) s
  | _ => .bad
theorem po_imp {eo : Option Expr} {t t' : TO} (h : PO X eo t) (k : ∀ σ H Q, t' σ H Q → t σ H Q) : PO X eo t' := ⟨fun pins s σ H Q I q => h.run pins s σ H Q I (k σ H Q q)⟩
theorem sp_none : SP' X W none moN := po_imp po_none fun σ H Q q => by
  obtain ⟨g, F, sv, hK, rl, q⟩ := q
  exact q none F H (Same.refl F) rl rfl
theorem sp_some (h : SE X W a ma) : SP' X W (some a) (moS ma) := po_imp (po_some h) fun σ H Q q => by
  obtain ⟨g, F, sv, hK, rl, q⟩ := q
  refine ⟨g, F, sv, hK, rl, PostG.bind q fun d s1 x F1 H1 e1 rl1 rp1 h1 => ?_⟩
  cases d with
  | int i => exact ⟨i, rp1, h1 _ F1 H1 (Same.refl F1) rl1 rfl⟩
  | _ => exact False.elim h1
def cutD {α : Type} (xs : List α) (lo hi : Option Int) : List α := (xs.drop (HT.sIx xs.length 0 lo)).take (HT.sIx xs.length xs.length hi - HT.sIx xs.length 0 lo)
def dSl : D → Option Int → Option Int → Option D
  | .tup xs, lo, hi => some (.tup (cutD xs lo hi))
  | .lst xs, lo, hi => some (.lst (cutD xs lo hi))
  | .fl xs, lo, hi => some (.lst (cutD xs lo hi))
  | .str z, lo, hi => if z.length ≤ sizeLine then some (.str (cutS z lo hi)) else none
  | _, _, _ => none
def mSl (m : M D) (ml mh : MO) : M D := fun sv => (m sv).bind fun d s1 => (ml s1).bind fun lo s2 => (mh s2).bind fun hi s3 => match dSl d lo hi with
  | some r => .ok r s3
  | none => .bad
def rSlAll (K : PySem.W.Frag) : V → Option Int → Option Int → Hp → VK → Prop := fun x lo hi H Q => (rSlL K x lo hi H Q ∨ rSlA K x lo hi H Q) ∨ rSlS x lo hi H Q
theorem sl_all : SlR X (rSlAll X.K) := SlR.or (SlR.or sl_list sl_tupA) sl_str
theorem cut_rel {K : PySem.W.Frag} {F : Hp} {ds : List D} {vs : List V} (lo hi : Option Int) (h : RpL K F ds vs) : RpL K F (cutD ds lo hi) (cutV vs lo hi) := by
  unfold cutD cutV
  rw [← h.length]
  exact (h.drop _).take _
theorem se_slice {eo eu : Option Expr} {p2 : Pos} {ml mh : MO} (ha : SE X W a ma) (hl : SP' X W eo ml) (hu : SP' X W eu mh) : SE X W (.Subscript a (.Slice eo eu none p2) pos) (mSl ma ml mh) := pe_imp (pe_slice sl_all ha hl hu) fun σ H Q q => by
  obtain ⟨g, F, sv, hK, rl, q⟩ := q
  refine ⟨g, F, sv, hK, rl, PostG.bind q fun d s1 x F1 H1 e1 rl1 rp1 h1 => ?_⟩
  refine ⟨g, F1, s1, hK, rl1, PostG.bind h1 fun lo s2 lo' F2 H2 e2 rl2 rp2 h2 => ?_⟩
  refine ⟨g, F2, s2, hK, rl2, PostG.bind h2 fun hi s3 hi' F3 H3 e3 rl3 rp3 h3 => ?_⟩
  cases rp2; cases rp3
  have rp : Rp g.K F3 d x := Rp.mono (e2.trans e3) _ _ rp1
  rw [← hK]
  have list : ∀ {ds : List D} {p : Addr} {vs : List V}, x = .ref p → SqL g.K H3 p vs → RpL g.K F3 ds vs → PostG X.mg g F3 σ (.ok (.lst (cutD ds lo hi)) s3) W RelE Q → rSlAll g.K x lo hi H3 Q := fun {ds p vs} ex h4 h5 h6 => by
    refine .inl (.inl ⟨p, vs, ex, h4, fun l hl => ?_⟩)
    have sF : Same F3 (upd F3 l (.lst (cutV vs lo hi))) := same_upd (rl3.sub.free hl)
    exact h6 _ _ _ sF (rl3.lay hl) ⟨l, _, rfl, upd_same, RpL.mono sF _ _ (cut_rel lo hi h5)⟩
  cases d with
  | tup ds =>
    obtain ⟨p, vs, rfl, h4, h5⟩ := rp
    have h5' := cut_rel lo hi h5
    refine .inl (.inr ⟨p, vs, rfl, sqT_mono rl3.sub h4, fun w => ?_, fun w l hl => ?_⟩)
    · refine h3 _ F3 H3 (Same.refl F3) rl3 ⟨p, vs, rfl, h4, ?_⟩
      have : cutV vs lo hi = vs := by
        unfold cutV
        rw [w.1, w.2]
        simp
      rwa [this] at h5'
    · have sF : Same F3 (upd F3 l (.tup (cutV vs lo hi))) := same_upd (rl3.sub.free hl)
      exact h3 _ _ _ sF (rl3.lay hl) ⟨l, _, rfl, .inl (.inl upd_same), RpL.mono sF _ _ h5'⟩
  | lst ds =>
    obtain ⟨p, vs, rfl, h4, h5⟩ := rp
    exact list rfl (.inl (.inl (rl3.sub _ _ h4))) h5 h3
  | fl ds =>
    obtain ⟨p, vs, rfl, h4, h5⟩ := rp
    exact list rfl (rl3.sub.seq h4) h5 h3
  | str z =>
    have h3' : PostG X.mg g F3 σ (match dSl (.str z) lo hi with | some r => .ok r s3 | none => .bad) W RelE Q := h3
    simp only [dSl] at h3'
    split at h3'
    · rename_i r hr
      split at hr
      · cases hr
        exact .inr ⟨z, rp, by assumption, h3' _ F3 H3 (Same.refl F3) rl3 rfl⟩
      · cases hr
    · exact False.elim h3'
  | _ => exact False.elim h3

/-! #### arguments, displays -/
def RelL (g : G) (F' _H' : Hp) (_ : L2.St) (_ : SV) (ds : List D) (vs : List V) : Prop := RpL g.K F' ds vs
abbrev SA (X : Cx) (W : WX') (es : List Expr) (m : M (List D)) : Prop := PA X es (tG X.K X.mg W RelL m)
theorem pa_imp {es : List Expr} {t t' : TA} (h : PA X es t) (k : ∀ σ H Q, t' σ H Q → t σ H Q) : PA X es t' := ⟨fun p pins s σ H Q I q => h.run p pins s σ H Q I (k σ H Q q)⟩
def mNil : M (List D) := fun sv => .ok [] sv
def mCons (m : M D) (ms : M (List D)) : M (List D) := fun sv => (m sv).bind fun d s1 => (ms s1).bind fun ds s2 => .ok (d :: ds) s2
variable {es : List Expr} {ms : M (List D)}
theorem sa_nil : SA X W [] mNil := pa_imp pa_nil fun σ H Q q => by
  obtain ⟨g, F, sv, hK, rl, q⟩ := q
  exact q [] F H (Same.refl F) rl rfl
theorem sa_cons (ha : SE X W e m) (hr : SA X W es ms) (hs : starEach (e :: es) X.env = (false, eval e X.env) :: starEach es X.env := by rfl) : SA X W (e :: es) (mCons m ms) := pa_imp (pa_cons ha hr hs) fun σ H Q q => by
  obtain ⟨g, F, sv, hK, rl, q⟩ := q
  refine ⟨g, F, sv, hK, rl, PostG.bind q fun d s1 x F1 H1 e1 rl1 rp1 h1 => ?_⟩
  refine ⟨g, F1, s1, hK, rl1, PostG.bind h1 fun ds s2 xs F2 H2 e2 rl2 rp2 h2 => ?_⟩
  exact h2 _ F2 H2 (Same.refl F2) rl2 ⟨x, xs, rfl, Rp.mono e2 _ _ rp1, rp2⟩
def mTup (ms : M (List D)) : M D := fun sv => (ms sv).bind fun ds s => if ds.length ≤ sizeLine then .ok (.tup ds) s else .bad
def mLst (ms : M (List D)) : M D := fun sv => (ms sv).bind fun ds s => if ds.length ≤ sizeLine then .ok (.lst ds) s else .bad
theorem se_tup {x1} (h : SA X W es ms) : SE X W (.Tuple es x1 pos) (mTup ms) := pe_imp (pe_tup h) fun σ H Q q => by
  obtain ⟨g, F, sv, hK, rl, q⟩ := q
  refine ⟨g, F, sv, hK, rl, PostG.bind q fun ds s1 vs F1 H1 e1 rl1 rp1 h1 => ?_⟩
  split at h1
  · refine ⟨by rw [← RpL.length rp1]; assumption, fun p hp => ?_⟩
    have sF : Same F1 (upd F1 p (.tup vs)) := same_upd (rl1.sub.free hp)
    exact h1 _ _ _ sF (rl1.lay hp) ⟨p, _, rfl, .inl (.inl upd_same), RpL.mono sF _ _ rp1⟩
  · exact False.elim h1
theorem so_lst (h : SA X W es ms) : SO X W (.List es pos) (mLst ms) := pe_imp (pe_lst h) fun σ H Q q => by
  obtain ⟨g, F, sv, hK, rl, q⟩ := q
  refine ⟨g, F, sv, hK, rl, PostG.bind q fun ds s1 vs F1 H1 e1 rl1 rp1 h1 => ?_⟩
  split at h1
  · refine ⟨by rw [← RpL.length rp1]; assumption, fun p hp => ?_⟩
    exact h1 _ _ _ (Same.refl F1) (rl1.layO hp) ⟨p, rfl, rl1.nofx hp, ⟨rl1.sub.free hp, vs, upd_same, rp1⟩, fun i hi => rl1.noRef hp i hi⟩
  · exact False.elim h1
theorem se_lst (h : SA X W es ms) : SE X W (.List es pos) (mLst ms) := se_of (so_lst h)
/-- xs * k: a new list -/
def dRep : D → D → Option D
  | .lst xs, .int k => if -(2 ^ 63) ≤ k ∧ k < 2 ^ 63 ∧ xs.length * k.toNat ≤ sizeLine then some (.lst (List.replicate k.toNat xs).flatten) else none
  | _, _ => none
theorem rep_rel {K : PySem.W.Frag} {F : Hp} {ds : List D} {vs : List V} (h : RpL K F ds vs) : ∀ n : Nat, RpL K F (List.replicate n ds).flatten (List.replicate n vs).flatten
  | 0 => rfl
  | n + 1 => by
    rw [List.replicate_succ, List.replicate_succ, List.flatten_cons, List.flatten_cons]
    exact h.append (rep_rel h n)
theorem so_rep (ha : SE X W a ma) (hb : SE X W b mb) : SO X W (.BinOp a .Mult b pos) (m2 dRep ma mb) := pe_imp (pe_op op_rep ha hb) fun σ H Q q => by
  obtain ⟨g, F, sv, hK, rl, q⟩ := q
  refine ⟨g, F, sv, hK, rl, PostG.bind q fun d s1 x F1 H1 e1 rl1 rp1 h1 => ?_⟩
  refine ⟨g, F1, s1, hK, rl1, PostG.bind h1 fun d2 s2 y F2 H2 e2 rl2 rp2 h2 => ?_⟩
  cases hd : dRep d d2 with
  | none => rw [hd] at h2; exact False.elim h2
  | some r =>
    rw [hd] at h2
    unfold dRep at hd
    split at hd
    · split at hd
      · rename_i hz
        cases hd
        obtain ⟨p, vs, rfl, h4, h5⟩ := (Rp.mono e2 _ _ rp1 : Rp g.K F2 (.lst _) x)
        refine ⟨p, _, vs, rfl, rp2, rl2.sub _ _ h4, hz.1, hz.2.1, by rw [← h5.length]; exact hz.2.2, fun l hl => ?_⟩
        exact h2 _ _ _ (Same.refl F2) (rl2.layO hl) ⟨l, rfl, rl2.nofx hl, ⟨rl2.sub.free hl, _, upd_same, rep_rel h5 _⟩, fun i hi => rl2.noRef hl i hi⟩
      · cases hd
    · cases hd
theorem se_rep (ha : SE X W a ma) (hb : SE X W b mb) : SE X W (.BinOp a .Mult b pos) (m2 dRep ma mb) := se_of (so_rep ha hb)
end
end VM

set_option Elab.async false
set_option linter.all false
set_option autoImplicit false
set_option maxRecDepth 100000
set_option maxHeartbeats 400000
namespace VM
open PySem PySem.Spec PyProof.Rows L2

/-! ### built-ins called with values -/
def OC (K : PySem.W.Frag) (r : List V → Hp → VK → Prop) (f : List D → Option D) : Prop :=
  ∀ (g : G) (F H : Hp) (σ : L2.St) (sv : SV) (ds : List D) (d : D) (vs : List V) (Q : VK), g.K = K → Rl g F H σ sv → f ds = some d → RpL K F ds vs →
    (∀ v F' H', Same F F' → Rl g F' H' σ sv → Rp K F' d v → Q v H') → r vs H Q
/-- .. whose answer is a new, owned object -/
def OCO (K : PySem.W.Frag) (r : List V → Hp → VK → Prop) (f : List D → Option D) : Prop :=
  ∀ (g : G) (F H : Hp) (σ : L2.St) (sv : SV) (ds : List D) (d : D) (vs : List V) (Q : VK), g.K = K → Rl g F H σ sv → f ds = some d → RpL K F ds vs →
    (∀ v F' H', Same F F' → Rl g F' H' σ sv → RelO' g F' H' σ sv d v → Q v H') → r vs H Q
def mCall1 (f : List D → Option D) (ms : M (List D)) : M D := fun sv => (ms sv).bind fun ds s => match f ds with
  | some d => .ok d s
  | none => .bad
theorem oc_pure {K : PySem.W.Frag} {r : List V → Hp → VK → Prop} {f : List D → Option D} (h : ∀ (F H : Hp) (ds : List D) (d : D) (vs : List V) (Q : VK), Same F H → f ds = some d → RpL K F ds vs → (∀ v, Rp K F d v → Q v H) → r vs H Q) : OC K r f :=
  fun g F H σ sv ds d vs Q _ rl e hv q => h F H ds d vs Q rl.sub e hv fun v rv => q v F H (Same.refl F) rl rv
theorem OC.or {K : PySem.W.Frag} {r r' : List V → Hp → VK → Prop} {f f' : List D → Option D} (h : OC K r f) (h' : OC K r' f') : OC K (fun x H Q => r x H Q ∨ r' x H Q) (fun a => (f a).or (f' a)) := by
  intro g F H σ sv ds d vs Q hK rl e hv q
  dsimp only at e
  cases e1 : f ds with
  | some d' =>
    rw [e1] at e
    cases (show d' = d by simpa using e)
    exact .inl (h g F H σ sv ds d vs Q hK rl e1 hv q)
  | none =>
    rw [e1] at e
    exact .inr (h' g F H σ sv ds d vs Q hK rl (by simpa using e) hv q)
section
variable {X : Cx} {W : WX'} {x : Str} {p pos : Pos} {e : Expr} {es : List Expr} {ms : M (List D)} {id T : String} {r : List V → Hp → VK → Prop} {f : List D → Option D}
theorem tg_call {K : PySem.W.Frag} {mg : Str → Option Value} (hf : OC K r f) {σ : L2.St} {H : Hp} {Q : VK} (h : tE K mg W (mCall1 f ms) σ H Q) : tCB r (tG K mg W RelL ms) σ H Q := by
  obtain ⟨g, F, sv, hK, rl, h⟩ := h
  refine ⟨g, F, sv, hK, rl, PostG.bind h fun ds s1 vs F1 H1 e1 rl1 rp1 h1 => ?_⟩
  subst hK
  cases hd : f ds with
  | none => rw [hd] at h1; exact False.elim h1
  | some d =>
    rw [hd] at h1
    exact hf g F1 H1 σ s1 ds d vs Q rfl rl1 hd rp1 fun v F' H' e3 rl3 rp3 => h1 v F' H' e3 rl3 rp3
theorem tg_callO {K : PySem.W.Frag} {mg : Str → Option Value} (hf : OCO K r f) {σ : L2.St} {H : Hp} {Q : VK} (h : tO K mg W (mCall1 f ms) σ H Q) : tCB r (tG K mg W RelL ms) σ H Q := by
  obtain ⟨g, F, sv, hK, rl, h⟩ := h
  refine ⟨g, F, sv, hK, rl, PostG.bind h fun ds s1 vs F1 H1 e1 rl1 rp1 h1 => ?_⟩
  subst hK
  cases hd : f ds with
  | none => rw [hd] at h1; exact False.elim h1
  | some d =>
    rw [hd] at h1
    exact hf g F1 H1 σ s1 ds d vs Q rfl rl1 hd rp1 fun v F' H' e3 rl3 rp3 => h1 v F' H' e3 rl3 rp3
theorem se_callB (hc : CallR X (.builtin id) r) (hf : OC X.K r f) (hg : Gl X x) (hm : X.mg x = none) (hv : bootBuiltins x = some (.builtin id)) (ha : SA X W (e :: es) ms) (hn : x ≠ "__name__" := by decide) (hdb : (x == ("__debug__" : Str)) = false := by decide)
    (h1 : starEach (e :: es) X.env = (false, eval e X.env) :: starEach es X.env := by rfl) (h2 : (backTo pos (starEach es X.env)).any (·.1) = false := by rfl) : SE X W (.Call (.Name x p) (e :: es) [] pos) (mCall1 f ms) :=
  pe_imp (pe_callB hc hg hm hv ha hn hdb h1 h2) fun σ H Q q => tg_call hf q
theorem so_callB (hc : CallR X (.builtin id) r) (hf : OCO X.K r f) (hg : Gl X x) (hm : X.mg x = none) (hv : bootBuiltins x = some (.builtin id)) (ha : SA X W (e :: es) ms) (hn : x ≠ "__name__" := by decide) (hdb : (x == ("__debug__" : Str)) = false := by decide)
    (h1 : starEach (e :: es) X.env = (false, eval e X.env) :: starEach es X.env := by rfl) (h2 : (backTo pos (starEach es X.env)).any (·.1) = false := by rfl) : SO X W (.Call (.Name x p) (e :: es) [] pos) (mCall1 f ms) :=
  pe_imp (pe_callB hc hg hm hv ha hn hdb h1 h2) fun σ H Q q => tg_callO hf q
theorem se_callTy (hc : CallR X (.type T) r) (hf : OC X.K r f) (hg : Gl X x) (hm : X.mg x = none) (hv : bootBuiltins x = some (.type T)) (ha : SA X W (e :: es) ms) (hn : x ≠ "__name__" := by decide) (hdb : (x == ("__debug__" : Str)) = false := by decide)
    (h1 : starEach (e :: es) X.env = (false, eval e X.env) :: starEach es X.env := by rfl) (h2 : (backTo pos (starEach es X.env)).any (·.1) = false := by rfl) : SE X W (.Call (.Name x p) (e :: es) [] pos) (mCall1 f ms) :=
  pe_imp (pe_callTy hc hg hm hv ha hn hdb h1 h2) fun σ H Q q => tg_call hf q
theorem so_callTy (hc : CallR X (.type T) r) (hf : OCO X.K r f) (hg : Gl X x) (hm : X.mg x = none) (hv : bootBuiltins x = some (.type T)) (ha : SA X W (e :: es) ms) (hn : x ≠ "__name__" := by decide) (hdb : (x == ("__debug__" : Str)) = false := by decide)
    (h1 : starEach (e :: es) X.env = (false, eval e X.env) :: starEach es X.env := by rfl) (h2 : (backTo pos (starEach es X.env)).any (·.1) = false := by rfl) : SO X W (.Call (.Name x p) (e :: es) [] pos) (mCall1 f ms) :=
  pe_imp (pe_callTy hc hg hm hv ha hn hdb h1 h2) fun σ H Q q => tg_callO hf q

/-! #### len, int, tuple, list, min, max, sorted, repr -/
def dLen : List D → Option D
  | [.tup xs] => some (.int xs.length)
  | [.lst xs] => some (.int xs.length)
  | [.fl xs] => some (.int xs.length)
  | [.str z] => if z.length ≤ sizeLine then some (.int z.length) else none
  | _ => none
def dInt : List D → Option D
  | [.int i] => some (.int i)
  | [.bl b] => some (.int (if b then 1 else 0))
  | _ => none
def dTuple : List D → Option D
  | [.tup xs] => some (.tup xs)
  | [.lst xs] => some (.tup xs)
  | [.fl xs] => some (.tup xs)
  | _ => none
def dList : List D → Option D
  | [.tup xs] => some (.lst xs)
  | [.lst xs] => some (.lst xs)
  | [.fl xs] => some (.lst xs)
  | _ => none
def dMin2 : List D → Option D
  | [.int i, .int j] => some (.int (if j < i then j else i))
  | _ => none
def dMax2 : List D → Option D
  | [.int i, .int j] => some (.int (if j > i then j else i))
  | _ => none
theorem RpL.one_inv {K : PySem.W.Frag} {F : Hp} {d : D} {vs : List V} (h : RpL K F [d] vs) : ∃ v, vs = [v] ∧ Rp K F d v := by
  obtain ⟨v, r, rfl, h1, rfl⟩ := h
  exact ⟨v, rfl, h1⟩
theorem oc_len {K : PySem.W.Frag} : OC K (fun xs H Q => (∃ p ys, xs = [.ref p] ∧ (SqL K H p ys ∨ SqT K H p ys) ∧ Q (.int ys.length) H) ∨ (∃ z, xs = [.str z] ∧ z.length ≤ sizeLine ∧ Q (.int z.length) H)) dLen := oc_pure fun F H ds d vs Q s e hv q => by
  unfold dLen at e
  split at e
  · cases e
    obtain ⟨v, rfl, p, us, rfl, h1, h2⟩ := hv.one_inv
    exact .inl ⟨p, us, rfl, .inr (sqT_mono s h1), q _ (by rw [← h2.length]; rfl)⟩
  · cases e
    obtain ⟨v, rfl, p, us, rfl, h1, h2⟩ := hv.one_inv
    exact .inl ⟨p, us, rfl, .inl (.inl (.inl (s _ _ h1))), q _ (by rw [← h2.length]; rfl)⟩
  · cases e
    obtain ⟨v, rfl, p, us, rfl, h1, h2⟩ := hv.one_inv
    exact .inl ⟨p, us, rfl, .inl (s.seq h1), q _ (by rw [← h2.length]; rfl)⟩
  · split at e
    · cases e
      obtain ⟨v, rfl, h1⟩ := hv.one_inv
      cases h1
      exact .inr ⟨_, rfl, by assumption, q _ rfl⟩
    · cases e
  · cases e
theorem oc_int {K : PySem.W.Frag} : OC K (fun xs H Q => (∃ i, xs = [V.int i] ∧ Q (.int i) H) ∨ ∃ k, xs = [V.bl k] ∧ Q (.int (if k then 1 else 0)) H) dInt := oc_pure fun F H ds d vs Q s e hv q => by
  unfold dInt at e
  split at e
  · cases e
    obtain ⟨v, rfl, h1⟩ := hv.one_inv
    cases h1
    exact .inl ⟨_, rfl, q _ rfl⟩
  · cases e
    obtain ⟨v, rfl, h1⟩ := hv.one_inv
    cases h1
    exact .inr ⟨_, rfl, q _ rfl⟩
  · cases e
theorem oc_tuple {K : PySem.W.Frag} : OC K (fun xs H Q => ∃ p ys, xs = [V.ref p] ∧ ((SqL K H p ys ∧ ∀ l, H l = none → Q (.ref l) (upd H l (.tup ys))) ∨ (SqT K H p ys ∧ Q (.ref p) H))) dTuple := by
  intro g F H σ sv ds d vs Q hK rl e hv q
  have list : ∀ {xs : List D} {p : Addr} {us : List V}, SqL K H p us → RpL K F xs us → d = .tup xs → ∃ p' ys, [V.ref p] = [V.ref p'] ∧ ((SqL K H p' ys ∧ ∀ l, H l = none → Q (.ref l) (upd H l (.tup ys))) ∨ (SqT K H p' ys ∧ Q (.ref p') H)) := fun {xs p us} h1 h2 ed => by
    subst ed
    refine ⟨p, us, rfl, .inl ⟨h1, fun l hl => ?_⟩⟩
    have sF : Same F (upd F l (.tup us)) := same_upd (rl.sub.free hl)
    exact q _ _ _ sF (rl.lay hl) ⟨l, _, rfl, .inl (.inl upd_same), RpL.mono sF _ _ h2⟩
  unfold dTuple at e
  split at e
  · cases e
    obtain ⟨v, rfl, p, us, rfl, h1, h2⟩ := hv.one_inv
    exact ⟨p, us, rfl, .inr ⟨sqT_mono rl.sub h1, q _ F H (Same.refl F) rl ⟨p, us, rfl, h1, h2⟩⟩⟩
  · cases e
    obtain ⟨v, rfl, p, us, rfl, h1, h2⟩ := hv.one_inv
    exact list (.inl (.inl (rl.sub _ _ h1))) h2 rfl
  · cases e
    obtain ⟨v, rfl, p, us, rfl, h1, h2⟩ := hv.one_inv
    exact list (rl.sub.seq h1) h2 rfl
  · cases e
theorem oc_list {K : PySem.W.Frag} : OCO K (fun xs H Q => ∃ p ys, xs = [V.ref p] ∧ (SqL K H p ys ∨ SqT K H p ys) ∧ ∀ l, H l = none → Q (.ref l) (upd H l (.lst ys))) dList := by
  intro g F H σ sv ds d vs Q hK rl e hv q
  subst hK
  have fin : ∀ {xs : List D} {us : List V}, RpL g.K F xs us → d = .lst xs → ∀ l, H l = none → Q (.ref l) (upd H l (.lst us)) := fun {xs us} h2 ed l hl => by
    subst ed
    exact q _ F _ (Same.refl F) (rl.layO hl) ⟨l, rfl, rl.nofx hl, ⟨rl.sub.free hl, us, upd_same, h2⟩, fun i hi => rl.noRef hl i hi⟩
  unfold dList at e
  split at e
  · cases e
    obtain ⟨v, rfl, p, us, rfl, h1, h2⟩ := hv.one_inv
    exact ⟨p, us, rfl, .inr (sqT_mono rl.sub h1), fin h2 rfl⟩
  · cases e
    obtain ⟨v, rfl, p, us, rfl, h1, h2⟩ := hv.one_inv
    exact ⟨p, us, rfl, .inl (.inl (.inl (rl.sub _ _ h1))), fin h2 rfl⟩
  · cases e
    obtain ⟨v, rfl, p, us, rfl, h1, h2⟩ := hv.one_inv
    exact ⟨p, us, rfl, .inl (rl.sub.seq h1), fin h2 rfl⟩
  · cases e
theorem RpL.two_inv {K : PySem.W.Frag} {F : Hp} {d e : D} {vs : List V} (h : RpL K F [d, e] vs) : ∃ v u, vs = [v, u] ∧ Rp K F d v ∧ Rp K F e u := by
  obtain ⟨v, r, rfl, h1, u, r', rfl, h2, rfl⟩ := h
  exact ⟨v, u, rfl, h1, h2⟩
theorem oc_min2 {K : PySem.W.Frag} : OC K (fun xs H Q => ∃ i j, xs = [V.int i, V.int j] ∧ Q (.int (if j < i then j else i)) H) dMin2 := oc_pure fun F H ds d vs Q s e hv q => by
  unfold dMin2 at e
  split at e
  · cases e
    obtain ⟨v, u, rfl, h1, h2⟩ := hv.two_inv
    cases h1; cases h2
    exact ⟨_, _, rfl, q _ rfl⟩
  · cases e
theorem oc_max2 {K : PySem.W.Frag} : OC K (fun xs H Q => ∃ i j, xs = [V.int i, V.int j] ∧ Q (.int (if j > i then j else i)) H) dMax2 := oc_pure fun F H ds d vs Q s e hv q => by
  unfold dMax2 at e
  split at e
  · cases e
    obtain ⟨v, u, rfl, h1, h2⟩ := hv.two_inv
    cases h1; cases h2
    exact ⟨_, _, rfl, q _ rfl⟩
  · cases e
theorem se_len (hg : Gl X "len") (hm : X.mg "len" = none) (ha : SA X W (e :: es) ms)
    (h1 : starEach (e :: es) X.env = (false, eval e X.env) :: starEach es X.env := by rfl) (h2 : (backTo pos (starEach es X.env)).any (·.1) = false := by rfl) : SE X W (.Call (.Name "len" p) (e :: es) [] pos) (mCall1 dLen ms) :=
  se_callB (CallR.or call_len_seq call_len_str) oc_len hg hm PySem.boot_len ha (by decide) (by decide) h1 h2
theorem boot_int' : bootBuiltins "int" = some (.type "int") := by decide +kernel
theorem boot_tuple' : bootBuiltins "tuple" = some (.type "tuple") := by decide +kernel
theorem boot_list' : bootBuiltins "list" = some (.type "list") := by decide +kernel
theorem boot_min' : bootBuiltins "min" = some (.builtin "min") := by decide +kernel
theorem boot_max' : bootBuiltins "max" = some (.builtin "max") := by decide +kernel
theorem boot_sorted' : bootBuiltins "sorted" = some (.builtin "sorted") := by decide +kernel
theorem boot_repr' : bootBuiltins "repr" = some (.builtin "repr") := by decide +kernel
theorem boot_isinstance' : bootBuiltins "isinstance" = some (.builtin "isinstance") := by decide +kernel
theorem se_intc (hg : Gl X "int") (hm : X.mg "int" = none) (ha : SA X W (e :: es) ms)
    (h1 : starEach (e :: es) X.env = (false, eval e X.env) :: starEach es X.env := by rfl) (h2 : (backTo pos (starEach es X.env)).any (·.1) = false := by rfl) : SE X W (.Call (.Name "int" p) (e :: es) [] pos) (mCall1 dInt ms) :=
  se_callTy call_int1 oc_int hg hm boot_int' ha (by decide) (by decide) h1 h2
theorem se_tuplec (hg : Gl X "tuple") (hm : X.mg "tuple" = none) (ha : SA X W (e :: es) ms)
    (h1 : starEach (e :: es) X.env = (false, eval e X.env) :: starEach es X.env := by rfl) (h2 : (backTo pos (starEach es X.env)).any (·.1) = false := by rfl) : SE X W (.Call (.Name "tuple" p) (e :: es) [] pos) (mCall1 dTuple ms) :=
  se_callTy call_tuple_of oc_tuple hg hm boot_tuple' ha (by decide) (by decide) h1 h2
theorem so_listc (hg : Gl X "list") (hm : X.mg "list" = none) (ha : SA X W (e :: es) ms)
    (h1 : starEach (e :: es) X.env = (false, eval e X.env) :: starEach es X.env := by rfl) (h2 : (backTo pos (starEach es X.env)).any (·.1) = false := by rfl) : SO X W (.Call (.Name "list" p) (e :: es) [] pos) (mCall1 dList ms) :=
  so_callTy call_list_of oc_list hg hm boot_list' ha (by decide) (by decide) h1 h2
theorem se_min (hc : X.calm = true) (hg : Gl X "min") (hm : X.mg "min" = none) (ha : SA X W (e :: es) ms)
    (h1 : starEach (e :: es) X.env = (false, eval e X.env) :: starEach es X.env := by rfl) (h2 : (backTo pos (starEach es X.env)).any (·.1) = false := by rfl) : SE X W (.Call (.Name "min" p) (e :: es) [] pos) (mCall1 dMin2 ms) :=
  se_callB (call_min2 hc) oc_min2 hg hm boot_min' ha (by decide) (by decide) h1 h2
theorem se_max (hc : X.calm = true) (hg : Gl X "max") (hm : X.mg "max" = none) (ha : SA X W (e :: es) ms)
    (h1 : starEach (e :: es) X.env = (false, eval e X.env) :: starEach es X.env := by rfl) (h2 : (backTo pos (starEach es X.env)).any (·.1) = false := by rfl) : SE X W (.Call (.Name "max" p) (e :: es) [] pos) (mCall1 dMax2 ms) :=
  se_callB (call_max2 hc) oc_max2 hg hm boot_max' ha (by decide) (by decide) h1 h2

/-- sorted of a list of texts -/
def leS (a b : Str) : Bool := !ltCps b.cps.toList a.cps.toList
def sortS (xs : List Str) : List Str := xs.mergeSort leS
theorem lt_irr : ∀ a : List Nat, ltCps a a = false
  | [] => rfl
  | x :: a => by simp [ltCps, lt_irr a]
theorem lt_tri : ∀ a b : List Nat, ltCps a b = false → ltCps b a = false → a = b
  | [], [], _, _ => rfl
  | [], _ :: _, h, _ => by cases h
  | _ :: _, [], _, h => by cases h
  | x :: a, y :: b, h, h' => by
    simp only [ltCps, Bool.or_eq_false_iff, Bool.and_eq_false_iff, decide_eq_false_iff_not, beq_eq_false_iff_ne] at h h'
    have e : x = y := by omega
    subst e
    have h2 : ltCps a b = false := by rcases h.2 with z | z; exact absurd rfl z; exact z
    have h3 : ltCps b a = false := by rcases h'.2 with z | z; exact absurd rfl z; exact z
    rw [lt_tri a b h2 h3]
theorem lt_trans' : ∀ a b c : List Nat, ltCps a b = true → ltCps b c = true → ltCps a c = true
  | [], [], _, h, _ => by cases h
  | [], _ :: _, [], _, h => by cases h
  | [], _ :: _, _ :: _, _, _ => rfl
  | _ :: _, [], _, h, _ => by cases h
  | _ :: _, _ :: _, [], _, h => by cases h
  | x :: a, y :: b, z :: c, h, h' => by
    simp only [ltCps, Bool.or_eq_true, Bool.and_eq_true, decide_eq_true_eq, beq_iff_eq] at h h' ⊢
    rcases h with h | ⟨h, h2⟩
    · rcases h' with h' | ⟨h', h3⟩
      · exact .inl (by omega)
      · exact .inl (by omega)
    · rcases h' with h' | ⟨h', h3⟩
      · exact .inl (by omega)
      · exact .inr ⟨by omega, lt_trans' a b c h2 h3⟩
theorem le_trans' (a b c : Str) (h : leS a b = true) (h' : leS b c = true) : leS a c = true := by
  unfold leS at *
  simp only [Bool.not_eq_true'] at *
  cases e : ltCps c.cps.toList a.cps.toList with
  | false => rfl
  | true =>
    -- a <= b, b <= c, c < a
    cases e1 : ltCps a.cps.toList b.cps.toList with
    | true =>
      have := lt_trans' _ _ _ e e1
      rw [this] at h'; cases h'
    | false =>
      have := lt_tri _ _ e1 h
      rw [← this, e] at h'; cases h'
theorem le_total' (a b : Str) : (leS a b || leS b a) = true := by
  unfold leS
  cases e : ltCps b.cps.toList a.cps.toList with
  | false => simp
  | true =>
    cases e1 : ltCps a.cps.toList b.cps.toList with
    | false => simp
    | true =>
      have := lt_trans' _ _ _ e e1
      rw [lt_irr] at this; cases this
theorem str_ext {a b : Str} (h : a.cps.toList = b.cps.toList) : a = b := by
  cases a; cases b
  congr 1
  exact Array.ext' h
theorem le_anti (a b : Str) (h : leS a b = true) (h' : leS b a = true) : a = b := by
  unfold leS at *
  simp only [Bool.not_eq_true'] at *
  exact str_ext (lt_tri _ _ h' h)
theorem rising_pw : ∀ (p : Str) (xs : List Str), risingS p xs = true → (∀ x ∈ xs, leS p x = true) ∧ xs.Pairwise fun a b => leS a b = true
  | _, [], _ => ⟨fun _ h => (nomatch h), .nil⟩
  | p, x :: xs, h => by
    simp only [risingS, Bool.and_eq_true] at h
    obtain ⟨h1, h2⟩ := rising_pw x xs h.2
    have hp : leS p x = true := h.1
    exact ⟨fun y hy => by
      rcases List.mem_cons.mp hy with rfl | hy
      · exact hp
      · exact le_trans' _ _ _ hp (h1 y hy), .cons h1 h2⟩
theorem sorted_pw {xs : List Str} (h : sortedS xs = true) : xs.Pairwise fun a b => leS a b = true := by
  cases xs with
  | nil => exact .nil
  | cons x xs =>
    obtain ⟨h1, h2⟩ := rising_pw x xs h
    exact .cons h1 h2
theorem sort_unique {xs ys : List Str} (hp : ys.Perm xs) (hs : sortedS ys = true) : ys = sortS xs := by
  refine List.Perm.eq_of_pairwise (fun a b _ _ h1 h2 => le_anti a b h1 h2) (sorted_pw hs) ?_ (hp.trans (List.mergeSort_perm _ _).symm)
  exact List.pairwise_mergeSort le_trans' le_total' xs
def txts : List D → Option (List Str)
  | [] => some []
  | .str x :: r => (txts r).map (x :: ·)
  | _ => none
def dSorted : List D → Option D
  | [.lst xs] => match txts xs with
    | some ss => if ss.length < 64 then some (.lst ((sortS ss).map .str)) else none
    | none => none
  | _ => none
theorem strs_eq : ∀ {xs : List D} {ss : List Str}, txts xs = some ss → xs = ss.map .str
  | [], ss, h => by cases h; rfl
  | .str x :: r, ss, h => by
    simp only [txts, Option.map_eq_some_iff] at h
    obtain ⟨t, h1, rfl⟩ := h
    rw [strs_eq h1]; rfl
  | .non :: _, _, h => by cases h
  | .bl _ :: _, _, h => by cases h
  | .int _ :: _, _, h => by cases h
  | .tup _ :: _, _, h => by cases h
  | .lst _ :: _, _, h => by cases h
  | .fl _ :: _, _, h => by cases h
  | .dct _ :: _, _, h => by cases h
  | .obj _ _ :: _, _, h => by cases h
theorem strs_map (ss : List Str) : txts (ss.map .str) = some ss := by
  induction ss with
  | nil => rfl
  | cons x r ih => simp [txts, ih]
theorem rel_strs {K : PySem.W.Frag} {F : Hp} : ∀ {ss : List Str} {vs : List V}, RpL K F (ss.map .str) vs → vs = ss.map .str
  | [], vs, h => by cases h; rfl
  | x :: ss, vs, h => by
    obtain ⟨v, r, rfl, h1, h2⟩ := h
    cases h1
    rw [rel_strs h2]; rfl
theorem strs_rel {K : PySem.W.Frag} {F : Hp} : ∀ (ss : List Str), RpL K F (ss.map .str) (ss.map .str)
  | [] => rfl
  | x :: ss => ⟨_, _, rfl, rfl, strs_rel ss⟩
theorem oc_sorted {K : PySem.W.Frag} : OCO K (rSortedS K) dSorted := by
  intro g F H σ sv ds d vs Q hK rl e hv q
  subst hK
  unfold dSorted at e
  split at e
  · split at e
    · rename_i xs ss hs
      split at e
      · rename_i hz
        cases e
        obtain ⟨v, rfl, p, us, rfl, h1, h2⟩ := hv.one_inv
        have ex := strs_eq hs
        subst ex
        have eu := rel_strs h2
        subst eu
        refine ⟨p, ss, rfl, .inl (.inl (rl.sub _ _ h1)), hz, fun ys l hp hso hl => ?_⟩
        have ey := sort_unique hp hso
        subst ey
        exact q _ F _ (Same.refl F) (rl.layO hl) ⟨l, rfl, rl.nofx hl, ⟨rl.sub.free hl, _, upd_same, strs_rel _⟩, fun i hi => rl.noRef hl i hi⟩
      · cases e
    · cases e
  · cases e
theorem so_sorted (hg : Gl X "sorted") (hm : X.mg "sorted" = none) (ha : SA X W (e :: es) ms)
    (h1 : starEach (e :: es) X.env = (false, eval e X.env) :: starEach es X.env := by rfl) (h2 : (backTo pos (starEach es X.env)).any (·.1) = false := by rfl) : SO X W (.Call (.Name "sorted" p) (e :: es) [] pos) (mCall1 dSorted ms) :=
  so_callB cr_sortedS oc_sorted hg hm boot_sorted' ha (by decide) (by decide) h1 h2

/-- repr of data -/
def reprOk (q : PyData) : Bool := q.showable && !q.hasDict && decide (q.depth ≤ 60) && decide (q.shown.length ≤ sizeLine)
def dRepr : List D → Option D
  | [d] => match py d with
    | some q => if reprOk q = true then some (.str q.shown) else none
    | none => none
  | _ => none
def rRepr (K : PySem.W.Frag) : List V → Hp → VK → Prop := fun xs H Q => ∃ v d, xs = [v] ∧ Dp K H v d ∧ reprOk d = true ∧ Q (.str d.shown) H
theorem call_repr (hu : X.A.units + 64 < cLine) (hg : X.A.guards = some []) : CallR X (.builtin "repr") (rRepr X.K) := by
  intro pins s σ H xs us Q I r h
  obtain ⟨v, d, rfl, hd, hok, q⟩ := h
  unfold reprOk at hok
  simp only [Bool.and_eq_true, Bool.not_eq_true', decide_eq_true_eq] at hok
  obtain ⟨⟨⟨o1, o2⟩, o3⟩, o4⟩ := hok
  obtain ⟨u, rfl, ru⟩ := vals1 r
  cases hd with
  | non =>
    cases ru
    exact PySem.P.repr_of_none ⟨.str _, H, I.tok _, ⟨_, rfl⟩, by simpa only [PyData.shown] using q⟩
  | bl b =>
    cases ru
    refine PySem.P.repr_of_bool ⟨.str _, H, I.tok _, ⟨_, rfl⟩, by simpa only [PyData.shown] using q⟩
  | int i =>
    obtain ⟨t, rfl⟩ := ru
    refine PySem.P.repr_of_int (by simpa [PyData.showable] using o1) ⟨.str _, H, I.tok _, ⟨_, rfl⟩, by simpa only [PyData.shown] using q⟩
  | str x =>
    obtain ⟨t, rfl⟩ := ru
    refine PySem.P.repr_of_str ⟨.str _, H, I.tok _, ⟨_, rfl⟩, by simpa only [PyData.shown] using q⟩ (by simpa only [PyData.shown] using o4)
  | @lst a xs ds hs ha =>
    cases ru
    obtain ⟨as, rd⟩ := Dp.reads I (.list ds) (.ref a) (.ref a) (.lst hs ha) rfl
    exact repr_of_reads' rd o1 (PyData.noDict_hsm o2) hg (by omega) (fun _ _ e => e) (fun h' u tk hk => ⟨.str _, H, I.kept hk, ⟨_, rfl⟩, q⟩) o4
  | @tup a xs ds hs ha =>
    cases ru
    obtain ⟨as, rd⟩ := Dp.reads I (.tuple ds) (.ref a) (.ref a) (.tup hs ha) rfl
    exact repr_of_reads' rd o1 (PyData.noDict_hsm o2) hg (by omega) (fun _ _ e => e) (fun h' u tk hk => ⟨.str _, H, I.kept hk, ⟨_, rfl⟩, q⟩) o4
theorem oc_repr {K : PySem.W.Frag} : OC K (rRepr K) dRepr := oc_pure fun F H ds d vs Q s e hv q => by
  unfold dRepr at e
  split at e
  · rename_i d0
    split at e
    · rename_i q0 hq
      split at e
      · rename_i hok
        cases e
        obtain ⟨v, rfl, h1⟩ := hv.one_inv
        exact ⟨v, q0, rfl, dp_of s d0 v q0 h1 hq, hok, q _ rfl⟩
      · cases e
    · cases e
  · cases e
theorem se_repr (hu : X.A.units + 64 < cLine) (hgd : X.A.guards = some []) (hg : Gl X "repr") (hm : X.mg "repr" = none) (ha : SA X W (e :: es) ms)
    (h1 : starEach (e :: es) X.env = (false, eval e X.env) :: starEach es X.env := by rfl) (h2 : (backTo pos (starEach es X.env)).any (·.1) = false := by rfl) : SE X W (.Call (.Name "repr" p) (e :: es) [] pos) (mCall1 dRepr ms) :=
  se_callB (call_repr hu hgd) oc_repr hg hm boot_repr' ha (by decide) (by decide) h1 h2

/-! #### isinstance -/
def tn : D → String
  | .non => "NoneType"
  | .bl _ => "bool"
  | .int _ => "int"
  | .str _ => "str"
  | .tup _ => "tuple"
  | .lst _ => "list"
  | .fl _ => "list"
  | .dct _ => "dict"
  | .obj _ _ => "object"
theorem tyX_of {K : PySem.W.Frag} {F H : Hp} {d : D} {v : V} (s : Same F H) (h : Rp K F d v) : TyX K H v (.type (tn d)) := by
  have sqt : ∀ {a : Addr} {xs : List V}, SqT K H a xs → TyX K H (.ref a) (.type "tuple") := fun {a xs} h => by
    rcases h with (h | ⟨o, h⟩) | ⟨o, its, n, h1, h2, _⟩
    · exact .base (.tup h)
    · exact .fTuple h
    · exact .kTuple h1 h2
  cases d with
  | non => cases h; exact .base .non
  | bl b => cases h; exact .base (.bl b)
  | int i => cases h; exact .base (.int i)
  | str x => cases h; exact .base (.str x)
  | tup ds =>
    obtain ⟨a, vs, rfl, h1, h2⟩ := h
    exact sqt (sqT_mono s h1)
  | lst ds =>
    obtain ⟨a, vs, rfl, h1, h2⟩ := h
    exact .base (.lst (s _ _ h1))
  | fl ds =>
    obtain ⟨a, vs, rfl, h1, h2⟩ := h
    rcases s.seq h1 with (h | ⟨o, h⟩) | ⟨o, its, n, h1, h2, _⟩
    · exact .base (.lst h)
    · exact .base (.frz h)
    · exact .kList h1 h2
  | dct _ => exact False.elim h
  | obj _ _ => exact False.elim h
def isi (T : String) (d : D) : Option D := (kitB (tn d) T).map .bl
theorem se_isi {T : String} {y : Str} {py : Pos} {m : M D} (hg : Gl X "isinstance") (hm : X.mg "isinstance" = none) (hgT : Gl X y) (hmT : X.mg y = none) (hvT : bootBuiltins y = some (.type T)) (ha : SE X W e m) (hn : y ≠ "__name__" := by decide) (hdb : (y == ("__debug__" : Str)) = false := by decide)
    (h1 : starEach [e, .Name y py] X.env = (false, eval e X.env) :: starEach [.Name y py] X.env := by rfl) (h2 : (backTo pos (starEach [.Name y py] X.env)).any (·.1) = false := by rfl) :
    SE X W (.Call (.Name "isinstance" p) [e, .Name y py] [] pos) (m1 (isi T) m) :=
  pe_imp (pe_callB call_isi hg hm boot_isinstance' (pa_cons ha (pa_cons (pe_bltn (v := .ty T) hgT hmT hvT rfl hn hdb) pa_nil) h1) (by decide) (by decide) h1 h2) fun σ H Q q => by
    obtain ⟨g, F, sv, hK, rl, q⟩ := q
    refine ⟨g, F, sv, hK, rl, PostG.bind q fun d s1 v F1 H1 e1 rl1 rp1 h1 => ?_⟩
    rw [← hK]
    cases hd : isi T d with
    | none => rw [hd] at h1; exact False.elim h1
    | some r =>
      rw [hd] at h1
      unfold isi at hd
      obtain ⟨b, hb, rfl⟩ := Option.map_eq_some_iff.mp hd
      exact ⟨v, .ty T, .type (tn d), .type T, b, rfl, .ty T, tyX_of rl1.sub rp1, kit_ty hb, h1 _ F1 H1 (Same.refl F1) rl1 rfl⟩
end
end VM

set_option Elab.async false
set_option linter.all false
set_option autoImplicit false
set_option maxRecDepth 100000
set_option maxHeartbeats 400000
namespace VM
open PySem PySem.Spec PyProof.Rows L2

/-! ### statements -/
inductive O where
  | nx (s : SV) | rt (d : D) (s : SV) | ro (d : D) (s : SV) | bk (s : SV) | ct (s : SV) | err (x : Exn) (s : SV) | bad
abbrev MS := SV → O

def PostS (mg : Str → Option Value) (g : G) (F : Hp) (o : O) (W : WX') (Dn : Ends) : Prop := match o with
  | .nx sv' => ∀ σ' F' H', Same F F' → Rl g F' H' σ' sv' → Dn.nx σ' H'
  | .rt d sv' => ∀ v σ' F' H', Same F F' → Rl g F' H' σ' sv' → Rp g.K F' d v → Dn.rt v H'
  | .ro d sv' => ∀ v σ' F' H', Same F F' → Rl g F' H' σ' sv' → RelO' g F' H' σ' sv' d v → Dn.rt v H'
  | .bk sv' => ∀ σ' F' H', Same F F' → Rl g F' H' σ' sv' → Dn.bk σ' H'
  | .ct sv' => ∀ σ' F' H', Same F F' → Rl g F' H' σ' sv' → Dn.ct σ' H'
  | .err x sv' => ∀ cls dd σ' F' H', Same F F' → Rl g F' H' σ' sv' → ErrOk g.K mg F' H' x cls dd → W cls dd σ' H'
  | .bad => False
def tS (K : PySem.W.Frag) (mg : Str → Option Value) (W : WX') (m : MS) : TS := fun Dn σ H => ∃ g F sv, g.K = K ∧ Rl g F H σ sv ∧ PostS mg g F (m sv) W Dn
abbrev SS (X : Cx) (W : WX') (st : Stmt) (m : MS) : Prop := PS X st (tS X.K X.mg W m)
abbrev SSs (X : Cx) (W : WX') (sts : List Stmt) (m : MS) : Prop := PSs X sts (tS X.K X.mg W m)
theorem ps_imp {X : Cx} {st : Stmt} {t t' : TS} (h : PS X st t) (k : ∀ Dn σ H, t' Dn σ H → t Dn σ H) : PS X st t' := ⟨fun pins s σ H Dn I q => h.run pins s σ H Dn I (k Dn σ H q)⟩
theorem pss_imp {X : Cx} {st : List Stmt} {t t' : TS} (h : PSs X st t) (k : ∀ Dn σ H, t' Dn σ H → t Dn σ H) : PSs X st t' := ⟨fun pins s σ H Dn I q => h.run pins s σ H Dn I (k Dn σ H q)⟩
theorem PostS.mono {mg : Str → Option Value} {g : G} {F F1 : Hp} {o : O} {W : WX'} {Dn : Ends} (h : PostS mg g F o W Dn) (e : Same F F1) : PostS mg g F1 o W Dn := by
  cases o with
  | nx s => exact fun σ' F' H' e1 => h σ' F' H' (e.trans e1)
  | rt d s => exact fun v σ' F' H' e1 => h v σ' F' H' (e.trans e1)
  | ro d s => exact fun v σ' F' H' e1 => h v σ' F' H' (e.trans e1)
  | bk s => exact fun σ' F' H' e1 => h σ' F' H' (e.trans e1)
  | ct s => exact fun σ' F' H' e1 => h σ' F' H' (e.trans e1)
  | err x s => exact fun c d σ' F' H' e1 => h c d σ' F' H' (e.trans e1)
  | bad => exact h
/-- an expression, then a statement -/
def mBind {α : Type} (m : M α) (k : α → SV → O) : MS := fun sv => match m sv with
  | .ok a s => k a s
  | .err x s => .err x s
  | .bad => .bad
theorem PostS.bind {α β : Type} {mg : Str → Option Value} {g : G} {F H : Hp} {σ : L2.St} {m : M α} {sv : SV} {k : α → SV → O} {W : WX'} {Rel1 : G → Hp → Hp → L2.St → SV → α → β → Prop} {Dn : Ends} {Q1 : β → Hp → Prop}
    (h : PostS mg g F (mBind m k sv) W Dn)
    (kk : ∀ a sv1 b F1 H1, Same F F1 → Rl g F1 H1 σ sv1 → Rel1 g F1 H1 σ sv1 a b → PostS mg g F1 (k a sv1) W Dn → Q1 b H1) : PostG mg g F σ (m sv) W Rel1 Q1 := by
  unfold mBind at h
  cases hm : m sv with
  | ok a s =>
    rw [hm] at h
    exact fun b F1 H1 e rl rel => kk a s b F1 H1 e rl rel (h.mono e)
  | err x s =>
    rw [hm] at h
    exact fun c d F1 H1 e rl er => h c d σ F1 H1 e rl er
  | bad => rw [hm] at h; exact h

section
variable {X : Cx} {W : WX'} {a b e : Expr} {st : Stmt} {sts body orelse : List Stmt} {pos : Pos} {m : M D} {mt : M Bool} {ms mu : MS}
def mSkip : MS := fun sv => .nx sv
def mSeq (a b : MS) : MS := fun sv => match a sv with
  | .nx s => b s
  | o => o
theorem ss_nil : SSs X W [] mSkip := pss_imp pss_nil fun Dn σ H q => by
  obtain ⟨g, F, sv, hK, rl, q⟩ := q
  exact q σ F H (Same.refl F) rl
theorem ss_one (h : SS X W st ms) : SSs X W [st] ms := pss_one h
theorem ss_cons (h : SS X W st ms) (hr : SSs X W sts mu) : SSs X W (st :: sts) (mSeq ms mu) := pss_imp (pss_cons h hr) fun Dn σ H q => by
  obtain ⟨g, F, sv, hK, rl, q⟩ := q
  refine ⟨g, F, sv, hK, rl, ?_⟩
  revert q
  unfold mSeq
  cases ms sv with
  | nx s => exact fun q σ' F' H' e1 rl1 => ⟨g, F', s, hK, rl1, q.mono e1⟩
  | rt d s => exact fun q => q
  | ro d s => exact fun q => q
  | bk s => exact fun q => q
  | ct s => exact fun q => q
  | err x s => exact fun q => q
  | bad => exact fun q => q
theorem ss_pass : SS X W (.Pass pos) mSkip := ps_imp ps_pass fun Dn σ H q => by
  obtain ⟨g, F, sv, hK, rl, q⟩ := q
  exact q σ F H (Same.refl F) rl
theorem ss_break : SS X W (.Break pos) (fun sv => .bk sv) := ps_imp ps_break fun Dn σ H q => by
  obtain ⟨g, F, sv, hK, rl, q⟩ := q
  exact q σ F H (Same.refl F) rl
theorem ss_continue : SS X W (.Continue pos) (fun sv => .ct sv) := ps_imp ps_continue fun Dn σ H q => by
  obtain ⟨g, F, sv, hK, rl, q⟩ := q
  exact q σ F H (Same.refl F) rl
/-- a statement that is never reached -/
theorem ss_never : SS X W st (fun _ => .bad) := ps_imp ps_never fun Dn σ H q => by
  obtain ⟨g, F, sv, hK, rl, q⟩ := q
  exact q
def mDrop (m : M D) : MS := mBind m fun _ s => .nx s
theorem ss_expr (h : SE X W e m) (hs : swapsWith e none pos.line X.env = pure false := by rfl) : SS X W (.Expr e pos) (mDrop m) := ps_imp (ps_expr h hs) fun Dn σ H q => by
  obtain ⟨g, F, sv, hK, rl, q⟩ := q
  exact ⟨g, F, sv, hK, rl, PostS.bind (H := H) q fun d s v F1 H1 e1 rl1 rp1 h1 => h1 σ F1 H1 (Same.refl F1) rl1⟩
def mRet (m : M D) : MS := mBind m fun d s => .rt d s
def mRetO (m : M D) : MS := mBind m fun d s => .ro d s
theorem ss_ret (h : SE X W e m) : SS X W (.Return (some e) pos) (mRet m) := ps_imp (ps_ret h) fun Dn σ H q => by
  obtain ⟨g, F, sv, hK, rl, q⟩ := q
  exact ⟨g, F, sv, hK, rl, PostS.bind (H := H) q fun d s v F1 H1 e1 rl1 rp1 h1 => h1 v σ F1 H1 (Same.refl F1) rl1 rp1⟩
theorem ss_retO (h : SO X W e m) : SS X W (.Return (some e) pos) (mRetO m) := ps_imp (ps_ret h) fun Dn σ H q => by
  obtain ⟨g, F, sv, hK, rl, q⟩ := q
  exact ⟨g, F, sv, hK, rl, PostS.bind (H := H) q fun d s v F1 H1 e1 rl1 rp1 h1 => h1 v σ F1 H1 (Same.refl F1) rl1 rp1⟩
theorem ss_retN : SS X W (.Return none pos) (fun sv => .rt .non sv) := ps_imp ps_retN fun Dn σ H q => by
  obtain ⟨g, F, sv, hK, rl, q⟩ := q
  exact q .non σ F H (Same.refl F) rl rfl
def mIfS (t : M Bool) (a b : MS) : MS := mBind t fun c s => if c = true then a s else b s
theorem ss_if {c : Expr} (hc : ST X W c mt) (ha : SSs X W body ms) (hb : SSs X W orelse mu) : SS X W (.If c body orelse pos) (mIfS mt ms mu) := ps_imp (ps_if hc ha hb) fun Dn σ H q => by
  obtain ⟨g, F, sv, hK, rl, q⟩ := q
  refine ⟨g, F, sv, hK, rl, PostS.bind (H := H) q fun c s c' F1 H1 e1 rl1 rp1 h1 => ?_⟩
  cases rp1
  cases c with
  | true => exact ⟨g, F1, s, hK, rl1, h1⟩
  | false => exact ⟨g, F1, s, hK, rl1, h1⟩

/-! #### targets -/
abbrev MT := D → SV → Option SV
/-- the slots outside of some are as they were -/
def Agree (is : List Nat) (σ σ' : L2.St) : Prop := σ'.length = σ.length ∧ ∀ j, j ∉ is → σ'[j]? = σ[j]?
theorem Agree.refl (is : List Nat) (σ : L2.St) : Agree is σ σ := ⟨rfl, fun _ _ => rfl⟩
theorem Agree.trans {is js : List Nat} {σ σ1 σ2 : L2.St} (a : Agree is σ σ1) (b : Agree js σ1 σ2) : Agree (is ++ js) σ σ2 := ⟨b.1.trans a.1, fun j h => (b.2 j fun z => h (List.mem_append_right _ z)).trans (a.2 j fun z => h (List.mem_append_left _ z))⟩
def tGt (K : PySem.W.Frag) (is : List Nat) (mt : MT) : TG := fun v σ H Q => ∃ g F sv d sv', g.K = K ∧ Rl g F H σ sv ∧ Rp K F d v ∧ mt d sv = some sv' ∧ ∀ σ', Rl g F H σ' sv' → Agree is σ σ' → Q σ' H
def tGts (K : PySem.W.Frag) (is : List Nat) (mt : List D → SV → Option SV) : TGs := fun vs σ H Q => ∃ g F sv ds sv', g.K = K ∧ Rl g F H σ sv ∧ RpL K F ds vs ∧ mt ds sv = some sv' ∧ ∀ σ', Rl g F H σ' sv' → Agree is σ σ' → Q σ' H
abbrev SG (X : Cx) (tg : Expr) (is : List Nat) (mt : MT) : Prop := PG X tg (tGt X.K is mt)
abbrev SGs (X : Cx) (tgs : List Expr) (is : List Nat) (mt : List D → SV → Option SV) : Prop := PGs X tgs (tGts X.K is mt)
def mtN (i : Nat) : MT := fun d sv => some (sv.set i (.pl d))
def mtNil : List D → SV → Option SV := fun ds sv => match ds with
  | [] => some sv
  | _ => none
def mtCons (t : MT) (u : List D → SV → Option SV) : List D → SV → Option SV := fun ds sv => match ds with
  | d :: ds => (t d sv).bind fun s => u ds s
  | [] => none
def mtTup (n : Nat) (u : List D → SV → Option SV) : MT := fun d sv => match d with
  | .tup ds => if ds.length = n then u ds sv else none
  | _ => none
theorem pg_imp {tg : Expr} {t t' : TG} (h : PG X tg t) (k : ∀ v σ H Q, t' v σ H Q → t v σ H Q) : PG X tg t' := ⟨fun pins s σ H v u Q I r q => h.run pins s σ H v u Q I r (k v σ H Q q)⟩
theorem pgs_imp {tg : List Expr} {t t' : TGs} (h : PGs X tg t) (k : ∀ v σ H Q, t' v σ H Q → t v σ H Q) : PGs X tg t' := ⟨fun pins s σ H v u Q I r q => h.run pins s σ H v u Q I r (k v σ H Q q)⟩
theorem sg_name {i : Nat} {x : Str} {pos : Pos} (h : PG X (.Name x pos) (gName i)) : SG X (.Name x pos) [i] (mtN i) := pg_imp h fun v σ H Q q => by
  obtain ⟨g, F, sv, d, sv', hK, rl, rp, e, q⟩ := q
  cases e
  exact q _ (rl.setPl i (by rw [hK]; exact rp)) ⟨by simp, fun j hj => List.getElem?_set_ne (fun z => hj (by simp [z]))⟩
theorem sgs_nil : SGs X [] [] mtNil := pgs_imp pgs_nil fun v σ H Q q => by
  obtain ⟨g, F, sv, ds, sv', hK, rl, rp, e, q⟩ := q
  cases ds with
  | nil => cases e; exact ⟨rp, q σ rl (Agree.refl _ _)⟩
  | cons d ds => cases e
theorem sgs_cons {tg : Expr} {tgs : List Expr} {is js : List Nat} {t : MT} {u : List D → SV → Option SV} (h1 : SG X tg is t) (h2 : SGs X tgs js u) (hs : PGs X (tg :: tgs) (gCons (tGt X.K is t) (tGts X.K js u)) := by exact pgs_cons (by assumption) (by assumption)) : SGs X (tg :: tgs) (is ++ js) (mtCons t u) := pgs_imp hs fun vs σ H Q q => by
  obtain ⟨g, F, sv, ds, sv', hK, rl, rp, e, q⟩ := q
  cases ds with
  | nil => cases e
  | cons d ds =>
    obtain ⟨v, r, rfl, r1, r2⟩ := rp
    simp only [mtCons, Option.bind_eq_some_iff] at e
    obtain ⟨s, e1, e2⟩ := e
    exact ⟨v, r, rfl, g, F, sv, d, s, hK, rl, r1, e1, fun σ' rl' a => ⟨g, F, s, ds, sv', hK, rl', r2, e2, fun σ2 rl2 b => q σ2 rl2 (a.trans b)⟩⟩
theorem sg_tup {es : List Expr} {k n : Nat} {is : List Nat} {u : List D → SV → Option SV} {pos : Pos} (hp : PG X (.Tuple es k pos) (gTup X.K n (tGts X.K is u))) : SG X (.Tuple es k pos) is (mtTup n u) := pg_imp hp fun v σ H Q q => by
  obtain ⟨g, F, sv, d, sv', hK, rl, rp, e, q⟩ := q
  unfold mtTup at e
  split at e
  · split at e
    · obtain ⟨a, vs, rfl, h1, h2⟩ := rp
      exact ⟨a, vs, rfl, sqT_mono rl.sub h1, by rw [← h2.length]; assumption, g, F, sv, _, sv', hK, rl, h2, e, q⟩
    · cases e
  · cases e

/-! #### assignments -/
def mAsg (i : Nat) (m : M D) : MS := mBind m fun d s => .nx (s.set i (.pl d))
def mAsgO (i : Nat) (m : M D) : MS := mBind m fun d s => .nx (s.set i (.ow d))
def mAsgT (t : MT) (m : M D) : MS := mBind m fun d s => match t d s with
  | some s' => .nx s'
  | none => .bad
theorem ss_set {i : Nat} {x : Str} {pos' : Pos} (h : ∀ te, PE X e te → PS X (.Assign [.Name x pos'] e pos) (tAsg te (gName i))) (he : SE X W e m) : SS X W (.Assign [.Name x pos'] e pos) (mAsg i m) := ps_imp (h _ he) fun Dn σ H q => by
  obtain ⟨g, F, sv, hK, rl, q⟩ := q
  exact ⟨g, F, sv, hK, rl, PostS.bind (H := H) q fun d s v F1 H1 e1 rl1 rp1 h1 => h1 _ F1 H1 (Same.refl F1) (rl1.setPl i rp1)⟩
theorem ss_setO {i : Nat} {x : Str} {pos' : Pos} (h : ∀ te, PE X e te → PS X (.Assign [.Name x pos'] e pos) (tAsg te (gName i))) (he : SO X W e m) : SS X W (.Assign [.Name x pos'] e pos) (mAsgO i m) := ps_imp (h _ he) fun Dn σ H q => by
  obtain ⟨g, F, sv, hK, rl, q⟩ := q
  refine ⟨g, F, sv, hK, rl, PostS.bind (H := H) q fun d s v F1 H1 e1 rl1 rp1 h1 => ?_⟩
  obtain ⟨p, rfl, nf, o, nr⟩ := rp1
  exact h1 _ F1 H1 (Same.refl F1) (rl1.setOw i nf o nr)
theorem ss_asgT {tg : Expr} {is : List Nat} {t : MT} (h : ∀ te g, PE X e te → PG X tg g → PS X (.Assign [tg] e pos) (tAsg te g)) (he : SE X W e m) (hg : SG X tg is t) : SS X W (.Assign [tg] e pos) (mAsgT t m) := ps_imp (h _ _ he hg) fun Dn σ H q => by
  obtain ⟨g, F, sv, hK, rl, q⟩ := q
  refine ⟨g, F, sv, hK, rl, PostS.bind (H := H) q fun d s v F1 H1 e1 rl1 rp1 h1 => ?_⟩
  cases ht : t d s with
  | none => rw [ht] at h1; exact False.elim h1
  | some s' =>
    rw [ht] at h1
    exact ⟨g, F1, s, d, s', hK, rl1, hK ▸ rp1, ht, fun σ' rl' _ => h1 σ' F1 H1 (Same.refl F1) rl'⟩
end

/-! #### what a slot owns is changed -/
/-- the slot's own object, with new content -/
def reSl : Sl → D → Option Sl
  | .ow _, d => some (.ow d)
  | .io k _, d => some (.io k d)
  | _, _ => none
def slD : Sl → Option D
  | .ow d => some d
  | .io _ d => some d
  | _ => none
theorem Rl.put {g : G} {F H : Hp} {σ : L2.St} {sv : SV} (r : Rl g F H σ sv) {i : Nat} {p : Addr} {s s' : Sl} {d d' : D} {o' : HO} (hs : sv[i]? = some s) (hd : slD s = some d) (hs' : reSl s d' = some s') (hp : σ[i]? = some (some (.ref p)))
    (ho : OwnP g.K F (upd H p o') d' p) : Rl g F (upd H p o') σ (sv.set i s') := by
  have hi : i < sv.length := (List.getElem?_eq_some_iff.mp hs).1
  have ref : Ref σ sv i p := by
    refine ⟨⟨s, hs, ?_⟩, hp⟩
    cases s with
    | ow d => exact .inl ⟨_, rfl⟩
    | io k d => exact .inr ⟨_, _, rfl⟩
    | _ => cases hd
  obtain ⟨nF, nH, nP⟩ := r.own ref
  have nep : ∀ {a : Addr} {o : HO}, g.pH a = some o → a ≠ p := fun e z => by rw [z, nP] at e; cases e
  have neF : ∀ {a : Addr} {o : HO}, F a = some o → a ≠ p := fun e z => by rw [z, nF] at e; cases e
  have rr : ∀ j q, Ref σ (sv.set i s') j q → Ref σ sv j q := fun j q ⟨⟨t, e1, e2⟩, e3⟩ => by
    by_cases h : i = j
    · subst h
      rw [hp] at e3
      cases e3
      exact ref
    · rw [List.getElem?_set_ne h] at e1
      exact ⟨⟨t, e1, e2⟩, e3⟩
  refine ⟨fun a u e => by rw [upd_ne (neF e)]; exact r.sub a u e, fun a u e => by rw [upd_ne (nep e)]; exact r.kH a u e, r.kF, fun a ha => ?_, r.pf, r.ion, by simp [r.len], fun j t e => ?_, fun j k q x y => r.dj j k q (rr _ _ x) (rr _ _ y)⟩
  · by_cases h : a = p
    · rw [h, upd_same]; exact fun z => nomatch z
    · rw [upd_ne h]; exact r.fxH a ha
  · by_cases h : i = j
    · subst h
      rw [List.getElem?_set_self hi] at e
      cases e
      have q := r.sl i s hs
      cases s with
      | ow d =>
        cases hs'
        obtain ⟨p', e1, nf, _⟩ := q
        rw [hp] at e1; cases e1
        exact ⟨p, hp, nf, ho⟩
      | io k d =>
        cases hs'
        obtain ⟨p', e1, nf, _⟩ := q
        rw [hp] at e1; cases e1
        exact ⟨p, hp, nf, ho⟩
      | _ => cases hd
    · rw [List.getElem?_set_ne h] at e
      have q := r.sl j t e
      cases t with
      | un => trivial
      | pl d => exact q
      | ow d =>
        obtain ⟨q', e1, nf, o'⟩ := q
        have hne : q' ≠ p := fun z => h (r.dj i j p ref (by subst z; exact ⟨⟨_, e, .inl ⟨d, rfl⟩⟩, e1⟩))
        exact ⟨q', e1, nf, o'.monoH (upd_ne hne)⟩
      | io k d =>
        obtain ⟨q', e1, nf, o'⟩ := q
        have hne : q' ≠ p := fun z => h (r.dj i j p ref (by subst z; exact ⟨⟨_, e, .inr ⟨k, d, rfl⟩⟩, e1⟩))
        exact ⟨q', e1, nf, o'.monoH (upd_ne hne)⟩
theorem Rl.ownAt {g : G} {F H : Hp} {σ : L2.St} {sv : SV} (r : Rl g F H σ sv) {i : Nat} {s : Sl} {d : D} (hs : sv[i]? = some s) (hd : slD s = some d) : ∃ p, σ[i]? = some (some (.ref p)) ∧ OwnP g.K F H d p := by
  have q := r.sl i s hs
  cases s with
  | ow d => cases hd; obtain ⟨p, e, _, o⟩ := q; exact ⟨p, e, o⟩
  | io k d => cases hd; obtain ⟨p, e, _, o⟩ := q; exact ⟨p, e, o⟩
  | _ => cases hd
/-- the list that slot i owns -/
def ownL (sv : SV) (i : Nat) : Option (Sl × List D) := match sv[i]? with
  | some s => match slD s with
    | some (.lst xs) => some (s, xs)
    | _ => none
  | none => none
def putL (sv : SV) (i : Nat) (xs : List D) : O := match sv[i]? with
  | some s => match reSl s (.lst xs) with
    | some s' => .nx (sv.set i s')
    | none => .bad
  | none => .bad
theorem ownL_eq {sv : SV} {i : Nat} {s : Sl} {xs : List D} (h : ownL sv i = some (s, xs)) : sv[i]? = some s ∧ slD s = some (.lst xs) := by
  unfold ownL at h
  split at h
  · split at h
    · cases h; exact ⟨by assumption, by assumption⟩
    · cases h
  · cases h
theorem re_of {s : Sl} {d d' : D} (h : slD s = some d) : ∃ s', reSl s d' = some s' := by
  cases s with
  | ow d => exact ⟨_, rfl⟩
  | io k d => exact ⟨_, rfl⟩
  | _ => cases h
section
variable {X : Cx} {W : WX'} {a b e : Expr} {pos : Pos} {m mk : M D}
/-- xs.append(e) -/
def mApp (i : Nat) (m : M D) : MS := fun sv => match ownL sv i with
  | none => .bad
  | some _ => mBind m (fun d s => match ownL s i with
    | some (_, xs) => if xs.length < sizeLine then putL s i (xs ++ [d]) else .bad
    | none => .bad) sv
theorem Rl.lst {g : G} {F H : Hp} {σ : L2.St} {sv : SV} (r : Rl g F H σ sv) {i : Nat} {s : Sl} {xs : List D} (h : ownL sv i = some (s, xs)) : ∃ p vs, σ[i]? = some (some (.ref p)) ∧ F p = none ∧ H p = some (.lst vs) ∧ RpL g.K F xs vs := by
  obtain ⟨h1, h2⟩ := ownL_eq h
  obtain ⟨p, e, nF, vs, e1, e2⟩ := r.ownAt h1 h2
  exact ⟨p, vs, e, nF, e1, e2⟩
theorem putL_post {mg : Str → Option Value} {g : G} {F H : Hp} {σ : L2.St} {sv : SV} {i : Nat} {s : Sl} {xs ys : List D} {p : Addr} {us : List V} {Dn : Ends} (r : Rl g F H σ sv) (h : ownL sv i = some (s, xs)) (hp : σ[i]? = some (some (.ref p))) (nF : F p = none) (hu : RpL g.K F ys us)
    (q : PostS mg g F (putL sv i ys) W Dn) : Dn.nx σ (upd H p (.lst us)) := by
  obtain ⟨h1, h2⟩ := ownL_eq h
  obtain ⟨s', h3⟩ := re_of (d' := .lst ys) h2
  unfold putL at q
  rw [h1] at q
  dsimp only at q
  rw [h3] at q
  exact q σ F _ (Same.refl F) (r.put h1 h2 h3 hp ⟨nF, us, upd_same, hu⟩)
theorem ss_app {i : Nat} {x : Str} {p1 apos cpos : Pos} (h : ∀ te, PE X e te → PE X (.Call (.Attribute (.Name x p1) "append" apos) [e] [] cpos) (tBM X.K "list" rAppend (tVar i) (tCons te tNil))) (he : SE X W e m)
    (hs : swapsWith (.Call (.Attribute (.Name x p1) "append" apos) [e] [] cpos) none pos.line X.env = pure false := by rfl) : SS X W (.Expr (.Call (.Attribute (.Name x p1) "append" apos) [e] [] cpos) pos) (mApp i m) :=
  ps_imp (ps_expr (h _ he) hs) fun Dn σ H q => by
    obtain ⟨g, F, sv, hK, rl, q⟩ := q
    unfold mApp at q
    split at q
    · exact False.elim q
    · rename_i z h0
      obtain ⟨s0, xs0⟩ := z
      obtain ⟨p, vs, e1, nF, e2, e3⟩ := rl.lst h0
      refine ⟨.ref p, e1, .inl ⟨rfl, vs, .inl (.inl e2)⟩, g, F, sv, hK, rl, PostS.bind (H := H) q fun d s v F1 H1 f1 rl1 rp1 h1 => ?_⟩
      split at h1
      · rename_i s1 xs1 h2
        split at h1
        · rename_i hz
          obtain ⟨p', vs', e1', nF', e2', e3'⟩ := rl1.lst h2
          rw [e1] at e1'; cases e1'
          refine ⟨p, vs', v, rfl, rfl, e2', by rw [← e3'.length]; exact hz, ?_⟩
          exact putL_post rl1 h2 e1 nF' (e3'.append (RpL.one rp1)) h1
        · exact False.elim h1
      · exact False.elim h1
/-- xs[k] = e -/
def mPut (i : Nat) (m mk : M D) : MS := mBind m fun d s1 => match ownL s1 i with
  | none => .bad
  | some _ => mBind mk (fun k s2 => match k, ownL s2 i with
    | .int z, some (_, xs) => match ixN xs.length z with
      | some j => putL s2 i (xs.set j d)
      | none => .bad
    | _, _ => .bad) s1
theorem ss_put {i : Nat} {x : Str} {p1 tpos : Pos} (h : ∀ te ti, PE X e te → PE X b ti → PS X (.Assign [.Subscript (.Name x p1) b tpos] e pos) (tAsg te (gSub (tVar i) ti rSetL))) (he : SE X W e m) (hk : SE X W b mk) :
    SS X W (.Assign [.Subscript (.Name x p1) b tpos] e pos) (mPut i m mk) := ps_imp (h _ _ he hk) fun Dn σ H q => by
  obtain ⟨g, F, sv, hK, rl, q⟩ := q
  refine ⟨g, F, sv, hK, rl, PostS.bind (H := H) q fun d s v F1 H1 f1 rl1 rp1 h1 => ?_⟩
  split at h1
  · exact False.elim h1
  · rename_i z h0
    obtain ⟨s0, xs0⟩ := z
    obtain ⟨p, vs, e1, nF, e2, e3⟩ := rl1.lst h0
    refine ⟨.ref p, e1, g, F1, s, hK, rl1, PostS.bind (H := H1) h1 fun k s2 y F2 H2 f2 rl2 rp2 h2 => ?_⟩
    split at h2
    · rename_i z s1 xs h3
      split at h2
      · rename_i j hj
        obtain ⟨p', vs', e1', nF', e2', e3'⟩ := rl2.lst h3
        rw [e1] at e1'; cases e1'
        refine ⟨p, vs', z, j, rfl, rp2, e2', by rw [← e3'.length]; exact hj, ?_⟩
        exact putL_post rl2 h3 e1 nF' (e3'.set j (Rp.mono f2 _ _ rp1)) h2
      · exact False.elim h2
    · exact False.elim h2
/-- xs.pop() -/
def mPop (i : Nat) : M D := fun sv => match ownL sv i with
  | some (_, xs) => match xs[xs.length - 1]? with
    | some d => match putL sv i xs.dropLast with
      | .nx s' => .ok d s'
      | _ => .bad
    | none => .bad
  | none => .bad
theorem RpL.dropLast {K : PySem.W.Frag} {F : Hp} {ds : List D} {vs : List V} (h : RpL K F ds vs) : RpL K F ds.dropLast vs.dropLast := by
  rw [List.dropLast_eq_take, List.dropLast_eq_take, ← h.length]
  exact h.take _
theorem se_pop {i : Nat} {x : Str} {p1 apos : Pos} (h : PE X (.Call (.Attribute (.Name x p1) "pop" apos) [] [] pos) (tBM0 X.K "list" rPop (tVar i))) : SE X W (.Call (.Attribute (.Name x p1) "pop" apos) [] [] pos) (mPop i) := pe_imp h fun σ H Q q => by
  obtain ⟨g, F, sv, hK, rl, q⟩ := q
  unfold mPop at q
  split at q
  · rename_i s xs h0
    split at q
    · rename_i d hd
      obtain ⟨p, vs, e1, nF, e2, e3⟩ := rl.lst h0
      obtain ⟨v, ev, rv⟩ := e3.get _ _ hd
      refine ⟨.ref p, e1, .inl ⟨rfl, vs, .inl (.inl e2)⟩, p, vs, v, rfl, rfl, e2, by rw [← e3.length]; exact ev, ?_⟩
      obtain ⟨h1, h2⟩ := ownL_eq h0
      obtain ⟨s', h3⟩ := re_of (d' := .lst xs.dropLast) h2
      unfold putL at q
      rw [h1] at q
      dsimp only at q
      rw [h3] at q
      exact q v F _ (Same.refl F) (rl.put h1 h2 h3 e1 ⟨nF, _, upd_same, e3.dropLast⟩) rv
    · exact False.elim q
  · exact False.elim q
end

/-! #### while -/
def whileN (c : M Bool) (b : MS) : Nat → SV → Option O
  | 0, _ => none
  | n + 1, sv => match c sv with
    | .ok false s => some (.nx s)
    | .ok true s => match b s with
      | .nx s' => whileN c b n s'
      | .ct s' => whileN c b n s'
      | .bk s' => some (.nx s')
      | o => some o
    | .err x s => some (.err x s)
    | .bad => some .bad
theorem whileN_succ {c : M Bool} {b : MS} : ∀ {n : Nat} {sv : SV} {o : O}, whileN c b n sv = some o → whileN c b (n + 1) sv = some o
  | 0, _, _, h => by cases h
  | n + 1, sv, o, h => by
    unfold whileN at h ⊢
    cases hc : c sv with
    | ok t s =>
      rw [hc] at h
      cases t with
      | false => exact h
      | true =>
        dsimp only at h ⊢
        cases hb : b s with
        | nx s' => rw [hb] at h; exact whileN_succ h
        | ct s' => rw [hb] at h; exact whileN_succ h
        | bk s' => rw [hb] at h; exact h
        | rt d s' => rw [hb] at h; exact h
        | ro d s' => rw [hb] at h; exact h
        | err x s' => rw [hb] at h; exact h
        | bad => rw [hb] at h; exact h
    | err x s => rw [hc] at h; exact h
    | bad => rw [hc] at h; exact h
theorem whileN_le {c : M Bool} {b : MS} {n m : Nat} {sv : SV} {o : O} (h : whileN c b n sv = some o) (hm : n ≤ m) : whileN c b m sv = some o := by
  induction hm with
  | refl => exact h
  | step _ ih => exact whileN_succ ih
open Classical in
noncomputable def mWhile (c : M Bool) (b : MS) : MS := fun sv => if h : ∃ o, ∃ n, whileN c b n sv = some o then h.choose else .bad
theorem mWhile_of {c : M Bool} {b : MS} {n : Nat} {sv : SV} {o : O} (h : whileN c b n sv = some o) : mWhile c b sv = o := by
  have hx : ∃ o, ∃ n, whileN c b n sv = some o := ⟨o, n, h⟩
  unfold mWhile
  rw [dif_pos hx]
  obtain ⟨k, hk⟩ := hx.choose_spec
  have h1 := whileN_le h (Nat.le_max_left n k)
  have h2 := whileN_le hk (Nat.le_max_right n k)
  rw [h1] at h2
  exact (Option.some.inj h2).symm
theorem mWhile_some {c : M Bool} {b : MS} {sv : SV} (h : mWhile c b sv ≠ .bad) : ∃ n, whileN c b n sv = some (mWhile c b sv) := by
  by_cases hx : ∃ o, ∃ n, whileN c b n sv = some o
  · obtain ⟨o, n, hn⟩ := hx
    exact ⟨n, by rw [mWhile_of hn]; exact hn⟩
  · unfold mWhile at h
    rw [dif_neg hx] at h
    exact absurd rfl h
section
variable {X : Cx} {W : WX'} {c : Expr} {body : List Stmt} {pos : Pos} {mt : M Bool} {mb : MS}
theorem ss_while (hp : PassesOwn (model X.prog X.w) X.A X.env X.xe) (hc : ST X W c mt) (hb : SSs X W body mb) : SS X W (.While c body [] pos) (mWhile mt mb) := ps_imp (ps_while hp hc hb) fun Dn σ H q => by
  obtain ⟨g, F, sv, hK, rl, q⟩ := q
  have nb : mWhile mt mb sv ≠ .bad := fun z => by rw [z] at q; exact q
  obtain ⟨n, hn⟩ := mWhile_some nb
  refine ⟨fun k σ H => ∃ F1 sv o, Same F F1 ∧ Rl g F1 H σ sv ∧ whileN mt mb k sv = some o ∧ PostS X.mg g F1 o W Dn, ⟨n, F, sv, _, Same.refl F, rl, hn, q⟩, ?_⟩
  rintro k σ1 H1 ⟨F1, sv1, o, s1, rl1, hk, q1⟩
  cases k with
  | zero => cases hk
  | succ k =>
    unfold whileN at hk
    refine ⟨g, F1, sv1, hK, rl1, ?_⟩
    cases hc : mt sv1 with
    | err x s => rw [hc] at hk; cases hk; exact fun cls dd F2 H2 e2 rl2 er => q1 cls dd σ1 F2 H2 e2 rl2 er
    | bad => rw [hc] at hk; cases hk; exact q1
    | ok t s =>
      rw [hc] at hk
      intro t' F2 H2 e2 rl2 et
      cases et
      cases t with
      | false => cases hk; exact q1 σ1 F2 H2 e2 rl2
      | true =>
        dsimp only at hk
        refine ⟨fun σ H => ∃ F1 sv o, Same F F1 ∧ Rl g F1 H σ sv ∧ whileN mt mb k sv = some o ∧ PostS X.mg g F1 o W Dn, fun σ' H' hN => ⟨k, Nat.lt_succ_self k, hN⟩, g, F2, s, hK, rl2, ?_⟩
        cases hb : mb s with
        | nx s' => rw [hb] at hk; exact fun σ3 F3 H3 e3 rl3 => ⟨F3, s', o, (s1.trans e2).trans e3, rl3, hk, q1.mono (e2.trans e3)⟩
        | ct s' => rw [hb] at hk; exact fun σ3 F3 H3 e3 rl3 => ⟨F3, s', o, (s1.trans e2).trans e3, rl3, hk, q1.mono (e2.trans e3)⟩
        | bk s' => rw [hb] at hk; cases hk; exact q1.mono e2
        | rt d s' => rw [hb] at hk; cases hk; exact q1.mono e2
        | ro d s' => rw [hb] at hk; cases hk; exact q1.mono e2
        | err x s' => rw [hb] at hk; cases hk; exact q1.mono e2
        | bad => rw [hb] at hk; cases hk; exact q1

/-! #### for -/
structure ItOk (K : PySem.W.Frag) (F : Hp) (ds : List D) (J : It) : Prop where
  go : ∀ i H, i < ds.length → Same F H → J.go i H
  stop : ∀ H, Same F H → J.stop ds.length H
  yld : ∀ i d x H H', ds[i]? = some d → Same F H → J.yld i H x H' → (H' = H ∧ Rp K F d x) ∨ ∃ T vs es, d = .tup es ∧ x = .ref T ∧ H T = none ∧ H' = upd H T (.tup vs) ∧ RpL K F es vs
def RelI (g : G) (F' _H' : Hp) (_ : L2.St) (_ : SV) (ds : List D) (J : It) : Prop := ItOk g.K F' ds J
abbrev SI (X : Cx) (W : WX') (tg iter : Expr) (m : M (List D)) : Prop := PI X tg iter (tG X.K X.mg W RelI m)
def forL (t : MT) (b : MS) : List D → MS
  | [], sv => .nx sv
  | d :: ds, sv => match t d sv with
    | none => .bad
    | some s1 => match b s1 with
      | .nx s2 => forL t b ds s2
      | .ct s2 => forL t b ds s2
      | .bk s2 => .nx s2
      | o => o
def mFor (mi : M (List D)) (t : MT) (b : MS) : MS := mBind mi fun ds s => forL t b ds s
theorem ss_for {tg iter : Expr} {mi : M (List D)} {is : List Nat} {t : MT} (hp : PassesOwn (model X.prog X.w) X.A X.env X.xe) (hc : X.calm = true) (hi : SI X W tg iter mi) (hg : SG X tg is t) (hb : SSs X W body mb)
    (hs : ∀ x, foldedSetIterable iter X.env x = pure x := by intro _; rfl) : SS X W (.For tg iter body [] pos) (mFor mi t mb) := ps_imp (ps_for hp hc hi hg hb hs) fun Dn σ H q => by
  obtain ⟨g, F, sv, hK, rl, q⟩ := q
  refine ⟨g, F, sv, hK, rl, PostS.bind (H := H) q fun ds s J F1 H1 e1 rl1 ok q1 => ?_⟩
  refine ⟨fun i m σ H => m = ds.length - i ∧ i ≤ ds.length ∧ ∃ F2 sv2, Same F1 F2 ∧ Rl g F2 H σ sv2 ∧ PostS X.mg g F2 (forL t mb (ds.drop i) sv2) W Dn, ⟨ds.length, by simp, Nat.zero_le _, F1, s, Same.refl F1, rl1, q1⟩, ?_⟩
  rintro i m σ2 H2 ⟨rfl, hi, F2, sv2, s2, rl2, q2⟩
  have sH : Same F1 H2 := s2.trans rl2.sub
  by_cases hlt : i < ds.length
  · refine .inr ⟨ok.go i H2 hlt sH, fun σ H => ∃ F2 sv2, Same F1 F2 ∧ Rl g F2 H σ sv2 ∧ PostS X.mg g F2 (forL t mb (ds.drop (i + 1)) sv2) W Dn, fun σ' H' hN => ⟨ds.length - (i + 1), by omega, rfl, hlt, hN⟩, fun x H' hy => ?_⟩
    have hd : ds[i]? = some ds[i] := List.getElem?_eq_getElem hlt
    rw [List.drop_eq_getElem_cons hlt] at q2
    unfold forL at q2
    -- the item, represented
    have item : ∃ F3, Same F2 F3 ∧ Rl g F3 H' σ2 sv2 ∧ Rp g.K F3 ds[i] x := by
      rcases ok.yld i _ x H2 H' hd sH hy with ⟨rfl, hr⟩ | ⟨T, vs, es, ed, rfl, hT, rfl, hr⟩
      · exact ⟨F2, Same.refl F2, rl2, Rp.mono s2 _ _ hr⟩
      · have sF : Same F2 (upd F2 T (.tup vs)) := same_upd (rl2.sub.free hT)
        refine ⟨upd F2 T (.tup vs), sF, rl2.lay hT, ?_⟩
        rw [ed]
        exact ⟨T, vs, rfl, .inl (.inl upd_same), RpL.mono (s2.trans sF) _ _ hr⟩
    obtain ⟨F3, s3, rl3, rp3⟩ := item
    cases ht : t ds[i] sv2 with
    | none => rw [ht] at q2; exact False.elim q2
    | some sv3 =>
      rw [ht] at q2
      dsimp only at q2
      refine ⟨g, F3, sv2, ds[i], sv3, hK, rl3, hK ▸ rp3, ht, fun σ4 rl4 _ => ⟨g, F3, sv3, hK, rl4, ?_⟩⟩
      cases hb : mb sv3 with
      | nx s' => rw [hb] at q2; exact fun σ5 F5 H5 e5 rl5 => ⟨F5, s', (s2.trans s3).trans e5, rl5, q2.mono (s3.trans e5)⟩
      | ct s' => rw [hb] at q2; exact fun σ5 F5 H5 e5 rl5 => ⟨F5, s', (s2.trans s3).trans e5, rl5, q2.mono (s3.trans e5)⟩
      | bk s' => rw [hb] at q2; exact q2.mono s3
      | rt d s' => rw [hb] at q2; exact q2.mono s3
      | ro d s' => rw [hb] at q2; exact q2.mono s3
      | err x s' => rw [hb] at q2; exact q2.mono s3
      | bad => rw [hb] at q2; exact q2
  · have e : i = ds.length := by omega
    subst e
    rw [List.drop_length] at q2
    exact .inl ⟨ok.stop H2 sH, q2 σ2 F2 H2 (Same.refl F2) rl2⟩
end
end VM

set_option Elab.async false
set_option linter.all false
set_option autoImplicit false
set_option maxRecDepth 100000
set_option maxHeartbeats 400000
namespace VM
open PySem PySem.Spec PyProof.Rows L2

/-! ### what is walked -/
theorem pi_imp {X : Cx} {tg e : Expr} {t t' : TI} (h : PI X tg e t) (k : ∀ σ H R, t' σ H R → t σ H R) : PI X tg e t' := ⟨fun pins s σ H R I q => h.run pins s σ H R I (k σ H R q)⟩
/-- a list, a tuple or a text, as it comes -/
def iSeq (K : PySem.W.Frag) (tl : TE) : TI := fun σ H R => tl σ H fun x H1 =>
  (∃ a, x = .ref a ∧ (∃ xs, SqL K H1 a xs) ∧ R (Itl K a) H1) ∨ (∃ a, x = .ref a ∧ (∃ xs, SqT K H1 a xs) ∧ R (Itt K a) H1) ∨ (∃ z, x = .str z ∧ R (Its z) H1)
theorem pi_seq {X : Cx} {tg l : Expr} {tl : TE} (hl : PE X l tl) : PI X tg l (iSeq X.K tl) := by
  constructor
  intro pins s σ H R I h
  apply thn (hl.run pins s σ H _ I h)
  rintro v s1 ⟨x, H1, I1, r1, ⟨a, rfl, ⟨xs, hq⟩, q⟩ | ⟨a, rfl, ⟨xs, hq⟩, q⟩ | ⟨z, rfl, q⟩⟩
  · cases r1
    obtain ⟨its, rv, pl, hz⟩ := I1.list hq
    exact wpAny_pyIter_list pl.isList (pi_one (tk := s1.toks) I1 _ (turn_list a _) ⟨_, Heap.get?_push_size _ rfl, rfl, rfl⟩ q)
  · cases r1
    obtain ⟨its, rv, pl, hz⟩ := I1.tuple hq
    exact wpAny_pyIter_tuple (show s1.heap.IsTuple a its.toArray from pl) (pi_one (tk := s1.toks) I1 _ (turn_tuple a _) ⟨_, Heap.get?_push_size _ rfl, rfl, rfl⟩ q)
  · obtain ⟨t, rfl⟩ := r1
    cases ha : z.cps.all (· < 128)
    · exact wpAny_pyIter_wide ha (pi_one (tk := s1.toks) I1 _ (turn_str _ z t "str_iterator" (.inr rfl)) ⟨_, Heap.get?_push_size _ rfl, rfl, rfl⟩ q)
    · exact wpAny_pyIter_ascii ha (pi_one (tk := s1.toks) I1 _ (turn_str _ z t "str_ascii_iterator" (.inl rfl)) ⟨_, Heap.get?_push_size _ rfl, rfl, rfl⟩ q)
def itemsD : D → Option (List D)
  | .tup xs => some xs
  | .lst xs => some xs
  | .fl xs => some xs
  | .str z => some (z.cps.toList.map fun c => .str ⟨#[c]⟩)
  | _ => none
def mItems (m : M D) : M (List D) := fun sv => (m sv).bind fun d s => match itemsD d with
  | some ds => .ok ds s
  | none => .bad
section
variable {K : PySem.W.Frag} {F H : Hp}
theorem sqL_in {a : Addr} {xs : List V} (s : Same F H) (h : SqL K F a xs) : SqL K H a xs := s.seq h
/-- two readings of one place agree -/
theorem itl_ok {a : Addr} {vs : List V} {ds : List D} (h : SqL K F a vs) (r : RpL K F ds vs) : ItOk K F ds (Itl K a) where
  go := fun i H hi s => ⟨vs, vs[i]'(by rw [← r.length]; exact hi), s.seq h, List.getElem?_eq_getElem _⟩
  stop := fun H s => ⟨vs, s.seq h, by rw [r.length]; exact Nat.le_refl _⟩
  yld := fun i d x H H' hd s y => by
    obtain ⟨rfl, y⟩ := y
    obtain ⟨v, ev, rv⟩ := r.get i d hd
    have := (y vs (s.seq h)).symm.trans ev
    cases this
    exact .inl ⟨rfl, rv⟩
theorem itt_ok {a : Addr} {vs : List V} {ds : List D} (h : SqT K F a vs) (r : RpL K F ds vs) : ItOk K F ds (Itt K a) where
  go := fun i H hi s => ⟨vs, vs[i]'(by rw [← r.length]; exact hi), sqT_mono s h, List.getElem?_eq_getElem _⟩
  stop := fun H s => ⟨vs, sqT_mono s h, by rw [r.length]; exact Nat.le_refl _⟩
  yld := fun i d x H H' hd s y => by
    obtain ⟨rfl, y⟩ := y
    obtain ⟨v, ev, rv⟩ := r.get i d hd
    have := (y vs (sqT_mono s h)).symm.trans ev
    cases this
    exact .inl ⟨rfl, rv⟩
theorem its_ok {z : Str} : ItOk K F (z.cps.toList.map fun c => D.str ⟨#[c]⟩) (Its z) where
  go := fun i H hi s => by show i < z.cps.size; simpa using hi
  stop := fun H s => by simp [Its]
  yld := fun i d x H H' hd s y => by
    obtain ⟨rfl, c, ec, rfl⟩ := y
    refine .inl ⟨rfl, ?_⟩
    have e : z.cps.toList[i]? = some c := by simpa using ec
    rw [List.getElem?_map, e] at hd
    cases hd
    rfl
theorem itr_ok {lo : Int} {n : Nat} : ItOk K F ((List.range n).map fun i => D.int (lo + (i : Nat))) (Itr lo n) where
  go := fun i H hi s => by show i < n; simpa using hi
  stop := fun H s => by simp [Itr]
  yld := fun i d x H H' hd s y => by
    obtain ⟨rfl, rfl⟩ := y
    refine .inl ⟨rfl, ?_⟩
    rw [List.getElem?_map] at hd
    cases hr : (List.range n)[i]? with
    | none => rw [hr] at hd; cases hd
    | some j =>
      rw [hr] at hd
      cases hd
      have : j = i := by
        have := List.getElem?_eq_some_iff.mp hr
        obtain ⟨h1, h2⟩ := this
        simpa using h2.symm
      subst this
      rfl
end
section
variable {X : Cx} {W : WX'} {tg e : Expr} {m : M D} {p pos : Pos}
theorem si_seq (h : SE X W e m) : SI X W tg e (mItems m) := pi_imp (pi_seq h) fun σ H R q => by
  obtain ⟨g, F, sv, hK, rl, q⟩ := q
  refine ⟨g, F, sv, hK, rl, PostG.bind q fun d s x F1 H1 e1 rl1 rp1 q1 => ?_⟩
  have go : ∀ {ds : List D} {J : It}, itemsD d = some ds → ItOk g.K F1 ds J → R J H1 := fun {ds J} he ok => by
    rw [he] at q1
    exact q1 J F1 H1 (Same.refl F1) rl1 ok
  rw [← hK]
  cases d with
  | tup ds => obtain ⟨a, vs, rfl, h1, h2⟩ := rp1; exact .inr (.inl ⟨a, rfl, ⟨vs, sqT_mono rl1.sub h1⟩, go rfl (itt_ok h1 h2)⟩)
  | lst ds => obtain ⟨a, vs, rfl, h1, h2⟩ := rp1; exact .inl ⟨a, rfl, ⟨vs, .inl (.inl (rl1.sub _ _ h1))⟩, go rfl (itl_ok (.inl (.inl h1)) h2)⟩
  | fl ds => obtain ⟨a, vs, rfl, h1, h2⟩ := rp1; exact .inl ⟨a, rfl, ⟨vs, rl1.sub.seq h1⟩, go rfl (itl_ok h1 h2)⟩
  | str z => exact .inr (.inr ⟨z, rp1, go rfl its_ok⟩)
  | _ => exact False.elim q1
def rngs (lo : Int) (n : Nat) : List D := (List.range n).map fun i => D.int (lo + (i : Nat))
def mRng1 (ms : M (List D)) : M (List D) := fun sv => (ms sv).bind fun ds s => match ds with
  | [.int j] => if -(2 ^ 62) ≤ j ∧ j < 2 ^ 62 then .ok (rngs 0 j.toNat) s else .bad
  | _ => .bad
def mRng2 (ms : M (List D)) : M (List D) := fun sv => (ms sv).bind fun ds s => match ds with
  | [.int i, .int j] => if -(2 ^ 62) ≤ i ∧ i < 2 ^ 62 ∧ -(2 ^ 62) ≤ j ∧ j < 2 ^ 62 then .ok (rngs i (j - i).toNat) s else .bad
  | _ => .bad
variable {a b : Expr} {ms : M (List D)}
theorem si_range1 (hg : Gl X "range") (hm : X.mg "range" = none) (ha : SA X W [a] ms) (hs : starEach [a] X.env = [(false, eval a X.env)] := by rfl) : SI X W tg (.Call (.Name "range" p) [a] [] pos) (mRng1 ms) := pi_imp (pi_range1 hg hm ha hs) fun σ H R q => by
  obtain ⟨g, F, sv, hK, rl, q⟩ := q
  refine ⟨g, F, sv, hK, rl, PostG.bind q fun ds s x F1 H1 e1 rl1 rp1 q1 => ?_⟩
  split at q1
  · split at q1
    · obtain ⟨v, rfl, hv⟩ := RpL.one_inv rp1
      cases hv
      rename_i hz
      exact ⟨_, rfl, hz.1, hz.2, q1 _ F1 H1 (Same.refl F1) rl1 itr_ok⟩
    · exact False.elim q1
  · exact False.elim q1
theorem si_range2 (hg : Gl X "range") (hm : X.mg "range" = none) (ha : SA X W [a, b] ms) (hs : starEach [a, b] X.env = [(false, eval a X.env), (false, eval b X.env)] := by rfl) (hs2 : starEach [b] X.env = [(false, eval b X.env)] := by rfl) :
    SI X W tg (.Call (.Name "range" p) [a, b] [] pos) (mRng2 ms) := pi_imp (pi_range2 hg hm ha hs hs2) fun σ H R q => by
  obtain ⟨g, F, sv, hK, rl, q⟩ := q
  refine ⟨g, F, sv, hK, rl, PostG.bind q fun ds s x F1 H1 e1 rl1 rp1 q1 => ?_⟩
  split at q1
  · split at q1
    · obtain ⟨v, u, rfl, hv, hu⟩ := RpL.two_inv rp1
      cases hv; cases hu
      rename_i hz
      exact ⟨_, _, rfl, hz, q1 _ F1 H1 (Same.refl F1) rl1 itr_ok⟩
    · exact False.elim q1
  · exact False.elim q1
end

/-! #### enumerate -/
set_option maxHeartbeats 1000000 in
theorem meets_enum1 {v : Value} {o : Obj} {H : Heap → Prop} (B : Begins v o H) :
    Meets (Builtin.«enumerate.__new__» ⟨[.type "enumerate", v], []⟩) (fun _ R s => H s.heap ∧
      R (.ok (.ret (.ref (s.heap.push o).objs.size))) { s with heap := (s.heap.push o).push { cls := .type "enumerate", data := .fields #[.none, .bool false, .ref s.heap.objs.size, rawInt 0, .none, .none] } }) :=
  .of_wp fun prog w A R s h => by
    obtain ⟨hp, g, d, tk, os⟩ := s
    obtain ⟨h1, h⟩ := h
    have hsub := sub_enumerate
    have q1 : ∀ {A' : Around} {E : Value → Shared → Prop} {Q : Value → Shared → Prop}, Q (.ref hp.objs.size) ⟨hp.push o, g, d, tk, os⟩ → wpAny (model prog w) A' (pyIter v) Q E ⟨hp, g, d, tk, os⟩ :=
      fun q => B.iter prog w _ _ ⟨hp, g, d, tk, os⟩ _ h1 q
    wp_walk using q1
    refine wpAny_stack_any fun st => wpAny_pure ?_
    split
    · rename_i c _ _ _ _ _
      cases (c == Value.type "enumerate")
      · wp_walk using q1
        exact ⟨_, rfl, h⟩
      · wp_walk using q1
        exact ⟨_, rfl, h⟩
    · wp_walk using q1
      exact ⟨_, rfl, h⟩
theorem enum1 {prog : Program} {w : World} {A : Around} {E : Value → Shared → Prop} {s : Shared} {v : Value} {o : Obj} {H : Heap → Prop} {Q : Value → Shared → Prop} (B : Begins v o H) (h1 : H s.heap)
    (h : ∀ h', IsEnum h' (s.heap.objs.size + 1) s.heap.objs.size 0 .none → h'.get? s.heap.objs.size = some o → (∀ b o, s.heap.get? b = some o → h'.get? b = some o) → Q (.ref (s.heap.objs.size + 1)) { s with heap := h' }) :
    wpAny (model prog w) A (call (.type "enumerate") [v]) Q E s := by
  refine callType_new F.called_enumerate (by decide) (F.typeCall_enumerate_1 _) (F.newCall_enumerate_1 _) (fun obj => F.args_object_init_2 obj _) F.entry_enumerate_new (meets_enum1 B) ⟨h1, ?_⟩
  have hz : (s.heap.push o).objs.size = s.heap.objs.size + 1 := Heap.size_push ..
  show _ ∧ _
  rw [hz]
  have he : ((s.heap.push o).push { cls := .type "enumerate", data := .fields #[.none, .bool false, .ref s.heap.objs.size, rawInt 0, .none, .none] }).get? (s.heap.objs.size + 1) = some { cls := .type "enumerate", data := .fields #[.none, .bool false, .ref s.heap.objs.size, rawInt 0, .none, .none] } := by
    have := Heap.get?_push_size (s.heap.push o) (o := { cls := .type "enumerate", data := .fields #[.none, .bool false, .ref s.heap.objs.size, rawInt 0, .none, .none] }) rfl
    rw [hz] at this
    exact this
  exact ⟨⟨_, he, rfl⟩, h _ he (Heap.get?_push_of_some _ (Heap.get?_push_size _ B.free)) fun b o x => Heap.get?_push_of_some _ (Heap.get?_push_of_some _ x)⟩
/-- the tuple at a, each item in a new pair -/
def Iet (K : PySem.W.Frag) (a : Addr) : It :=
  ⟨fun i H => ∃ xs x, SqT K H a xs ∧ xs[i]? = some x, fun i H v H' => ∃ T x, v = .ref T ∧ H T = none ∧ H' = upd H T (.tup [.int (i : Nat), x]) ∧ ∀ xs, SqT K H a xs → xs[i]? = some x, fun i H => ∃ xs, SqT K H a xs ∧ xs.length ≤ i⟩
theorem enum_stop {prog : Program} {w : World} {A : Around} {E : Value → Shared → Prop} {s : Shared} {e it t : Addr} {i : Nat} {c : Int} {items : Array Value} {old : Value} {Q : Option Value → Shared → Prop} (hh : A.in1.handled = none)
    (he : IsEnum s.heap e it c old) (hit : s.heap.IsTupleIter it t i) (ht : s.heap.IsTuple t items) (hx : items[i]? = none) (hQ : ∀ h', Heap.ExtBut it s.heap h' → Q none { s with heap := h' }) : wpAny (model prog w) A (pyNext (.ref e)) Q E s := by
  have hT : s.TypeIs (.ref e) "enumerate" := ⟨_, he, rfl⟩
  unfold pyNext
  refine wpAny_bind (wpAny_attempt (wpAny_callSpecial?_slot (name := Str.ofString "__next__") hT F.slot_enumerate_next (wpAny_call_entry F.slot_enumerate_next hT F.entry_enumerate_next ?_ (F.args_enumerate_next_1 _))))
  show wpAny _ _ (field (.ref e) 2 >>= _) _ _ _
  refine wpAny_bind (wpAny_field he rfl (x := .ref it) rfl (wpAny_bind (wpAny_nextOf_tuple_end hh hit ht hx fun h' x he' hx' => ?_)))
  obtain ⟨o, ho, hc⟩ := hx'
  exact wpAny_bind (wpAny_isInstance (T := "StopIteration") (b := true) ⟨o, ho, hc⟩ isSubtype_stop (wpAny_pure (hQ _ he')))
theorem turn_enumT {P : Program} {w : World} {K : PySem.W.Frag} {elts : List Expr} {kk : Nat} {tpos : Pos} (a e it : Addr) :
    Turn P w K (.Tuple elts kk tpos) (Iet K a) [e, it] e (fun i h => (∃ old, IsEnum h e it ((i : Nat) : Int) old) ∧ h.IsTupleIter it a i ∧ e ≠ it ∧ a ≠ it ∧ a ≠ e) where
  mem := by simp
  obj := by
    rintro i h ⟨⟨old, he⟩, ⟨o, ho, hc, hd⟩, _⟩ b hb
    rcases List.mem_cons.mp hb with rfl | hb
    · exact ⟨_, he, fun v q => nomatch q⟩
    · rw [List.mem_singleton.mp hb]
      exact ⟨o, ho, fun v q => by rw [hd] at q; cases q⟩
  keep := by
    rintro i h h' ⟨⟨old, he⟩, hi, hne, hx⟩ k
    exact ⟨⟨old, k e (by simp) _ he⟩, hi.at fun o q => k it (by simp) o q, hne, hx⟩
  item := by
    intro X hP hw hK hc i pins s σ H E I hf st hg
    subst hP hw hK
    obtain ⟨⟨old, he⟩, hit, hne, hai, hae⟩ := st
    obtain ⟨xs, x, hq, hx⟩ := hg
    obtain ⟨its, rv, pl, hz⟩ := I.tuple hq
    obtain ⟨u, hu, ru⟩ := rv.get hx
    have hl := rv.length
    have hix : i < xs.length := (List.getElem?_eq_some_iff.mp hx).1
    have hel : e < s.heap.objs.size := Heap.lt_size he
    have hil : it < s.heap.objs.size := by obtain ⟨_, q, _⟩ := hit; exact Heap.lt_size q
    have hh : X.A.in1.handled = none := I.ok.hd hc
    have D := Draws.tuple (prog := X.prog) (w := X.w) (A := X.A.in1) hh it a hai its.toArray
    refine wpAny_pyNext_enum_itemD D he ⟨hit, show s.heap.IsTuple a its.toArray from pl⟩ (by simpa [← hl] using hix) hne (by simp [hne, Ne.symm hae]) fun y h' tk hy ho st' hT hsz hk => ?_
    have ey : y = u := by
      have hy' : its.toArray[i]? = some y := hy
      rw [List.getElem?_toArray, hu] at hy'
      exact (Option.some.inj hy').symm
    subst ey
    refine ⟨_, rfl, wpAny_letOwnedTupleGo_enum (s := { s with heap := h', toks := tk + 1 }) ho fun h'' he' sb => ?_⟩
    have hT2 : h''.get? s.heap.objs.size = some { cls := .type "tuple", data := .seq #[.int i tk, y] } := (sb.2 _ (Nat.ne_of_gt hel)).trans hT
    have new : ObjOk X.prog X.w (upd H s.heap.objs.size (.tup [.int (i : Nat), x])) h'' s.heap.objs.size (.tup [.int (i : Nat), x]) :=
      ⟨by show 2 ≤ sizeLine; decide, [.int i tk, y], .cons ⟨_, rfl⟩ (.cons ru .nil), ⟨_, hT2, rfl, _, rfl⟩⟩
    have I1 : Inv X pins σ (upd H s.heap.objs.size (.tup [.int (i : Nat), x])) { s with heap := h'', toks := tk + 1 } :=
      I.turnedNew (ch := [e, it]) (fun b ob hb q => (sb.2 b (fun z => hb (by simp [z]))).trans (hk b ob (fun z => hb (by simp [z])) (fun z => hb (by simp [z])) q)) hf (Nat.le_refl _) new
    have e1 : ((i + 1 : Nat) : Int) = (i : Int) + 1 := by omega
    refine ⟨.ref s.heap.objs.size, _, I1, rfl, ⟨_, x, rfl, I.hok.fresh (Nat.le_refl _), rfl, fun ys hy => by rw [I.tuple_inj hy hq]; exact hx⟩, ⟨⟨y, by rw [e1]; exact he'⟩, st'.1.at fun o q => (sb.2 it (Ne.symm hne)).trans q, hne, hai, hae⟩, fun b hb => ?_⟩
    have hb' : b < s.heap.objs.size := by
      rcases List.mem_cons.mp hb with rfl | hb
      · exact hel
      · rw [List.mem_singleton.mp hb]; exact hil
    rw [upd_ne (Nat.ne_of_lt hb')]
    exact (hf b hb).1
  done := by
    intro X hP hw hK hc i pins s σ H E I hf st hg
    subst hP hw hK
    obtain ⟨⟨old, he⟩, hit, hne, hai, hae⟩ := st
    obtain ⟨xs, hq, hx⟩ := hg
    obtain ⟨its, rv, pl, hz⟩ := I.tuple hq
    have hl := rv.length
    obtain ⟨f0, f1, f2, f3, f4, f5⟩ := hf it (by simp)
    have hh : X.A.in1.handled = none := I.ok.hd hc
    exact enum_stop hh he hit (show s.heap.IsTuple a its.toArray from pl) (by rw [List.getElem?_toArray]; exact List.getElem?_eq_none (by omega)) fun h' eb => ⟨rfl, I.turned (t' := s.toks) (fun b o hb q => eb b o hb q) f0 f1 f3 f4 f5⟩
  self := fun A i s Q E st h => let ⟨⟨_, he⟩, _⟩ := st; wpAny_pyIter_enum he h
/-- enumerate of a list or a tuple, as it comes -/
def iEnumA (K : PySem.W.Frag) (ta : TA) : TI := fun σ H R => ta σ H fun vs H1 => ∃ a, vs = [.ref a] ∧ (((∃ xs, SqL K H1 a xs) ∧ R (Ite K a) H1) ∨ ((∃ xs, SqT K H1 a xs) ∧ R (Iet K a) H1))
theorem pi_enumA {X : Cx} {e : Expr} {ta : TA} {p pos tpos : Pos} {elts : List Expr} {kk : Nat} (hg : Gl X "enumerate") (hm : X.mg "enumerate" = none) (ha : PA X [e] ta) (hs : starEach [e] X.env = [(false, eval e X.env)] := by rfl) :
    PI X (.Tuple elts kk tpos) (.Call (.Name "enumerate" p) [e] [] pos) (iEnumA X.K ta) := by
  constructor
  intro pins s σ H R I h
  refine Call_ (ld_blt I hg hm boot_enumerate (PyProof.Rows.callWith_type1 (thn (ha.run pos pins s σ H _ I h) ?_) hs rfl))
  rintro us s1 ⟨vs, H1, I1, r1, a, rfl, q⟩
  have er := r1.ref1
  subst er
  have two : ∀ b, b ∈ [s1.heap.objs.size + 1, s1.heap.objs.size] → s1.heap.objs.size ≤ b := fun b hb => by
    rcases List.mem_cons.mp hb with rfl | hb
    · exact Nat.le_succ _
    · rw [List.mem_singleton.mp hb]; exact Nat.le_refl _
  rcases q with ⟨⟨xs, hq⟩, q⟩ | ⟨⟨xs, hq⟩, q⟩
  · obtain ⟨its, rv, pl, hz⟩ := I1.list hq
    refine enum1 (begins_list a its.toArray) pl.isList fun h' he ho hk => wpAny_pyIter_enum he ?_
    exact ⟨s1.heap.objs.size + 1, [s1.heap.objs.size + 1, s1.heap.objs.size], _, _, H1, rfl, I1.kept (t' := s1.toks) hk, turn_enum a (s1.heap.objs.size + 1) s1.heap.objs.size, ⟨⟨.none, he⟩, ⟨_, ho, rfl, rfl⟩, Nat.succ_ne_self _⟩,
      fun b hb => I1.fpOk (two b hb) (I1.hok.fresh (two b hb)), q⟩
  · obtain ⟨its, rv, pl, hz⟩ := I1.tuple hq
    have hl : a < s1.heap.objs.size := pl.lt
    refine enum1 (begins_tuple a its.toArray) (show s1.heap.IsTuple a its.toArray from pl) fun h' he ho hk => wpAny_pyIter_enum he ?_
    exact ⟨s1.heap.objs.size + 1, [s1.heap.objs.size + 1, s1.heap.objs.size], _, _, H1, rfl, I1.kept (t' := s1.toks) hk, turn_enumT a (s1.heap.objs.size + 1) s1.heap.objs.size,
      ⟨⟨.none, he⟩, ⟨_, ho, rfl, rfl⟩, Nat.succ_ne_self _, Nat.ne_of_lt hl, Nat.ne_of_lt (Nat.lt_succ_of_lt hl)⟩, fun b hb => I1.fpOk (two b hb) (I1.hok.fresh (two b hb)), q⟩
def enumD : Nat → List D → List D
  | _, [] => []
  | n, d :: ds => .tup [.int (n : Nat), d] :: enumD (n + 1) ds
theorem enumD_len : ∀ (n : Nat) (ds : List D), (enumD n ds).length = ds.length
  | _, [] => rfl
  | n, d :: ds => by simp [enumD, enumD_len (n + 1) ds]
theorem enumD_get : ∀ (n : Nat) (ds : List D) (i : Nat) (d : D), (enumD n ds)[i]? = some d → ∃ e, ds[i]? = some e ∧ d = .tup [.int ((n + i : Nat) : Int), e]
  | _, [], i, d, h => by simp [enumD] at h
  | n, e :: ds, 0, d, h => by simp [enumD] at h; exact ⟨e, rfl, h.symm⟩
  | n, e :: ds, i + 1, d, h => by
    obtain ⟨e', h1, h2⟩ := enumD_get (n + 1) ds i d (by simpa [enumD] using h)
    exact ⟨e', by simpa using h1, by rw [h2]; congr 4; omega⟩
theorem ite_ok {K : PySem.W.Frag} {F : Hp} {a : Addr} {vs : List V} {ds : List D} (h : SqL K F a vs) (r : RpL K F ds vs) : ItOk K F (enumD 0 ds) (Ite K a) where
  go := fun i H hi s => ⟨vs, vs[i]'(by rw [← r.length, ← enumD_len 0 ds]; exact hi), s.seq h, List.getElem?_eq_getElem _⟩
  stop := fun H s => ⟨vs, s.seq h, by rw [enumD_len, r.length]; exact Nat.le_refl _⟩
  yld := fun i d x H H' hd s y => by
    obtain ⟨T, u, rfl, hT, rfl, y⟩ := y
    obtain ⟨e, he, rfl⟩ := enumD_get 0 ds i d hd
    obtain ⟨v, ev, rv⟩ := r.get i e he
    have := (y vs (s.seq h)).symm.trans ev
    cases this
    exact .inr ⟨T, _, _, rfl, rfl, hT, rfl, _, _, rfl, by show V.int _ = V.int _; congr 1; omega, _, _, rfl, rv, rfl⟩
theorem iet_ok {K : PySem.W.Frag} {F : Hp} {a : Addr} {vs : List V} {ds : List D} (h : SqT K F a vs) (r : RpL K F ds vs) : ItOk K F (enumD 0 ds) (Iet K a) where
  go := fun i H hi s => ⟨vs, vs[i]'(by rw [← r.length, ← enumD_len 0 ds]; exact hi), sqT_mono s h, List.getElem?_eq_getElem _⟩
  stop := fun H s => ⟨vs, sqT_mono s h, by rw [enumD_len, r.length]; exact Nat.le_refl _⟩
  yld := fun i d x H H' hd s y => by
    obtain ⟨T, u, rfl, hT, rfl, y⟩ := y
    obtain ⟨e, he, rfl⟩ := enumD_get 0 ds i d hd
    obtain ⟨v, ev, rv⟩ := r.get i e he
    have := (y vs (sqT_mono s h)).symm.trans ev
    cases this
    exact .inr ⟨T, _, _, rfl, rfl, hT, rfl, _, _, rfl, by show V.int _ = V.int _; congr 1; omega, _, _, rfl, rv, rfl⟩
def mEnum (ms : M (List D)) : M (List D) := fun sv => (ms sv).bind fun ds s => match ds with
  | [.tup xs] => .ok (enumD 0 xs) s
  | [.lst xs] => .ok (enumD 0 xs) s
  | [.fl xs] => .ok (enumD 0 xs) s
  | _ => .bad
theorem si_enum {X : Cx} {W : WX'} {e : Expr} {ms : M (List D)} {p pos tpos : Pos} {elts : List Expr} {kk : Nat} (hg : Gl X "enumerate") (hm : X.mg "enumerate" = none) (ha : SA X W [e] ms) (hs : starEach [e] X.env = [(false, eval e X.env)] := by rfl) :
    SI X W (.Tuple elts kk tpos) (.Call (.Name "enumerate" p) [e] [] pos) (mEnum ms) := pi_imp (pi_enumA hg hm ha hs) fun σ H R q => by
  obtain ⟨g, F, sv, hK, rl, q⟩ := q
  refine ⟨g, F, sv, hK, rl, PostG.bind q fun ds s x F1 H1 e1 rl1 rp1 q1 => ?_⟩
  rw [← hK]
  split at q1
  · obtain ⟨v, rfl, a, vs, rfl, h1, h2⟩ := RpL.one_inv rp1
    exact ⟨a, rfl, .inr ⟨⟨vs, sqT_mono rl1.sub h1⟩, q1 _ F1 H1 (Same.refl F1) rl1 (iet_ok h1 h2)⟩⟩
  · obtain ⟨v, rfl, a, vs, rfl, h1, h2⟩ := RpL.one_inv rp1
    exact ⟨a, rfl, .inl ⟨⟨vs, .inl (.inl (rl1.sub _ _ h1))⟩, q1 _ F1 H1 (Same.refl F1) rl1 (ite_ok (.inl (.inl h1)) h2)⟩⟩
  · obtain ⟨v, rfl, a, vs, rfl, h1, h2⟩ := RpL.one_inv rp1
    exact ⟨a, rfl, .inl ⟨⟨vs, rl1.sub.seq h1⟩, q1 _ F1 H1 (Same.refl F1) rl1 (ite_ok h1 h2)⟩⟩
  · exact False.elim q1
end VM

set_option Elab.async false
set_option linter.all false
set_option autoImplicit false
set_option maxRecDepth 100000
set_option maxHeartbeats 400000
namespace VM
open PySem PySem.Spec PyProof.Rows L2

/-! ### defs -/
inductive FR where
  | ok (d : D) (o : Option D) | err (x : Exn) (o : Option D) | bad
abbrev Fn := List D → FR

def PostF (K : PySem.W.Frag) (mg : Str → Option Value) (F H : Hp) (ip : Option Addr) (ro : Bool) (r : FR) (Q : VK) (E : XK) : Prop := match r with
  | .ok d o => ∀ v F' H', Same F F' → Same F' H' → (∀ a u, H a = some u → ip ≠ some a → H' a = some u) → (∀ a, H a ≠ none → F' a = F a) → (∀ p, ip = some p → ∃ d', o = some d' ∧ OwnP K F' H' d' p) →
      (if ro = true then ∃ p, v = .ref p ∧ H p = none ∧ OwnP K F' H' d p else Rp K F' d v) → Q v H'
  | .err x o => ∀ cls dd F' H', Same F F' → Same F' H' → (∀ a u, H a = some u → ip ≠ some a → H' a = some u) → (∀ a, H a ≠ none → F' a = F a) → (∀ p, ip = some p → ∃ d', o = some d' ∧ OwnP K F' H' d' p) →
      ErrOk K mg F' H' x cls dd → E cls dd H'
  | .bad => False
/-- what a def promises: it computes fn; io: the place of the argument that it may change; ro: its answer is new and the caller's -/
def spV (K : PySem.W.Frag) (mg : Str → Option Value) (n : Nat) (io : Option Nat) (ro : Bool) (fn : Fn) : Sp := fun vs H Q E => vs.length = n ∧ match io with
  | none => ∃ F ds, Same F H ∧ RpL K F ds vs ∧ PostF K mg F H none ro (fn ds) Q E
  | some k => ∃ F ds1 d ds2 vs1 p vs2, Same F H ∧ ds1.length = k ∧ vs = vs1 ++ V.ref p :: vs2 ∧ RpL K F ds1 vs1 ∧ OwnP K F H d p ∧ RpL K F ds2 vs2 ∧ PostF K mg F H (some p) ro (fn (ds1 ++ d :: ds2)) Q E

/-- FnOk, where no repr is under way -/
structure FnG (P : Program) (w : World) (K : PySem.W.Frag) (mg : Str → Option Value) (base : Heap) (k : Nat) (f : Addr) (fd : FuncData) (ps : List Str) (sp : Sp) : Prop where
  len : ∀ vs H Q E, sp vs H Q E → vs.length = ps.length
  run : ∀ (A : Around) (outer : List Env) (s : Shared) (H : Hp) (args : Args) (us : List Value) (vs : List V) (Q : VK) (E : XK), A.guards = some [] → Room k A → Env0 P w K mg base A outer s H → BindsTo s fd args (ps.zip us) → Vals vs us → sp vs H Q E →
    codeAny (model P w) A (.call (.ref f) args) (CR (L2.CX P w) outer P w H s Q E) s
theorem FnG.mono {P : Program} {w : World} {K : PySem.W.Frag} {mg : Str → Option Value} {base : Heap} {j k : Nat} {f : Addr} {fd : FuncData} {ps : List Str} {sp : Sp} (F : FnG P w K mg base j f fd ps sp) (h : j ≤ k) : FnG P w K mg base k f fd ps sp :=
  ⟨F.len, fun A outer s H args us vs Q E hg hr => F.run A outer s H args us vs Q E hg (hr.mono h)⟩

/-- what a body's derivation leans on -/
structure Ctx (X : Cx) (W : WX') (k : Nat) : Prop where
  tk : Takes X W
  hr : Room k X.A
  hg : X.A.guards = some []
  po : PassesOwn (model X.prog X.w) X.A X.env X.xe
theorem Ctx.u {X : Cx} {W : WX'} {k : Nat} (c : Ctx X W k) : X.A.units + 64 < cLine := by have := c.hr.un; omega
theorem Ctx.u5 {X : Cx} {W : WX'} {k : Nat} (c : Ctx X W k) : X.A.units + 65 < cLine := by have := c.hr.un; omega
abbrev WE0 (E : XK) : WX' := fun cls d _ H => E cls d H

/-- the frame at a def's entry -/
def initA (io : Option Nat) : Nat → List D → SV
  | _, [] => []
  | k, d :: ds => (if io = some k then .io 0 d else .pl d) :: initA io (k + 1) ds
def outS (io : Option Nat) (sv : SV) : Option (Option D) := match io with
  | none => some none
  | some k => match sv[k]? with
    | some (.io _ d) => some (some d)
    | _ => none
def fnOf (n : Nat) (io : Option Nat) (ro : Bool) (body : MS) : Fn := fun ds => match body (initA io 0 ds ++ List.replicate (n - ds.length) .un) with
  | .nx s => match outS io s with
    | some o => if ro = true then .bad else .ok .non o
    | none => .bad
  | .rt d s => match outS io s with
    | some o => if ro = true then .bad else .ok d o
    | none => .bad
  | .ro d s => match outS io s with
    | some o => if ro = true then .ok d o else .bad
    | none => .bad
  | .err x s => match outS io s with
    | some o => .err x o
    | none => .bad
  | _ => .bad
theorem initA_len (io : Option Nat) : ∀ (k : Nat) (ds : List D), (initA io k ds).length = ds.length
  | _, [] => rfl
  | k, d :: ds => by simp [initA, initA_len io (k + 1) ds]
theorem initA_get (io : Option Nat) : ∀ (k : Nat) (ds : List D) (i : Nat), (initA io k ds)[i]? = ds[i]?.map fun d => if io = some (k + i) then .io 0 d else .pl d
  | _, [], i => by simp [initA]
  | k, d :: ds, 0 => by simp [initA]
  | k, d :: ds, i + 1 => by
    simp only [initA, List.getElem?_cons_succ]
    rw [initA_get io (k + 1) ds i]
    have : k + 1 + i = k + (i + 1) := by omega
    rw [this]

theorem rl_init {K : PySem.W.Frag} {F H : Hp} {N : List Str} {ds : List D} {vs : List V} {io : Option Nat} {ip : Option Addr} (sub : Same F H) (hn : vs.length ≤ N.length) (len : ds.length = vs.length)
    (hp : ∀ i d v, ds[i]? = some d → vs[i]? = some v → if io = some i then ∃ p, ip = some p ∧ v = .ref p ∧ OwnP K F H d p else Rp K F d v) (hio : ∀ p, ip = some p → H p ≠ none) :
    Rl ⟨K, fun a => if ip = some a then none else H a, fun a => H a ≠ none, F, fun _ => ip⟩ F H (start N vs) (initA io 0 ds ++ List.replicate (N.length - ds.length) .un) := by
  have slot : ∀ (i : Nat) (s : Sl), (initA io 0 ds ++ List.replicate (N.length - ds.length) Sl.un)[i]? = some s → s = .un ∨ ∃ d v, ds[i]? = some d ∧ vs[i]? = some v ∧ (start N vs)[i]? = some (some v) ∧ s = if io = some i then .io 0 d else .pl d := fun i s h => by
    by_cases hi : i < ds.length
    · rw [List.getElem?_append_left (by rw [initA_len]; exact hi), initA_get, List.getElem?_eq_getElem hi] at h
      have hv : i < vs.length := by omega
      have e1 : vs[i]? = some vs[i] := List.getElem?_eq_getElem hv
      refine .inr ⟨ds[i], vs[i], List.getElem?_eq_getElem hi, e1, ?_, ?_⟩
      · unfold L2.start
        rw [List.getElem?_append_left (by simpa using hv), List.getElem?_map, e1]
        rfl
      · simpa using (Option.some.inj h).symm
    · rw [List.getElem?_append_right (by rw [initA_len]; omega)] at h
      obtain ⟨_, h2⟩ := List.getElem?_eq_some_iff.mp h
      exact .inl (by simpa using h2.symm)
  refine ⟨sub, fun a o e => ?_, fun a _ => rfl, fun a h => h, fun a o e => ?_, fun k p e => ?_, ?_, fun i s h => ?_, fun i j p hi hj => ?_⟩
  · dsimp only at e
    split at e
    · cases e
    · exact e
  · dsimp only at e
    split at e
    · cases e
    · intro z; rw [z] at e; cases e
  · have e' : ip = some p := e
    refine ⟨by show (if ip = some p then none else H p) = none; rw [if_pos e'], ?_⟩
    exact hio p e' 
  · unfold L2.start
    simp only [List.length_append, List.length_map, List.length_replicate, initA_len]
    omega
  · rcases slot i s h with rfl | ⟨d, v, e1, e2, e3, rfl⟩
    · trivial
    · have q := hp i d v e1 e2
      split
      · rename_i hio
        rw [if_pos hio] at q
        obtain ⟨p, ep, rfl, o⟩ := q
        exact ⟨p, e3, ep, o⟩
      · rename_i hio
        rw [if_neg hio] at q
        exact ⟨v, e3, q⟩
  · have one : ∀ i, Ref (start N vs) (initA io 0 ds ++ List.replicate (N.length - ds.length) Sl.un) i p → io = some i := fun i ⟨⟨s, e1, e2⟩, e3⟩ => by
      rcases slot i s e1 with rfl | ⟨d, v, _, _, _, rfl⟩
      · rcases e2 with ⟨_, z⟩ | ⟨_, _, z⟩ <;> cases z
      · by_cases h : io = some i
        · exact h
        · rw [if_neg h] at e2
          rcases e2 with ⟨_, z⟩ | ⟨_, _, z⟩ <;> cases z
    have h1 := one i hi
    have h2 := one j hj
    rw [h1] at h2
    exact Option.some.inj h2

section
variable {P : Program} {w : World} {K : PySem.W.Frag} {mg : Str → Option Value} {base : Heap}
theorem fin_post {n : Nat} {io : Option Nat} {ip : Option Addr} {ro : Bool} {body : MS} {ds : List D} {F H : Hp} {Q : VK} {E : XK} {g : G} (eg : g = ⟨K, fun a => if ip = some a then none else H a, fun a => H a ≠ none, F, fun _ => ip⟩) (hio : ∀ p, ip = some p → ∃ k, io = some k)
    (q : PostF K mg F H ip ro (fnOf n io ro body ds) Q E) : PostS mg g F (body (initA io 0 ds ++ List.replicate (n - ds.length) .un)) (WE0 E) { nx := fun _ H' => Q .non H', rt := Q } := by
  subst eg
  have keep : ∀ {F' H' : Hp} {σ' : L2.St} {sv' : SV}, Rl ⟨K, fun a => if ip = some a then none else H a, fun a => H a ≠ none, F, fun _ => ip⟩ F' H' σ' sv' → ∀ a u, H a = some u → ip ≠ some a → H' a = some u := fun rl a u e ne => rl.kH a u (by show (if ip = some a then none else H a) = some u; rw [if_neg ne]; exact e)
  have out : ∀ {F' H' : Hp} {σ' : L2.St} {sv' : SV} {o : Option D}, Rl ⟨K, fun a => if ip = some a then none else H a, fun a => H a ≠ none, F, fun _ => ip⟩ F' H' σ' sv' → outS io sv' = some o → ∀ p, ip = some p → ∃ d', o = some d' ∧ OwnP K F' H' d' p := fun {F' H' σ' sv' o} rl ho p hp => by
    obtain ⟨k, hk⟩ := hio p hp
    subst hk
    unfold outS at ho
    split at ho
    · rename_i z
      cases z
    · rename_i k' z
      cases z
      split at ho
      · rename_i j d hs
        cases ho
        obtain ⟨p', _, e2, o'⟩ := rl.sl _ _ hs
        have e2' : ip = some p' := e2
        rw [hp] at e2'; cases e2'
        exact ⟨d, rfl, o'⟩
      · cases ho
  unfold fnOf at q
  cases hb : body (initA io 0 ds ++ List.replicate (n - ds.length) .un) with
  | nx s =>
    rw [hb] at q
    intro σ' F' H' e rl
    cases ho : outS io s with
    | none => simp only [ho] at q; exact False.elim q
    | some o =>
      simp only [ho] at q
      split at q
      · exact False.elim q
      · rename_i hro
        exact q .non F' H' e rl.sub (keep rl) rl.kF (out rl ho) (by rw [if_neg hro]; rfl)
  | rt d s =>
    rw [hb] at q
    intro v σ' F' H' e rl rp
    cases ho : outS io s with
    | none => simp only [ho] at q; exact False.elim q
    | some o =>
      simp only [ho] at q
      split at q
      · exact False.elim q
      · rename_i hro
        exact q v F' H' e rl.sub (keep rl) rl.kF (out rl ho) (by rw [if_neg hro]; exact rp)
  | ro d s =>
    rw [hb] at q
    intro v σ' F' H' e rl rp
    cases ho : outS io s with
    | none => simp only [ho] at q; exact False.elim q
    | some o =>
      simp only [ho] at q
      split at q
      · rename_i hro
        obtain ⟨p, rfl, nf, o', _⟩ := rp
        have hp : H p = none := by
          cases z : H p with
          | none => rfl
          | some u => exact absurd (show H p ≠ none by rw [z]; exact fun z => nomatch z) nf
        exact q _ F' H' e rl.sub (keep rl) rl.kF (out rl ho) (by rw [if_pos hro]; exact ⟨p, rfl, hp, o'⟩)
      · exact False.elim q
  | err x s =>
    rw [hb] at q
    intro cls dd σ' F' H' e rl er
    cases ho : outS io s with
    | none => simp only [ho] at q; exact False.elim q
    | some o =>
      simp only [ho] at q
      exact q cls dd F' H' e rl.sub (keep rl) rl.kF (out rl ho) er
  | bk s => rw [hb] at q; exact False.elim q
  | ct s => rw [hb] at q; exact False.elim q
  | bad => rw [hb] at q; exact False.elim q
/-- THE RULE for a def -/
theorem fn_ok {x qual : Str} {st : Stmt} {f : Addr} {fd : FuncData} {N ps : List Str} {k n : Nat} {io : Option Nat} {ro : Bool} {body : MS} (F : Fun K x qual st f fd) (S : FnScope N ps (defScope st)) (hn : n = ps.length) (hN : ps.length ≤ N.length)
    (hb : ∀ (cdv : Value) (A : Around) (outer : List Env) (s : Shared) (H : Hp) (E : XK), Ctx (cxOf (L2.CX P w) P w K mg base N qual (defScope st) f cdv A outer s H E) (WE0 E) k →
      SSs (cxOf (L2.CX P w) P w K mg base N qual (defScope st) f cdv A outer s H E) (WE0 E) (defBody st) body) :
    FnG P w K mg base (k + 1) f fd ps (spV K mg n io ro (fnOf N.length io ro body)) := by
  obtain ⟨oc, od, kV, doc, pm, an, cdv, ct, osl, rfl, lk, hcd⟩ := F.ex
  subst hn
  have len : ∀ vs H Q E, spV K mg ps.length io ro (fnOf N.length io ro body) vs H Q E → vs.length = ps.length := fun vs H Q E h => h.1
  constructor
  · exact len
  intro A outer s H args us vs Q E hg hr e0 hbd r hsp
  have hl := len _ _ _ _ hsp
  have KX : K.In s.heap := e0.mod.kin.keeps fun b o e => (e0.bs b o e).1
  have lim : s.heap.NoLimit := e0.mod.nolimit.keeps fun b o e => (e0.bs b o e).1
  have kinds : ∀ y ∈ ps.zip us, (defScope st).names.lookup y.1 = some .local ∨ ((defScope st).names.lookup y.1 = some .cell ∧ ((cellsFrom (s.heap.objs.size + 1) (defScope st).names []).lookup y.1).isSome = true) := fun y hy => by
    rcases S.par y.1 (List.of_mem_zip hy).1 with q | q
    · exact .inl q
    · exact .inr ⟨q, PySem.W.cellsFrom_some _ _ _ (.inl q)⟩
  refine codeAny_call_function hr.depth (KX _ _ lk) rfl S.co S.gen rfl (PySem.W.codeRec_of KX hcd) (hbd _ _ _ _ ?_)
  refine wpAny_newFunctionEnv_cells S.kind kinds fun env he s1 x => ?_
  subst he
  refine ⟨lim.keeps x.toInCall.keep, codeAny_func ?_⟩
  have cx : Ctx (cxOf (L2.CX P w) P w K mg base N qual (defScope st) f cdv A outer s H E) (WE0 E) k := ⟨takes_of rfl rfl rfl rfl, hr.deeper _, hg, passes_of rfl⟩
  have ht := hb cdv A outer s H E cx
  have I : Inv (cxOf (L2.CX P w) P w K mg base N qual (defScope st) f cdv A outer s H E) [] (start N vs) H s1 := inv_start S hr.hd e0 hl r x
  have hq : tS K mg (WE0 E) body { nx := fun _ H' => Q .non H', rt := Q } (start N vs) H := by
    obtain ⟨_, h⟩ := hsp
    cases io with
    | none =>
      obtain ⟨F, ds, sub, rv, q⟩ := h
      have hv : vs.length ≤ N.length := by omega
      refine ⟨_, F, _, rfl, rl_init (N := N) (io := none) (ip := none) sub hv rv.length (fun i d v e1 e2 => ?_) (fun p hp => nomatch hp), fin_post rfl (fun p hp => nomatch hp) q⟩
      rw [if_neg (by exact fun z => nomatch z)]
      obtain ⟨v', e3, h3⟩ := rv.get i d e1
      rw [e2] at e3; cases e3
      exact h3
    | some j =>
      obtain ⟨F, ds1, d, ds2, vs1, p, vs2, sub, hj, rfl, r1, o, r2, q⟩ := h
      have l1 := r1.length
      have l2 := r2.length
      refine ⟨_, F, _, rfl, rl_init (N := N) (io := some j) (ip := some p) (ds := ds1 ++ d :: ds2) sub (by omega) (by simp [l1, l2]) (fun i d' v e1 e2 => ?_) (fun p' hp' => by cases hp'; exact o.nn), fin_post rfl (fun _ _ => ⟨j, rfl⟩) q⟩
      rcases Nat.lt_trichotomy i ds1.length with hi | hi | hi
      · rw [if_neg (by intro z; have := Option.some.inj z; omega)]
        rw [List.getElem?_append_left hi] at e1
        rw [List.getElem?_append_left (by omega)] at e2
        obtain ⟨v', e3, h3⟩ := r1.get i d' e1
        rw [e2] at e3; cases e3
        exact h3
      · have e : j = i := by omega
        subst e
        rw [if_pos rfl]
        rw [List.getElem?_append_right (by omega), hi, Nat.sub_self] at e1
        rw [List.getElem?_append_right (by omega), hi, l1, Nat.sub_self] at e2
        cases e1; cases e2
        exact ⟨p, rfl, rfl, o⟩
      · rw [if_neg (by intro z; have := Option.some.inj z; omega)]
        obtain ⟨t, ht⟩ : ∃ t, i - ds1.length = t + 1 := ⟨i - ds1.length - 1, by omega⟩
        rw [List.getElem?_append_right (by omega), ht] at e1
        rw [List.getElem?_append_right (by omega), ← l1, ht] at e2
        obtain ⟨v', e3, h3⟩ := r2.get t d' (by simpa using e1)
        have e2' : vs2[t]? = some v := by simpa using e2
        rw [e2'] at e3; cases e3
        exact h3
  refine wpAny_mono (ht.run [] s1 (start N vs) H _ I hq) (fun fl s' hs => ?_) fun e s' hs => hs
  have fin : ∀ {σ' : L2.St} {H' : Hp} {v : V} {u : Value}, Inv (cxOf (L2.CX P w) P w K mg base N qual (defScope st) f cdv A outer s H E) [] σ' H' s' → RelV v u → Q v H' → CE outer P w H s Q u s' :=
    fun {σ' H' v u} J rv q => ⟨v, H', J.os, J.bare, J.base, J.hok, rv, q⟩
  cases fl with
  | ret u => obtain ⟨v, σ', H', J, rv, q⟩ := hs; exact fin J rv q
  | next => obtain ⟨σ', H', J, q⟩ := hs; exact fin (v := V.non) (u := Value.none) J rfl q
  | brk => obtain ⟨_, _, _, q⟩ := hs; exact False.elim q
  | cont => obtain ⟨_, _, _, q⟩ := hs; exact False.elim q
end

/-! ### calls -/
/-- arguments, one of them handed over to be changed -/
def RelAI (g : G) (F' _H' : Hp) (σ : L2.St) (_ : SV) (a : List D × Nat × List D) (vs : List V) : Prop := ∃ vs1 v vs2, vs = vs1 ++ v :: vs2 ∧ RpL g.K F' a.1 vs1 ∧ σ[a.2.1]? = some (some v) ∧ RpL g.K F' a.2.2 vs2
abbrev SAI (X : Cx) (W : WX') (es : List Expr) (m : M (List D × Nat × List D)) : Prop := PA X es (tG X.K X.mg W RelAI m)
section
variable {X : Cx} {W : WX'} {e : Expr} {es : List Expr} {m : M D} {ms : M (List D)} {mi : M (List D × Nat × List D)} {pos p : Pos} {x : Str}
def miHere (i : Nat) (ms : M (List D)) : M (List D × Nat × List D) := fun sv => match sv[i]? with
  | some (.ow _) => (ms sv).bind fun ds s => .ok ([], i, ds) s
  | some (.io _ _) => (ms sv).bind fun ds s => .ok ([], i, ds) s
  | _ => .bad
def miCons (m : M D) (mi : M (List D × Nat × List D)) : M (List D × Nat × List D) := fun sv => (m sv).bind fun d s1 => (mi s1).bind fun a s2 => .ok (d :: a.1, a.2.1, a.2.2) s2
theorem sai_here {i : Nat} {y : Str} {py : Pos} (hv : PE X (.Name y py) (tVar i)) (hr : SA X W es ms) (hs : starEach (.Name y py :: es) X.env = (false, eval (.Name y py) X.env) :: starEach es X.env := by rfl) : SAI X W (.Name y py :: es) (miHere i ms) := pa_imp (pa_cons hv hr hs) fun σ H Q q => by
  obtain ⟨g, F, sv, hK, rl, q⟩ := q
  have two : ∀ {p : Addr}, σ[i]? = some (some (.ref p)) → PostG X.mg g F σ ((ms sv).bind fun ds s => .ok ([], i, ds) s) W RelAI Q → tCons (tVar i) (tG X.K X.mg W RelL ms) σ H Q := fun {p} e1 q => by
    refine ⟨.ref p, e1, g, F, sv, hK, rl, PostG.bind q fun ds s vs F1 H1 e2 rl1 rp1 q1 => ?_⟩
    exact q1 _ F1 H1 (Same.refl F1) rl1 ⟨[], _, vs, rfl, rfl, e1, rp1⟩
  unfold miHere at q
  split at q
  · rename_i d hd
    obtain ⟨p, e1, _⟩ := rl.at hd
    exact two e1 q
  · rename_i k d hd
    obtain ⟨p, e1, _⟩ := rl.at hd
    exact two e1 q
  · exact False.elim q
theorem sai_cons (ha : SE X W e m) (hr : SAI X W es mi) (hs : starEach (e :: es) X.env = (false, eval e X.env) :: starEach es X.env := by rfl) : SAI X W (e :: es) (miCons m mi) := pa_imp (pa_cons ha hr hs) fun σ H Q q => by
  obtain ⟨g, F, sv, hK, rl, q⟩ := q
  refine ⟨g, F, sv, hK, rl, PostG.bind q fun d s1 v F1 H1 e1 rl1 rp1 q1 => ?_⟩
  refine ⟨g, F1, s1, hK, rl1, PostG.bind q1 fun a s2 vs F2 H2 e2 rl2 rp2 q2 => ?_⟩
  obtain ⟨vs1, u, vs2, rfl, r1, r2, r3⟩ := rp2
  exact q2 _ F2 H2 (Same.refl F2) rl2 ⟨v :: vs1, u, vs2, rfl, ⟨v, vs1, rfl, Rp.mono e2 _ _ rp1, r1⟩, r2, r3⟩

/-- the call of a def by name -/
theorem pe_callG {k : Nat} {f : Addr} {fd : FuncData} {ps : List Str} {sp : Sp} {dvs : List V} {ds : List Value} {E : L2.St → XK} {t : TA} (F : FnG X.prog X.w X.K X.mg X.base k f fd ps sp) (hgd : X.A.guards = some []) (hr : Room k X.A) (hg : Gl X x) (hm : X.mg x = some (.ref f)) (hk : PySem.W.keepIn X.K (.ref f) = true) (hb : Binds X.K fd ps ds) (hd : Vals dvs ds) (hx : ∀ σ, PassesAt (L2.CX X.prog X.w) X σ (E σ))
    (ha : PA X (e :: es) t) (hdb : (x == ("__debug__" : Str)) = false := by decide) (he : starEach (e :: es) X.env = (false, eval e X.env) :: starEach es X.env := by rfl) (hpl : (backTo pos (starEach es X.env)).any (·.1) = false := by rfl) :
    PE X (.Call (.Name x p) (e :: es) [] pos) (tCallSD sp dvs E t) := by
  constructor
  intro pins s σ H Q I h
  refine wpAny_Call_Name_kw (ld_glob I hg hm (PySem.W.callWith_K (h₀ := X.base) I.ok.mod.kin hk (thn (ha.run pos pins s σ H _ I h) fun us s1 ⟨vs, H1, I1, r, q⟩ => ⟨I1.kIn, ?_⟩) he hpl) hdb)
  have r2 : Vals (vs ++ dvs) (us ++ ds) := r.append hd
  have hl : (us ++ ds).length = ps.length := r2.length.symm.trans (F.len _ _ _ _ q)
  refine wpAny_call (codeAny_mono (F.run X.A X.stack s1 H1 ⟨us, []⟩ (us ++ ds) (vs ++ dvs) Q (E σ) hgd hr I1.env0 (hb s1 us I1.kIn hl) r2 q) fun o s' hq => ?_)
  cases o with
  | error er => exact hx σ pins H1 s1 er s' I1 hq
  | ok fl =>
    cases fl with
    | ret u => exact I1.after hq
    | next => exact False.elim hq
    | brk => exact False.elim hq
    | cont => exact False.elim hq
theorem pe_callG0 {k : Nat} {f : Addr} {fd : FuncData} {ps : List Str} {sp : Sp} {dvs : List V} {ds : List Value} {E : L2.St → XK} (F : FnG X.prog X.w X.K X.mg X.base k f fd ps sp) (hgd : X.A.guards = some []) (hr : Room k X.A) (hg : Gl X x) (hm : X.mg x = some (.ref f)) (hk : PySem.W.keepIn X.K (.ref f) = true) (hb : Binds X.K fd ps ds) (hd : Vals dvs ds) (hx : ∀ σ, PassesAt (L2.CX X.prog X.w) X σ (E σ))
    (hdb : (x == ("__debug__" : Str)) = false := by decide) : PE X (.Call (.Name x p) [] [] pos) (tCallSD sp dvs E tNil) := by
  constructor
  intro pins s σ H Q I h
  have h : sp dvs H Q (E σ) := h
  refine wpAny_Call_Name_kw (ld_glob I hg hm (PySem.W.callWith_K0 I.kIn hk ?_) hdb)
  have hl : ([] ++ ds).length = ps.length := hd.length.symm.trans (F.len _ _ _ _ h)
  refine wpAny_call (codeAny_mono (F.run X.A X.stack s H ⟨[], []⟩ ([] ++ ds) dvs Q (E σ) hgd hr I.env0 (hb s [] I.kIn hl) hd h) fun o s' hq => ?_)
  cases o with
  | error er => exact hx σ pins H s er s' I hq
  | ok fl =>
    cases fl with
    | ret u => exact I.after hq
    | next => exact False.elim hq
    | brk => exact False.elim hq
    | cont => exact False.elim hq

/-- behind a call: the frame's state -/
theorem Rl.after {g : G} {F H F' H' : Hp} {σ : L2.St} {sv : SV} (r : Rl g F H σ sv) (s1 : Same F F') (s2 : Same F' H') (kp : ∀ a u, H a = some u → H' a = some u) (kf : ∀ a, H a ≠ none → F' a = F a) : Rl g F' H' σ sv := by
  have nn : ∀ a, H a ≠ none → H' a = H a := fun a h => by
    cases z : H a with
    | none => exact absurd z h
    | some u => exact kp a u z
  refine ⟨s2, fun a o e => kp _ _ (r.kH a o e), fun a h => (kf a (r.fxH a h)).trans (r.kF a h), fun a h => by rw [nn a (r.fxH a h)]; exact r.fxH a h, r.pf, r.ion, r.len, fun i s e => ?_, r.dj⟩
  have q := r.sl i s e
  cases s with
  | un => trivial
  | pl d => obtain ⟨v, e1, h⟩ := q; exact ⟨v, e1, Rp.mono s1 d v h⟩
  | ow d =>
    obtain ⟨p, e1, nf, o⟩ := q
    exact ⟨p, e1, nf, (o.monoF s1 (by rw [kf p o.nn]; exact o.1)).monoH (nn p o.nn)⟩
  | io k d =>
    obtain ⟨p, e1, nf, o⟩ := q
    exact ⟨p, e1, nf, (o.monoF s1 (by rw [kf p o.nn]; exact o.1)).monoH (nn p o.nn)⟩
theorem Rl.afterIo {g : G} {F H F' H' : Hp} {σ : L2.St} {sv : SV} (r : Rl g F H σ sv) {i : Nat} {p : Addr} {s s' : Sl} {d d' : D} (hs : sv[i]? = some s) (hd : slD s = some d) (hs' : reSl s d' = some s') (hp : σ[i]? = some (some (.ref p)))
    (s1 : Same F F') (s2 : Same F' H') (kp : ∀ a u, H a = some u → some p ≠ some a → H' a = some u) (kf : ∀ a, H a ≠ none → F' a = F a) (ho : OwnP g.K F' H' d' p) : Rl g F' H' σ (sv.set i s') := by
  have hi : i < sv.length := (List.getElem?_eq_some_iff.mp hs).1
  have ref : Ref σ sv i p := by
    refine ⟨⟨s, hs, ?_⟩, hp⟩
    cases s with
    | ow d => exact .inl ⟨_, rfl⟩
    | io k d => exact .inr ⟨_, _, rfl⟩
    | _ => cases hd
  obtain ⟨nF, nH, nP⟩ := r.own ref
  have nn : ∀ a, a ≠ p → H a ≠ none → H' a = H a := fun a hap h => by
    cases z : H a with
    | none => exact absurd z h
    | some u => exact kp a u z (fun z => hap (Option.some.inj z).symm)
  have rr : ∀ j q, Ref σ (sv.set i s') j q → Ref σ sv j q := fun j q ⟨⟨t, e1, e2⟩, e3⟩ => by
    by_cases h : i = j
    · subst h
      rw [hp] at e3
      cases e3
      exact ref
    · rw [List.getElem?_set_ne h] at e1
      exact ⟨⟨t, e1, e2⟩, e3⟩
  refine ⟨s2, fun a o e => ?_, fun a h => (kf a (r.fxH a h)).trans (r.kF a h), fun a h => ?_, r.pf, r.ion, by simp [r.len], fun j t e => ?_, fun j k q x y => r.dj j k q (rr _ _ x) (rr _ _ y)⟩
  · have hap : a ≠ p := fun z => by rw [z, nP] at e; cases e
    exact kp _ _ (r.kH a o e) fun z => hap (Option.some.inj z).symm
  · by_cases hap : a = p
    · rw [hap]; exact ho.nn
    · rw [nn a hap (r.fxH a h)]; exact r.fxH a h
  · by_cases h : i = j
    · subst h
      rw [List.getElem?_set_self hi] at e
      cases e
      have q := r.sl i s hs
      cases s with
      | ow d => cases hs'; obtain ⟨p', e1, nf, _⟩ := q; rw [hp] at e1; cases e1; exact ⟨p, hp, nf, ho⟩
      | io k d => cases hs'; obtain ⟨p', e1, nf, _⟩ := q; rw [hp] at e1; cases e1; exact ⟨p, hp, nf, ho⟩
      | _ => cases hd
    · rw [List.getElem?_set_ne h] at e
      have q := r.sl j t e
      cases t with
      | un => trivial
      | pl d => obtain ⟨v, e1, h⟩ := q; exact ⟨v, e1, Rp.mono s1 d v h⟩
      | ow d =>
        obtain ⟨q', e1, nf, o'⟩ := q
        have hne : q' ≠ p := fun z => h (r.dj i j p ref (by subst z; exact ⟨⟨_, e, .inl ⟨d, rfl⟩⟩, e1⟩))
        exact ⟨q', e1, nf, (o'.monoF s1 (by rw [kf q' o'.nn]; exact o'.1)).monoH (nn q' hne o'.nn)⟩
      | io k d =>
        obtain ⟨q', e1, nf, o'⟩ := q
        have hne : q' ≠ p := fun z => h (r.dj i j p ref (by subst z; exact ⟨⟨_, e, .inr ⟨k, d, rfl⟩⟩, e1⟩))
        exact ⟨q', e1, nf, (o'.monoF s1 (by rw [kf q' o'.nn]; exact o'.1)).monoH (nn q' hne o'.nn)⟩

def frR (r : FR) (s : SV) : R D := match r with
  | .ok d none => .ok d s
  | .err x none => .err x s
  | _ => .bad
def mCall (n : Nat) (fn : Fn) (dd : List D) (ms : M (List D)) : M D := fun sv => (ms sv).bind fun ds s => if (ds ++ dd).length = n then frR (fn (ds ++ dd)) s else .bad
def frI (r : FR) (i : Nat) (s : SV) : R D := match r with
  | .ok d (some o) => match s[i]? with
    | some sl => match reSl sl o with
      | some sl' => .ok d (s.set i sl')
      | none => .bad
    | none => .bad
  | .err x (some o) => match s[i]? with
    | some sl => match reSl sl o with
      | some sl' => .err x (s.set i sl')
      | none => .bad
    | none => .bad
  | _ => .bad
def mCallI (n : Nat) (fn : Fn) (k : Nat) (dd : List D) (mi : M (List D × Nat × List D)) : M D := fun sv => (mi sv).bind fun a s => match s[a.2.1]? with
  | some sl => match slD sl with
    | some d => if a.1.length = k ∧ (a.1 ++ d :: (a.2.2 ++ dd)).length = n then frI (fn (a.1 ++ d :: (a.2.2 ++ dd))) a.2.1 s else .bad
    | none => .bad
  | none => .bad
/-- defaults: values that no heap is asked for -/
def DefOk (K : PySem.W.Frag) (dd : List D) (dvs : List V) : Prop := ∀ F, RpL K F dd dvs
theorem DefOk.nil {K : PySem.W.Frag} : DefOk K [] [] := fun _ => rfl
theorem post_call {g : G} {F H : Hp} {σ : L2.St} {s : SV} {fn : Fn} {ds : List D} {vs : List V} {n : Nat} {ro : Bool} {Rel : G → Hp → Hp → L2.St → SV → D → V → Prop} {Q : VK} (hrel : ∀ F' H' d v, Rl g F' H' σ s → (if ro = true then ∃ p, v = .ref p ∧ H p = none ∧ OwnP g.K F' H' d p else Rp g.K F' d v) → Rel g F' H' σ s d v)
    (hl : vs.length = n) (rl : Rl g F H σ s) (rp : RpL g.K F ds vs) (q : PostG X.mg g F σ (frR (fn ds) s) W Rel Q) : spV g.K X.mg n none ro fn vs H Q (fun cls dd H' => W cls dd σ H') := by
  refine ⟨hl, F, ds, rl.sub, rp, ?_⟩
  unfold frR at q
  cases hf : fn ds with
  | ok d o =>
    rw [hf] at q
    cases o with
    | none =>
      intro v F' H' e1 e2 kp kf _ hr
      have rl' := rl.after e1 e2 (fun a u e => kp a u e (fun z => nomatch z)) kf
      exact q v F' H' e1 rl' (hrel F' H' d v rl' hr)
    | some _ => exact False.elim q
  | err x o =>
    rw [hf] at q
    cases o with
    | none =>
      intro cls dd F' H' e1 e2 kp kf _ er
      exact q cls dd F' H' e1 (rl.after e1 e2 (fun a u e => kp a u e (fun z => nomatch z)) kf) er
    | some _ => exact False.elim q
  | bad => rw [hf] at q; exact False.elim q
variable {k n : Nat} {f : Addr} {fd : FuncData} {ps : List Str} {fn : Fn} {dd : List D} {dvs : List V} {ds : List Value} {kk : Nat}
theorem se_call (c : Ctx X W kk) (hkk : k ≤ kk) (Fg : FnG X.prog X.w X.K X.mg X.base k f fd ps (spV X.K X.mg n none false fn)) (hg : Gl X x) (hm : X.mg x = some (.ref f)) (hk : PySem.W.keepIn X.K (.ref f) = true) (hb : Binds X.K fd ps ds) (hd : Vals dvs ds) (hdd : DefOk X.K dd dvs)
    (ha : SA X W (e :: es) ms) (hdb : (x == ("__debug__" : Str)) = false := by decide) (he : starEach (e :: es) X.env = (false, eval e X.env) :: starEach es X.env := by rfl) (hpl : (backTo pos (starEach es X.env)).any (·.1) = false := by rfl) :
    SE X W (.Call (.Name x p) (e :: es) [] pos) (mCall n fn dd ms) := pe_imp (pe_callG Fg c.hg (c.hr.mono hkk) hg hm hk hb hd (fun σ => passAt c.tk σ) ha hdb he hpl) fun σ H Q q => by
  obtain ⟨g, F, sv, hK, rl, q⟩ := q
  refine ⟨g, F, sv, hK, rl, PostG.bind q fun as s vs F1 H1 e1 rl1 rp1 q1 => ?_⟩
  split at q1
  · rename_i hz
    have rp : RpL g.K F1 (as ++ dd) (vs ++ dvs) := RpL.append rp1 (by rw [hK]; exact hdd F1)
    rw [← hK]
    exact post_call (fun F' H' d v _ hr => by show Rp g.K F' d v; simpa using hr) (rp.length.symm.trans hz) rl1 rp q1
  · exact False.elim q1
theorem so_call (c : Ctx X W kk) (hkk : k ≤ kk) (Fg : FnG X.prog X.w X.K X.mg X.base k f fd ps (spV X.K X.mg n none true fn)) (hg : Gl X x) (hm : X.mg x = some (.ref f)) (hk : PySem.W.keepIn X.K (.ref f) = true) (hb : Binds X.K fd ps ds) (hd : Vals dvs ds) (hdd : DefOk X.K dd dvs)
    (ha : SA X W (e :: es) ms) (hdb : (x == ("__debug__" : Str)) = false := by decide) (he : starEach (e :: es) X.env = (false, eval e X.env) :: starEach es X.env := by rfl) (hpl : (backTo pos (starEach es X.env)).any (·.1) = false := by rfl) :
    SO X W (.Call (.Name x p) (e :: es) [] pos) (mCall n fn dd ms) := pe_imp (pe_callG Fg c.hg (c.hr.mono hkk) hg hm hk hb hd (fun σ => passAt c.tk σ) ha hdb he hpl) fun σ H Q q => by
  obtain ⟨g, F, sv, hK, rl, q⟩ := q
  refine ⟨g, F, sv, hK, rl, PostG.bind q fun as s vs F1 H1 e1 rl1 rp1 q1 => ?_⟩
  split at q1
  · rename_i hz
    have rp : RpL g.K F1 (as ++ dd) (vs ++ dvs) := RpL.append rp1 (by rw [hK]; exact hdd F1)
    rw [← hK]
    refine post_call (fun F' H' d v rl' hr => ?_) (rp.length.symm.trans hz) rl1 rp q1
    rw [if_pos rfl] at hr
    obtain ⟨p, rfl, hp, o⟩ := hr
    exact ⟨p, rfl, rl1.nofx hp, o, fun i hi => by
      -- a slot's object stood ahead of the call
      obtain ⟨h1, h2⟩ := hi
      exact rl1.noRef hp i ⟨h1, h2⟩⟩
  · exact False.elim q1
theorem se_call0 (c : Ctx X W kk) (hkk : k ≤ kk) (Fg : FnG X.prog X.w X.K X.mg X.base k f fd ps (spV X.K X.mg n none false fn)) (hg : Gl X x) (hm : X.mg x = some (.ref f)) (hk : PySem.W.keepIn X.K (.ref f) = true) (hb : Binds X.K fd ps ds) (hd : Vals dvs ds) (hdd : DefOk X.K dd dvs)
    (hdb : (x == ("__debug__" : Str)) = false := by decide) : SE X W (.Call (.Name x p) [] [] pos) (mCall n fn dd mNil) := pe_imp (pe_callG0 Fg c.hg (c.hr.mono hkk) hg hm hk hb hd (fun σ => passAt c.tk σ) hdb) fun σ H Q q => by
  obtain ⟨g, F, sv, hK, rl, q⟩ := q
  have q : PostG X.mg g F σ (if ([] ++ dd).length = n then frR (fn ([] ++ dd)) sv else .bad) W RelE Q := q
  split at q
  · rename_i hz
    have rp : RpL g.K F ([] ++ dd) ([] ++ dvs) := by rw [hK]; exact hdd F
    show spV X.K X.mg n none false fn ([] ++ dvs) H Q _
    rw [← hK]
    exact post_call (fun F' H' d v _ hr => by show Rp g.K F' d v; simpa using hr) (rp.length.symm.trans hz) rl rp q
  · exact False.elim q
theorem so_call0 (c : Ctx X W kk) (hkk : k ≤ kk) (Fg : FnG X.prog X.w X.K X.mg X.base k f fd ps (spV X.K X.mg n none true fn)) (hg : Gl X x) (hm : X.mg x = some (.ref f)) (hk : PySem.W.keepIn X.K (.ref f) = true) (hb : Binds X.K fd ps ds) (hd : Vals dvs ds) (hdd : DefOk X.K dd dvs)
    (hdb : (x == ("__debug__" : Str)) = false := by decide) : SO X W (.Call (.Name x p) [] [] pos) (mCall n fn dd mNil) := pe_imp (pe_callG0 Fg c.hg (c.hr.mono hkk) hg hm hk hb hd (fun σ => passAt c.tk σ) hdb) fun σ H Q q => by
  obtain ⟨g, F, sv, hK, rl, q⟩ := q
  have q : PostG X.mg g F σ (if ([] ++ dd).length = n then frR (fn ([] ++ dd)) sv else .bad) W RelO' Q := q
  split at q
  · rename_i hz
    have rp : RpL g.K F ([] ++ dd) ([] ++ dvs) := by rw [hK]; exact hdd F
    show spV X.K X.mg n none true fn ([] ++ dvs) H Q _
    rw [← hK]
    refine post_call (fun F' H' d v rl' hr => ?_) (rp.length.symm.trans hz) rl rp q
    rw [if_pos rfl] at hr
    obtain ⟨p, rfl, hp, o⟩ := hr
    exact ⟨p, rfl, rl.nofx hp, o, fun i hi => rl.noRef hp i ⟨hi.1, hi.2⟩⟩
  · exact False.elim q
/-- a call that hands over what slot i owns -/
theorem post_callI {g : G} {F H : Hp} {σ : L2.St} {s : SV} {i j : Nat} {sl : Sl} {d0 : D} {ds1 ds2 : List D} {vs1 vs2 : List V} {p : Addr} {ro : Bool} {Rel : G → Hp → Hp → L2.St → SV → D → V → Prop} {Q : VK}
    (hrel : ∀ F' H' s' d v, Rl g F' H' σ s' → (∀ t q, Ref σ s' t q → Ref σ s t q) → (if ro = true then ∃ p, v = .ref p ∧ H p = none ∧ OwnP g.K F' H' d p else Rp g.K F' d v) → Rel g F' H' σ s' d v)
    (hl : (vs1 ++ V.ref p :: vs2).length = n) (hj : ds1.length = j) (rl : Rl g F H σ s) (h1 : s[i]? = some sl) (h2 : slD sl = some d0) (hp : σ[i]? = some (some (.ref p))) (o : OwnP g.K F H d0 p) (r1 : RpL g.K F ds1 vs1) (r2 : RpL g.K F ds2 vs2)
    (q : PostG X.mg g F σ (frI (fn (ds1 ++ d0 :: ds2)) i s) W Rel Q) : spV g.K X.mg n (some j) ro fn (vs1 ++ V.ref p :: vs2) H Q (fun cls dd H' => W cls dd σ H') := by
  refine ⟨hl, F, ds1, d0, ds2, vs1, p, vs2, rl.sub, hj, rfl, r1, o, r2, ?_⟩
  have ref : Ref σ s i p := by
    refine ⟨⟨sl, h1, ?_⟩, hp⟩
    cases sl with
    | ow d => exact .inl ⟨_, rfl⟩
    | io k d => exact .inr ⟨_, _, rfl⟩
    | _ => cases h2
  have back : ∀ sl' t q, Ref σ (s.set i sl') t q → Ref σ s t q := fun sl' t q ⟨⟨u, e1, e2⟩, e3⟩ => by
    by_cases h : i = t
    · subst h
      rw [hp] at e3
      cases e3
      exact ref
    · rw [List.getElem?_set_ne h] at e1
      exact ⟨⟨u, e1, e2⟩, e3⟩
  unfold frI at q
  cases hf : fn (ds1 ++ d0 :: ds2) with
  | ok d oo =>
    rw [hf] at q
    cases oo with
    | none => exact False.elim q
    | some o1 =>
      rw [h1] at q
      dsimp only at q
      obtain ⟨sl', h3⟩ := re_of (d' := o1) h2
      rw [h3] at q
      intro v F' H' e1 e2 kp kf ho hr
      obtain ⟨d', ed, o'⟩ := ho p rfl
      cases ed
      have rl' := rl.afterIo h1 h2 h3 hp e1 e2 kp kf o'
      exact q v F' H' e1 rl' (hrel F' H' _ d v rl' (back sl') hr)
  | err x oo =>
    rw [hf] at q
    cases oo with
    | none => exact False.elim q
    | some o1 =>
      rw [h1] at q
      dsimp only at q
      obtain ⟨sl', h3⟩ := re_of (d' := o1) h2
      rw [h3] at q
      intro cls dd F' H' e1 e2 kp kf ho er
      obtain ⟨d', ed, o'⟩ := ho p rfl
      cases ed
      exact q cls dd F' H' e1 (rl.afterIo h1 h2 h3 hp e1 e2 kp kf o') er
  | bad => rw [hf] at q; exact False.elim q
theorem se_callI {j : Nat} (c : Ctx X W kk) (hkk : k ≤ kk) (Fg : FnG X.prog X.w X.K X.mg X.base k f fd ps (spV X.K X.mg n (some j) false fn)) (hg : Gl X x) (hm : X.mg x = some (.ref f)) (hk : PySem.W.keepIn X.K (.ref f) = true) (hb : Binds X.K fd ps ds) (hd : Vals dvs ds) (hdd : DefOk X.K dd dvs)
    (ha : SAI X W (e :: es) mi) (hdb : (x == ("__debug__" : Str)) = false := by decide) (he : starEach (e :: es) X.env = (false, eval e X.env) :: starEach es X.env := by rfl) (hpl : (backTo pos (starEach es X.env)).any (·.1) = false := by rfl) :
    SE X W (.Call (.Name x p) (e :: es) [] pos) (mCallI n fn j dd mi) := pe_imp (pe_callG Fg c.hg (c.hr.mono hkk) hg hm hk hb hd (fun σ => passAt c.tk σ) ha hdb he hpl) fun σ H Q q => by
  obtain ⟨g, F, sv, hK, rl, q⟩ := q
  refine ⟨g, F, sv, hK, rl, PostG.bind q fun a s vs F1 H1 e1 rl1 rp1 q1 => ?_⟩
  obtain ⟨ds1, i, ds2⟩ := a
  obtain ⟨vs1, v, vs2, rfl, r1, hv, r2⟩ := rp1
  dsimp only at q1 hv r1 r2
  split at q1
  · rename_i sl h1
    split at q1
    · rename_i d0 h2
      split at q1
      · rename_i hz
        obtain ⟨p0, e2, o⟩ := rl1.ownAt h1 h2
        have ev : v = .ref p0 := by have := hv.symm.trans e2; simpa using this
        subst ev
        have r2' : RpL g.K F1 (ds2 ++ dd) (vs2 ++ dvs) := RpL.append r2 (by rw [hK]; exact hdd F1)
        show spV X.K X.mg n (some j) false fn ((vs1 ++ V.ref p0 :: vs2) ++ dvs) H1 Q _
        rw [List.append_assoc, List.cons_append, ← hK]
        refine post_callI (fun F' H' s' d v _ _ hr => by show Rp g.K F' d v; simpa using hr) ?_ hz.1 rl1 h1 h2 hv o r1 r2' q1
        have := hz.2
        simp only [List.length_append, List.length_cons, r1.length, r2.length, (hdd F1).length] at this ⊢
        omega
      · exact False.elim q1
    · exact False.elim q1
  · exact False.elim q1
theorem so_callI {j : Nat} (c : Ctx X W kk) (hkk : k ≤ kk) (Fg : FnG X.prog X.w X.K X.mg X.base k f fd ps (spV X.K X.mg n (some j) true fn)) (hg : Gl X x) (hm : X.mg x = some (.ref f)) (hk : PySem.W.keepIn X.K (.ref f) = true) (hb : Binds X.K fd ps ds) (hd : Vals dvs ds) (hdd : DefOk X.K dd dvs)
    (ha : SAI X W (e :: es) mi) (hdb : (x == ("__debug__" : Str)) = false := by decide) (he : starEach (e :: es) X.env = (false, eval e X.env) :: starEach es X.env := by rfl) (hpl : (backTo pos (starEach es X.env)).any (·.1) = false := by rfl) :
    SO X W (.Call (.Name x p) (e :: es) [] pos) (mCallI n fn j dd mi) := pe_imp (pe_callG Fg c.hg (c.hr.mono hkk) hg hm hk hb hd (fun σ => passAt c.tk σ) ha hdb he hpl) fun σ H Q q => by
  obtain ⟨g, F, sv, hK, rl, q⟩ := q
  refine ⟨g, F, sv, hK, rl, PostG.bind q fun a s vs F1 H1 e1 rl1 rp1 q1 => ?_⟩
  obtain ⟨ds1, i, ds2⟩ := a
  obtain ⟨vs1, v, vs2, rfl, r1, hv, r2⟩ := rp1
  dsimp only at q1 hv r1 r2
  split at q1
  · rename_i sl h1
    split at q1
    · rename_i d0 h2
      split at q1
      · rename_i hz
        obtain ⟨p0, e2, o⟩ := rl1.ownAt h1 h2
        have ev : v = .ref p0 := by have := hv.symm.trans e2; simpa using this
        subst ev
        have r2' : RpL g.K F1 (ds2 ++ dd) (vs2 ++ dvs) := RpL.append r2 (by rw [hK]; exact hdd F1)
        show spV X.K X.mg n (some j) true fn ((vs1 ++ V.ref p0 :: vs2) ++ dvs) H1 Q _
        rw [List.append_assoc, List.cons_append, ← hK]
        refine post_callI (fun F' H' s' d v rl' bk hr => ?_) ?_ hz.1 rl1 h1 h2 hv o r1 r2' q1
        · rw [if_pos rfl] at hr
          obtain ⟨p, rfl, hp, o⟩ := hr
          exact ⟨p, rfl, rl1.nofx hp, o, fun t ht => rl1.noRef hp t (bk t p ht)⟩
        · have := hz.2
          simp only [List.length_append, List.length_cons, r1.length, r2.length, (hdd F1).length] at this ⊢
          omega
      · exact False.elim q1
    · exact False.elim q1
  · exact False.elim q1
end
end VM

set_option Elab.async false
set_option linter.all false
set_option autoImplicit false
set_option maxRecDepth 100000
set_option maxHeartbeats 400000
namespace VM
open PySem PySem.Spec PyProof.Rows L2

/-! ### an owned object is lent for one expression -/
def PuR {α : Type} (sv : SV) : R α → Prop
  | .ok _ s => s = sv
  | .err _ s => s = sv
  | .bad => True
class Pu {α : Type} (m : M α) : Prop where
  h : ∀ sv, PuR sv (m sv)
theorem pu_ok {α : Type} {m : M α} [p : Pu m] {sv s : SV} {a : α} (h : m sv = .ok a s) : s = sv := by
  have := p.h sv
  rw [h] at this
  exact this
theorem pu_err {α : Type} {m : M α} [p : Pu m] {sv s : SV} {x : Exn} (h : m sv = .err x s) : s = sv := by
  have := p.h sv
  rw [h] at this
  exact this
theorem Pu.bind {α β : Type} {m : M α} [Pu m] {k : α → SV → R β} (hk : ∀ a sv, PuR sv (k a sv)) : Pu (fun sv => (m sv).bind k) := ⟨fun sv => by
  cases h : m sv with
  | ok a s =>
    have := pu_ok h
    subst this
    exact hk a s
  | err x s => exact pu_err h
  | bad => trivial⟩
instance pu_c {d : D} : Pu (mC d) := ⟨fun _ => rfl⟩
instance pu_rd {i : Nat} : Pu (mRd i) := ⟨fun sv => by
  unfold mRd
  split
  · rfl
  · trivial⟩
instance pu_2 {f : D → D → Option D} {ma mb : M D} [Pu ma] [Pu mb] : Pu (m2 f ma mb) := Pu.bind fun a sv => (Pu.bind (m := mb) (k := fun b s2 => match f a b with | some d => .ok d s2 | none => .bad) fun b sv => by cases f a b; trivial; rfl).h sv
instance pu_1 {f : D → Option D} {ma : M D} [Pu ma] : Pu (m1 f ma) := Pu.bind fun a sv => by cases f a; trivial; rfl
instance pu_B {m : M D} [Pu m] : Pu (mB m) := Pu.bind fun a sv => by cases a <;> first | rfl | trivial
instance pu_V {m : M Bool} [Pu m] : Pu (mV m) := Pu.bind fun a sv => rfl
instance pu_Not {m : M Bool} [Pu m] : Pu (mNot m) := Pu.bind fun a sv => rfl
instance pu_And {ma mb : M Bool} [Pu ma] [hb : Pu mb] : Pu (mAnd ma mb) := Pu.bind fun a sv => by
  cases a
  · exact rfl
  · exact hb.h sv
instance pu_Or {ma mb : M Bool} [Pu ma] [hb : Pu mb] : Pu (mOr ma mb) := Pu.bind fun a sv => by
  cases a
  · exact hb.h sv
  · exact rfl
instance pu_AndV {ma mb : M D} [Pu ma] [hb : Pu mb] : Pu (mAndV ma mb) := Pu.bind fun a sv => by
  cases a <;> try trivial
  rename_i b
  cases b
  · exact rfl
  · exact hb.h sv
instance pu_OrV {ma mb : M D} [Pu ma] [hb : Pu mb] : Pu (mOrV ma mb) := Pu.bind fun a sv => by
  cases a <;> try trivial
  rename_i b
  cases b
  · exact hb.h sv
  · exact rfl
instance pu_If {t : M Bool} {ma mb : M D} [Pu t] [ha : Pu ma] [hb : Pu mb] : Pu (mIf t ma mb) := Pu.bind fun c sv => by
  cases c
  · exact hb.h sv
  · exact ha.h sv
instance pu_oN : Pu moN := ⟨fun _ => rfl⟩
instance pu_oS {m : M D} [Pu m] : Pu (moS m) := Pu.bind fun a sv => by cases a <;> first | rfl | trivial
instance pu_Sl {m : M D} {ml mh : MO} [Pu m] [Pu ml] [Pu mh] : Pu (mSl m ml mh) := Pu.bind fun d sv => (Pu.bind (m := ml) (k := fun lo s2 => (mh s2).bind fun hi s3 => match dSl d lo hi with | some r => .ok r s3 | none => .bad)
  fun lo sv => (Pu.bind (m := mh) (k := fun hi s3 => match dSl d lo hi with | some r => .ok r s3 | none => .bad) fun hi sv => by cases dSl d lo hi; trivial; rfl).h sv).h sv
instance pu_nil : Pu mNil := ⟨fun _ => rfl⟩
instance pu_cons {m : M D} {ms : M (List D)} [Pu m] [Pu ms] : Pu (mCons m ms) := Pu.bind fun d sv => (Pu.bind (m := ms) (k := fun ds s2 => .ok (d :: ds) s2) fun ds sv => rfl).h sv
instance pu_Tup {ms : M (List D)} [Pu ms] : Pu (mTup ms) := Pu.bind fun ds sv => by split; exact rfl; trivial
instance pu_Lst {ms : M (List D)} [Pu ms] : Pu (mLst ms) := Pu.bind fun ds sv => by split; exact rfl; trivial
instance pu_Call1 {f : List D → Option D} {ms : M (List D)} [Pu ms] : Pu (mCall1 f ms) := Pu.bind fun ds sv => by cases f ds; trivial; rfl
instance pu_Call {n : Nat} {fn : Fn} {dd : List D} {ms : M (List D)} [Pu ms] : Pu (mCall n fn dd ms) := Pu.bind fun ds sv => by
  split
  · unfold frR
    split <;> first | rfl | trivial
  · trivial
instance pu_Items {m : M D} [Pu m] : Pu (mItems m) := Pu.bind fun d sv => by cases itemsD d; trivial; rfl

mutual
def lfree : D → Bool
  | .non => true
  | .bl _ => true
  | .int _ => true
  | .str _ => true
  | .tup xs => lfreeL xs
  | .lst _ => false
  | .fl _ => false
  | .dct _ => false
  | .obj _ _ => false
def lfreeL : List D → Bool
  | [] => true
  | d :: ds => lfree d && lfreeL ds
end
mutual
theorem Rp.drop {K : PySem.W.Frag} {F F' : Hp} (h : ∀ a vs, (F a = some (.tup vs) → F' a = some (.tup vs)) ∧ ∀ o, F a = some (.frz o (.tup vs)) → F' a = some (.frz o (.tup vs))) : ∀ (d : D) (v : V), lfree d = true → Rp K F d v → Rp K F' d v
  | .non, _, _, r => r
  | .bl _, _, _, r => r
  | .int _, _, _, r => r
  | .str _, _, _, r => r
  | .tup ds, v, f, r => by
    obtain ⟨a, vs, rfl, h1, h2⟩ := r
    refine ⟨a, vs, rfl, ?_, RpL.dropL h ds vs f h2⟩
    rcases h1 with (h1 | ⟨o, h1⟩) | h1
    · exact .inl (.inl ((h a vs).1 h1))
    · exact .inl (.inr ⟨o, (h a vs).2 o h1⟩)
    · exact .inr h1
  | .lst _, _, f, _ => by cases f
  | .fl _, _, f, _ => by cases f
  | .dct _, _, f, _ => by cases f
  | .obj _ _, _, f, _ => by cases f
theorem RpL.dropL {K : PySem.W.Frag} {F F' : Hp} (h : ∀ a vs, (F a = some (.tup vs) → F' a = some (.tup vs)) ∧ ∀ o, F a = some (.frz o (.tup vs)) → F' a = some (.frz o (.tup vs))) : ∀ (ds : List D) (vs : List V), lfreeL ds = true → RpL K F ds vs → RpL K F' ds vs
  | [], vs, _, r => r
  | d :: ds, vs, f, r => by
    obtain ⟨v, u, rfl, h1, h2⟩ := r
    simp only [lfreeL, Bool.and_eq_true] at f
    exact ⟨v, u, rfl, Rp.drop h d v f.1 h1, RpL.dropL h ds u f.2 h2⟩
end
/-- all owned objects but slot i's are out of sight, slot i's is lent -/
def hideS : SV → SV
  | [] => []
  | .un :: r => .un :: hideS r
  | .pl d :: r => .pl d :: hideS r
  | .ow _ :: r => .un :: hideS r
  | .io _ _ :: r => .un :: hideS r
def lend (i : Nat) (d : D) (sv : SV) : SV := (hideS sv).set i (.pl d)
theorem hideS_len : ∀ sv, (hideS sv).length = sv.length
  | [] => rfl
  | s :: r => by cases s <;> simp [hideS, hideS_len r]
theorem hideS_get : ∀ (sv : SV) (i : Nat) (s : Sl), (hideS sv)[i]? = some s → s = .un ∨ ∃ d, s = .pl d ∧ sv[i]? = some (.pl d)
  | [], i, s, h => by simp [hideS] at h
  | t :: r, 0, s, h => by cases t <;> simp [hideS] at h <;> subst h <;> simp
  | t :: r, i + 1, s, h => by
    have h' : (hideS r)[i]? = some s := by cases t <;> simpa [hideS] using h
    rcases hideS_get r i s h' with e | ⟨d, e1, e2⟩
    · exact .inl e
    · exact .inr ⟨d, e1, by simpa using e2⟩
def mWith {α : Type} (ok : α → Bool) (i : Nat) (m : M α) : M α := fun sv => match sv[i]? with
  | some sl => match slD sl with
    | some d => match m (lend i d sv) with
      | .ok r _ => if ok r = true then .ok r sv else .bad
      | _ => .bad
    | none => m sv
  | none => .bad
def G.lent (g : G) (F H : Hp) (p : Addr) (u : HO) : G := ⟨g.K, H, fun a => H a ≠ none, upd F p u, fun _ => none⟩
theorem rl_lend {g : G} {F H : Hp} {σ : L2.St} {sv : SV} {i : Nat} {sl : Sl} {d : D} {p : Addr} {u : HO} (rl : Rl g F H σ sv) (h1 : sv[i]? = some sl) (h2 : slD sl = some d) (hp : σ[i]? = some (some (.ref p))) (hu : H p = some u) (nF : F p = none) (rp : Rp g.K (upd F p u) d (.ref p)) :
    Rl (g.lent F H p u) (upd F p u) H σ (lend i d sv) := by
  have hi : i < sv.length := (List.getElem?_eq_some_iff.mp h1).1
  refine ⟨fun a o e => ?_, Same.refl H, fun _ _ => rfl, fun _ h => h, fun a o e => (by show H a ≠ none; have e' : H a = some o := e; rw [e']; exact (fun z => nomatch z)), fun k q e => (nomatch e), (by simp [lend, hideS_len, rl.len]), fun j s e => ?_, fun j k q a b => ?_⟩
  · by_cases h : a = p
    · subst h; rw [upd_same] at e; rw [hu]; exact e
    · rw [upd_ne h] at e; exact rl.sub a o e
  · unfold lend at e
    by_cases hj : i = j
    · subst hj
      rw [List.getElem?_set_self (by rw [hideS_len]; exact hi)] at e
      cases e
      exact ⟨_, hp, rp⟩
    · rw [List.getElem?_set_ne hj] at e
      rcases hideS_get sv j s e with rfl | ⟨d', rfl, e2⟩
      · trivial
      · obtain ⟨v, e3, h⟩ := rl.sl j _ e2
        exact ⟨v, e3, Rp.mono (same_upd nF) _ _ h⟩
  · obtain ⟨⟨s, e1, e2⟩, _⟩ := a
    unfold lend at e1
    by_cases hj : i = j
    · subst hj
      rw [List.getElem?_set_self (by rw [hideS_len]; exact hi)] at e1
      cases e1
      rcases e2 with ⟨_, z⟩ | ⟨_, _, z⟩ <;> cases z
    · rw [List.getElem?_set_ne hj] at e1
      rcases hideS_get sv j s e1 with rfl | ⟨d', rfl, _⟩
      · rcases e2 with ⟨_, z⟩ | ⟨_, _, z⟩ <;> cases z
      · rcases e2 with ⟨_, z⟩ | ⟨_, _, z⟩ <;> cases z
theorem post_with {α β : Type} {K : PySem.W.Frag} {mg : Str → Option Value} {W : WX'} {ok : α → Bool} {Rel : G → Hp → Hp → L2.St → SV → α → β → Prop} {i : Nat} {m : M α} [Pu m] {σ : L2.St} {H : Hp} {Q : β → Hp → Prop}
    (hrel : ∀ (g g1 : G) (F' F'' H' : Hp) (sv sv1 : SV) (a : α) (b : β), g1.K = g.K → ok a = true → (∀ a vs, (F' a = some (.tup vs) → F'' a = some (.tup vs)) ∧ ∀ o, F' a = some (.frz o (.tup vs)) → F'' a = some (.frz o (.tup vs))) → Rel g1 F' H' σ sv1 a b → Rel g F'' H' σ sv a b)
    (h : tG K mg W Rel (mWith ok i m) σ H Q) : tG K mg W Rel m σ H Q := by
  obtain ⟨g, F, sv, hK, rl, q⟩ := h
  unfold mWith at q
  split at q
  · rename_i sl h1
    split at q
    · rename_i d h2
      obtain ⟨p, hp, o⟩ := rl.ownAt h1 h2
      obtain ⟨u, hu, rp⟩ := o.rep
      have nF := o.1
      -- what stands at p is a list
      have lu : ∃ vs, u = .lst vs := by
        obtain ⟨_, oo⟩ := o
        cases d with
        | lst ds => obtain ⟨vs, e, _⟩ := oo; rw [hu] at e; exact ⟨vs, Option.some.inj e⟩
        | _ => exact False.elim oo
      refine ⟨g.lent F H p u, upd F p u, lend i d sv, hK, rl_lend rl h1 h2 hp hu nF rp, ?_⟩
      cases hm : m (lend i d sv) with
      | ok r s =>
        rw [hm] at q
        dsimp only at q
        split at q
        · rename_i hok
          have es := pu_ok hm
          subst es
          intro b F' H' e1 rl1 rel
          have keepF : ∀ a, a ≠ p → H a ≠ none → F' a = F a := fun a hap hn => (rl1.kF a hn).trans (upd_ne hap)
          have atp : F' p = some u := (rl1.kF p (show H p ≠ none by rw [hu]; exact (fun z => nomatch z))).trans upd_same
          obtain ⟨vs, rfl⟩ := lu
          have sF : Same F (fun a => if a = p then none else F' a) := fun a o e => by
            have hap : a ≠ p := fun z => by rw [z, nF] at e; cases e
            show (if a = p then none else F' a) = some o
            rw [if_neg hap, keepF a hap (by rw [rl.sub a o e]; exact fun z => nomatch z)]
            exact e
          have sH : Same (fun a => if a = p then none else F' a) H' := fun a o e => by
            have e : (if a = p then none else F' a) = some o := e
            split at e
            · cases e
            · exact rl1.sub a o e
          refine q b (fun a => if a = p then none else F' a) H' sF (rl.after sF sH (fun a o e => rl1.kH a o e) fun a hn => ?_) (hrel g (g.lent F H p (.lst vs)) F' _ H' sv _ r b rfl hok (fun a vs' => ?_) rel)
          · show (if a = p then none else F' a) = F a
            by_cases hap : a = p
            · rw [if_pos hap, hap, nF]
            · rw [if_neg hap, keepF a hap hn]
          · refine ⟨fun e => ?_, fun o e => ?_⟩
            · show (if a = p then none else F' a) = _
              rw [if_neg (fun z => by rw [z, atp] at e; cases e)]; exact e
            · show (if a = p then none else F' a) = _
              rw [if_neg (fun z => by rw [z, atp] at e; cases e)]; exact e
        · exact False.elim q
      | err x s => rw [hm] at q; exact False.elim q
      | bad => rw [hm] at q; exact False.elim q
    · exact ⟨g, F, sv, hK, rl, q⟩
  · exact False.elim q
section
variable {X : Cx} {W : WX'} {e : Expr} {es : List Expr} {i : Nat}
theorem se_with {m : M D} [Pu m] (h : SE X W e m) : SE X W e (mWith lfree i m) := pe_imp h fun σ H Q q => post_with (fun g g1 F' F'' H' sv sv1 a b hK ok hd r => by
  show Rp g.K F'' a b
  rw [← hK]
  exact Rp.drop hd a b ok r) q
theorem st_with {m : M Bool} [Pu m] (h : ST X W e m) : ST X W e (mWith (fun _ => true) i m) := pt_imp h fun σ H Q q => post_with (fun g g1 F' F'' H' sv sv1 a b hK ok hd r => r) q
end

/-! ### list comprehensions -/
def wipeV (sv : SV) : List Nat → SV
  | [] => sv
  | v :: vs => (wipeV sv vs).set v .un
def restV (own : List Nat) (s0 : SV) (s : SV) : SV := match own with
  | [] => s
  | v :: vs => match s0[v]? with
    | some sl => (restV vs s0 s).set v sl
    | none => restV vs s0 s
def ownOk (own : List Nat) (s : SV) : Bool := own.all fun v => match s[v]? with
  | some .un => true
  | some (.pl _) => true
  | _ => false
def lcL (own : List Nat) (t : MT) (mc : M Bool) (me : M D) : List D → SV → List D → R (List D)
  | [], s, acc => .ok acc s
  | d :: ds, s, acc => match t d s with
    | none => .bad
    | some s1 => match mc s1 with
      | .ok false s2 => lcL own t mc me ds (wipeV s2 own) acc
      | .ok true s2 => match me s2 with
        | .ok y s3 => if acc.length < sizeLine then lcL own t mc me ds (wipeV s3 own) (acc ++ [y]) else .bad
        | _ => .bad
      | _ => .bad
theorem lcL_noerr {own : List Nat} {t : MT} {mc : M Bool} {me : M D} : ∀ (ds : List D) (s : SV) (acc : List D) (x : Exn) (s' : SV), lcL own t mc me ds s acc ≠ .err x s'
  | [], _, _, _, _, h => by cases h
  | d :: ds, s, acc, x, s', h => by
    unfold lcL at h
    cases ht : t d s with
    | none => rw [ht] at h; cases h
    | some s1 =>
      rw [ht] at h
      dsimp only at h
      cases hc : mc s1 with
      | err x2 s2 => rw [hc] at h; cases h
      | bad => rw [hc] at h; cases h
      | ok b s2 =>
        rw [hc] at h
        cases b with
        | false => exact lcL_noerr ds _ _ _ _ h
        | true =>
          dsimp only at h
          cases hm : me s2 with
          | err x2 s3 => rw [hm] at h; cases h
          | bad => rw [hm] at h; cases h
          | ok y s3 =>
            rw [hm] at h
            dsimp only at h
            split at h
            · exact lcL_noerr ds _ _ _ _ h
            · cases h
def mLc (own : List Nat) (mi : M (List D)) (t : MT) (mc : M Bool) (me : M D) : M D := fun sv => (mi sv).bind fun ds s => if ownOk own s = true then (lcL own t mc me ds (wipeV s own) []).bind fun acc s' => .ok (.lst acc) (restV own s s') else .bad
def mYes : M Bool := fun sv => .ok true sv
abbrev STs (X : Cx) (W : WX') (ifs : List Expr) (m : M Bool) : Prop := PTs X ifs (tT X.K X.mg W m)
theorem pts_imp {X : Cx} {ifs : List Expr} {t t' : TT} (h : PTs X ifs t) (k : ∀ σ H Q, t' σ H Q → t σ H Q) : PTs X ifs t' := ⟨fun pins s σ H Q I q => h.run pins s σ H Q I (k σ H Q q)⟩
theorem sts_nil {X : Cx} {W : WX'} : STs X W [] mYes := pts_imp pts_nil fun σ H Q q => by
  obtain ⟨g, F, sv, hK, rl, q⟩ := q
  exact q true F H (Same.refl F) rl rfl
theorem sts_one {X : Cx} {W : WX'} {c : Expr} {m : M Bool} (h : ST X W c m) : STs X W [c] m := pts_one h
abbrev WF : WX' := fun _ _ _ _ => False
theorem Ctx.blk {X : Cx} {W : WX'} {k : Nat} (c : Ctx X W k) (s : Shared) (H : Hp) (scope : Scope) (cenv : Env) (fp : List Addr) : Ctx (X.blk s H scope cenv fp) WF k := ⟨takes0, c.hr, c.hg, PassesOwn.never⟩

section
variable {g : G} {F H : Hp} {σ : L2.St} {sv : SV}
theorem wipeV_len (sv : SV) : ∀ vs, (wipeV sv vs).length = sv.length
  | [] => rfl
  | v :: vs => by simp [wipeV, wipeV_len sv vs]
theorem wipe_get (σ : L2.St) (j : Nat) : ∀ vs, j ∉ vs → (wipe σ vs)[j]? = σ[j]?
  | [], _ => rfl
  | v :: vs, h => by
    unfold wipe
    rw [List.getElem?_set_ne (fun z => h (by simp [z])), wipe_get σ j vs (fun z => h (List.mem_cons_of_mem _ z))]
theorem wipeV_get (sv : SV) (j : Nat) : ∀ vs, j ∉ vs → (wipeV sv vs)[j]? = sv[j]?
  | [], _ => rfl
  | v :: vs, h => by
    unfold wipeV
    rw [List.getElem?_set_ne (fun z => h (by simp [z])), wipeV_get sv j vs (fun z => h (List.mem_cons_of_mem _ z))]
theorem wipeV_in (sv : SV) (j : Nat) (s : Sl) : ∀ vs, j ∈ vs → (wipeV sv vs)[j]? = some s → s = .un
  | v :: vs, h, e => by
    unfold wipeV at e
    by_cases hj : v = j
    · subst hj
      obtain ⟨hl, e2⟩ := List.getElem?_eq_some_iff.mp e
      rw [List.getElem?_set_self (by simpa using hl)] at e
      exact (Option.some.inj e).symm
    · rw [List.getElem?_set_ne hj] at e
      exact wipeV_in sv j s vs (by rcases List.mem_cons.mp h with z | z; exact absurd z.symm hj; exact z) e
/-- some slots are out of sight, in the frame and in the data -/
theorem Rl.sight (r : Rl g F H σ sv) {σ' : L2.St} {sv' : SV} (hl : σ'.length = σ.length) (hl' : sv'.length = sv.length) (h : ∀ (j : Nat) (s : Sl), sv'[j]? = some s → s = .un ∨ (sv[j]? = some s ∧ σ'[j]? = σ[j]?)) : Rl g F H σ' sv' := by
  have rr : ∀ j p, Ref σ' sv' j p → Ref σ sv j p := fun j p ⟨⟨s, e1, e2⟩, e3⟩ => by
    rcases h j s e1 with rfl | ⟨h1, h2⟩
    · rcases e2 with ⟨_, z⟩ | ⟨_, _, z⟩ <;> cases z
    · exact ⟨⟨s, h1, e2⟩, by rw [← h2]; exact e3⟩
  refine ⟨r.sub, r.kH, r.kF, r.fxH, r.pf, r.ion, by rw [hl, hl', r.len], fun j s e => ?_, fun i j p a b => r.dj i j p (rr _ _ a) (rr _ _ b)⟩
  rcases h j s e with rfl | ⟨h1, h2⟩
  · trivial
  · rw [h2]; exact r.sl j s h1
theorem Rl.wiped (r : Rl g F H σ sv) (vs : List Nat) : Rl g F H (wipe σ vs) (wipeV sv vs) := r.sight (wipe_length _ _) (wipeV_len _ _) fun j s e => by
  by_cases hj : j ∈ vs
  · exact .inl (wipeV_in sv j s vs hj e)
  · rw [wipeV_get sv j vs hj] at e
    exact .inr ⟨e, wipe_get σ j vs hj⟩
theorem wipe_agree {is own : List Nat} {σ σ' : L2.St} (a : Agree is (wipe σ own) σ') (h : ∀ i ∈ is, i ∈ own) : wipe σ' own = wipe σ own := by
  apply List.ext_getElem?
  intro j
  by_cases hj : j ∈ own
  · -- both forgotten
    have key : ∀ (τ : L2.St) (vs : List Nat), j ∈ vs → (wipe τ vs)[j]? = if j < τ.length then some none else none := fun τ vs => by
      induction vs with
      | nil => intro z; cases z
      | cons v vs ih =>
        intro z
        unfold wipe
        by_cases hv : v = j
        · subst hv
          by_cases hl : v < τ.length
          · rw [List.getElem?_set_self (by rw [wipe_length]; exact hl), if_pos hl]
          · rw [if_neg hl, List.getElem?_eq_none (by rw [List.length_set, wipe_length]; omega)]
        · rw [List.getElem?_set_ne hv]
          exact ih (by rcases List.mem_cons.mp z with z | z; exact absurd z.symm hv; exact z)
    rw [key _ _ hj, key _ _ hj, a.1, wipe_length]
  · rw [wipe_get _ _ _ hj, a.2 j fun z => hj (h j z)]
theorem restV_len (own : List Nat) (s0 s : SV) : (restV own s0 s).length = s.length := by
  induction own with
  | nil => rfl
  | cons v vs ih =>
    unfold restV
    cases s0[v]? with
    | none => exact ih
    | some sl => simp [ih]
theorem restV_get (own : List Nat) (s0 s : SV) (j : Nat) (t : Sl) (h : (restV own s0 s)[j]? = some t) : (j ∉ own ∧ s[j]? = some t) ∨ (j ∈ own ∧ s0[j]? = some t) ∨ (s0[j]? = none ∧ s[j]? = some t) := by
  induction own with
  | nil => exact .inl ⟨by simp, h⟩
  | cons v vs ih =>
    unfold restV at h
    cases e : s0[v]? with
    | none =>
      rw [e] at h
      rcases ih h with ⟨h1, h2⟩ | ⟨h1, h2⟩ | ⟨h1, h2⟩
      · by_cases hv : j = v
        · subst hv
          exact .inr (.inr ⟨e, h2⟩)
        · exact .inl ⟨by simp [hv, h1], h2⟩
      · exact .inr (.inl ⟨List.mem_cons_of_mem _ h1, h2⟩)
      · exact .inr (.inr ⟨h1, h2⟩)
    | some sl =>
      rw [e] at h
      by_cases hv : v = j
      · subst hv
        obtain ⟨hl, _⟩ := List.getElem?_eq_some_iff.mp h
        rw [List.getElem?_set_self (by simpa using hl)] at h
        cases h
        exact .inr (.inl ⟨by simp, e⟩)
      · rw [List.getElem?_set_ne hv] at h
        rcases ih h with ⟨h1, h2⟩ | ⟨h1, h2⟩ | ⟨h1, h2⟩
        · exact .inl ⟨by simp [Ne.symm hv, h1], h2⟩
        · exact .inr (.inl ⟨List.mem_cons_of_mem _ h1, h2⟩)
        · exact .inr (.inr ⟨h1, h2⟩)
/-- an object that no slot has is kept through an expression -/
def G.keep (g : G) (p : Addr) (u : HO) : G := ⟨g.K, upd g.pH p u, fun a => g.fx a ∨ a = p, fun a => if a = p then none else g.F0 a, g.io⟩
theorem Rl.keepG (r : Rl g F H σ sv) {p : Addr} {u : HO} (nf : ¬ g.fx p) (nF : F p = none) (hH : H p = some u) (nr : ∀ i, ¬ Ref σ sv i p) : Rl (g.keep p u) F H σ sv := by
  refine ⟨r.sub, fun a o e => ?_, fun a ha => ?_, fun a ha => ?_, fun a o e => ?_, fun k q e => ?_, r.len, fun i s e => ?_, r.dj⟩
  · have e : upd g.pH p u a = some o := e
    by_cases h : a = p
    · subst h; rw [upd_same] at e; rw [hH]; exact e
    · rw [upd_ne h] at e; exact r.kH a o e
  · show F a = if a = p then none else g.F0 a
    by_cases h : a = p
    · rw [if_pos h, h, nF]
    · rw [if_neg h]
      rcases ha with ha | ha
      · exact r.kF a ha
      · exact absurd ha h
  · rcases ha with ha | ha
    · exact r.fxH a ha
    · rw [ha, hH]; exact fun z => nomatch z
  · have e : upd g.pH p u a = some o := e
    show g.fx a ∨ a = p
    by_cases h : a = p
    · exact .inr h
    · rw [upd_ne h] at e; exact .inl (r.pf a o e)
  · obtain ⟨h1, h2⟩ := r.ion k q e
    have hq : q ≠ p := fun z => nf (z ▸ h2)
    exact ⟨(upd_ne hq).trans h1, .inl h2⟩
  · have q := r.sl i s e
    cases s with
    | un => trivial
    | pl d => exact q
    | ow d =>
      obtain ⟨q', e1, nf', o'⟩ := q
      refine ⟨q', e1, fun z => ?_, o'⟩
      rcases z with z | z
      · exact nf' z
      · exact nr i (by subst z; exact ⟨⟨_, e, .inl ⟨d, rfl⟩⟩, e1⟩)
    | io k d => exact q
/-- .. and may then be changed -/
theorem Rl.unkeep {p : Addr} {u u' : HO} (r : Rl (g.keep p u) F H σ sv) (nf : ¬ g.fx p) (nF0 : ∀ a, g.fx a → a ≠ p) (npH : g.pH p = none) : F p = none ∧ H p = some u ∧ Rl g F (upd H p u') σ sv ∧ ∀ i, ¬ Ref σ sv i p := by
  have hF : F p = none := (r.kF p (.inr rfl)).trans (if_pos rfl)
  have hH : H p = some u := r.kH p u upd_same
  have nr : ∀ i, ¬ Ref σ sv i p := fun i hi => by
    have := (r.own hi).2.2
    have h2 : upd g.pH p u p = none := this
    rw [upd_same] at h2
    cases h2
  refine ⟨hF, hH, ⟨fun a o e => ?_, fun a o e => ?_, fun a ha => ?_, fun a ha => ?_, fun a o e => ?_, fun k q e => ?_, r.len, fun i s e => ?_, r.dj⟩, nr⟩
  · rw [upd_ne (fun z => by rw [z, hF] at e; cases e)]; exact r.sub a o e
  · have hap : a ≠ p := fun z => by rw [z, npH] at e; cases e
    rw [upd_ne hap]
    exact r.kH a o ((upd_ne hap).trans e)
  · exact (r.kF a (.inl ha)).trans (if_neg (nF0 a ha))
  · rw [upd_ne (nF0 a ha)]; exact r.fxH a (.inl ha)
  · have hap : a ≠ p := fun z => by rw [z, npH] at e; cases e
    rcases r.pf a o ((upd_ne hap).trans e) with z | z
    · exact z
    · exact absurd z hap
  · obtain ⟨h1, h2⟩ := r.ion k q e
    rcases h2 with h2 | h2
    · exact ⟨(upd_ne (nF0 q h2)).symm.trans h1, h2⟩
    · have h1 : upd g.pH p u q = none := h1
      rw [h2, upd_same] at h1
      cases h1
  · have q := r.sl i s e
    have ne : ∀ q', σ[i]? = some (some (.ref q')) → (∃ d, s = .ow d) ∨ (∃ k d, s = .io k d) → q' ≠ p := fun q' e1 e2 z => nr i (by subst z; exact ⟨⟨_, e, e2⟩, e1⟩)
    cases s with
    | un => trivial
    | pl d => exact q
    | ow d =>
      obtain ⟨q', e1, nf', o'⟩ := q
      exact ⟨q', e1, fun z => nf' (.inl z), o'.monoH (upd_ne (ne q' e1 (.inl ⟨d, rfl⟩)))⟩
    | io k d =>
      obtain ⟨q', e1, hk, o'⟩ := q
      exact ⟨q', e1, hk, o'.monoH (upd_ne (ne q' e1 (.inr ⟨k, d, rfl⟩)))⟩
end
theorem h4w {σ4 σ : L2.St} {ow : List Nat} {s : SV} {p : Addr} {j : Nat} (h : ∀ i, ¬ Ref σ4 s i p) (ew : wipe σ4 ow = wipe σ ow) (hj : Ref (wipe σ ow) (wipeV s ow) j p) : False := by
  obtain ⟨⟨t, e1, e2⟩, e3⟩ := hj
  by_cases hm : j ∈ ow
  · have := wipeV_in s j t ow hm e1
    subst this
    rcases e2 with ⟨_, z⟩ | ⟨_, _, z⟩ <;> cases z
  · rw [wipeV_get s j ow hm] at e1
    rw [← ew, wipe_get σ4 j ow hm] at e3
    exact h j ⟨⟨t, e1, e2⟩, e3⟩
/-- a new, owned list beside the frame -/
structure Side (g : G) (F H : Hp) (σ : L2.St) (sv : SV) (p : Addr) (acc : List D) : Prop where
  nf : ¬ g.fx p
  nF : F p = none
  at_ : ∃ vs, H p = some (.lst vs) ∧ RpL g.K F acc vs
  nr : ∀ i, ¬ Ref σ sv i p
theorem Side.nP {g : G} {F H : Hp} {σ : L2.St} {sv : SV} {p : Addr} {acc : List D} (s : Side g F H σ sv p acc) (r : Rl g F H σ sv) : g.pH p = none := by
  cases h : g.pH p with
  | none => rfl
  | some o => exact absurd (r.pf p o h) s.nf

section
variable {X : Cx} {W : WX'} {elt tg iter : Expr} {ifs : List Expr} {scope : Scope} {own : List (Str × Nat)} {pos : Pos} {mi : M (List D)} {is : List Nat} {t : MT} {mc : M Bool} {me : M D}
theorem lc_turns {g : G} {J : It} {ds : List D} {σ : L2.St} {F1 : Hp} {p : Addr} {Q : VK} {ow : List Nat} (his : ∀ i ∈ is, i ∈ ow) (ok : ItOk g.K F1 ds J) {fin : List D → SV → Prop}
    (hfin : ∀ F2 H2 s2 acc, Same F1 F2 → Rl g F2 H2 (wipe σ ow) s2 → Side g F2 H2 (wipe σ ow) s2 p acc → fin acc s2 → Q (.ref p) H2) {H1 : Hp} {s1 : SV} (rl1 : Rl g F1 H1 (wipe σ ow) s1) (sd1 : Side g F1 H1 (wipe σ ow) s1 p [])
    (q : match lcL ow t mc me ds s1 [] with | .ok acc s => fin acc s | _ => False) :
    ∃ Wi : Nat → Nat → Hp → Prop, (∃ m, Wi 0 m H1) ∧ ∀ i m H, Wi i m H → (J.stop i H ∧ Q (.ref p) H) ∨ (J.go i H ∧ ∃ Nx : Hp → Prop, (∀ H', Nx H' → ∃ m', m' < m ∧ Wi (i + 1) m' H') ∧ ∀ x H', J.yld i H x H' →
      tGt g.K is t x (wipe σ ow) H' fun σ2 H2 => wipe σ2 ow = wipe σ ow ∧ tT g.K X.mg WF mc σ2 H2 fun b H3 => if b = true then tE g.K X.mg WF me σ2 H3 fun y H4 => ∃ acc, H4 p = some (.lst acc) ∧ acc.length < sizeLine ∧ Nx (upd H4 p (.lst (acc ++ [y]))) else Nx H3) := by
  refine ⟨fun i m H => m = ds.length - i ∧ i ≤ ds.length ∧ ∃ F2 s2 acc, Same F1 F2 ∧ Rl g F2 H (wipe σ ow) s2 ∧ Side g F2 H (wipe σ ow) s2 p acc ∧ (match lcL ow t mc me (ds.drop i) s2 acc with | .ok acc s => fin acc s | _ => False),
    ⟨ds.length, by simp, Nat.zero_le _, F1, s1, [], Same.refl F1, rl1, sd1, q⟩, ?_⟩
  rintro i m H ⟨rfl, hi, F2, s2, acc, e2, rl2, sd2, q2⟩
  have sH : Same F1 H := e2.trans rl2.sub
  by_cases hlt : i < ds.length
  · have hd : ds[i]? = some ds[i] := List.getElem?_eq_getElem hlt
    rw [List.drop_eq_getElem_cons hlt] at q2
    unfold lcL at q2
    refine .inr ⟨ok.go i H hlt sH, fun H => ∃ F2 s2 acc, Same F1 F2 ∧ Rl g F2 H (wipe σ ow) s2 ∧ Side g F2 H (wipe σ ow) s2 p acc ∧ (match lcL ow t mc me (ds.drop (i + 1)) s2 acc with | .ok acc s => fin acc s | _ => False),
      fun H' hN => ⟨ds.length - (i + 1), by omega, rfl, hlt, hN⟩, fun x H' hy => ?_⟩
    obtain ⟨vs, hv, rv⟩ := sd2.at_
    have npH := sd2.nP rl2
    have nF0 : ∀ a, g.fx a → a ≠ p := fun a h z => sd2.nf (z ▸ h)
    have rk := rl2.keepG sd2.nf sd2.nF hv sd2.nr
    -- the item
    have item : ∃ F3, Same F2 F3 ∧ Rl (g.keep p (.lst vs)) F3 H' (wipe σ ow) s2 ∧ Rp g.K F3 ds[i] x := by
      rcases ok.yld i _ x H H' hd sH hy with ⟨rfl, hr⟩ | ⟨T, us, es, ed, rfl, hT, rfl, hr⟩
      · exact ⟨F2, Same.refl F2, rk, Rp.mono e2 _ _ hr⟩
      · have sF : Same F2 (upd F2 T (.tup us)) := same_upd (rl2.sub.free hT)
        refine ⟨_, sF, rk.lay hT, ?_⟩
        rw [ed]
        exact ⟨T, us, rfl, .inl (.inl upd_same), RpL.mono (e2.trans sF) _ _ hr⟩
    obtain ⟨F3, e3, rl3, rp3⟩ := item
    cases ht : t ds[i] s2 with
    | none => rw [ht] at q2; exact False.elim q2
    | some s3 =>
      rw [ht] at q2
      dsimp only at q2
      refine ⟨g.keep p (.lst vs), F3, s2, ds[i], s3, rfl, rl3, rp3, ht, fun σ4 rl4 ag => ?_⟩
      have ew : wipe σ4 ow = wipe σ ow := wipe_agree ag his
      refine ⟨ew, g.keep p (.lst vs), F3, s3, rfl, rl4, ?_⟩
      cases hc : mc s3 with
      | err x' s => rw [hc] at q2; exact False.elim q2
      | bad => rw [hc] at q2; exact False.elim q2
      | ok b s =>
        rw [hc] at q2
        intro b' F5 H5 e5 rl5 eb
        cases eb
        cases b with
        | false =>
          have q2 : match lcL ow t mc me (ds.drop (i + 1)) (wipeV s ow) acc with | .ok acc s => fin acc s | _ => False := q2
          obtain ⟨h1, h2, h3, h4⟩ := rl5.unkeep (u' := .lst vs) sd2.nf nF0 npH
          have hu : upd H5 p (.lst vs) = H5 := by
            funext a
            by_cases ha : a = p
            · rw [ha, upd_same, h2]
            · exact upd_ne ha
          rw [hu] at h3
          have h3w := h3.wiped ow
          rw [ew] at h3w
          show ∃ F2 s2 acc, _
          refine ⟨F5, wipeV s ow, acc, (e2.trans e3).trans e5, h3w, ⟨sd2.nf, h1, ⟨vs, h2, RpL.mono (e3.trans e5) _ _ rv⟩, fun j hj => ?_⟩, q2⟩
          have := (h3w.own hj).2.2
          exact h4w h4 ew hj
        | true =>
          have q2 : match (match me s with | .ok y s3 => if acc.length < sizeLine then lcL ow t mc me (ds.drop (i + 1)) (wipeV s3 ow) (acc ++ [y]) else .bad | _ => .bad) with | .ok acc s => fin acc s | _ => False := q2
          refine ⟨g.keep p (.lst vs), F5, s, rfl, rl5, ?_⟩
          cases hme : me s with
          | err x' s' => rw [hme] at q2; exact False.elim q2
          | bad => rw [hme] at q2; exact False.elim q2
          | ok y s' =>
            rw [hme] at q2
            dsimp only at q2
            by_cases hz : acc.length < sizeLine
            · rw [if_pos hz] at q2
              intro v F6 H6 e6 rl6 rp6
              obtain ⟨h1, h2, h3, h4⟩ := rl6.unkeep (u' := .lst (vs ++ [v])) sd2.nf nF0 npH
              have h3w := h3.wiped ow
              rw [ew] at h3w
              refine ⟨vs, h2, by rw [← rv.length]; exact hz, F6, wipeV s' ow, acc ++ [y], ((e2.trans e3).trans e5).trans e6, h3w, ⟨sd2.nf, h1, ⟨_, upd_same, (RpL.mono ((e3.trans e5).trans e6) _ _ rv).append (RpL.one rp6)⟩, fun j hj => h4w h4 ew hj⟩, q2⟩
            · rw [if_neg hz] at q2
              exact False.elim q2
  · have e : i = ds.length := by omega
    subst e
    rw [List.drop_length] at q2
    exact .inl ⟨ok.stop H sH, hfin F2 H s2 acc e2 rl2 sd2 q2⟩
/-- the own names are seen again -/
theorem rl_restore {g : G} {F1 H1 F2 H2 : Hp} {σ : L2.St} {ow : List Nat} {s s2 : SV} (rl1 : Rl g F1 H1 σ s) (ho : ownOk ow s = true) (e : Same F1 F2) (rl2 : Rl g F2 H2 (wipe σ ow) s2) : Rl g F2 H2 σ (restV ow s s2) := by
  have hl : s2.length = s.length := by rw [rl2.len, wipe_length, rl1.len]
  have slot : ∀ j tt, (restV ow s s2)[j]? = some tt → (j ∉ ow ∧ s2[j]? = some tt) ∨ (s[j]? = some tt ∧ (tt = .un ∨ ∃ d, tt = .pl d)) := fun j tt h => by
    rcases restV_get ow s s2 j tt h with z | ⟨h1, h2⟩ | ⟨h1, h2⟩
    · exact .inl z
    · refine .inr ⟨h2, ?_⟩
      have := List.all_eq_true.mp ho j h1
      rw [h2] at this
      cases tt with
      | un => exact .inl rfl
      | pl d => exact .inr ⟨d, rfl⟩
      | _ => cases this
    · obtain ⟨z, _⟩ := List.getElem?_eq_some_iff.mp h2
      have := List.getElem?_eq_none_iff.mp h1
      omega
  have rr : ∀ j p, Ref σ (restV ow s s2) j p → Ref (wipe σ ow) s2 j p := fun j p ⟨⟨tt, e1, e2⟩, e3⟩ => by
    rcases slot j tt e1 with ⟨h1, h2⟩ | ⟨_, rfl | ⟨d, rfl⟩⟩
    · exact ⟨⟨tt, h2, e2⟩, by rw [wipe_get σ j ow h1]; exact e3⟩
    · rcases e2 with ⟨_, z⟩ | ⟨_, _, z⟩ <;> cases z
    · rcases e2 with ⟨_, z⟩ | ⟨_, _, z⟩ <;> cases z
  refine ⟨rl2.sub, rl2.kH, rl2.kF, rl2.fxH, rl2.pf, rl2.ion, by rw [restV_len, hl, rl1.len], fun j tt h => ?_, fun i j p a b => rl2.dj i j p (rr _ _ a) (rr _ _ b)⟩
  rcases slot j tt h with ⟨h1, h2⟩ | ⟨h1, rfl | ⟨d, rfl⟩⟩
  · have := rl2.sl j tt h2
    rw [wipe_get σ j ow h1] at this
    exact this
  · trivial
  · obtain ⟨v, e1, hv⟩ := rl1.sl j _ h1
    exact ⟨v, e1, Rp.mono e d v hv⟩
theorem lc_read {σ : L2.St} {H : Hp} {Q : VK} {ow : List Nat} (his : ∀ i ∈ is, i ∈ ow) (q : tO X.K X.mg W (mLc ow mi t mc me) σ H Q) : tLc (tG X.K X.mg W RelI mi) (tGt X.K is t) (tT X.K X.mg WF mc) (tE X.K X.mg WF me) ow σ H Q := by
  obtain ⟨g, F, sv, hK, rl, q⟩ := q
  refine ⟨g, F, sv, hK, rl, PostG.bind q fun ds s J F1 H1 e1 rl1 ok1 q1 p hp => ?_⟩
  by_cases ho : ownOk ow s = true
  · rw [if_pos ho] at q1
    rw [← hK]
    have rlo : Rl g F1 (upd H1 p (.lst [])) (wipe σ ow) (wipeV s ow) := (rl1.layO hp).wiped ow
    refine lc_turns (g := g) (fin := fun acc s' => PostG X.mg g F1 σ (.ok (.lst acc) (restV ow s s')) W RelO' Q) his ok1 (fun F2 H2 s2 acc e2 rl2 sd hf => ?_) rlo ⟨rl1.nofx hp, rl1.sub.free hp, ⟨[], upd_same, rfl⟩, fun j hj => ?_⟩ ?_
    · have rl3 := rl_restore rl1 ho e2 rl2
      obtain ⟨vs, hv, rv⟩ := sd.at_
      refine hf _ F2 H2 e2 rl3 ⟨p, rfl, sd.nf, ⟨sd.nF, vs, hv, rv⟩, fun j hj => ?_⟩
      obtain ⟨⟨tt, a1, a2⟩, a3⟩ := hj
      rcases restV_get ow s s2 j tt a1 with ⟨b1, b2⟩ | ⟨b1, b2⟩ | ⟨b1, b2⟩
      · exact sd.nr j ⟨⟨tt, b2, a2⟩, by rw [wipe_get σ j ow b1]; exact a3⟩
      · have := List.all_eq_true.mp ho j b1
        rw [b2] at this
        rcases a2 with ⟨_, rfl⟩ | ⟨_, _, rfl⟩ <;> cases this
      · obtain ⟨z, _⟩ := List.getElem?_eq_some_iff.mp b2
        have := List.getElem?_eq_none_iff.mp b1
        have := rl2.len
        rw [wipe_length, ← rl1.len] at this
        omega
    · exact h4w (fun i hi => rl1.noRef hp i hi) rfl hj
    · revert q1
      cases hL : lcL ow t mc me ds (wipeV s ow) [] with
      | ok acc s' => exact fun q => q
      | err x s' => exact absurd hL (lcL_noerr ds _ _ _ _)
      | bad => exact fun q => q
  · rw [if_neg ho] at q1
    exact False.elim q1
theorem so_lc (hc : X.calm = true) (hN : X.N.Nodup) (hi : SI X W tg iter mi) (ok : BlkOk X.N X.env.scope scope own) (his : ∀ i ∈ is, i ∈ own.map (·.2))
    (hg : ∀ (s : Shared) (H : Hp) (C : Addr) (cl : List (Str × Addr)) (fp : List Addr), SG (X.blk s H scope (compEnvC scope cl C X.env) fp) tg is t)
    (ht : ∀ (s : Shared) (H : Hp) (C : Addr) (cl : List (Str × Addr)) (fp : List Addr), STs (X.blk s H scope (compEnvC scope cl C X.env) fp) WF ifs mc)
    (he : ∀ (s : Shared) (H : Hp) (C : Addr) (cl : List (Str × Addr)) (fp : List Addr), SE (X.blk s H scope (compEnvC scope cl C X.env) fp) WF elt me) (hs : ∀ x, foldedSetIterable iter X.env x = pure x := by intro _; rfl) :
    SO X W (.ListComp elt [⟨tg, iter, ifs, 0⟩] scope pos) (mLc (own.map (·.2)) mi t mc me) := pe_imp (pe_lc hc hN hi ok hg ht he hs) fun σ H Q q => by
  exact lc_read his q
theorem lc_set {i : Nat} {y : Str} {py : Pos} {spos : Pos} (h : PS X (.Assign [.Name y py] (.ListComp elt [⟨tg, iter, ifs, 0⟩] scope pos) spos) (tAsg (tLc (tG X.K X.mg W RelI mi) (tGt X.K is t) (tT X.K X.mg WF mc) (tE X.K X.mg WF me) (own.map (·.2))) (gName i)))
    (his : ∀ i ∈ is, i ∈ own.map (·.2)) : SS X W (.Assign [.Name y py] (.ListComp elt [⟨tg, iter, ifs, 0⟩] scope pos) spos) (mAsgO i (mLc (own.map (·.2)) mi t mc me)) := ps_imp h fun Dn σ H q => by
  obtain ⟨g, F, sv, hK, rl, q⟩ := q
  refine lc_read (X := X) (W := W) his ⟨g, F, sv, hK, rl, PostS.bind (H := H) q fun d s v F1 H1 e1 rl1 rp1 h1 => ?_⟩
  obtain ⟨p, rfl, nf, o, nr⟩ := rp1
  exact h1 _ F1 H1 (Same.refl F1) (rl1.setOw i nf o nr)
end
end VM

set_option Elab.async false
set_option linter.all false
set_option autoImplicit false
set_option maxRecDepth 100000
set_option maxHeartbeats 400000
namespace VM
open PySem PySem.Spec PyProof.Rows L2

/-! ### calls with keywords -/
section
variable {X : Cx} {W : WX'} {k n kk : Nat} {f : Addr} {fd : FuncData} {ps ks : List Str} {fn : Fn} {x : Str} {p pos kpos : Pos} {e : Expr} {es : List Expr} {kws : List Keyword} {m : M D} {ms mk : M (List D)} {g : List Value → List Value → List Value} {gV : List V → List V → List V} {nm : Option Str}
abbrev SK (X : Cx) (W : WX') (kws : List Keyword) (m : M (List D)) : Prop := PK X kws (tG X.K X.mg W RelL m)
theorem pk_imp {t t' : TA} (h : PK X kws t) (k : ∀ σ H Q, t' σ H Q → t σ H Q) : PK X kws t' := ⟨fun p pins s σ H Q I q => h.run p pins s σ H Q I (k σ H Q q)⟩
theorem sk_nil : SK X W [] mNil := pk_imp pk_nil fun σ H Q q => by
  obtain ⟨g, F, sv, hK, rl, q⟩ := q
  exact q [] F H (Same.refl F) rl rfl
theorem sk_cons (ha : SE X W e m) (hr : SK X W kws ms) : SK X W (⟨nm, e, kpos⟩ :: kws) (mCons m ms) := pk_imp (pk_cons ha hr) fun σ H Q q => by
  obtain ⟨g, F, sv, hK, rl, q⟩ := q
  refine ⟨g, F, sv, hK, rl, PostG.bind q fun d s1 x F1 H1 e1 rl1 rp1 h1 => ?_⟩
  refine ⟨g, F1, s1, hK, rl1, PostG.bind h1 fun ds s2 xs F2 H2 e2 rl2 rp2 h2 => ?_⟩
  exact h2 _ F2 H2 (Same.refl F2) rl2 ⟨x, xs, rfl, Rp.mono e2 _ _ rp1, rp2⟩
def tCallKG (sp : Sp) (gV : List V → List V → List V) (E : L2.St → XK) (t tk : TA) : TE := fun σ H Q => t σ H fun vs H1 => tk σ H1 fun zs H2 => sp (gV vs zs) H2 Q (E σ)
theorem run_kw {sp : Sp} {E : L2.St → XK} {pins : List (Addr × Obj)} {σ : L2.St} {H : Hp} {s : Shared} {Q : VK} {us ws : List Value} {vs zs : List V} (F : FnG X.prog X.w X.K X.mg X.base k f fd ps sp) (hgd : X.A.guards = some []) (hr : Room k X.A) (hb : KBinds X.K fd ps ks g gV) (hx : ∀ σ, PassesAt (L2.CX X.prog X.w) X σ (E σ))
    (I : Inv X pins σ H s) (r : Vals vs us) (rz : Vals zs ws) (h : sp (gV vs zs) H Q (E σ)) : wpAny (model X.prog X.w) X.A (call (.ref f) us (ks.zip ws)) (EP X pins σ Q) X.xe s := by
  have r2 := hb.rel r rz
  have hl : (g us ws).length = ps.length := r2.length.symm.trans (F.len _ _ _ _ h)
  refine wpAny_call (codeAny_mono (F.run X.A X.stack s H ⟨us, ks.zip ws⟩ (g us ws) (gV vs zs) Q (E σ) hgd hr I.env0 (hb.to s us ws I.kIn hl) r2 h) fun o s' hq => ?_)
  cases o with
  | error er => exact hx σ pins H s er s' I hq
  | ok fl =>
    cases fl with
    | ret u => exact I.after hq
    | next => exact False.elim hq
    | brk => exact False.elim hq
    | cont => exact False.elim hq
theorem pe_kw0 {sp : Sp} {E : L2.St → XK} {tk : TA} (F : FnG X.prog X.w X.K X.mg X.base k f fd ps sp) (hgd : X.A.guards = some []) (hr : Room k X.A) (hg : Gl X x) (hm : X.mg x = some (.ref f)) (hk : PySem.W.keepIn X.K (.ref f) = true) (hb : KBinds X.K fd ps ks g gV) (hx : ∀ σ, PassesAt (L2.CX X.prog X.w) X σ (E σ))
    (hkw : PK X kws tk) (hall : (backToKw pos (keywordEach kws X.env)).all (·.1.isSome) = true := by rfl) (hks : (backToKw pos (keywordEach kws X.env)).filterMap (·.1) = ks := by rfl) (hdb : (x == ("__debug__" : Str)) = false := by decide)
    (hpl : ((backTo pos (starEach [] X.env)).any (·.1) || (backToKw pos (keywordEach kws X.env)).any (·.1.isNone)) = false := by rfl) : PE X (.Call (.Name x p) [] kws pos) (tCallKG sp gV E tNil tk) := by
  constructor
  intro pins s σ H Q I h
  have h : tk σ H fun zs H2 => sp (gV [] zs) H2 Q (E σ) := h
  refine wpAny_Call_Name_kw (ld_glob I hg hm (PySem.W.callWith_KW0 (h₀ := X.base) I.ok.mod.kin hk hall (thn (hkw.run pos pins s σ H _ I h) fun ws s2 ⟨zs, H2, I2, rz, q2⟩ => ⟨I2.kIn, ?_⟩) hpl) hdb)
  rw [hks]
  exact run_kw (us := []) (vs := []) F hgd hr hb hx I2 .nil rz q2
theorem pe_kw {sp : Sp} {E : L2.St → XK} {t tk : TA} (F : FnG X.prog X.w X.K X.mg X.base k f fd ps sp) (hgd : X.A.guards = some []) (hr : Room k X.A) (hg : Gl X x) (hm : X.mg x = some (.ref f)) (hk : PySem.W.keepIn X.K (.ref f) = true) (hb : KBinds X.K fd ps ks g gV) (hx : ∀ σ, PassesAt (L2.CX X.prog X.w) X σ (E σ))
    (ha : PA X (e :: es) t) (hkw : PK X kws tk) (hall : (backToKw pos (keywordEach kws X.env)).all (·.1.isSome) = true := by rfl) (hks : (backToKw pos (keywordEach kws X.env)).filterMap (·.1) = ks := by rfl) (hdb : (x == ("__debug__" : Str)) = false := by decide)
    (he : starEach (e :: es) X.env = (false, eval e X.env) :: starEach es X.env := by rfl) (hpl : ((backTo pos (starEach (e :: es) X.env)).any (·.1) || (backToKw pos (keywordEach kws X.env)).any (·.1.isNone)) = false := by rfl) :
    PE X (.Call (.Name x p) (e :: es) kws pos) (tCallKG sp gV E t tk) := by
  constructor
  intro pins s σ H Q I h
  refine wpAny_Call_Name_kw (ld_glob I hg hm (PySem.W.callWith_KW (h₀ := X.base) I.ok.mod.kin hk hall (thn (ha.run pos pins s σ H _ I h) fun us s1 ⟨vs, H1, I1, r, q⟩ => ?_) hpl he) hdb)
  refine thn (hkw.run pos pins s1 σ H1 _ I1 q) fun ws s2 ⟨zs, H2, I2, rz, q2⟩ => ⟨I2.kIn, ?_⟩
  rw [hks]
  exact run_kw F hgd hr hb hx I2 r rz q2
/-- the order of the parameters, on data -/
structure KOrd (gD : List D → List D → List D) (gV : List V → List V → List V) : Prop where
  rel : ∀ {K : PySem.W.Frag} {F : Hp} {as bs : List D} {vs us : List V}, RpL K F as vs → RpL K F bs us → RpL K F (gD as bs) (gV vs us)
def mCallK (n : Nat) (fn : Fn) (gD : List D → List D → List D) (ms mk : M (List D)) : M D := fun sv => (ms sv).bind fun as s1 => (mk s1).bind fun bs s2 => if (gD as bs).length = n then frR (fn (gD as bs)) s2 else .bad
variable {gD : List D → List D → List D}
theorem se_kw0 (c : Ctx X W kk) (hkk : k ≤ kk) (Fg : FnG X.prog X.w X.K X.mg X.base k f fd ps (spV X.K X.mg n none false fn)) (hg : Gl X x) (hm : X.mg x = some (.ref f)) (hk : PySem.W.keepIn X.K (.ref f) = true) (hb : KBinds X.K fd ps ks g gV) (ho : KOrd gD gV)
    (hkw : SK X W kws mk) (hall : (backToKw pos (keywordEach kws X.env)).all (·.1.isSome) = true := by rfl) (hks : (backToKw pos (keywordEach kws X.env)).filterMap (·.1) = ks := by rfl) (hdb : (x == ("__debug__" : Str)) = false := by decide)
    (hpl : ((backTo pos (starEach [] X.env)).any (·.1) || (backToKw pos (keywordEach kws X.env)).any (·.1.isNone)) = false := by rfl) : SE X W (.Call (.Name x p) [] kws pos) (mCallK n fn gD mNil mk) :=
  pe_imp (pe_kw0 Fg c.hg (c.hr.mono hkk) hg hm hk hb (fun σ => passAt c.tk σ) hkw hall hks hdb hpl) fun σ H Q q => by
    obtain ⟨g0, F, sv, hK, rl, q⟩ := q
    have q : PostG X.mg g0 F σ ((mk sv).bind fun bs s2 => if (gD [] bs).length = n then frR (fn (gD [] bs)) s2 else .bad) W RelE Q := q
    refine ⟨g0, F, sv, hK, rl, PostG.bind q fun bs s2 us F2 H2 e2 rl2 rp2 q2 => ?_⟩
    split at q2
    · rename_i hz
      have rp : RpL g0.K F2 (gD [] bs) (gV [] us) := ho.rel (by exact rfl) rp2
      rw [← hK]
      exact post_call (fun F' H' d v _ hr => by show Rp g0.K F' d v; simpa using hr) (rp.length.symm.trans hz) rl2 rp q2
    · exact False.elim q2
theorem se_kw (c : Ctx X W kk) (hkk : k ≤ kk) (Fg : FnG X.prog X.w X.K X.mg X.base k f fd ps (spV X.K X.mg n none false fn)) (hg : Gl X x) (hm : X.mg x = some (.ref f)) (hk : PySem.W.keepIn X.K (.ref f) = true) (hb : KBinds X.K fd ps ks g gV) (ho : KOrd gD gV)
    (ha : SA X W (e :: es) ms) (hkw : SK X W kws mk) (hall : (backToKw pos (keywordEach kws X.env)).all (·.1.isSome) = true := by rfl) (hks : (backToKw pos (keywordEach kws X.env)).filterMap (·.1) = ks := by rfl) (hdb : (x == ("__debug__" : Str)) = false := by decide)
    (he : starEach (e :: es) X.env = (false, eval e X.env) :: starEach es X.env := by rfl) (hpl : ((backTo pos (starEach (e :: es) X.env)).any (·.1) || (backToKw pos (keywordEach kws X.env)).any (·.1.isNone)) = false := by rfl) :
    SE X W (.Call (.Name x p) (e :: es) kws pos) (mCallK n fn gD ms mk) :=
  pe_imp (pe_kw Fg c.hg (c.hr.mono hkk) hg hm hk hb (fun σ => passAt c.tk σ) ha hkw hall hks hdb he hpl) fun σ H Q q => by
    obtain ⟨g0, F, sv, hK, rl, q⟩ := q
    refine ⟨g0, F, sv, hK, rl, PostG.bind q fun as s1 vs F1 H1 e1 rl1 rp1 q1 => ?_⟩
    refine ⟨g0, F1, s1, hK, rl1, PostG.bind q1 fun bs s2 us F2 H2 e2 rl2 rp2 q2 => ?_⟩
    split at q2
    · rename_i hz
      have rp : RpL g0.K F2 (gD as bs) (gV vs us) := ho.rel (RpL.mono e2 _ _ rp1) rp2
      rw [← hK]
      exact post_call (fun F' H' d v _ hr => by show Rp g0.K F' d v; simpa using hr) (rp.length.symm.trans hz) rl2 rp q2
    · exact False.elim q2
end

/-! ### texts' methods -/
section
variable {X : Cx} {W : WX'} {e : Expr} {m : M D} {apos pos : Pos}
def dUpper : D → Option D
  | .str z => if z.length ≤ 5592405 then some (.str (Txt.upper z)) else none
  | _ => none
theorem se_upper (h : PE X (.Call (.Attribute e "upper" apos) [] [] pos) (tBM0 X.K "str" (fun x xs H Q => ∃ a, x = .str a ∧ xs = [] ∧ a.length ≤ 5592405 ∧ Q (.str (Txt.upper a)) H) (tE X.K X.mg W m))) : SE X W (.Call (.Attribute e "upper" apos) [] [] pos) (m1 dUpper m) := pe_imp h fun σ H Q q => by
  obtain ⟨g, F, sv, hK, rl, q⟩ := q
  refine ⟨g, F, sv, hK, rl, PostG.bind q fun d s1 v F1 H1 e1 rl1 rp1 h1 => ?_⟩
  cases d with
  | str z =>
    cases (show v = V.str z from rp1)
    have h1 : PostG X.mg g F1 σ (match dUpper (.str z) with | some d => .ok d s1 | none => .bad) W RelE Q := h1
    unfold dUpper at h1
    dsimp only at h1
    split at h1
    · rename_i hz
      split at hz
      · cases hz
        exact ⟨rfl, z, rfl, rfl, by assumption, h1 _ F1 H1 (Same.refl F1) rl1 rfl⟩
      · cases hz
    · exact False.elim h1
  | _ => exact False.elim h1
end

/-! ### the end -/
/-- the law's promise: a list of ints in, True out -/
def spLaw (K : PySem.W.Frag) : Sp := fun vs H Q _ => ∃ (a : Addr) (ns : List Int), vs = [V.ref a] ∧ SqL K H a (ns.map V.int) ∧ ns.length ≤ 63 ∧ ∀ H', Q (.bl true) H'
theorem ints_rel {K : PySem.W.Frag} {F : Hp} : ∀ ns : List Int, RpL K F (ns.map D.int) (ns.map V.int)
  | [] => rfl
  | n :: ns => ⟨_, _, rfl, rfl, ints_rel ns⟩
/-- from what the law's def computes -/
theorem law_of {P : Program} {w : World} {K : PySem.W.Frag} {mg : Str → Option Value} {base : Heap} {k : Nat} {f : Addr} {fd : FuncData} {ps : List Str} {fn : Fn} (hp : ps.length = 1) (F : FnG P w K mg base k f fd ps (spV K mg 1 none false fn))
    (h : ∀ ns : List Int, ns.length ≤ 63 → fn [.fl (ns.map .int)] = .ok (.bl true) none) : FnG P w K mg base k f fd ps (spLaw K) := by
  constructor
  · rintro vs H Q E ⟨a, ns, rfl, _⟩
    exact hp.symm
  · intro A outer s H args us vs Q E hg hr e0 hb r hsp
    refine F.run A outer s H args us vs Q E hg hr e0 hb r ?_
    obtain ⟨a, ns, rfl, hS, hl, q⟩ := hsp
    refine ⟨rfl, H, [.fl (ns.map .int)], Same.refl H, ⟨_, [], rfl, ⟨a, _, rfl, hS, ints_rel ns⟩, rfl⟩, ?_⟩
    rw [h ns hl]
    intro v F' H' _ _ _ _ _ hv
    have hv' : v = V.bl true := by simpa [Rp] using hv
    subst hv'
    exact q H'
theorem law_callG {P : Program} {w : World} {K : PySem.W.Frag} {mg mb : Str → Option Value} {k : Nat} {fa a : Addr} {fd : FuncData} {x : Str} {sp : Sp} {s1 : Shared} {vs : List Value} {ns : List Int}
    (KX : K.In s1.heap) (hns : s1.heap.Ns mainGlobals mg) (hb : s1.heap.Ns builtinsNs mb) (hbb : ∀ x : Str, x ≠ "__name__" → mb x = bootBuiltins x) (hlim : s1.heap.NoLimit) (hg : s1.gens = #[])
    (ha : s1.heap.get? a = some { cls := .type "list", data := .seq vs.toArray }) (hi : IntsAre vs ns) (hl : ns.length ≤ sizeLine) (hr : Room k callerA)
    (F : ∀ base : Heap, K.In base → base.Ns mainGlobals mg → FnG P w K mg base k fa fd [x] sp) (hbind : ∀ (s : Shared) (u : Value), BindsTo s fd ⟨[u], []⟩ [(x, u)])
    (hsp : ∀ H : Hp, Only H → SqL K H a (ns.map V.int) → sp [.ref a] H (fun v _ => v = .bl true) fun _ _ _ => False) :
    codeAny (model P w) callerA (.call (.ref fa) ⟨[.ref a], []⟩) (fun r s' => r = .ok (.ret (.bool true)) ∧ OldK s1.heap s'.heap ∧ s'.os = s1.os ∧ AllBare s'.gens) s1 := by
  have rv := vals_ints hi
  have lenV := hi.length
  have core : ∀ H : Hp, Only H → SqL K H a (ns.map V.int) → HOk P w H s1.heap → (∀ b, H b ≠ none → b = a) → (H a ≠ none → K.lookup a = none) →
      codeAny (model P w) callerA (.call (.ref fa) ⟨[.ref a], []⟩) (fun r s' => r = .ok (.ret (.bool true)) ∧ OldK s1.heap s'.heap ∧ s'.os = s1.os ∧ AllBare s'.gens) s1 := by
    intro H hO hS hok hA hK
    have hereA : ∀ {b : Addr} {u : HO}, H b = some u → b = a := fun {b u} q => hA b (by rw [q]; exact (fun z => nomatch z))
    have noA : ∀ {b : Addr} {o : Obj} {es : Array DictEntry} {ep : Nat}, s1.heap.get? b = some o → o.data = .dict es ep → H b = none := fun {b o es ep} e d => by
      cases q : H b with
      | none => rfl
      | some u =>
        have := hereA q
        subst this
        rw [ha] at e
        cases e
        have d' : Data.seq vs.toArray _ = Data.dict es ep := d
        cases d'
    have nsK : ∀ {b : Addr} {m : Str → Option Value}, s1.heap.Ns b m → (hidT s1.heap H).Ns b m := fun {b m} ⟨o, es, ep, e, d, r⟩ => ⟨o, es, ep, hidT_get e (noA e d), d, r⟩
    have hKb : K.In (hidT s1.heap H) := fun b o e => hidT_get (KX b o e) (by
      cases q : H b with
      | none => rfl
      | some u =>
        have := hereA q
        subst this
        rw [hK (by rw [q]; exact (fun z => nomatch z))] at e
        cases e)
    have hM : Mod K mg (hidT s1.heap H) := ⟨hKb, nsK hns, ⟨mb, nsK hb, hbb⟩, let ⟨mc, h1, h2⟩ := hlim; ⟨mc, nsK h1, h2⟩⟩
    have e0 : Env0 P w K mg (hidT s1.heap H) callerA [] s1 H := ⟨rfl, hM, fun b o e => of_hidT e, Nat.le_of_eq (hidT_size _ _), trivial, fun b hb => absurd (show b ∈ ([] : List Addr) from hb) (by simp), hok, .of_eq hg⟩
    refine codeAny_mono ((F _ hKb (nsK hns)).run callerA [] s1 H ⟨[.ref a], []⟩ [.ref a] [.ref a] _ _ rfl hr e0 (hbind s1 (.ref a)) (.cons rfl .nil) (hsp H hO hS)) fun r s' h => ?_
    cases r with
    | error e => obtain ⟨_, _, _, _, _, _, _, _, _, _, _, _, z⟩ := h; exact z.elim
    | ok fl =>
      cases fl with
      | next => exact False.elim h
      | brk => exact False.elim h
      | cont => exact False.elim h
      | ret u =>
        obtain ⟨v, H', os, bare, un, hok', r', q⟩ := h
        have q' : v = .bl true := q
        subst q'
        have eu : u = Value.bool true := r'
        subst eu
        refine ⟨rfl, OldK.of_keep fun b o e => ?_, os, bare⟩
        cases q : H b with
        | none => exact un.keep b o e q (fun z => absurd (show b ∈ ([] : List Addr) from z) (by simp)) (by simp)
        | some u =>
          rcases hO b with z | ⟨ob, xs, z⟩
          · rw [q] at z; cases z
          · obtain ⟨e1, _⟩ := hok b _ z
            obtain ⟨e2, _⟩ := hok' b _ (un.frzs b ob _ z)
            rw [e] at e1; cases e1
            exact e2
  cases hk : K.lookup a with
  | some o =>
    have e := KX a o hk
    rw [ha] at e
    cases e
    exact core (fun _ => none) (fun _ => .inl rfl) (.inr ⟨_, vs.toArray, _, hk, rfl, rfl, rfl, by rw [List.size_toArray, lenV]; exact hl, by simpa using rv⟩) (fun b u z => by have z' : (none : Option HO) = some u := z; cases z') (fun b z => absurd rfl z) fun z => absurd rfl z
  | none =>
    refine core (fun b => if b = a then some (.frz { cls := .type "list", data := .seq vs.toArray } (.lst (ns.map V.int))) else none) (fun b => ?_) (.inl (.inr ⟨_, if_pos rfl⟩)) (fun b u z => ?_) (fun b z => ?_) fun _ => hk
    · by_cases hb : b = a
      · exact .inr ⟨_, _, if_pos hb⟩
      · exact .inl (if_neg hb)
    · by_cases hb : b = a
      · have z' := (if_pos hb).symm.trans z
        cases z'
        subst hb
        exact ⟨ha, by rw [List.length_map]; exact hl, vs, _, rv, ha⟩
      · have z' := (if_neg hb).symm.trans z
        cases z'
    · by_cases hb : b = a
      · exact hb
      · exact absurd (if_neg hb) z
theorem walk_ofG {l : PySem.W.OpenLaw} {k : Nat} {q : Program} {loose : List Str} {XP : (Str → Option Value) → Heap → Prop} {YP : World → Heap → Prop} {d : DefRec} {K : Params → PySem.W.Frag} {x : Str}
    (hn : l.most = some 63) (hdf : d.params.defaults = []) (hr : Room k callerA) (hY : ∀ (w : World) (h : Heap), YP w h → (K w.params).In h)
    (F : ∀ (w : World) (mg : Str → Option Value) (fa : Addr) (h : Heap), (K w.params).In h → h.Ns mainGlobals mg → mg d.name = some (.ref fa) →
      ∃ fd : FuncData, (∀ (s : Shared) (u : Value), BindsTo s fd ⟨[u], []⟩ [(x, u)]) ∧ ∀ base : Heap, (K w.params).In base → base.Ns mainGlobals mg → FnG l.prog w (K w.params) mg base k fa fd [x] (spLaw (K w.params))) :
    PySem.W.WalkO q loose XP YP l.row.toRowW d [] (fun f vs => PySem.call f vs) := by
  refine Att.attach_call hn hdf fun w s₀ s₁ mg mb fa o pm cd doc a vs ns G Y ho hd hcd hmg hobj hints hlen hg => ?_
  have KX := hY w _ Y
  obtain ⟨fd, hb, hF⟩ := F w mg fa _ KX G.T.g hmg
  exact law_callG KX G.T.g G.T.b G.T.builtins G.T.nolimit hg hobj hints (Nat.le_trans hlen (by decide)) hr hF hb fun H hO hS => ⟨a, ns, rfl, hS, hlen, fun _ => rfl⟩
end VM

set_option Elab.async false
set_option linter.all false
set_option autoImplicit false
set_option maxRecDepth 100000
set_option maxHeartbeats 400000
namespace VM
open PySem PySem.Spec PyProof.Rows L2

/-! ### further rules -/
section
variable {X : Cx} {W : WX'} {a b e : Expr} {pos : Pos} {ma mb m : M D}
/-- * : ints; a list and an int -/
def dMul : D → D → Option D
  | .int i, .int j => cMul i j
  | .lst xs, .int k => dRep (.lst xs) (.int k)
  | _, _ => none
theorem o2_mulA {K : PySem.W.Frag} : O2 K (fun x y H Q => (rI CMul fun i j => .int (i * j)) x y H Q ∨ rRep x y H Q) dMul := by
  intro g F H σ sv a b d x y Q hK rl e ha hb q
  cases a <;> cases b <;> try (cases e; done)
  · rename_i i j
    exact .inl (o2_mulI g F H σ sv (.int i) (.int j) d x y Q hK rl e ha hb q)
  · rename_i xs k
    simp only [dMul, dRep] at e
    split at e
    · rename_i hz
      cases e
      subst hK
      obtain ⟨p, vs, rfl, h4, h5⟩ := ha
      refine .inr ⟨p, _, vs, rfl, hb, rl.sub _ _ h4, hz.1, hz.2.1, by rw [← h5.length]; exact hz.2.2, fun l hl => ?_⟩
      have sF : Same F (upd F l (.lst (List.replicate k.toNat vs).flatten)) := same_upd (rl.sub.free hl)
      exact q _ _ _ sF (rl.lay hl) ⟨l, _, rfl, upd_same, RpL.mono sF _ _ (rep_rel h5 _)⟩
    · cases e
theorem se_mulA (ha : SE X W a ma) (hb : SE X W b mb) : SE X W (.BinOp a .Mult b pos) (m2 dMul ma mb) := se_op (OpR.or op_mul op_rep) o2_mulA ha hb
/-- xs + ys, a new list that is the frame's own -/
def dCat : D → D → Option D
  | .lst xs, .lst ys => if xs.length + ys.length ≤ sizeLine then some (.lst (xs ++ ys)) else none
  | _, _ => none
theorem so_cat (ha : SE X W a ma) (hb : SE X W b mb) : SO X W (.BinOp a .Add b pos) (m2 dCat ma mb) := pe_imp (pe_op op_cat ha hb) fun σ H Q q => by
  obtain ⟨g, F, sv, hK, rl, q⟩ := q
  refine ⟨g, F, sv, hK, rl, PostG.bind q fun d s1 x F1 H1 e1 rl1 rp1 h1 => ?_⟩
  refine ⟨g, F1, s1, hK, rl1, PostG.bind h1 fun d2 s2 y F2 H2 e2 rl2 rp2 h2 => ?_⟩
  have rp1' := Rp.mono e2 _ _ rp1
  split at h2
  · rename_i r hr
    unfold dCat at hr
    split at hr
    · split at hr
      · rename_i hz
        cases hr
        obtain ⟨p, vs, rfl, h4, h5⟩ := rp1'
        obtain ⟨p2, us, rfl, h6, h7⟩ := rp2
        refine ⟨p, p2, vs, us, rfl, rfl, rl2.sub _ _ h4, rl2.sub _ _ h6, by rw [← h5.length, ← h7.length]; exact hz, fun l hl => ?_⟩
        exact h2 _ _ _ (Same.refl F2) (rl2.layO hl) ⟨l, rfl, rl2.nofx hl, ⟨rl2.sub.free hl, _, upd_same, h5.append h7⟩, fun i hi => rl2.noRef hl i hi⟩
      · cases hr
    · cases hr
  · exact False.elim h2
/-- a text of the module's own top -/
theorem se_glob {x : Str} {z : Str} {t : Tok} (hg : Gl X x) (hm : X.mg x = some (.str z t)) (hd : (x == ("__debug__" : Str)) = false := by decide) : SE X W (.Name x pos) (mC (.str z)) := se_const (pe_glob (v := .str z) hg hm ⟨_, rfl⟩ hd) fun _ => rfl
theorem se_globI {x : Str} {z : Int} {t : Tok} (hg : Gl X x) (hm : X.mg x = some (.int z t)) (hd : (x == ("__debug__" : Str)) = false := by decide) : SE X W (.Name x pos) (mC (.int z)) := se_const (pe_glob (v := .int z) hg hm ⟨_, rfl⟩ hd) fun _ => rfl
end
end VM

set_option Elab.async false
set_option linter.all false
set_option autoImplicit false
set_option maxRecDepth 100000
set_option maxHeartbeats 400000
namespace VM
open PySem PySem.Spec PyProof.Rows L2

/-! ### keywords that stand in the order of the def -/
def kj {α : Type} (n k : Nat) (us ws : List α) : List α := if us.length = n ∧ ws.length = k then us ++ ws else []
theorem kj_ord (n k : Nat) : KOrd (kj n k) (kj n k) := ⟨fun {K F as bs vs us} h1 h2 => by
  unfold kj
  rw [h1.length, h2.length]
  split
  · exact h1.append h2
  · rfl⟩
theorem kj_binds {K : PySem.W.Frag} {x qual : Str} {st : Stmt} {f : Addr} {fd : FuncData} {ps ks : List Str} {n k : Nat} (hp : ps.length = n + k ∧ 0 < ps.length) (F : Fun K x qual st f fd)
    (h : ∀ (kV doc pm : Value) (an : Option Addr) (cdv ct : Value) (us ws : List Value), us.length = n → ws.length = k → bindArgs (PySem.W.fnOf x qual (defArgs st) (defBody st) (defScope st) .none kV doc pm an cdv ct) ⟨us, ks.zip ws⟩ = pure (ps.zip (us ++ ws))) : KBinds K fd ps ks (kj n k) (kj n k) := by
  obtain ⟨oc, od, kV, doc, pm, an, cdv, ct, osl, rfl, lk, hcd⟩ := F.ex
  constructor
  · intro s us ws _ hl
    unfold kj at hl ⊢
    split at hl
    · rename_i hz
      rw [if_pos hz]
      exact .of_eq (h kV doc pm an cdv ct us ws hz.1 hz.2)
    · have : ps.length = 0 := hl.symm
      omega
  · intro vs us zs ws h1 h2
    unfold kj
    rw [h1.length, h2.length]
    split
    · exact Vals.append h1 h2
    · exact .nil
end VM

set_option Elab.async false
set_option linter.all false
set_option autoImplicit false
set_option maxRecDepth 100000
set_option maxHeartbeats 400000
namespace VM
open PySem PySem.Spec PyProof.Rows L2

/-! ### evaluation by simp -/
theorem rng1_a {n : Nat} (h : n ≤ 1000000) : -(2 ^ 62) ≤ (n : Int) ∧ (n : Int) < 2 ^ 62 := by constructor <;> omega
theorem rng1_if {j : Int} {n : Nat} (e : j.toNat = n) (h : -(2 ^ 62) ≤ j ∧ j < 2 ^ 62) (s : SV) : (if -(2 ^ 62) ≤ j ∧ j < 2 ^ 62 then R.ok (rngs 0 j.toNat) s else .bad) = R.ok (rngs 0 n) s := by
  subst e
  exact if_pos h
theorem rng1_of' {ms : M (List D)} {sv s : SV} {j : Int} {n : Nat}  (e : j.toNat = n) (h : -(2 ^ 62) ≤ j ∧ j < 2 ^ 62) (e1 : ms sv = .ok [.int j] s) : mRng1 ms sv = .ok (rngs 0 n) s := by
  unfold mRng1
  rw [e1]
  exact rng1_if e h s
theorem rng1_of {ms : M (List D)} {sv s : SV} {n : Nat} (e : ms sv = .ok [.int (n : Int)] s) (h : n ≤ 1000000) : mRng1 ms sv = .ok (rngs 0 n) s := rng1_of' (Int.toNat_natCast n) (rng1_a h) e
section
variable (sv : SV) (i j n : Nat) (d : D) (m ma mb : M D) (t u : M Bool) (ms : M (List D)) (a b : MS)
@[simp] theorem ev_ok {α β : Type} (x : α) (s : SV) (k : α → SV → R β) : (R.ok x s).bind k = k x s := (rfl)
@[simp] theorem ev_err {α β : Type} (x : Exn) (s : SV) (k : α → SV → R β) : (R.err x s : R α).bind k = .err x s := (rfl)
@[simp] theorem ev_bad {α β : Type} (k : α → SV → R β) : (R.bad : R α).bind k = .bad := (rfl)
@[simp] theorem ev_C : mC d sv = .ok d sv := (rfl)
@[simp] theorem ev_Rd : mRd i sv = match sv[i]? with
  | some (.pl d) => .ok d sv
  | _ => .bad := (rfl)
@[simp] theorem ev_Mv : mMv i sv = match sv[i]? with
  | some (.pl d) => .ok d sv
  | some (.ow d) => .ok d (sv.set i (.pl d))
  | _ => .bad := (rfl)
@[simp] theorem ev_Tk : mTk i sv = match sv[i]? with
  | some (.ow d) => .ok d (sv.set i .un)
  | _ => .bad := (rfl)
@[simp] theorem ev_2 (f : D → D → Option D) : m2 f ma mb sv = (ma sv).bind fun a s1 => (mb s1).bind fun b s2 => match f a b with
  | some d => .ok d s2
  | none => .bad := (rfl)
@[simp] theorem ev_1 (f : D → Option D) : m1 f m sv = (m sv).bind fun a s1 => match f a with
  | some d => .ok d s1
  | none => .bad := (rfl)
@[simp] theorem ev_B : mB m sv = (m sv).bind fun d s => match d with
  | .bl b => .ok b s
  | _ => .bad := (rfl)
@[simp] theorem ev_Not : mNot t sv = (t sv).bind fun b s => .ok (!b) s := (rfl)
@[simp] theorem ev_And : mAnd t u sv = (t sv).bind fun b s => if b = true then u s else .ok false s := (rfl)
@[simp] theorem ev_Or : mOr t u sv = (t sv).bind fun b s => if b = true then .ok true s else u s := (rfl)
@[simp] theorem ev_oN : moN sv = .ok none sv := (rfl)
@[simp] theorem ev_oS : moS m sv = (m sv).bind fun d s => match d with
  | .int i => .ok (some i) s
  | _ => .bad := by
  unfold moS
  rfl
@[simp] theorem ev_Sl (ml mh : MO) : mSl m ml mh sv = (m sv).bind fun d s1 => (ml s1).bind fun lo s2 => (mh s2).bind fun hi s3 => match dSl d lo hi with
  | some r => .ok r s3
  | none => .bad := (rfl)
@[simp] theorem ev_nil : mNil sv = .ok [] sv := (rfl)
@[simp] theorem ev_cons : mCons m ms sv = (m sv).bind fun d s1 => (ms s1).bind fun ds s2 => .ok (d :: ds) s2 := (rfl)
@[simp] theorem ev_Tup : mTup ms sv = (ms sv).bind fun ds s => if ds.length ≤ sizeLine then .ok (.tup ds) s else .bad := (rfl)
@[simp] theorem ev_Lst : mLst ms sv = (ms sv).bind fun ds s => if ds.length ≤ sizeLine then .ok (.lst ds) s else .bad := (rfl)
@[simp] theorem ev_Call1 (f : List D → Option D) : mCall1 f ms sv = (ms sv).bind fun ds s => match f ds with
  | some d => .ok d s
  | none => .bad := (rfl)
@[simp] theorem ev_Call (fn : Fn) (dd : List D) : mCall n fn dd ms sv = (ms sv).bind fun ds s => if (ds ++ dd).length = n then frR (fn (ds ++ dd)) s else .bad := (rfl)
@[simp] theorem ev_CallK (fn : Fn) (g : List D → List D → List D) (mk : M (List D)) : mCallK n fn g ms mk sv = (ms sv).bind fun as s1 => (mk s1).bind fun bs s2 => if (g as bs).length = n then frR (fn (g as bs)) s2 else .bad := (rfl)
@[simp] theorem ev_frok : frR (.ok d none) sv = .ok d sv := (rfl)
@[simp] theorem ev_frbad : frR .bad sv = .bad := (rfl)
@[simp] theorem ev_Seq : mSeq a b sv = match a sv with
  | .nx s => b s
  | o => o := (rfl)
@[simp] theorem ev_Skip : mSkip sv = .nx sv := (rfl)
@[simp] theorem ev_Bind {α : Type} (m : M α) (k : α → SV → O) : mBind m k sv = match m sv with
  | .ok a s => k a s
  | .err x s => .err x s
  | .bad => .bad := by
  unfold mBind
  cases m sv <;> rfl
@[simp] theorem ev_Drop : mDrop m sv = mBind m (fun _ s => .nx s) sv := (rfl)
@[simp] theorem ev_Ret : mRet m sv = mBind m (fun d s => .rt d s) sv := (rfl)
@[simp] theorem ev_RetO : mRetO m sv = mBind m (fun d s => .ro d s) sv := (rfl)
@[simp] theorem ev_IfS : mIfS t a b sv = mBind t (fun c s => if c = true then a s else b s) sv := (rfl)
@[simp] theorem ev_Asg : mAsg i m sv = mBind m (fun d s => .nx (s.set i (.pl d))) sv := (rfl)
@[simp] theorem ev_AsgO : mAsgO i m sv = mBind m (fun d s => .nx (s.set i (.ow d))) sv := (rfl)
@[simp] theorem ev_ownL : ownL sv i = match sv[i]? with
  | some (.ow (.lst xs)) => some (.ow (.lst xs), xs)
  | some (.io k (.lst xs)) => some (.io k (.lst xs), xs)
  | _ => none := by
  unfold ownL
  cases h : sv[i]? with
  | none => rfl
  | some s => cases s <;> first | rfl | (rename_i d; cases d <;> rfl)
@[simp] theorem ev_putL (xs : List D) : putL sv i xs = match sv[i]? with
  | some (.ow _) => .nx (sv.set i (.ow (.lst xs)))
  | some (.io k _) => .nx (sv.set i (.io k (.lst xs)))
  | _ => .bad := by
  unfold putL
  cases h : sv[i]? with
  | none => rfl
  | some s => cases s <;> rfl
@[simp] theorem ev_App : mApp i m sv = match ownL sv i with
  | none => .bad
  | some _ => mBind m (fun d s => match ownL s i with
    | some (_, xs) => if xs.length < sizeLine then putL s i (xs ++ [d]) else .bad
    | none => .bad) sv := (rfl)
@[simp] theorem ev_Put (mk : M D) : mPut i m mk sv = mBind m (fun d s1 => match ownL s1 i with
  | none => .bad
  | some _ => mBind mk (fun k s2 => match k, ownL s2 i with
    | .int z, some (_, xs) => match ixN xs.length z with
      | some j => putL s2 i (xs.set j d)
      | none => .bad
    | _, _ => .bad) s1) sv := (rfl)
@[simp] theorem ev_Pop : mPop i sv = match ownL sv i with
  | some (_, xs) => match xs[xs.length - 1]? with
    | some d => match putL sv i xs.dropLast with
      | .nx s' => .ok d s'
      | _ => .bad
    | none => .bad
  | none => .bad := (rfl)
theorem ev_For (mi : M (List D)) (g : MT) : mFor mi g b sv = mBind mi (fun ds s => forL g b ds s) sv := (rfl)
@[simp] theorem ev_Items : mItems m sv = (m sv).bind fun d s => match itemsD d with
  | some ds => .ok ds s
  | none => .bad := by
  unfold mItems
  rfl
@[simp] theorem ev_Enum : mEnum ms sv = (ms sv).bind fun ds s => match ds with
  | [.tup xs] => .ok (enumD 0 xs) s
  | [.lst xs] => .ok (enumD 0 xs) s
  | [.fl xs] => .ok (enumD 0 xs) s
  | _ => .bad := (rfl)
@[simp] theorem ev_tN : mtN i d sv = some (sv.set i (.pl d)) := (rfl)
@[simp] theorem ev_tnil : mtNil [] sv = some sv := (rfl)
@[simp] theorem ev_tcons (t : MT) (u : List D → SV → Option SV) (ds : List D) : mtCons t u (d :: ds) sv = match t d sv with
  | some s => u ds s
  | none => none := by
  unfold mtCons
  cases h : t d sv <;> (dsimp only; rw [h]; rfl)
@[simp] theorem ev_tTup (u : List D → SV → Option SV) (ds : List D) : mtTup n u (.tup ds) sv = if ds.length = n then u ds sv else none := (rfl)
@[simp] theorem ev_With {α : Type} (ok : α → Bool) (m : M α) : mWith ok i m sv = match sv[i]? with
  | some (.ow d) => (match m (lend i d sv) with
    | .ok r _ => if ok r = true then .ok r sv else .bad
    | _ => .bad)
  | some (.io _ d) => (match m (lend i d sv) with
    | .ok r _ => if ok r = true then .ok r sv else .bad
    | _ => .bad)
  | some _ => m sv
  | none => .bad := by
  unfold mWith
  cases h : sv[i]? with
  | none => rfl
  | some s => cases s <;> rfl
@[simp] theorem ev_lend : lend i d sv = (hideS sv).set i (.pl d) := (rfl)
@[simp] theorem ev_IfE : mIf t ma mb sv = (t sv).bind fun b s => if b = true then ma s else mb s := (rfl)
end
@[simp] theorem ev_hn : hideS [] = [] := (rfl)
@[simp] theorem ev_hp (d : D) (r : SV) : hideS (.pl d :: r) = .pl d :: hideS r := (rfl)
@[simp] theorem ev_hu (r : SV) : hideS (.un :: r) = .un :: hideS r := (rfl)
@[simp] theorem ev_ho (d : D) (r : SV) : hideS (.ow d :: r) = .un :: hideS r := (rfl)
@[simp] theorem ev_hi (k : Nat) (d : D) (r : SV) : hideS (.io k d :: r) = .un :: hideS r := (rfl)
@[simp] theorem ev_lcn (own : List Nat) (t : MT) (mc : M Bool) (me : M D) (s : SV) (acc : List D) : lcL own t mc me [] s acc = .ok acc s := (rfl)
@[simp] theorem ev_yes (sv : SV) : mYes sv = .ok true sv := (rfl)
@[simp] theorem ev_it1 (xs : List D) : itemsD (.tup xs) = some xs := (rfl)
@[simp] theorem ev_it2 (xs : List D) : itemsD (.lst xs) = some xs := (rfl)
@[simp] theorem ev_it3 (xs : List D) : itemsD (.fl xs) = some xs := (rfl)
@[simp] theorem ev_i0 (k : Nat) (io : Option Nat) : initA io k [] = [] := (rfl)
@[simp] theorem ev_i1 (k : Nat) (d : D) (ds : List D) : initA none k (d :: ds) = .pl d :: initA none (k + 1) ds := (rfl)
/-- a def without an in-out place -/
def endN (ro : Bool) : O → FR
  | .nx _ => if ro = true then .bad else .ok .non none
  | .rt d _ => if ro = true then .bad else .ok d none
  | .ro d _ => if ro = true then .ok d none else .bad
  | .err x _ => .err x none
  | _ => .bad
theorem fnOf_none (n : Nat) (ro : Bool) (body : MS) (ds : List D) : fnOf n none ro body ds = endN ro (body (initA none 0 ds ++ List.replicate (n - ds.length) .un)) := by
  unfold fnOf endN outS
  cases body (initA none 0 ds ++ List.replicate (n - ds.length) .un) <;> rfl
@[simp] theorem end_nx (s : SV) : endN false (.nx s) = .ok .non none := (rfl)
@[simp] theorem end_rt (d : D) (s : SV) : endN false (.rt d s) = .ok d none := (rfl)
@[simp] theorem end_ro (d : D) (s : SV) : endN true (.ro d s) = .ok d none := (rfl)

theorem for_of {mi : M (List D)} {t : MT} {b : MS} {sv s : SV} {ds : List D} {o : O} (e : mi sv = .ok ds s) (h : forL t b ds s = o) : mFor mi t b sv = o := by
  unfold mFor mBind
  rw [e]
  exact h
/-! ### loops -/
theorem forL_rel {t : MT} {b : MS} (P : Nat → SV → Prop) : ∀ (ds : List D) (k : Nat) (sv : SV), P k sv → (∀ i d s, ds[i]? = some d → P (k + i) s → ∃ s1 s2, t d s = some s1 ∧ b s1 = .nx s2 ∧ P (k + i + 1) s2) → ∃ s, forL t b ds sv = .nx s ∧ P (k + ds.length) s
  | [], k, sv, h0, _ => ⟨sv, rfl, h0⟩
  | d :: ds, k, sv, h0, hs => by
    obtain ⟨s1, s2, e1, e2, h2⟩ := hs 0 d sv rfl h0
    obtain ⟨s, e3, h3⟩ := forL_rel P ds (k + 1) s2 h2 fun i d' s' hd hp => by
      have e : k + 1 + i = k + (i + 1) := by omega
      rw [e] at hp ⊢
      exact hs (i + 1) d' s' hd hp
    refine ⟨s, ?_, ?_⟩
    · unfold forL
      rw [e1]
      dsimp only
      rw [e2]
      exact e3
    · rw [List.length_cons]
      have e : k + (ds.length + 1) = k + 1 + ds.length := by omega
      rw [e]
      exact h3
theorem for_ok {t : MT} {b : MS} {ds : List D} {sv : SV} (P : Nat → SV → Prop) (h0 : P 0 sv) (hs : ∀ i d s, ds[i]? = some d → P i s → ∃ s1 s2, t d s = some s1 ∧ b s1 = .nx s2 ∧ P (i + 1) s2) : ∃ s, forL t b ds sv = .nx s ∧ P ds.length s := by
  obtain ⟨s, h1, h2⟩ := forL_rel P ds 0 sv h0 fun i d s hd hp => by
    rw [Nat.zero_add] at hp ⊢
    exact hs i d s hd hp
  rw [Nat.zero_add] at h2
  exact ⟨s, h1, h2⟩
/-- a statement that goes on, and what holds then -/
structure Nxt (o : O) (P : SV → Prop) : Prop where
  eq : ∃ s, o = .nx s ∧ P s
@[simp] theorem nxt_nx (s : SV) (P : SV → Prop) : Nxt (.nx s) P = P s := propext ⟨fun h => by
  obtain ⟨s', e, hp⟩ := h.eq
  cases e
  exact hp, fun h => ⟨s, rfl, h⟩⟩
theorem Nxt.not {o : O} {P : SV → Prop} (h : Nxt o P) (k : ∀ s, o ≠ .nx s) : False := by
  obtain ⟨s, e, _⟩ := h.eq
  exact k s e
def Turn (t : MT) (b : MS) (d : D) (s : SV) (P : SV → Prop) : Prop := match t d s with
  | some s1 => Nxt (b s1) P
  | none => False
@[simp] theorem turn_n (i : Nat) (b : MS) (d : D) (s : SV) (P : SV → Prop) : Turn (mtN i) b d s P = Nxt (b (s.set i (.pl d))) P := rfl
theorem for_turns {t : MT} {b : MS} {ds : List D} {sv : SV} (P : Nat → SV → Prop) (h0 : P 0 sv) (hs : ∀ i d s, ds[i]? = some d → P i s → Turn t b d s (P (i + 1))) : ∃ s, forL t b ds sv = .nx s ∧ P ds.length s := for_ok P h0 fun i d s hd hp => by
  have q := hs i d s hd hp
  unfold Turn at q
  cases e1 : t d s with
  | none => rw [e1] at q; exact q.elim
  | some s1 =>
    rw [e1] at q
    dsimp only at q
    obtain ⟨s2, e2, q⟩ := q.eq
    exact ⟨s1, s2, rfl, e2, q⟩
/-- a def's answer -/
structure Ans (r : FR) (P : D → Prop) : Prop where
  eq : ∃ d, r = .ok d none ∧ P d
@[simp] theorem ans_ok (d : D) (P : D → Prop) : Ans (.ok d none) P = P d := propext ⟨fun h => by
  obtain ⟨s', e, hp⟩ := h.eq
  cases e
  exact hp, fun h => ⟨d, rfl, h⟩⟩
theorem nxt_of {o : O} {P : SV → Prop} {s : SV} (e : o = .nx s) (h : P s) : Nxt o P := ⟨s, e, h⟩
theorem nxt_mono {o : O} {P Q : SV → Prop} (h : Nxt o P) (k : ∀ s, P s → Q s) : Nxt o Q := by
  obtain ⟨s, e, hp⟩ := h.eq
  exact nxt_of e (k s hp)
theorem nxt_seq {a b : MS} {sv : SV} {Q : SV → Prop} (P : SV → Prop) (h : Nxt (a sv) P) (k : ∀ s, P s → Nxt (b s) Q) : Nxt (mSeq a b sv) Q := by
  obtain ⟨s, e, hp⟩ := h.eq
  rw [ev_Seq, e]
  exact k s hp
theorem nxt_if {t : M Bool} {a b : MS} {sv : SV} {Q : SV → Prop} {c : Bool} (h : t sv = .ok c sv) (h1 : c = true → Nxt (a sv) Q) (h2 : c = false → Nxt (b sv) Q) : Nxt (mIfS t a b sv) Q := by
  rw [ev_IfS, ev_Bind, h]
  cases c with
  | true => exact h1 rfl
  | false => exact h2 rfl
theorem nxt_for {mi : M (List D)} {t : MT} {b : MS} {sv s : SV} {ds : List D} {Q : SV → Prop} (P : Nat → SV → Prop) (e : mi sv = .ok ds s) (h0 : P 0 s) (hs : ∀ i d s, ds[i]? = some d → P i s → Turn t b d s (P (i + 1))) (hq : ∀ s, P ds.length s → Q s) : Nxt (mFor mi t b sv) Q := by
  obtain ⟨s', e1, hp⟩ := for_turns P h0 hs
  exact nxt_of (for_of e e1) (hq s' hp)
theorem fin_seq {ro : Bool} {a b : MS} {sv : SV} {Q : D → Prop} (P : SV → Prop) (h : Nxt (a sv) P) (k : ∀ s, P s → Ans (endN ro (b s)) Q) : Ans (endN ro (mSeq a b sv)) Q := by
  obtain ⟨s, e, hp⟩ := h.eq
  rw [ev_Seq, e]
  exact k s hp
theorem fin_if {ro : Bool} {t : M Bool} {a b : MS} {sv : SV} {Q : D → Prop} {c : Bool} (h : t sv = .ok c sv) (h1 : c = true → Ans (endN ro (a sv)) Q) (h2 : c = false → Ans (endN ro (b sv)) Q) : Ans (endN ro (mIfS t a b sv)) Q := by
  rw [ev_IfS, ev_Bind, h]
  cases c with
  | true => exact h1 rfl
  | false => exact h2 rfl
theorem Ans.mono {r : FR} {P Q : D → Prop} (h : Ans r P) (k : ∀ d, P d → Q d) : Ans r Q := by
  obtain ⟨d, e, hp⟩ := h.eq
  exact ⟨d, e, k d hp⟩
theorem rngs_get {n i : Nat} {d : D} (h : (rngs 0 n)[i]? = some d) : i < n ∧ d = .int i := by
  unfold rngs at h
  rw [List.getElem?_map] at h
  obtain ⟨j, h1, h2⟩ := Option.map_eq_some_iff.mp h
  obtain ⟨h3, h4⟩ := List.getElem?_eq_some_iff.mp h1
  simp at h3 h4
  subst h4
  exact ⟨h3, by rw [← h2]; simp⟩
theorem rngs_len (lo : Int) (n : Nat) : (rngs lo n).length = n := by simp [rngs]
theorem ixN_nat {n i : Nat} (h : i < n) : ixN n (i : Int) = some i := by
  unfold ixN
  rw [if_pos (by omega), if_pos (by omega)]
  simp
theorem atI_natL {α : Type} {xs : List α} {i : Nat} (h : i < xs.length) : atI xs (i : Int) = some xs[i] := by
  unfold atI
  rw [ixN_nat h]
  simp [h]
/-! ### texts as lists of numbers -/
theorem str_app (a b : Str) : (a ++ b).cps.toList = a.cps.toList ++ b.cps.toList := by
  show (a.cps ++ b.cps).toList = _
  simp
theorem str_len (a : Str) : a.length = a.cps.toList.length := by
  show a.cps.size = _
  simp
theorem ix_strL {z : Str} {i : Nat} (h : i < z.cps.toList.length) (hz : z.length ≤ sizeLine) : dIx (.str z) (.int (i : Int)) = some (.str ⟨#[z.cps.toList[i]]⟩) := by
  unfold dIx
  dsimp only
  rw [if_pos hz, atI_natL h]
  rfl
theorem one_list (c : Nat) : (⟨#[c]⟩ : Str).cps.toList = [c] := rfl
theorem cut_to (z : Str) (k : Nat) : (cutS z none (some (k : Int))).cps.toList = z.cps.toList.take k := by
  unfold cutS
  rw [HT.sIx_none, HT.sIx_nat]
  simp [str_len, List.take_eq_take_iff]
theorem cut_from (z : Str) (k : Nat) : (cutS z (some (k : Int)) none).cps.toList = z.cps.toList.drop k := by
  unfold cutS
  rw [HT.sIx_none, HT.sIx_nat, str_len]
  simp
  rw [List.take_of_length_le (by simp)]
  rcases Nat.le_total k z.cps.toList.length with h | h
  · simp at h; rw [Nat.min_eq_left h]
  · simp at h
    rw [Nat.min_eq_right h, List.drop_of_length_le (by simp), List.drop_of_length_le (by simpa using h)]
theorem cut_list {α : Type} (xs : List α) (a b : Nat) : cutD xs (some (a : Int)) (some (b : Int)) = (xs.drop a).take (b - a) := by
  unfold cutD
  rw [HT.sIx_nat, HT.sIx_nat]
  rcases Nat.le_total a xs.length with h | h
  · rw [Nat.min_eq_left h]
    rcases Nat.le_total b xs.length with h' | h'
    · rw [Nat.min_eq_left h']
    · rw [Nat.min_eq_right h', List.take_of_length_le (by simp), List.take_of_length_le (by simp; omega)]
  · rw [Nat.min_eq_right h, List.drop_of_length_le (by omega), List.drop_of_length_le h]
    simp
theorem in_strs (w : Str) (ws : List Str) : ∃ b, dIn (.str w) (.lst (ws.map .str)) = some (.bl b) := by
  unfold dIn
  have h : inSeq (.str w) (ws.map .str) = some (inF (.str w) (ws.map .str)) := by
    unfold inSeq
    rw [if_pos ⟨rfl, by simp [flatD]⟩]
  refine ⟨inF (.str w) (ws.map .str), ?_⟩
  show ((inSeq (.str w) (ws.map .str)).or _).map D.bl = _
  rw [h]
  rfl
end VM

set_option Elab.async false
set_option linter.all false
set_option autoImplicit false
set_option maxRecDepth 100000
set_option maxHeartbeats 400000
namespace VM.K03
open PySem PySem.Spec PyProof.Rows L2 VM
def b_begins_in_0 : MS :=
  (mIfS (mB (m2 dNotIn (mRd 2) (mC (.str "abcdefghijklmnopqrstuvwxyzABCDEFGHIJKLMNOPQRSTUVWXYZ0123456789")))) (mRet (mC (.bl false))) mSkip)
def f_begins_in_1 : MS :=
  (mFor (mItems (mRd 0)) (mtN 2) b_begins_in_0)
def m_begins_in : MS :=
  (mSeq (mIfS (mOr (mNot (mB (m1 (isi "str") (mRd 0)))) (mB (m2 dEq (mRd 0) (mC (.str ""))))) (mRet (mC (.bl false))) mSkip)
  (mSeq (mIfS (mB (m2 dNotIn (m2 dIx (mRd 0) (mC (.int 0))) (mRd 1))) (mRet (mC (.bl false))) mSkip)
  (mSeq f_begins_in_1
  (mRet (mC (.bl true))))))
def F_begins_in : Fn := fnOf 3 none false m_begins_in
def m_is_data_word : MS :=
  (mRet (mCall 2 F_begins_in [] (mCons (mRd 0) (mCons (mC (.str "ABCDEFGHIJKLMNOPQRSTUVWXYZ")) mNil))))
def F_is_data_word : Fn := fnOf 1 none false m_is_data_word
def b_kind_ends_0 : MS :=
  (mSeq (mAsg 3 (m2 (dI2 cSub) (m2 (dI2 cSub) (mCall1 dLen (mCons (mRd 0) mNil)) (mC (.int 1))) (mRd 2)))
  (mSeq (mPut 1 (m2 dAdd (mRd 3) (mC (.int 1))) (mRd 3))
  (mIfS (mB (m1 (isi "tuple") (m2 dIx (mRd 0) (mRd 3)))) (mPut 1 (mWith lfree 1 (m2 dIx (mRd 1) (m2 dIx (mRd 1) (m2 dAdd (mRd 3) (mC (.int 1)))))) (mRd 3)) mSkip)))
def f_kind_ends_1 : MS :=
  (mFor (mRng1 (mCons (mCall1 dLen (mCons (mRd 0) mNil)) mNil)) (mtN 2) b_kind_ends_0)
def m_kind_ends : MS :=
  (mSeq (mAsgO 1 (m2 dRep (mLst (mCons (mC (.int 0)) mNil)) (mCall1 dLen (mCons (mRd 0) mNil))))
  (mSeq f_kind_ends_1
  (mRet (mCall1 dTuple (mCons (mMv 1) mNil)))))
def F_kind_ends : Fn := fnOf 4 none false m_kind_ends
def b_signs_of_0 : MS :=
  (mIfS (mB (m1 (isi "tuple") (mRd 4))) (mSeq (mPut 2 (m1 dNeg (mWith lfree 2 (m2 dIx (mRd 2) (mRd 3)))) (m2 dAdd (mRd 3) (mC (.int 1))))
  (mPut 2 (mWith lfree 2 (m2 dIx (mRd 2) (mRd 3))) (m2 dIx (mRd 1) (m2 dAdd (mRd 3) (mC (.int 1)))))) mSkip)
def f_signs_of_1 : MS :=
  (mFor (mEnum (mCons (mRd 0) mNil)) (mtTup 2 (mtCons (mtN 3) (mtCons (mtN 4) mtNil))) b_signs_of_0)
def m_signs_of : MS :=
  (mSeq (mAsg 1 (mCall 1 F_kind_ends [] (mCons (mRd 0) mNil)))
  (mSeq (mAsgO 2 (m2 dRep (mLst (mCons (mC (.int 1)) mNil)) (mCall1 dLen (mCons (mRd 0) mNil))))
  (mSeq f_signs_of_1
  (mRet (mCall1 dTuple (mCons (mMv 2) mNil))))))
def F_signs_of : Fn := fnOf 5 none false m_signs_of
def b_standing_in_0 : MS :=
  (mApp 2 (mTup (mCons (mRd 3) (mCons (m2 dIx (mRd 1) (mRd 3)) (mCons (mRd 5) mNil)))))
def f_standing_in_1 : MS :=
  (mFor (mItems (mRd 4)) (mtN 5) b_standing_in_0)
def b_standing_in_2 : MS :=
  (mIfS (mB (m1 (isi "tuple") (mRd 4))) f_standing_in_1 (mIfS (mB (mCall 1 F_is_data_word [] (mCons (mRd 4) mNil))) (mApp 2 (mTup (mCons (mRd 3) (mCons (m2 dIx (mRd 1) (mRd 3)) (mCons (mRd 4) mNil))))) mSkip))
def f_standing_in_3 : MS :=
  (mFor (mEnum (mCons (mRd 0) mNil)) (mtTup 2 (mtCons (mtN 3) (mtCons (mtN 4) mtNil))) b_standing_in_2)
def m_standing_in : MS :=
  (mSeq (mAsg 1 (mCall 1 F_signs_of [] (mCons (mRd 0) mNil)))
  (mSeq (mAsgO 2 (mLst mNil))
  (mSeq f_standing_in_3
  (mRet (mCall1 dTuple (mCons (mMv 2) mNil))))))
def F_standing_in : Fn := fnOf 6 none false m_standing_in
def b__law_cell_0 : MS :=
  (mAsg 2 (m2 (dI2 cMod) (mCall1 dInt (mCons (m2 dAdd (m2 (dI2 cMul) (mRd 2) (mC (.int 31))) (m2 (dI2 cMod) (mCall1 dInt (mCons (mRd 3) mNil)) (mC (.int 1000003)))) mNil)) (mC (.int 1000003))))
def f__law_cell_1 : MS :=
  (mFor (mItems (mRd 0)) (mtN 3) b__law_cell_0)
def m__law_cell : MS :=
  (mSeq (mIfS (mB (m2 (dCmp ciLt csLt) (mRd 1) (mCall1 dLen (mCons (mRd 0) mNil)))) (mRet (m2 dIx (mRd 0) (mRd 1))) mSkip)
  (mSeq (mAsg 2 (mC (.int 17)))
  (mSeq f__law_cell_1
  (mRet (m2 (dI2 cMod) (mCall1 dInt (mCons (m2 (dI2 cMul) (m2 (dI2 cMul) (m2 dAdd (mRd 2) (mC (.int 7))) (m2 dAdd (mRd 1) (mC (.int 3)))) (mC (.int 69621))) mNil)) (mC (.int 2147483647)))))))
def F__law_cell : Fn := fnOf 4 none false m__law_cell
def b__law_digits_0 : MS :=
  (mSeq (mApp 2 (m2 (dI2 cMod) (mCall1 dInt (mCons (mRd 3) mNil)) (mRd 4)))
  (mAsg 3 (m2 (dI2 cDiv) (mCall1 dInt (mCons (mRd 3) mNil)) (mRd 4))))
def f__law_digits_1 : MS :=
  (mFor (mItems (mRd 1)) (mtN 4) b__law_digits_0)
def b__law_digits_2 : MS :=
  (mSeq (mAsg 5 (m2 (dI2 cMod) (mCall1 dInt (mCons (m2 dAdd (m2 dAdd (m2 (dI2 cMul) (mRd 5) (mC (.int 48271))) (m2 (dI2 cMul) (mC (.int 974711)) (mRd 6))) (mC (.int 12345))) mNil)) (mC (.int 2147483647))))
  (mSeq (mAsg 7 (m2 (dI2 cMod) (mCall1 dInt (mCons (m2 (dI2 cMul) (mRd 5) (m2 dAdd (m2 (dI2 cDiv) (mRd 5) (mC (.int 65537))) (mC (.int 3)))) mNil)) (mC (.int 2147483629))))
  (mApp 2 (m2 (dI2 cMod) (m2 (dI2 cDiv) (mRd 7) (mC (.int 19))) (m2 dIx (mRd 1) (mRd 6))))))
def f__law_digits_3 : MS :=
  (mFor (mRng1 (mCons (mCall1 dLen (mCons (mRd 1) mNil)) mNil)) (mtN 6) b__law_digits_2)
def m__law_digits : MS :=
  (mSeq (mAsgO 2 (mLst mNil))
  (mSeq (mAsg 3 (mCall1 dInt (mCons (mRd 0) mNil)))
  (mSeq (mIfS (mB (m2 (dCI ciGe) (mRd 3) (m2 (dI2 cPow) (mC (.int 10)) (mC (.int 18))))) (mSeq (mAsg 3 (m2 (dI2 cSub) (mRd 3) (m2 (dI2 cPow) (mC (.int 10)) (mC (.int 18)))))
  (mSeq f__law_digits_1
  (mRetO (mTk 2)))) mSkip)
  (mSeq (mAsg 5 (m2 (dI2 cMod) (mCall1 dInt (mCons (mRd 3) mNil)) (mC (.int 2147483629))))
  (mSeq f__law_digits_3
  (mRetO (mTk 2)))))))
def F__law_digits : Fn := fnOf 8 none true m__law_digits
def m__law_reserved : MS :=
  (mRetO (mLst (mCons (mC (.str "fun")) (mCons (mC (.str "of")) (mCons (mC (.str "case")) (mCons (mC (.str "ask")) (mCons (mC (.str "keep")) (mCons (mC (.str "under")) (mCons (mC (.str "as")) (mCons (mC (.str "to")) (mCons (mC (.str "with")) (mCons (mC (.str "gives")) (mCons (mC (.str "data")) (mCons (mC (.str "maker")) mNil))))))))))))))
def F__law_reserved : Fn := fnOf 0 none true m__law_reserved
def b__law_word_0 : MS :=
  (mAsg 5 (m2 dAdd (mRd 5) (m2 dIx (mRd 4) (m2 dIx (mRd 0) (m2 dAdd (mC (.int 4)) (mRd 6))))))
def f__law_word_1 : MS :=
  (mFor (mRng1 (mCons (m2 dIx (mRd 0) (mC (.int 2))) mNil)) (mtN 6) b__law_word_0)
def i__law_word_2 : MS :=
  (mIfS (mB (m2 (dCI ciGt) (mCall1 dLen (mCons (mRd 1) mNil)) (mC (.int 0)))) (mSeq (mAsg 7 (m2 dIx (mRd 1) (m2 (dI2 cSub) (mCall1 dLen (mCons (mRd 1) mNil)) (mC (.int 1)))))
  (mSeq (mAsg 8 (m2 (dI2 cMod) (m2 dIx (mRd 0) (mC (.int 3))) (mCall1 dLen (mCons (mRd 7) mNil))))
  (mSeq (mIfS (mB (m2 dEq (m2 dIx (mRd 0) (mC (.int 0))) (mC (.int 3)))) (mAsg 5 (m2 dAdd (mSl (mRd 7) moN (moS (mC (.int 11)))) (m2 dIx (mRd 4) (m2 dIx (mRd 0) (mC (.int 4)))))) mSkip)
  (mSeq (mIfS (mAnd (mB (m2 dEq (m2 dIx (mRd 0) (mC (.int 0))) (mC (.int 4)))) (mB (m2 dEq (mRd 8) (mC (.int 0))))) (mAsg 5 (m2 dAdd (m2 dIx (mRd 2) (m2 dIx (mRd 0) (mC (.int 1)))) (mSl (mRd 7) (moS (mC (.int 1))) moN))) mSkip)
  (mSeq (mIfS (mAnd (mB (m2 dEq (m2 dIx (mRd 0) (mC (.int 0))) (mC (.int 4)))) (mB (m2 (dCI ciGt) (mRd 8) (mC (.int 0))))) (mAsg 5 (m2 dAdd (m2 dAdd (mSl (mRd 7) moN (moS (mRd 8))) (m2 dIx (mRd 4) (m2 dIx (mRd 0) (mC (.int 4))))) (mSl (mRd 7) (moS (m2 dAdd (mRd 8) (mC (.int 1)))) moN))) mSkip)
  (mIfS (mAnd (mB (m2 dEq (m2 dIx (mRd 0) (mC (.int 0))) (mC (.int 5)))) (mB (m2 (dCI ciGt) (mCall1 dLen (mCons (mRd 7) mNil)) (mC (.int 1))))) (mAsg 5 (mSl (mRd 7) moN (moS (m2 (dI2 cSub) (mCall1 dLen (mCons (mRd 7) mNil)) (mC (.int 1)))))) mSkip)))))) mSkip)
def b__law_word_3 : MS :=
  (mIfS (mOr (mB (m2 dIn (mRd 5) (mRd 1))) (mB (m2 dIn (mRd 5) (mRd 3)))) (mAsg 5 (m2 dAdd (mSl (mRd 5) moN (moS (mC (.int 11)))) (m2 dIx (mRd 4) (m2 (dI2 cMod) (mCall1 dInt (mCons (m2 dAdd (m2 dIx (mRd 0) (mC (.int 5))) (mRd 9)) mNil)) (mC (.int 62)))))) mSkip)
def f__law_word_4 : MS :=
  (mFor (mRng1 (mCons (m2 dAdd (m2 dAdd (mCall1 dLen (mCons (mRd 1) mNil)) (mCall1 dLen (mCons (mRd 3) mNil))) (mC (.int 1))) mNil)) (mtN 9) b__law_word_3)
def m__law_word : MS :=
  (mSeq (mAsg 4 (mC (.str "abcdefghijklmnopqrstuvwxyzABCDEFGHIJKLMNOPQRSTUVWXYZ0123456789")))
  (mSeq (mAsg 5 (m2 dIx (mRd 2) (m2 dIx (mRd 0) (mC (.int 1)))))
  (mSeq f__law_word_1
  (mSeq i__law_word_2
  (mSeq f__law_word_4
  (mRet (mRd 5)))))))
def F__law_word : Fn := fnOf 10 none false m__law_word
def b__law_words_0 : MS :=
  (mSeq (mIfS (mB (m2 dEq (m2 (dI2 cMod) (mRd 7) (mC (.int 5))) (mC (.int 0)))) (mAsg 6 (mCall 2 F__law_digits [] (mCons (mCall 2 F__law_cell [] (mCons (mRd 0) (mCons (m2 dAdd (mRd 1) (m2 (dI2 cDiv) (mRd 7) (mC (.int 5)))) mNil))) (mCons (m2 dRep (m2 dAdd (mLst (mCons (mC (.int 6)) (mCons (mC (.int 26)) (mCons (mC (.int 12)) (mCons (mC (.int 12)) mNil))))) (m2 dRep (mLst (mCons (mC (.int 62)) mNil)) (mC (.int 11)))) (mC (.int 5))) mNil)))) mSkip)
  (mApp 5 (mWith lfree 5 (mCall 4 F__law_word [] (mCons (mSl (mRd 6) (moS (m2 (dI2 cMul) (mC (.int 15)) (m2 (dI2 cMod) (mRd 7) (mC (.int 5))))) (moS (m2 dAdd (m2 (dI2 cMul) (mC (.int 15)) (m2 (dI2 cMod) (mRd 7) (mC (.int 5)))) (mC (.int 15))))) (mCons (mRd 5) (mCons (mRd 3) (mCons (mRd 4) mNil))))))))
def f__law_words_1 : MS :=
  (mFor (mRng1 (mCons (mRd 2) mNil)) (mtN 7) b__law_words_0)
def m__law_words : MS :=
  (mSeq (mAsgO 5 (mLst mNil))
  (mSeq (mAsg 6 (mLst mNil))
  (mSeq f__law_words_1
  (mRetO (mTk 5)))))
def F__law_words : Fn := fnOf 8 none true m__law_words
def b__law_subset_0 : MS :=
  (mSeq (mIfS (mB (m2 dEq (m2 (dI2 cMod) (mCall1 dInt (mCons (mRd 3) mNil)) (mC (.int 2))) (mC (.int 1)))) (mApp 2 (mRd 4)) mSkip)
  (mAsg 3 (m2 (dI2 cDiv) (mRd 3) (mC (.int 2)))))
def f__law_subset_1 : MS :=
  (mFor (mItems (mRd 0)) (mtN 4) b__law_subset_0)
def m__law_subset : MS :=
  (mSeq (mAsgO 2 (mLst mNil))
  (mSeq (mAsg 3 (mCall1 dInt (mCons (mRd 1) mNil)))
  (mSeq (mIfS (mB (m2 (dCmp ciLt csLt) (mRd 3) (mC (.int 64)))) (mAsg 3 (mC (.int 0))) mSkip)
  (mSeq f__law_subset_1
  (mRet (mCall1 dTuple (mCons (mCall1 dSorted (mCons (mMv 2) mNil)) mNil)))))))
def F__law_subset : Fn := fnOf 5 none false m__law_subset
def b__law_kind_0 : MS :=
  (mSeq (mAsg 8 (m2 dIx (mRd 0) (m2 dAdd (mC (.int 3)) (m2 (dI2 cMul) (mC (.int 2)) (m2 (dI2 cMod) (mRd 7) (mC (.int 63)))))))
  (mSeq (mAsg 9 (m2 dIx (mLst (mCons (mC (.int 0)) (mCons (mC (.int 1)) (mCons (m2 dIx (mRd 0) (m2 dAdd (mC (.int 2)) (m2 (dI2 cMul) (mC (.int 2)) (m2 (dI2 cMod) (mRd 7) (mC (.int 63)))))) (mCons (m2 dIx (mRd 0) (m2 dAdd (mC (.int 2)) (m2 (dI2 cMul) (mC (.int 2)) (m2 (dI2 cMod) (mRd 7) (mC (.int 6)))))) mNil))))) (m2 dIx (mRd 0) (mC (.int 0)))))
  (mIfS (mAnd (mB (m2 (dCI ciGt) (mRd 6) (mC (.int 0)))) (mOr (mB (m2 dEq (mRd 5) (mC (.int 1)))) (mB (m2 dEq (mRd 9) (mC (.int 1)))))) (mSeq (mApp 4 (mCall 2 F__law_subset [] (mCons (mRd 3) (mCons (mRd 8) mNil))))
  (mSeq (mAsg 6 (m2 (dI2 cSub) (mRd 6) (mC (.int 1))))
  (mAsg 5 (m2 dAdd (mRd 5) (mC (.int 1)))))) (mSeq (mApp 4 (m2 dIx (mRd 2) (m2 (dI2 cMod) (mCall1 dInt (mCons (mRd 8) mNil)) (mCall1 dLen (mCons (mRd 2) mNil)))))
  (mAsg 5 (m2 (dI2 cSub) (mRd 5) (mC (.int 1))))))))
def f__law_kind_1 : MS :=
  (mFor (mRng1 (mCons (m2 dAdd (m2 (dI2 cMul) (mC (.int 2)) (mRd 1)) (mC (.int 1))) mNil)) (mtN 7) b__law_kind_0)
def m__law_kind : MS :=
  (mSeq (mAsgO 4 (mLst mNil))
  (mSeq (mAsg 5 (mC (.int 1)))
  (mSeq (mAsg 6 (mRd 1))
  (mSeq f__law_kind_1
  (mRet (mCall1 dTuple (mCons (mMv 4) mNil)))))))
def F__law_kind : Fn := fnOf 10 none false m__law_kind
def m__law_drawn : MS :=
  (mSeq (mAsg 4 (mCall 2 F__law_digits [] (mCons (mRd 0) (mCons (m2 dAdd (mLst (mCons (mC (.int 4)) (mCons (mC (.int 40)) mNil))) (m2 dRep (mLst (mCons (mC (.int 2)) (mCons (mC (.int 192)) mNil))) (mC (.int 63)))) mNil))))
  (mSeq (mAsg 5 (m2 dIx (mRd 4) (mC (.int 1))))
  (mSeq (mIfS (mB (m2 (dCI ciGt) (mRd 5) (mC (.int 31)))) (mAsg 5 (m2 (dI2 cSub) (mRd 5) (mC (.int 32)))) mSkip)
  (mRet (mCall 4 F__law_kind [] (mCons (mRd 4) (mCons (m2 (dI2 cMod) (mCall1 dInt (mCons (mRd 5) mNil)) (m2 dAdd (mRd 1) (mC (.int 1)))) (mCons (mRd 2) (mCons (mRd 3) mNil)))))))))
def F__law_drawn : Fn := fnOf 6 none false m__law_drawn
def m__law_same : MS :=
  (mRet (m2 dEq (mCall1 dRepr (mCons (mRd 0) mNil)) (mCall1 dRepr (mCons (mRd 1) mNil))))
def F__law_same : Fn := fnOf 2 none false m__law_same
def b__law_standing_0 : MS :=
  (mApp 2 (mTup (mCons (mRd 3) (mCons (mRd 5) (mCons (mRd 6) mNil)))))
def f__law_standing_1 : MS :=
  (mFor (mItems (mRd 4)) (mtN 6) b__law_standing_0)
def i__law_standing_2 : MS :=
  (mIfS (mB (m1 (isi "tuple") (mRd 4))) (mSeq f__law_standing_1
  (mSeq (mApp 1 (mRd 5))
  (mApp 1 (m1 dNeg (mRd 5))))) (mIfS (mB (m2 dIn (m2 dIx (mRd 4) (mC (.int 0))) (mC (.str "ABCDEFGHIJKLMNOPQRSTUVWXYZ")))) (mApp 2 (mTup (mCons (mRd 3) (mCons (mRd 5) (mCons (mRd 4) mNil))))) mSkip))
def b__law_standing_3 : MS :=
  (mSeq (mAsg 4 (m2 dIx (mRd 0) (mRd 3)))
  (mSeq (mAsg 5 (mPop 1))
  i__law_standing_2))
def f__law_standing_4 : MS :=
  (mFor (mRng1 (mCons (mCall1 dLen (mCons (mRd 0) mNil)) mNil)) (mtN 3) b__law_standing_3)
def m__law_standing : MS :=
  (mSeq (mAsgO 1 (mLst (mCons (mC (.int 1)) mNil)))
  (mSeq (mAsgO 2 (mLst mNil))
  (mSeq f__law_standing_4
  (mRet (mCall1 dTuple (mCons (mMv 2) mNil))))))
def F__law_standing : Fn := fnOf 7 none false m__law_standing
def m__law_moved : MS :=
  (mRet (mCall1 dTuple (mCons (mLc [3] (mItems (mRd 0)) (mtN 3) mYes (mTup (mCons (m2 dAdd (m2 dIx (mRd 3) (mC (.int 0))) (mRd 1)) (mCons (m2 (dI2 cMul) (m2 dIx (mRd 3) (mC (.int 1))) (mRd 2)) (mCons (m2 dIx (mRd 3) (mC (.int 2))) mNil))))) mNil)))
def F__law_moved : Fn := fnOf 4 none false m__law_moved
def b_law_0 : MS :=
  (mIfS (mNot (mB (mCall 2 F__law_same [] (mCons (mCall 1 F_standing_in [] (mCons (mRd 14) mNil)) (mCons (mCall 1 F__law_standing [] (mCons (mRd 14) mNil)) mNil))))) (mRet (mC (.bl false))) mSkip)
def f_law_1 : MS :=
  (mFor (mItems (mLst (mCons (mRd 7) (mCons (mRd 8) (mCons (mTup (mCons (mRd 12) mNil)) (mCons (mRd 9) (mCons (mRd 11) (mCons (mRd 13) (mCons (mRd 7) mNil))))))))) (mtN 14) b_law_0)
def m_law : MS :=
  (mSeq (mAsg 1 (mC (.str "abcdefghijklmnopqrstuvwxyz")))
  (mSeq (mAsgO 2 (mCall 5 F__law_words [] (mCons (mRd 0) (mCons (mC (.int 0)) (mCons (mC (.int 3)) (mCons (mRd 1) (mCons (mLst mNil) mNil)))))))
  (mSeq (mAsg 3 (mCall 5 F__law_words [] (mCons (mRd 0) (mCons (mC (.int 1)) (mCons (mC (.int 3)) (mCons (m1 dUpper (mRd 1)) (mCons (mLst mNil) mNil)))))))
  (mSeq (mAsg 4 (mCall1 dSorted (mCons (mCall 5 F__law_words [] (mCons (mRd 0) (mCons (mC (.int 2)) (mCons (mC (.int 6)) (mCons (mRd 1) (mCons (mCall 0 F__law_reserved [] mNil) mNil)))))) mNil)))
  (mSeq (mAsg 5 (mCall 2 F__law_digits [] (mCons (mCall 2 F__law_cell [] (mCons (mRd 0) (mCons (mC (.int 4)) mNil))) (mCons (mLst (mCons (mC (.int 3)) (mCons (mC (.int 12)) (mCons (mC (.int 6)) (mCons (mC (.int 12)) (mCons (mC (.int 192)) mNil)))))) mNil))))
  (mSeq (mIfS (mB (m2 dEq (m2 dIx (mRd 5) (mC (.int 0))) (mC (.int 1)))) (mPut 2 (m2 dIx (mCall 0 F__law_reserved [] mNil) (m2 dIx (mRd 5) (mC (.int 1)))) (mC (.int 1))) mSkip)
  (mSeq (mIfS (mB (m2 dEq (m2 dIx (mRd 5) (mC (.int 0))) (mC (.int 2)))) (mPut 2 (m2 dIx (mRd 4) (m2 dIx (mRd 5) (mC (.int 2)))) (mC (.int 1))) mSkip)
  (mSeq (mAsg 6 (m2 dAdd (mMv 2) (mRd 3)))
  (mSeq (mAsg 7 (mCall 4 F__law_drawn [] (mCons (mCall 2 F__law_cell [] (mCons (mRd 0) (mCons (mC (.int 5)) mNil))) (mCons (mC (.int 31)) (mCons (mRd 6) (mCons (mRd 4) mNil))))))
  (mSeq (mAsg 8 (mCall 4 F__law_drawn [] (mCons (mCall 2 F__law_cell [] (mCons (mRd 0) (mCons (mC (.int 6)) mNil))) (mCons (mC (.int 15)) (mCons (mRd 6) (mCons (mRd 4) mNil))))))
  (mSeq (mAsg 9 (mCall 4 F__law_drawn [] (mCons (mCall 2 F__law_cell [] (mCons (mRd 0) (mCons (mC (.int 7)) mNil))) (mCons (mC (.int 15)) (mCons (mRd 6) (mCons (mRd 4) mNil))))))
  (mSeq (mAsg 10 (mCall 2 F__law_subset [] (mCons (mRd 4) (mCons (m2 dIx (mRd 5) (mC (.int 4))) mNil))))
  (mSeq (mAsg 11 (m2 dAdd (m2 dAdd (mTup (mCons (mRd 10) mNil)) (mRd 8)) (mRd 9)))
  (mSeq (mAsg 12 (m2 dIx (mRd 3) (m2 (dI2 cMod) (mCall1 dInt (mCons (m2 dIx (mRd 5) (mC (.int 3))) mNil)) (mC (.int 3)))))
  (mSeq (mAsg 13 (mTup (mCons (mCall1 dTuple (mCons (mRd 4) mNil)) (mCons (mRd 12) (mCons (mWith lfree 2 (m2 dIx (mRd 2) (m2 (dI2 cMod) (m2 (dI2 cDiv) (mCall1 dInt (mCons (m2 dIx (mRd 5) (mC (.int 3))) mNil)) (mC (.int 3))) (mC (.int 3))))) mNil)))))
  (mSeq f_law_1
  (mSeq (mAsg 15 (m2 dAdd (mCall1 dTuple (mCons (mLc [16] (mItems (mRd 10)) (mtN 16) mYes (mTup (mCons (mC (.int 0)) (mCons (mC (.int 1)) (mCons (mRd 16) mNil))))) mNil)) (mCall 3 F__law_moved [] (mCons (mCall 1 F__law_standing [] (mCons (mRd 8) mNil)) (mCons (mC (.int 1)) (mCons (m1 dNeg (mC (.int 1))) mNil))))))
  (mSeq (mAsg 15 (m2 dAdd (mRd 15) (mCall 3 F__law_moved [] (mCons (mCall 1 F__law_standing [] (mCons (mRd 9) mNil)) (mCons (m2 dAdd (mC (.int 1)) (mCall1 dLen (mCons (mRd 8) mNil))) (mCons (mC (.int 1)) mNil))))))
  (mSeq (mIfS (mNot (mB (mCall 2 F__law_same [] (mCons (mCallK 1 F_standing_in (kj 0 1) mNil (mCons (mRd 11) mNil)) (mCons (mRd 15) mNil))))) (mRet (mC (.bl false))) mSkip)
  (mSeq (mAsg 15 (m2 dAdd (mCall1 dTuple (mCons (mLc [16] (mItems (mRd 4)) (mtN 16) mYes (mTup (mCons (mC (.int 0)) (mCons (mC (.int 1)) (mCons (mRd 16) mNil))))) mNil)) (mTup (mCons (mTup (mCons (mC (.int 1)) (mCons (m1 dNeg (mC (.int 1))) (mCons (mRd 12) mNil)))) mNil))))
  (mRet (mAndV (mCall 2 F__law_same [] (mCons (mCallK 1 F_standing_in (kj 0 1) mNil (mCons (mRd 13) mNil)) (mCons (mRd 15) mNil))) (mCall 2 F__law_same [] (mCons (mCall 1 F_standing_in [] (mCons (mTup (mCons (mWith lfree 2 (m2 dIx (mRd 2) (mC (.int 0)))) mNil)) mNil)) (mCons (mTup mNil) mNil)))))))))))))))))))))))))
def F_law : Fn := fnOf 17 none false m_law
end VM.K03

set_option Elab.async false
set_option linter.all false
set_option autoImplicit false
set_option maxRecDepth 100000
set_option maxHeartbeats 400000
namespace VM.K03
open PySem PySem.Spec PyProof.Rows L2 VM
abbrev topS (i : Nat) : Stmt := PySem.Challenge.pw_ownleft_k03_what_stands.main.body.getD i (.Pass ⟨0, 0, 0, 0⟩)
abbrev s_begins_in : Stmt := topS 3
abbrev N_begins_in : List Str := ["value", "letters", "sign"]
theorem sc_begins_in : FnScope N_begins_in ["value", "letters"] (defScope s_begins_in) := ⟨rfl, rfl, rfl, by decide +kernel, rfl, by decide +kernel, by decide +kernel⟩
abbrev s_is_data_word : Stmt := topS 4
abbrev N_is_data_word : List Str := ["value"]
theorem sc_is_data_word : FnScope N_is_data_word ["value"] (defScope s_is_data_word) := ⟨rfl, rfl, rfl, by decide +kernel, rfl, by decide +kernel, by decide +kernel⟩
abbrev s_kind_ends : Stmt := topS 6
abbrev N_kind_ends : List Str := ["kind", "ends", "back", "place"]
theorem sc_kind_ends : FnScope N_kind_ends ["kind"] (defScope s_kind_ends) := ⟨rfl, rfl, rfl, by decide +kernel, rfl, by decide +kernel, by decide +kernel⟩
abbrev s_signs_of : Stmt := topS 8
abbrev N_signs_of : List Str := ["kind", "ends", "signs", "place", "token"]
theorem sc_signs_of : FnScope N_signs_of ["kind"] (defScope s_signs_of) := ⟨rfl, rfl, rfl, by decide +kernel, rfl, by decide +kernel, by decide +kernel⟩
abbrev s_standing_in : Stmt := topS 9
abbrev N_standing_in : List Str := ["kind", "signs", "found", "place", "token", "word"]
theorem sc_standing_in : FnScope N_standing_in ["kind"] (defScope s_standing_in) := ⟨rfl, rfl, rfl, by decide +kernel, rfl, by decide +kernel, by decide +kernel⟩
abbrev s__law_cell : Stmt := topS 11
abbrev N__law_cell : List Str := ["script", "k", "seed", "cell"]
theorem sc__law_cell : FnScope N__law_cell ["script", "k"] (defScope s__law_cell) := ⟨rfl, rfl, rfl, by decide +kernel, rfl, by decide +kernel, by decide +kernel⟩
abbrev s__law_digits : Stmt := topS 12
abbrev N__law_digits : List Str := ["cell", "sizes", "found", "rest", "size", "seed", "k", "twice"]
theorem sc__law_digits : FnScope N__law_digits ["cell", "sizes"] (defScope s__law_digits) := ⟨rfl, rfl, rfl, by decide +kernel, rfl, by decide +kernel, by decide +kernel⟩
abbrev s__law_reserved : Stmt := topS 13
abbrev N__law_reserved : List Str := []
theorem sc__law_reserved : FnScope N__law_reserved [] (defScope s__law_reserved) := ⟨rfl, rfl, rfl, by decide +kernel, rfl, by decide +kernel, by decide +kernel⟩
abbrev s__law_word : Stmt := topS 14
abbrev N__law_word : List Str := ["ds", "words", "firsts", "barred", "letters", "word", "j", "before", "spot", "turn"]
theorem sc__law_word : FnScope N__law_word ["ds", "words", "firsts", "barred"] (defScope s__law_word) := ⟨rfl, rfl, rfl, by decide +kernel, rfl, by decide +kernel, by decide +kernel⟩
abbrev s__law_words : Stmt := topS 15
abbrev N__law_words : List Str := ["script", "at", "many", "firsts", "barred", "words", "ds", "k"]
theorem sc__law_words : FnScope N__law_words ["script", "at", "many", "firsts", "barred"] (defScope s__law_words) := ⟨rfl, rfl, rfl, by decide +kernel, rfl, by decide +kernel, by decide +kernel⟩
abbrev s__law_subset : Stmt := topS 16
abbrev N__law_subset : List Str := ["words", "digit", "found", "rest", "word"]
theorem sc__law_subset : FnScope N__law_subset ["words", "digit"] (defScope s__law_subset) := ⟨rfl, rfl, rfl, by decide +kernel, rfl, by decide +kernel, by decide +kernel⟩
abbrev s__law_kind : Stmt := topS 17
abbrev N__law_kind : List Str := ["ds", "many", "words", "asked", "tokens", "pending", "more", "k", "digit", "turn"]
theorem sc__law_kind : FnScope N__law_kind ["ds", "many", "words", "asked"] (defScope s__law_kind) := ⟨rfl, rfl, rfl, by decide +kernel, rfl, by decide +kernel, by decide +kernel⟩
abbrev s__law_drawn : Stmt := topS 18
abbrev N__law_drawn : List Str := ["cell", "most", "words", "asked", "ds", "many"]
theorem sc__law_drawn : FnScope N__law_drawn ["cell", "most", "words", "asked"] (defScope s__law_drawn) := ⟨rfl, rfl, rfl, by decide +kernel, rfl, by decide +kernel, by decide +kernel⟩
abbrev s__law_same : Stmt := topS 19
abbrev N__law_same : List Str := ["actual", "due"]
theorem sc__law_same : FnScope N__law_same ["actual", "due"] (defScope s__law_same) := ⟨rfl, rfl, rfl, by decide +kernel, rfl, by decide +kernel, by decide +kernel⟩
abbrev s__law_standing : Stmt := topS 20
abbrev N__law_standing : List Str := ["tokens", "signs", "found", "at", "token", "sign", "word"]
theorem sc__law_standing : FnScope N__law_standing ["tokens"] (defScope s__law_standing) := ⟨rfl, rfl, rfl, by decide +kernel, rfl, by decide +kernel, by decide +kernel⟩
abbrev s__law_moved : Stmt := topS 21
abbrev N__law_moved : List Str := ["triples", "by", "turn", "triple"]
theorem sc__law_moved : FnScope N__law_moved ["triples", "by", "turn"] (defScope s__law_moved) := ⟨rfl, rfl, rfl, by decide +kernel, rfl, by decide +kernel, by decide +kernel⟩
abbrev s_law : Stmt := topS 22
abbrev N_law : List Str := ["script", "lower", "bases", "capitals", "asked", "mix", "words", "first", "one", "two", "arrow", "joined", "capital", "whole", "tokens", "due", "word"]
theorem sc_law : FnScope N_law ["script"] (defScope s_law) := ⟨rfl, rfl, rfl, by decide +kernel, rfl, by decide +kernel, by decide +kernel⟩
structure Txt (K : PySem.W.Frag) (mg : Str → Option Value) where
  a_begins_in : Addr
  d_begins_in : FuncData
  F_begins_in : Fun K "begins_in" "begins_in" s_begins_in a_begins_in d_begins_in
  g_begins_in : mg "begins_in" = some (.ref a_begins_in)
  b_begins_in : Binds K d_begins_in ["value", "letters"] []
  a_is_data_word : Addr
  d_is_data_word : FuncData
  F_is_data_word : Fun K "is_data_word" "is_data_word" s_is_data_word a_is_data_word d_is_data_word
  g_is_data_word : mg "is_data_word" = some (.ref a_is_data_word)
  b_is_data_word : Binds K d_is_data_word ["value"] []
  a_kind_ends : Addr
  d_kind_ends : FuncData
  F_kind_ends : Fun K "kind_ends" "kind_ends" s_kind_ends a_kind_ends d_kind_ends
  g_kind_ends : mg "kind_ends" = some (.ref a_kind_ends)
  b_kind_ends : Binds K d_kind_ends ["kind"] []
  a_signs_of : Addr
  d_signs_of : FuncData
  F_signs_of : Fun K "signs_of" "signs_of" s_signs_of a_signs_of d_signs_of
  g_signs_of : mg "signs_of" = some (.ref a_signs_of)
  b_signs_of : Binds K d_signs_of ["kind"] []
  a_standing_in : Addr
  d_standing_in : FuncData
  F_standing_in : Fun K "standing_in" "standing_in" s_standing_in a_standing_in d_standing_in
  g_standing_in : mg "standing_in" = some (.ref a_standing_in)
  b_standing_in : Binds K d_standing_in ["kind"] []
  a__law_cell : Addr
  d__law_cell : FuncData
  F__law_cell : Fun K "_law_cell" "_law_cell" s__law_cell a__law_cell d__law_cell
  g__law_cell : mg "_law_cell" = some (.ref a__law_cell)
  b__law_cell : Binds K d__law_cell ["script", "k"] []
  a__law_digits : Addr
  d__law_digits : FuncData
  F__law_digits : Fun K "_law_digits" "_law_digits" s__law_digits a__law_digits d__law_digits
  g__law_digits : mg "_law_digits" = some (.ref a__law_digits)
  b__law_digits : Binds K d__law_digits ["cell", "sizes"] []
  a__law_reserved : Addr
  d__law_reserved : FuncData
  F__law_reserved : Fun K "_law_reserved" "_law_reserved" s__law_reserved a__law_reserved d__law_reserved
  g__law_reserved : mg "_law_reserved" = some (.ref a__law_reserved)
  b__law_reserved : Binds K d__law_reserved [] []
  a__law_word : Addr
  d__law_word : FuncData
  F__law_word : Fun K "_law_word" "_law_word" s__law_word a__law_word d__law_word
  g__law_word : mg "_law_word" = some (.ref a__law_word)
  b__law_word : Binds K d__law_word ["ds", "words", "firsts", "barred"] []
  a__law_words : Addr
  d__law_words : FuncData
  F__law_words : Fun K "_law_words" "_law_words" s__law_words a__law_words d__law_words
  g__law_words : mg "_law_words" = some (.ref a__law_words)
  b__law_words : Binds K d__law_words ["script", "at", "many", "firsts", "barred"] []
  a__law_subset : Addr
  d__law_subset : FuncData
  F__law_subset : Fun K "_law_subset" "_law_subset" s__law_subset a__law_subset d__law_subset
  g__law_subset : mg "_law_subset" = some (.ref a__law_subset)
  b__law_subset : Binds K d__law_subset ["words", "digit"] []
  a__law_kind : Addr
  d__law_kind : FuncData
  F__law_kind : Fun K "_law_kind" "_law_kind" s__law_kind a__law_kind d__law_kind
  g__law_kind : mg "_law_kind" = some (.ref a__law_kind)
  b__law_kind : Binds K d__law_kind ["ds", "many", "words", "asked"] []
  a__law_drawn : Addr
  d__law_drawn : FuncData
  F__law_drawn : Fun K "_law_drawn" "_law_drawn" s__law_drawn a__law_drawn d__law_drawn
  g__law_drawn : mg "_law_drawn" = some (.ref a__law_drawn)
  b__law_drawn : Binds K d__law_drawn ["cell", "most", "words", "asked"] []
  a__law_same : Addr
  d__law_same : FuncData
  F__law_same : Fun K "_law_same" "_law_same" s__law_same a__law_same d__law_same
  g__law_same : mg "_law_same" = some (.ref a__law_same)
  b__law_same : Binds K d__law_same ["actual", "due"] []
  a__law_standing : Addr
  d__law_standing : FuncData
  F__law_standing : Fun K "_law_standing" "_law_standing" s__law_standing a__law_standing d__law_standing
  g__law_standing : mg "_law_standing" = some (.ref a__law_standing)
  b__law_standing : Binds K d__law_standing ["tokens"] []
  a__law_moved : Addr
  d__law_moved : FuncData
  F__law_moved : Fun K "_law_moved" "_law_moved" s__law_moved a__law_moved d__law_moved
  g__law_moved : mg "_law_moved" = some (.ref a__law_moved)
  b__law_moved : Binds K d__law_moved ["triples", "by", "turn"] []
  a_law : Addr
  d_law : FuncData
  F_law : Fun K "law" "law" s_law a_law d_law
  g_law : mg "law" = some (.ref a_law)
  b_law : Binds K d_law ["script"] []
  t_CAPITAL : Tok
  c_CAPITAL : mg "CAPITAL" = some (.str "ABCDEFGHIJKLMNOPQRSTUVWXYZ" t_CAPITAL)
  t_SIGNS : Tok
  c_SIGNS : mg "SIGNS" = some (.str "abcdefghijklmnopqrstuvwxyzABCDEFGHIJKLMNOPQRSTUVWXYZ0123456789" t_SIGNS)
  n_enumerate : mg "enumerate" = none
  n_int : mg "int" = none
  n_isinstance : mg "isinstance" = none
  n_len : mg "len" = none
  n_range : mg "range" = none
  n_repr : mg "repr" = none
  n_sorted : mg "sorted" = none
  n_str : mg "str" = none
  n_tuple : mg "tuple" = none
section
variable {P : Program} {w : World} {K : PySem.W.Frag} {mg : Str → Option Value} {base : Heap}
theorem kb_standing_in_0 (T : Txt K mg) : KBinds K T.d_standing_in ["kind"] ["kind"] (kj 0 1) (kj 0 1) := kj_binds (by decide) T.F_standing_in fun _ _ _ _ _ _ us ws h1 h2 => match us, ws, h1, h2 with | [], [_], _, _ => rfl
set_option maxHeartbeats 4000000 in
theorem ok_begins_in (T : Txt K mg) : FnG P w K mg base 1 T.a_begins_in T.d_begins_in ["value", "letters"] (spV K mg 2 none false F_begins_in) :=
  fn_ok (N := N_begins_in) (io := none) (ro := false) (body := m_begins_in) T.F_begins_in sc_begins_in rfl (by decide) fun cdv A outer s H E c =>
  (ss_cons (ss_if (PW.pt (sw_or (st_not (st_val (se_isi (T := "str") (by rfl) T.n_isinstance (by rfl) T.n_str (by decide +kernel) (se_rd (pv 0))))) (sw_or1 (st_eq c.u5 (se_rd (pv 0)) se_str)))) (ss_one (ss_ret se_bl)) ss_nil)
  (ss_cons (ss_if (st_notIn c.u5 (se_ix (se_rd (pv 0)) se_int) (se_rd (pv 1))) (ss_one (ss_ret se_bl)) ss_nil)
  (ss_cons (ss_for c.po rfl (si_seq (se_rd (pv 0))) (sg_name (pg_name (i := 2) sc_begins_in.nd rfl (by first | exact .inl rfl | exact .inr rfl)))
  (ss_one (ss_if (st_notIn c.u5 (se_rd (pv 2)) (se_glob (by rfl) T.c_SIGNS)) (ss_one (ss_ret se_bl)) ss_nil)))
  (ss_one (ss_ret se_bl)))))
set_option maxHeartbeats 4000000 in
theorem ok_is_data_word (T : Txt K mg) : FnG P w K mg base 2 T.a_is_data_word T.d_is_data_word ["value"] (spV K mg 1 none false F_is_data_word) :=
  fn_ok (N := N_is_data_word) (io := none) (ro := false) (body := m_is_data_word) T.F_is_data_word sc_is_data_word rfl (by decide) fun cdv A outer s H E c =>
  (ss_one (ss_ret (se_call c (by decide) (ok_begins_in T) (by rfl) T.g_begins_in T.F_begins_in.kp T.b_begins_in .nil DefOk.nil (sa_cons (se_rd (pv 0)) (sa_cons (se_glob (by rfl) T.c_CAPITAL) sa_nil)))))
set_option maxHeartbeats 4000000 in
theorem ok_kind_ends (T : Txt K mg) : FnG P w K mg base 1 T.a_kind_ends T.d_kind_ends ["kind"] (spV K mg 1 none false F_kind_ends) :=
  fn_ok (N := N_kind_ends) (io := none) (ro := false) (body := m_kind_ends) T.F_kind_ends sc_kind_ends rfl (by decide) fun cdv A outer s H E c =>
  (ss_cons (ss_setO (i := 1) (fun te he => ps_set (i := 1) sc_kind_ends.nd rfl (by first | exact .inl rfl | exact .inr rfl) he) (so_rep (se_of (so_lst (sa_cons se_int sa_nil))) (se_len (by rfl) T.n_len (sa_cons (se_rd (pv 0)) sa_nil))))
  (ss_cons (ss_for c.po rfl (si_range1 (by rfl) T.n_range (sa_cons (se_len (by rfl) T.n_len (sa_cons (se_rd (pv 0)) sa_nil)) sa_nil)) (sg_name (pg_name (i := 2) sc_kind_ends.nd rfl (by first | exact .inl rfl | exact .inr rfl)))
  (ss_cons (ss_set (i := 3) (fun te he => ps_set (i := 3) sc_kind_ends.nd rfl (by first | exact .inl rfl | exact .inr rfl) he) (se_sub (se_sub (se_len (by rfl) T.n_len (sa_cons (se_rd (pv 0)) sa_nil)) se_int) (se_rd (pv 2))))
  (ss_cons (ss_put (fun te ti he hi => ps_asg he (pg_sub (pv 1) hi set_list)) (se_add (se_rd (pv 3)) se_int) (se_rd (pv 3)))
  (ss_one (ss_if (st_val (se_isi (T := "tuple") (by rfl) T.n_isinstance (by rfl) T.n_tuple boot_tuple' (se_ix (se_rd (pv 0)) (se_rd (pv 3))))) (ss_one (ss_put (fun te ti he hi => ps_asg he (pg_sub (pv 1) hi set_list)) (se_with (se_ix (se_rd (pv 1)) (se_ix (se_rd (pv 1)) (se_add (se_rd (pv 3)) se_int)))) (se_rd (pv 3)))) ss_nil)))))
  (ss_one (ss_ret (se_tuplec (by rfl) T.n_tuple (sa_cons (se_mv (pv 1)) sa_nil))))))
set_option maxHeartbeats 4000000 in
theorem ok_signs_of (T : Txt K mg) : FnG P w K mg base 2 T.a_signs_of T.d_signs_of ["kind"] (spV K mg 1 none false F_signs_of) :=
  fn_ok (N := N_signs_of) (io := none) (ro := false) (body := m_signs_of) T.F_signs_of sc_signs_of rfl (by decide) fun cdv A outer s H E c =>
  (ss_cons (ss_set (i := 1) (fun te he => ps_set (i := 1) sc_signs_of.nd rfl (by first | exact .inl rfl | exact .inr rfl) he) (se_call c (by decide) (ok_kind_ends T) (by rfl) T.g_kind_ends T.F_kind_ends.kp T.b_kind_ends .nil DefOk.nil (sa_cons (se_rd (pv 0)) sa_nil)))
  (ss_cons (ss_setO (i := 2) (fun te he => ps_set (i := 2) sc_signs_of.nd rfl (by first | exact .inl rfl | exact .inr rfl) he) (so_rep (se_of (so_lst (sa_cons se_int sa_nil))) (se_len (by rfl) T.n_len (sa_cons (se_rd (pv 0)) sa_nil))))
  (ss_cons (ss_for c.po rfl (si_enum (by rfl) T.n_enumerate (sa_cons (se_rd (pv 0)) sa_nil)) (sg_tup (pg_tup rfl (sgs_cons (sg_name (pg_name (i := 3) sc_signs_of.nd rfl (by first | exact .inl rfl | exact .inr rfl))) (sgs_cons (sg_name (pg_name (i := 4) sc_signs_of.nd rfl (by first | exact .inl rfl | exact .inr rfl))) sgs_nil (pgs_cons (sg_name (pg_name (i := 4) sc_signs_of.nd rfl (by first | exact .inl rfl | exact .inr rfl))) sgs_nil)) (pgs_cons (sg_name (pg_name (i := 3) sc_signs_of.nd rfl (by first | exact .inl rfl | exact .inr rfl))) (sgs_cons (sg_name (pg_name (i := 4) sc_signs_of.nd rfl (by first | exact .inl rfl | exact .inr rfl))) sgs_nil (pgs_cons (sg_name (pg_name (i := 4) sc_signs_of.nd rfl (by first | exact .inl rfl | exact .inr rfl))) sgs_nil))))))
  (ss_one (ss_if (st_val (se_isi (T := "tuple") (by rfl) T.n_isinstance (by rfl) T.n_tuple boot_tuple' (se_rd (pv 4)))) (ss_cons (ss_put (fun te ti he hi => ps_asg he (pg_sub (pv 2) hi set_list)) (se_neg (se_with (se_ix (se_rd (pv 2)) (se_rd (pv 3))))) (se_add (se_rd (pv 3)) se_int))
  (ss_one (ss_put (fun te ti he hi => ps_asg he (pg_sub (pv 2) hi set_list)) (se_with (se_ix (se_rd (pv 2)) (se_rd (pv 3)))) (se_ix (se_rd (pv 1)) (se_add (se_rd (pv 3)) se_int))))) ss_nil)))
  (ss_one (ss_ret (se_tuplec (by rfl) T.n_tuple (sa_cons (se_mv (pv 2)) sa_nil)))))))
set_option maxHeartbeats 4000000 in
theorem ok_standing_in (T : Txt K mg) : FnG P w K mg base 3 T.a_standing_in T.d_standing_in ["kind"] (spV K mg 1 none false F_standing_in) :=
  fn_ok (N := N_standing_in) (io := none) (ro := false) (body := m_standing_in) T.F_standing_in sc_standing_in rfl (by decide) fun cdv A outer s H E c =>
  (ss_cons (ss_set (i := 1) (fun te he => ps_set (i := 1) sc_standing_in.nd rfl (by first | exact .inl rfl | exact .inr rfl) he) (se_call c (by decide) (ok_signs_of T) (by rfl) T.g_signs_of T.F_signs_of.kp T.b_signs_of .nil DefOk.nil (sa_cons (se_rd (pv 0)) sa_nil)))
  (ss_cons (ss_setO (i := 2) (fun te he => ps_set (i := 2) sc_standing_in.nd rfl (by first | exact .inl rfl | exact .inr rfl) he) (so_lst sa_nil))
  (ss_cons (ss_for c.po rfl (si_enum (by rfl) T.n_enumerate (sa_cons (se_rd (pv 0)) sa_nil)) (sg_tup (pg_tup rfl (sgs_cons (sg_name (pg_name (i := 3) sc_standing_in.nd rfl (by first | exact .inl rfl | exact .inr rfl))) (sgs_cons (sg_name (pg_name (i := 4) sc_standing_in.nd rfl (by first | exact .inl rfl | exact .inr rfl))) sgs_nil (pgs_cons (sg_name (pg_name (i := 4) sc_standing_in.nd rfl (by first | exact .inl rfl | exact .inr rfl))) sgs_nil)) (pgs_cons (sg_name (pg_name (i := 3) sc_standing_in.nd rfl (by first | exact .inl rfl | exact .inr rfl))) (sgs_cons (sg_name (pg_name (i := 4) sc_standing_in.nd rfl (by first | exact .inl rfl | exact .inr rfl))) sgs_nil (pgs_cons (sg_name (pg_name (i := 4) sc_standing_in.nd rfl (by first | exact .inl rfl | exact .inr rfl))) sgs_nil))))))
  (ss_one (ss_if (st_val (se_isi (T := "tuple") (by rfl) T.n_isinstance (by rfl) T.n_tuple boot_tuple' (se_rd (pv 4)))) (ss_one (ss_for c.po rfl (si_seq (se_rd (pv 4))) (sg_name (pg_name (i := 5) sc_standing_in.nd rfl (by first | exact .inl rfl | exact .inr rfl)))
  (ss_one (ss_app (i := 2) (fun te he => pe_bm PySem.F.plainAttrs_list PySem.F.slot_list_append PySem.F.type_list_append mt_append (pv 2) (pa_cons he pa_nil)) (se_tup (sa_cons (se_rd (pv 3)) (sa_cons (se_ix (se_rd (pv 1)) (se_rd (pv 3))) (sa_cons (se_rd (pv 5)) sa_nil)))))))) (ss_one (ss_if (st_val (se_call c (by decide) (ok_is_data_word T) (by rfl) T.g_is_data_word T.F_is_data_word.kp T.b_is_data_word .nil DefOk.nil (sa_cons (se_rd (pv 4)) sa_nil))) (ss_one (ss_app (i := 2) (fun te he => pe_bm PySem.F.plainAttrs_list PySem.F.slot_list_append PySem.F.type_list_append mt_append (pv 2) (pa_cons he pa_nil)) (se_tup (sa_cons (se_rd (pv 3)) (sa_cons (se_ix (se_rd (pv 1)) (se_rd (pv 3))) (sa_cons (se_rd (pv 4)) sa_nil)))))) ss_nil)))))
  (ss_one (ss_ret (se_tuplec (by rfl) T.n_tuple (sa_cons (se_mv (pv 2)) sa_nil)))))))
set_option maxHeartbeats 4000000 in
theorem ok__law_cell (T : Txt K mg) : FnG P w K mg base 1 T.a__law_cell T.d__law_cell ["script", "k"] (spV K mg 2 none false F__law_cell) :=
  fn_ok (N := N__law_cell) (io := none) (ro := false) (body := m__law_cell) T.F__law_cell sc__law_cell rfl (by decide) fun cdv A outer s H E c =>
  (ss_cons (ss_if (st_lt (se_rd (pv 1)) (se_len (by rfl) T.n_len (sa_cons (se_rd (pv 0)) sa_nil))) (ss_one (ss_ret (se_ix (se_rd (pv 0)) (se_rd (pv 1))))) ss_nil)
  (ss_cons (ss_set (i := 2) (fun te he => ps_set (i := 2) sc__law_cell.nd rfl (by first | exact .inl rfl | exact .inr rfl) he) se_int)
  (ss_cons (ss_for c.po rfl (si_seq (se_rd (pv 0))) (sg_name (pg_name (i := 3) sc__law_cell.nd rfl (by first | exact .inl rfl | exact .inr rfl)))
  (ss_one (ss_set (i := 2) (fun te he => ps_set (i := 2) sc__law_cell.nd rfl (by first | exact .inl rfl | exact .inr rfl) he) (se_mod (se_intc (by rfl) T.n_int (sa_cons (se_add (se_mul (se_rd (pv 2)) se_int) (se_mod (se_intc (by rfl) T.n_int (sa_cons (se_rd (pv 3)) sa_nil)) se_int)) sa_nil)) se_int))))
  (ss_one (ss_ret (se_mod (se_intc (by rfl) T.n_int (sa_cons (se_mul (se_mul (se_add (se_rd (pv 2)) se_int) (se_add (se_rd (pv 1)) se_int)) se_int) sa_nil)) se_int))))))
set_option maxHeartbeats 4000000 in
theorem ok__law_digits (T : Txt K mg) : FnG P w K mg base 1 T.a__law_digits T.d__law_digits ["cell", "sizes"] (spV K mg 2 none true F__law_digits) :=
  fn_ok (N := N__law_digits) (io := none) (ro := true) (body := m__law_digits) T.F__law_digits sc__law_digits rfl (by decide) fun cdv A outer s H E c =>
  (ss_cons (ss_setO (i := 2) (fun te he => ps_set (i := 2) sc__law_digits.nd rfl (by first | exact .inl rfl | exact .inr rfl) he) (so_lst sa_nil))
  (ss_cons (ss_set (i := 3) (fun te he => ps_set (i := 3) sc__law_digits.nd rfl (by first | exact .inl rfl | exact .inr rfl) he) (se_intc (by rfl) T.n_int (sa_cons (se_rd (pv 0)) sa_nil)))
  (ss_cons (ss_if (st_ge (se_rd (pv 3)) (se_pow se_int se_int)) (ss_cons (ss_set (i := 3) (fun te he => ps_set (i := 3) sc__law_digits.nd rfl (by first | exact .inl rfl | exact .inr rfl) he) (se_sub (se_rd (pv 3)) (se_pow se_int se_int)))
  (ss_cons (ss_for c.po rfl (si_seq (se_rd (pv 1))) (sg_name (pg_name (i := 4) sc__law_digits.nd rfl (by first | exact .inl rfl | exact .inr rfl)))
  (ss_cons (ss_app (i := 2) (fun te he => pe_bm PySem.F.plainAttrs_list PySem.F.slot_list_append PySem.F.type_list_append mt_append (pv 2) (pa_cons he pa_nil)) (se_mod (se_intc (by rfl) T.n_int (sa_cons (se_rd (pv 3)) sa_nil)) (se_rd (pv 4))))
  (ss_one (ss_set (i := 3) (fun te he => ps_set (i := 3) sc__law_digits.nd rfl (by first | exact .inl rfl | exact .inr rfl) he) (se_div (se_intc (by rfl) T.n_int (sa_cons (se_rd (pv 3)) sa_nil)) (se_rd (pv 4)))))))
  (ss_one (ss_retO (so_tk (pv 2)))))) ss_nil)
  (ss_cons (ss_set (i := 5) (fun te he => ps_set (i := 5) sc__law_digits.nd rfl (by first | exact .inl rfl | exact .inr rfl) he) (se_mod (se_intc (by rfl) T.n_int (sa_cons (se_rd (pv 3)) sa_nil)) se_int))
  (ss_cons (ss_for c.po rfl (si_range1 (by rfl) T.n_range (sa_cons (se_len (by rfl) T.n_len (sa_cons (se_rd (pv 1)) sa_nil)) sa_nil)) (sg_name (pg_name (i := 6) sc__law_digits.nd rfl (by first | exact .inl rfl | exact .inr rfl)))
  (ss_cons (ss_set (i := 5) (fun te he => ps_set (i := 5) sc__law_digits.nd rfl (by first | exact .inl rfl | exact .inr rfl) he) (se_mod (se_intc (by rfl) T.n_int (sa_cons (se_add (se_add (se_mul (se_rd (pv 5)) se_int) (se_mul se_int (se_rd (pv 6)))) se_int) sa_nil)) se_int))
  (ss_cons (ss_set (i := 7) (fun te he => ps_set (i := 7) sc__law_digits.nd rfl (by first | exact .inl rfl | exact .inr rfl) he) (se_mod (se_intc (by rfl) T.n_int (sa_cons (se_mul (se_rd (pv 5)) (se_add (se_div (se_rd (pv 5)) se_int) se_int)) sa_nil)) se_int))
  (ss_one (ss_app (i := 2) (fun te he => pe_bm PySem.F.plainAttrs_list PySem.F.slot_list_append PySem.F.type_list_append mt_append (pv 2) (pa_cons he pa_nil)) (se_mod (se_div (se_rd (pv 7)) se_int) (se_ix (se_rd (pv 1)) (se_rd (pv 6)))))))))
  (ss_one (ss_retO (so_tk (pv 2)))))))))
set_option maxHeartbeats 4000000 in
theorem ok__law_reserved (T : Txt K mg) : FnG P w K mg base 1 T.a__law_reserved T.d__law_reserved [] (spV K mg 0 none true F__law_reserved) :=
  fn_ok (N := N__law_reserved) (io := none) (ro := true) (body := m__law_reserved) T.F__law_reserved sc__law_reserved rfl (by decide) fun cdv A outer s H E c =>
  (ss_one (ss_retO (so_lst (sa_cons se_str (sa_cons se_str (sa_cons se_str (sa_cons se_str (sa_cons se_str (sa_cons se_str (sa_cons se_str (sa_cons se_str (sa_cons se_str (sa_cons se_str (sa_cons se_str (sa_cons se_str sa_nil)))))))))))))))
set_option maxHeartbeats 4000000 in
theorem ok__law_word (T : Txt K mg) : FnG P w K mg base 1 T.a__law_word T.d__law_word ["ds", "words", "firsts", "barred"] (spV K mg 4 none false F__law_word) :=
  fn_ok (N := N__law_word) (io := none) (ro := false) (body := m__law_word) T.F__law_word sc__law_word rfl (by decide) fun cdv A outer s H E c =>
  (ss_cons (ss_set (i := 4) (fun te he => ps_set (i := 4) sc__law_word.nd rfl (by first | exact .inl rfl | exact .inr rfl) he) se_str)
  (ss_cons (ss_set (i := 5) (fun te he => ps_set (i := 5) sc__law_word.nd rfl (by first | exact .inl rfl | exact .inr rfl) he) (se_ix (se_rd (pv 2)) (se_ix (se_rd (pv 0)) se_int)))
  (ss_cons (ss_for c.po rfl (si_range1 (by rfl) T.n_range (sa_cons (se_ix (se_rd (pv 0)) se_int) sa_nil)) (sg_name (pg_name (i := 6) sc__law_word.nd rfl (by first | exact .inl rfl | exact .inr rfl)))
  (ss_one (ss_set (i := 5) (fun te he => ps_set (i := 5) sc__law_word.nd rfl (by first | exact .inl rfl | exact .inr rfl) he) (se_add (se_rd (pv 5)) (se_ix (se_rd (pv 4)) (se_ix (se_rd (pv 0)) (se_add se_int (se_rd (pv 6)))))))))
  (ss_cons (ss_if (st_gt (se_len (by rfl) T.n_len (sa_cons (se_rd (pv 1)) sa_nil)) se_int) (ss_cons (ss_set (i := 7) (fun te he => ps_set (i := 7) sc__law_word.nd rfl (by first | exact .inl rfl | exact .inr rfl) he) (se_ix (se_rd (pv 1)) (se_sub (se_len (by rfl) T.n_len (sa_cons (se_rd (pv 1)) sa_nil)) se_int)))
  (ss_cons (ss_set (i := 8) (fun te he => ps_set (i := 8) sc__law_word.nd rfl (by first | exact .inl rfl | exact .inr rfl) he) (se_mod (se_ix (se_rd (pv 0)) se_int) (se_len (by rfl) T.n_len (sa_cons (se_rd (pv 7)) sa_nil))))
  (ss_cons (ss_if (st_eq c.u5 (se_ix (se_rd (pv 0)) se_int) se_int) (ss_one (ss_set (i := 5) (fun te he => ps_set (i := 5) sc__law_word.nd rfl (by first | exact .inl rfl | exact .inr rfl) he) (se_add (se_slice (se_rd (pv 7)) sp_none (sp_some se_int)) (se_ix (se_rd (pv 4)) (se_ix (se_rd (pv 0)) se_int))))) ss_nil)
  (ss_cons (ss_if (PW.pt (sw_and (st_eq c.u5 (se_ix (se_rd (pv 0)) se_int) se_int) (sw_and1 (st_eq c.u5 (se_rd (pv 8)) se_int)))) (ss_one (ss_set (i := 5) (fun te he => ps_set (i := 5) sc__law_word.nd rfl (by first | exact .inl rfl | exact .inr rfl) he) (se_add (se_ix (se_rd (pv 2)) (se_ix (se_rd (pv 0)) se_int)) (se_slice (se_rd (pv 7)) (sp_some se_int) sp_none)))) ss_nil)
  (ss_cons (ss_if (PW.pt (sw_and (st_eq c.u5 (se_ix (se_rd (pv 0)) se_int) se_int) (sw_and1 (st_gt (se_rd (pv 8)) se_int)))) (ss_one (ss_set (i := 5) (fun te he => ps_set (i := 5) sc__law_word.nd rfl (by first | exact .inl rfl | exact .inr rfl) he) (se_add (se_add (se_slice (se_rd (pv 7)) sp_none (sp_some (se_rd (pv 8)))) (se_ix (se_rd (pv 4)) (se_ix (se_rd (pv 0)) se_int))) (se_slice (se_rd (pv 7)) (sp_some (se_add (se_rd (pv 8)) se_int)) sp_none)))) ss_nil)
  (ss_one (ss_if (PW.pt (sw_and (st_eq c.u5 (se_ix (se_rd (pv 0)) se_int) se_int) (sw_and1 (st_gt (se_len (by rfl) T.n_len (sa_cons (se_rd (pv 7)) sa_nil)) se_int)))) (ss_one (ss_set (i := 5) (fun te he => ps_set (i := 5) sc__law_word.nd rfl (by first | exact .inl rfl | exact .inr rfl) he) (se_slice (se_rd (pv 7)) sp_none (sp_some (se_sub (se_len (by rfl) T.n_len (sa_cons (se_rd (pv 7)) sa_nil)) se_int))))) ss_nil))))))) ss_nil)
  (ss_cons (ss_for c.po rfl (si_range1 (by rfl) T.n_range (sa_cons (se_add (se_add (se_len (by rfl) T.n_len (sa_cons (se_rd (pv 1)) sa_nil)) (se_len (by rfl) T.n_len (sa_cons (se_rd (pv 3)) sa_nil))) se_int) sa_nil)) (sg_name (pg_name (i := 9) sc__law_word.nd rfl (by first | exact .inl rfl | exact .inr rfl)))
  (ss_one (ss_if (PW.pt (sw_or (st_in c.u5 (se_rd (pv 5)) (se_rd (pv 1))) (sw_or1 (st_in c.u5 (se_rd (pv 5)) (se_rd (pv 3)))))) (ss_one (ss_set (i := 5) (fun te he => ps_set (i := 5) sc__law_word.nd rfl (by first | exact .inl rfl | exact .inr rfl) he) (se_add (se_slice (se_rd (pv 5)) sp_none (sp_some se_int)) (se_ix (se_rd (pv 4)) (se_mod (se_intc (by rfl) T.n_int (sa_cons (se_add (se_ix (se_rd (pv 0)) se_int) (se_rd (pv 9))) sa_nil)) se_int))))) ss_nil)))
  (ss_one (ss_ret (se_rd (pv 5)))))))))
set_option maxHeartbeats 4000000 in
theorem ok__law_words (T : Txt K mg) : FnG P w K mg base 2 T.a__law_words T.d__law_words ["script", "at", "many", "firsts", "barred"] (spV K mg 5 none true F__law_words) :=
  fn_ok (N := N__law_words) (io := none) (ro := true) (body := m__law_words) T.F__law_words sc__law_words rfl (by decide) fun cdv A outer s H E c =>
  (ss_cons (ss_setO (i := 5) (fun te he => ps_set (i := 5) sc__law_words.nd rfl (by first | exact .inl rfl | exact .inr rfl) he) (so_lst sa_nil))
  (ss_cons (ss_set (i := 6) (fun te he => ps_set (i := 6) sc__law_words.nd rfl (by first | exact .inl rfl | exact .inr rfl) he) (se_of (so_lst sa_nil)))
  (ss_cons (ss_for c.po rfl (si_range1 (by rfl) T.n_range (sa_cons (se_rd (pv 2)) sa_nil)) (sg_name (pg_name (i := 7) sc__law_words.nd rfl (by first | exact .inl rfl | exact .inr rfl)))
  (ss_cons (ss_if (st_eq c.u5 (se_mod (se_rd (pv 7)) se_int) se_int) (ss_one (ss_set (i := 6) (fun te he => ps_set (i := 6) sc__law_words.nd rfl (by first | exact .inl rfl | exact .inr rfl) he) (se_of (so_call c (by decide) (ok__law_digits T) (by rfl) T.g__law_digits T.F__law_digits.kp T.b__law_digits .nil DefOk.nil (sa_cons (se_call c (by decide) (ok__law_cell T) (by rfl) T.g__law_cell T.F__law_cell.kp T.b__law_cell .nil DefOk.nil (sa_cons (se_rd (pv 0)) (sa_cons (se_add (se_rd (pv 1)) (se_div (se_rd (pv 7)) se_int)) sa_nil))) (sa_cons (se_rep (se_add (se_of (so_lst (sa_cons se_int (sa_cons se_int (sa_cons se_int (sa_cons se_int sa_nil)))))) (se_rep (se_of (so_lst (sa_cons se_int sa_nil))) se_int)) se_int) sa_nil)))))) ss_nil)
  (ss_one (ss_app (i := 5) (fun te he => pe_bm PySem.F.plainAttrs_list PySem.F.slot_list_append PySem.F.type_list_append mt_append (pv 5) (pa_cons he pa_nil)) (se_with (se_call c (by decide) (ok__law_word T) (by rfl) T.g__law_word T.F__law_word.kp T.b__law_word .nil DefOk.nil (sa_cons (se_slice (se_rd (pv 6)) (sp_some (se_mul se_int (se_mod (se_rd (pv 7)) se_int))) (sp_some (se_add (se_mul se_int (se_mod (se_rd (pv 7)) se_int)) se_int))) (sa_cons (se_rd (pv 5)) (sa_cons (se_rd (pv 3)) (sa_cons (se_rd (pv 4)) sa_nil))))))))))
  (ss_one (ss_retO (so_tk (pv 5)))))))
set_option maxHeartbeats 4000000 in
theorem ok__law_subset (T : Txt K mg) : FnG P w K mg base 1 T.a__law_subset T.d__law_subset ["words", "digit"] (spV K mg 2 none false F__law_subset) :=
  fn_ok (N := N__law_subset) (io := none) (ro := false) (body := m__law_subset) T.F__law_subset sc__law_subset rfl (by decide) fun cdv A outer s H E c =>
  (ss_cons (ss_setO (i := 2) (fun te he => ps_set (i := 2) sc__law_subset.nd rfl (by first | exact .inl rfl | exact .inr rfl) he) (so_lst sa_nil))
  (ss_cons (ss_set (i := 3) (fun te he => ps_set (i := 3) sc__law_subset.nd rfl (by first | exact .inl rfl | exact .inr rfl) he) (se_intc (by rfl) T.n_int (sa_cons (se_rd (pv 1)) sa_nil)))
  (ss_cons (ss_if (st_lt (se_rd (pv 3)) se_int) (ss_one (ss_set (i := 3) (fun te he => ps_set (i := 3) sc__law_subset.nd rfl (by first | exact .inl rfl | exact .inr rfl) he) se_int)) ss_nil)
  (ss_cons (ss_for c.po rfl (si_seq (se_rd (pv 0))) (sg_name (pg_name (i := 4) sc__law_subset.nd rfl (by first | exact .inl rfl | exact .inr rfl)))
  (ss_cons (ss_if (st_eq c.u5 (se_mod (se_intc (by rfl) T.n_int (sa_cons (se_rd (pv 3)) sa_nil)) se_int) se_int) (ss_one (ss_app (i := 2) (fun te he => pe_bm PySem.F.plainAttrs_list PySem.F.slot_list_append PySem.F.type_list_append mt_append (pv 2) (pa_cons he pa_nil)) (se_rd (pv 4)))) ss_nil)
  (ss_one (ss_set (i := 3) (fun te he => ps_set (i := 3) sc__law_subset.nd rfl (by first | exact .inl rfl | exact .inr rfl) he) (se_div (se_rd (pv 3)) se_int)))))
  (ss_one (ss_ret (se_tuplec (by rfl) T.n_tuple (sa_cons (se_of (so_sorted (by rfl) T.n_sorted (sa_cons (se_mv (pv 2)) sa_nil))) sa_nil))))))))
set_option maxHeartbeats 4000000 in
theorem ok__law_kind (T : Txt K mg) : FnG P w K mg base 2 T.a__law_kind T.d__law_kind ["ds", "many", "words", "asked"] (spV K mg 4 none false F__law_kind) :=
  fn_ok (N := N__law_kind) (io := none) (ro := false) (body := m__law_kind) T.F__law_kind sc__law_kind rfl (by decide) fun cdv A outer s H E c =>
  (ss_cons (ss_setO (i := 4) (fun te he => ps_set (i := 4) sc__law_kind.nd rfl (by first | exact .inl rfl | exact .inr rfl) he) (so_lst sa_nil))
  (ss_cons (ss_set (i := 5) (fun te he => ps_set (i := 5) sc__law_kind.nd rfl (by first | exact .inl rfl | exact .inr rfl) he) se_int)
  (ss_cons (ss_set (i := 6) (fun te he => ps_set (i := 6) sc__law_kind.nd rfl (by first | exact .inl rfl | exact .inr rfl) he) (se_rd (pv 1)))
  (ss_cons (ss_for c.po rfl (si_range1 (by rfl) T.n_range (sa_cons (se_add (se_mul se_int (se_rd (pv 1))) se_int) sa_nil)) (sg_name (pg_name (i := 7) sc__law_kind.nd rfl (by first | exact .inl rfl | exact .inr rfl)))
  (ss_cons (ss_set (i := 8) (fun te he => ps_set (i := 8) sc__law_kind.nd rfl (by first | exact .inl rfl | exact .inr rfl) he) (se_ix (se_rd (pv 0)) (se_add se_int (se_mul se_int (se_mod (se_rd (pv 7)) se_int)))))
  (ss_cons (ss_set (i := 9) (fun te he => ps_set (i := 9) sc__law_kind.nd rfl (by first | exact .inl rfl | exact .inr rfl) he) (se_ix (se_of (so_lst (sa_cons se_int (sa_cons se_int (sa_cons (se_ix (se_rd (pv 0)) (se_add se_int (se_mul se_int (se_mod (se_rd (pv 7)) se_int)))) (sa_cons (se_ix (se_rd (pv 0)) (se_add se_int (se_mul se_int (se_mod (se_rd (pv 7)) se_int)))) sa_nil)))))) (se_ix (se_rd (pv 0)) se_int)))
  (ss_one (ss_if (PW.pt (sw_and (st_gt (se_rd (pv 6)) se_int) (sw_and1 (PW.pt (sw_or (st_eq c.u5 (se_rd (pv 5)) se_int) (sw_or1 (st_eq c.u5 (se_rd (pv 9)) se_int))))))) (ss_cons (ss_app (i := 4) (fun te he => pe_bm PySem.F.plainAttrs_list PySem.F.slot_list_append PySem.F.type_list_append mt_append (pv 4) (pa_cons he pa_nil)) (se_call c (by decide) (ok__law_subset T) (by rfl) T.g__law_subset T.F__law_subset.kp T.b__law_subset .nil DefOk.nil (sa_cons (se_rd (pv 3)) (sa_cons (se_rd (pv 8)) sa_nil))))
  (ss_cons (ss_set (i := 6) (fun te he => ps_set (i := 6) sc__law_kind.nd rfl (by first | exact .inl rfl | exact .inr rfl) he) (se_sub (se_rd (pv 6)) se_int))
  (ss_one (ss_set (i := 5) (fun te he => ps_set (i := 5) sc__law_kind.nd rfl (by first | exact .inl rfl | exact .inr rfl) he) (se_add (se_rd (pv 5)) se_int))))) (ss_cons (ss_app (i := 4) (fun te he => pe_bm PySem.F.plainAttrs_list PySem.F.slot_list_append PySem.F.type_list_append mt_append (pv 4) (pa_cons he pa_nil)) (se_ix (se_rd (pv 2)) (se_mod (se_intc (by rfl) T.n_int (sa_cons (se_rd (pv 8)) sa_nil)) (se_len (by rfl) T.n_len (sa_cons (se_rd (pv 2)) sa_nil)))))
  (ss_one (ss_set (i := 5) (fun te he => ps_set (i := 5) sc__law_kind.nd rfl (by first | exact .inl rfl | exact .inr rfl) he) (se_sub (se_rd (pv 5)) se_int)))))))))
  (ss_one (ss_ret (se_tuplec (by rfl) T.n_tuple (sa_cons (se_mv (pv 4)) sa_nil))))))))
set_option maxHeartbeats 4000000 in
theorem ok__law_drawn (T : Txt K mg) : FnG P w K mg base 3 T.a__law_drawn T.d__law_drawn ["cell", "most", "words", "asked"] (spV K mg 4 none false F__law_drawn) :=
  fn_ok (N := N__law_drawn) (io := none) (ro := false) (body := m__law_drawn) T.F__law_drawn sc__law_drawn rfl (by decide) fun cdv A outer s H E c =>
  (ss_cons (ss_set (i := 4) (fun te he => ps_set (i := 4) sc__law_drawn.nd rfl (by first | exact .inl rfl | exact .inr rfl) he) (se_of (so_call c (by decide) (ok__law_digits T) (by rfl) T.g__law_digits T.F__law_digits.kp T.b__law_digits .nil DefOk.nil (sa_cons (se_rd (pv 0)) (sa_cons (se_add (se_of (so_lst (sa_cons se_int (sa_cons se_int sa_nil)))) (se_rep (se_of (so_lst (sa_cons se_int (sa_cons se_int sa_nil)))) se_int)) sa_nil)))))
  (ss_cons (ss_set (i := 5) (fun te he => ps_set (i := 5) sc__law_drawn.nd rfl (by first | exact .inl rfl | exact .inr rfl) he) (se_ix (se_rd (pv 4)) se_int))
  (ss_cons (ss_if (st_gt (se_rd (pv 5)) se_int) (ss_one (ss_set (i := 5) (fun te he => ps_set (i := 5) sc__law_drawn.nd rfl (by first | exact .inl rfl | exact .inr rfl) he) (se_sub (se_rd (pv 5)) se_int))) ss_nil)
  (ss_one (ss_ret (se_call c (by decide) (ok__law_kind T) (by rfl) T.g__law_kind T.F__law_kind.kp T.b__law_kind .nil DefOk.nil (sa_cons (se_rd (pv 4)) (sa_cons (se_mod (se_intc (by rfl) T.n_int (sa_cons (se_rd (pv 5)) sa_nil)) (se_add (se_rd (pv 1)) se_int)) (sa_cons (se_rd (pv 2)) (sa_cons (se_rd (pv 3)) sa_nil))))))))))
set_option maxHeartbeats 4000000 in
theorem ok__law_same (T : Txt K mg) : FnG P w K mg base 1 T.a__law_same T.d__law_same ["actual", "due"] (spV K mg 2 none false F__law_same) :=
  fn_ok (N := N__law_same) (io := none) (ro := false) (body := m__law_same) T.F__law_same sc__law_same rfl (by decide) fun cdv A outer s H E c =>
  (ss_one (ss_ret (se_eq c.u5 (se_repr c.u c.hg (by rfl) T.n_repr (sa_cons (se_rd (pv 0)) sa_nil)) (se_repr c.u c.hg (by rfl) T.n_repr (sa_cons (se_rd (pv 1)) sa_nil)))))
set_option maxHeartbeats 4000000 in
theorem ok__law_standing (T : Txt K mg) : FnG P w K mg base 1 T.a__law_standing T.d__law_standing ["tokens"] (spV K mg 1 none false F__law_standing) :=
  fn_ok (N := N__law_standing) (io := none) (ro := false) (body := m__law_standing) T.F__law_standing sc__law_standing rfl (by decide) fun cdv A outer s H E c =>
  (ss_cons (ss_setO (i := 1) (fun te he => ps_set (i := 1) sc__law_standing.nd rfl (by first | exact .inl rfl | exact .inr rfl) he) (so_lst (sa_cons se_int sa_nil)))
  (ss_cons (ss_setO (i := 2) (fun te he => ps_set (i := 2) sc__law_standing.nd rfl (by first | exact .inl rfl | exact .inr rfl) he) (so_lst sa_nil))
  (ss_cons (ss_for c.po rfl (si_range1 (by rfl) T.n_range (sa_cons (se_len (by rfl) T.n_len (sa_cons (se_rd (pv 0)) sa_nil)) sa_nil)) (sg_name (pg_name (i := 3) sc__law_standing.nd rfl (by first | exact .inl rfl | exact .inr rfl)))
  (ss_cons (ss_set (i := 4) (fun te he => ps_set (i := 4) sc__law_standing.nd rfl (by first | exact .inl rfl | exact .inr rfl) he) (se_ix (se_rd (pv 0)) (se_rd (pv 3))))
  (ss_cons (ss_set (i := 5) (fun te he => ps_set (i := 5) sc__law_standing.nd rfl (by first | exact .inl rfl | exact .inr rfl) he) (se_pop (pe_bm0 PySem.F.plainAttrs_list PySem.F.slot_list_pop PySem.F.type_list_pop mt_pop (pv 1))))
  (ss_one (ss_if (st_val (se_isi (T := "tuple") (by rfl) T.n_isinstance (by rfl) T.n_tuple boot_tuple' (se_rd (pv 4)))) (ss_cons (ss_for c.po rfl (si_seq (se_rd (pv 4))) (sg_name (pg_name (i := 6) sc__law_standing.nd rfl (by first | exact .inl rfl | exact .inr rfl)))
  (ss_one (ss_app (i := 2) (fun te he => pe_bm PySem.F.plainAttrs_list PySem.F.slot_list_append PySem.F.type_list_append mt_append (pv 2) (pa_cons he pa_nil)) (se_tup (sa_cons (se_rd (pv 3)) (sa_cons (se_rd (pv 5)) (sa_cons (se_rd (pv 6)) sa_nil)))))))
  (ss_cons (ss_app (i := 1) (fun te he => pe_bm PySem.F.plainAttrs_list PySem.F.slot_list_append PySem.F.type_list_append mt_append (pv 1) (pa_cons he pa_nil)) (se_rd (pv 5)))
  (ss_one (ss_app (i := 1) (fun te he => pe_bm PySem.F.plainAttrs_list PySem.F.slot_list_append PySem.F.type_list_append mt_append (pv 1) (pa_cons he pa_nil)) (se_neg (se_rd (pv 5))))))) (ss_one (ss_if (st_in c.u5 (se_ix (se_rd (pv 4)) se_int) se_str) (ss_one (ss_app (i := 2) (fun te he => pe_bm PySem.F.plainAttrs_list PySem.F.slot_list_append PySem.F.type_list_append mt_append (pv 2) (pa_cons he pa_nil)) (se_tup (sa_cons (se_rd (pv 3)) (sa_cons (se_rd (pv 5)) (sa_cons (se_rd (pv 4)) sa_nil)))))) ss_nil)))))))
  (ss_one (ss_ret (se_tuplec (by rfl) T.n_tuple (sa_cons (se_mv (pv 2)) sa_nil)))))))
set_option maxHeartbeats 4000000 in
theorem ok__law_moved (T : Txt K mg) : FnG P w K mg base 1 T.a__law_moved T.d__law_moved ["triples", "by", "turn"] (spV K mg 3 none false F__law_moved) :=
  fn_ok (N := N__law_moved) (io := none) (ro := false) (body := m__law_moved) T.F__law_moved sc__law_moved rfl (by decide) fun cdv A outer s H E c =>
  (ss_one (ss_ret (se_tuplec (by rfl) T.n_tuple (sa_cons (se_of (so_lc (own := [("triple", 3)]) rfl sc__law_moved.nd (si_seq (se_rd (pv 0))) (blkOk_by (N := N__law_moved) (sc := defScope s__law_moved) (by decide +kernel)) (by decide) (fun s H C cl fp => (sg_name (pg_name (i := 3) sc__law_moved.nd rfl (by first | exact .inl rfl | exact .inr rfl)))) (fun s H C cl fp => sts_nil) (fun s H C cl fp => (se_tup (sa_cons (se_add (se_ix (se_rd (pv 3)) se_int) (se_rd (pv 1))) (sa_cons (se_mul (se_ix (se_rd (pv 3)) se_int) (se_rd (pv 2))) (sa_cons (se_ix (se_rd (pv 3)) se_int) sa_nil))))))) sa_nil))))
set_option maxHeartbeats 4000000 in
theorem ok_law (T : Txt K mg) : FnG P w K mg base 4 T.a_law T.d_law ["script"] (spV K mg 1 none false F_law) :=
  fn_ok (N := N_law) (io := none) (ro := false) (body := m_law) T.F_law sc_law rfl (by decide) fun cdv A outer s H E c =>
  (ss_cons (ss_set (i := 1) (fun te he => ps_set (i := 1) sc_law.nd rfl (by first | exact .inl rfl | exact .inr rfl) he) se_str)
  (ss_cons (ss_setO (i := 2) (fun te he => ps_set (i := 2) sc_law.nd rfl (by first | exact .inl rfl | exact .inr rfl) he) (so_call c (by decide) (ok__law_words T) (by rfl) T.g__law_words T.F__law_words.kp T.b__law_words .nil DefOk.nil (sa_cons (se_rd (pv 0)) (sa_cons se_int (sa_cons se_int (sa_cons (se_rd (pv 1)) (sa_cons (se_of (so_lst sa_nil)) sa_nil)))))))
  (ss_cons (ss_set (i := 3) (fun te he => ps_set (i := 3) sc_law.nd rfl (by first | exact .inl rfl | exact .inr rfl) he) (se_of (so_call c (by decide) (ok__law_words T) (by rfl) T.g__law_words T.F__law_words.kp T.b__law_words .nil DefOk.nil (sa_cons (se_rd (pv 0)) (sa_cons se_int (sa_cons se_int (sa_cons (se_upper (pe_bm0 PySem.F.plainAttrs_str PySem.F.slot_str_upper PySem.F.type_str_upper mt_upper (se_rd (pv 1)))) (sa_cons (se_of (so_lst sa_nil)) sa_nil))))))))
  (ss_cons (ss_set (i := 4) (fun te he => ps_set (i := 4) sc_law.nd rfl (by first | exact .inl rfl | exact .inr rfl) he) (se_of (so_sorted (by rfl) T.n_sorted (sa_cons (se_of (so_call c (by decide) (ok__law_words T) (by rfl) T.g__law_words T.F__law_words.kp T.b__law_words .nil DefOk.nil (sa_cons (se_rd (pv 0)) (sa_cons se_int (sa_cons se_int (sa_cons (se_rd (pv 1)) (sa_cons (se_of (so_call0 c (by decide) (ok__law_reserved T) (by rfl) T.g__law_reserved T.F__law_reserved.kp T.b__law_reserved .nil DefOk.nil)) sa_nil))))))) sa_nil))))
  (ss_cons (ss_set (i := 5) (fun te he => ps_set (i := 5) sc_law.nd rfl (by first | exact .inl rfl | exact .inr rfl) he) (se_of (so_call c (by decide) (ok__law_digits T) (by rfl) T.g__law_digits T.F__law_digits.kp T.b__law_digits .nil DefOk.nil (sa_cons (se_call c (by decide) (ok__law_cell T) (by rfl) T.g__law_cell T.F__law_cell.kp T.b__law_cell .nil DefOk.nil (sa_cons (se_rd (pv 0)) (sa_cons se_int sa_nil))) (sa_cons (se_of (so_lst (sa_cons se_int (sa_cons se_int (sa_cons se_int (sa_cons se_int (sa_cons se_int sa_nil))))))) sa_nil)))))
  (ss_cons (ss_if (st_eq c.u5 (se_ix (se_rd (pv 5)) se_int) se_int) (ss_one (ss_put (fun te ti he hi => ps_asg he (pg_sub (pv 2) hi set_list)) (se_ix (se_of (so_call0 c (by decide) (ok__law_reserved T) (by rfl) T.g__law_reserved T.F__law_reserved.kp T.b__law_reserved .nil DefOk.nil)) (se_ix (se_rd (pv 5)) se_int)) se_int)) ss_nil)
  (ss_cons (ss_if (st_eq c.u5 (se_ix (se_rd (pv 5)) se_int) se_int) (ss_one (ss_put (fun te ti he hi => ps_asg he (pg_sub (pv 2) hi set_list)) (se_ix (se_rd (pv 4)) (se_ix (se_rd (pv 5)) se_int)) se_int)) ss_nil)
  (ss_cons (ss_set (i := 6) (fun te he => ps_set (i := 6) sc_law.nd rfl (by first | exact .inl rfl | exact .inr rfl) he) (se_add (se_mv (pv 2)) (se_rd (pv 3))))
  (ss_cons (ss_set (i := 7) (fun te he => ps_set (i := 7) sc_law.nd rfl (by first | exact .inl rfl | exact .inr rfl) he) (se_call c (by decide) (ok__law_drawn T) (by rfl) T.g__law_drawn T.F__law_drawn.kp T.b__law_drawn .nil DefOk.nil (sa_cons (se_call c (by decide) (ok__law_cell T) (by rfl) T.g__law_cell T.F__law_cell.kp T.b__law_cell .nil DefOk.nil (sa_cons (se_rd (pv 0)) (sa_cons se_int sa_nil))) (sa_cons se_int (sa_cons (se_rd (pv 6)) (sa_cons (se_rd (pv 4)) sa_nil))))))
  (ss_cons (ss_set (i := 8) (fun te he => ps_set (i := 8) sc_law.nd rfl (by first | exact .inl rfl | exact .inr rfl) he) (se_call c (by decide) (ok__law_drawn T) (by rfl) T.g__law_drawn T.F__law_drawn.kp T.b__law_drawn .nil DefOk.nil (sa_cons (se_call c (by decide) (ok__law_cell T) (by rfl) T.g__law_cell T.F__law_cell.kp T.b__law_cell .nil DefOk.nil (sa_cons (se_rd (pv 0)) (sa_cons se_int sa_nil))) (sa_cons se_int (sa_cons (se_rd (pv 6)) (sa_cons (se_rd (pv 4)) sa_nil))))))
  (ss_cons (ss_set (i := 9) (fun te he => ps_set (i := 9) sc_law.nd rfl (by first | exact .inl rfl | exact .inr rfl) he) (se_call c (by decide) (ok__law_drawn T) (by rfl) T.g__law_drawn T.F__law_drawn.kp T.b__law_drawn .nil DefOk.nil (sa_cons (se_call c (by decide) (ok__law_cell T) (by rfl) T.g__law_cell T.F__law_cell.kp T.b__law_cell .nil DefOk.nil (sa_cons (se_rd (pv 0)) (sa_cons se_int sa_nil))) (sa_cons se_int (sa_cons (se_rd (pv 6)) (sa_cons (se_rd (pv 4)) sa_nil))))))
  (ss_cons (ss_set (i := 10) (fun te he => ps_set (i := 10) sc_law.nd rfl (by first | exact .inl rfl | exact .inr rfl) he) (se_call c (by decide) (ok__law_subset T) (by rfl) T.g__law_subset T.F__law_subset.kp T.b__law_subset .nil DefOk.nil (sa_cons (se_rd (pv 4)) (sa_cons (se_ix (se_rd (pv 5)) se_int) sa_nil))))
  (ss_cons (ss_set (i := 11) (fun te he => ps_set (i := 11) sc_law.nd rfl (by first | exact .inl rfl | exact .inr rfl) he) (se_add (se_add (se_tup (sa_cons (se_rd (pv 10)) sa_nil)) (se_rd (pv 8))) (se_rd (pv 9))))
  (ss_cons (ss_set (i := 12) (fun te he => ps_set (i := 12) sc_law.nd rfl (by first | exact .inl rfl | exact .inr rfl) he) (se_ix (se_rd (pv 3)) (se_mod (se_intc (by rfl) T.n_int (sa_cons (se_ix (se_rd (pv 5)) se_int) sa_nil)) se_int)))
  (ss_cons (ss_set (i := 13) (fun te he => ps_set (i := 13) sc_law.nd rfl (by first | exact .inl rfl | exact .inr rfl) he) (se_tup (sa_cons (se_tuplec (by rfl) T.n_tuple (sa_cons (se_rd (pv 4)) sa_nil)) (sa_cons (se_rd (pv 12)) (sa_cons (se_with (se_ix (se_rd (pv 2)) (se_mod (se_div (se_intc (by rfl) T.n_int (sa_cons (se_ix (se_rd (pv 5)) se_int) sa_nil)) se_int) se_int))) sa_nil)))))
  (ss_cons (ss_for c.po rfl (si_seq (se_of (so_lst (sa_cons (se_rd (pv 7)) (sa_cons (se_rd (pv 8)) (sa_cons (se_tup (sa_cons (se_rd (pv 12)) sa_nil)) (sa_cons (se_rd (pv 9)) (sa_cons (se_rd (pv 11)) (sa_cons (se_rd (pv 13)) (sa_cons (se_rd (pv 7)) sa_nil)))))))))) (sg_name (pg_name (i := 14) sc_law.nd rfl (by first | exact .inl rfl | exact .inr rfl)))
  (ss_one (ss_if (st_not (st_val (se_call c (by decide) (ok__law_same T) (by rfl) T.g__law_same T.F__law_same.kp T.b__law_same .nil DefOk.nil (sa_cons (se_call c (by decide) (ok_standing_in T) (by rfl) T.g_standing_in T.F_standing_in.kp T.b_standing_in .nil DefOk.nil (sa_cons (se_rd (pv 14)) sa_nil)) (sa_cons (se_call c (by decide) (ok__law_standing T) (by rfl) T.g__law_standing T.F__law_standing.kp T.b__law_standing .nil DefOk.nil (sa_cons (se_rd (pv 14)) sa_nil)) sa_nil))))) (ss_one (ss_ret se_bl)) ss_nil)))
  (ss_cons (ss_set (i := 15) (fun te he => ps_set (i := 15) sc_law.nd rfl (by first | exact .inl rfl | exact .inr rfl) he) (se_add (se_tuplec (by rfl) T.n_tuple (sa_cons (se_of (so_lc (own := [("word", 16)]) rfl sc_law.nd (si_seq (se_rd (pv 10))) (blkOk_by (N := N_law) (sc := defScope s_law) (by decide +kernel)) (by decide) (fun s H C cl fp => (sg_name (pg_name (i := 16) sc_law.nd rfl (by first | exact .inl rfl | exact .inr rfl)))) (fun s H C cl fp => sts_nil) (fun s H C cl fp => (se_tup (sa_cons se_int (sa_cons se_int (sa_cons (se_rd (pv 16)) sa_nil))))))) sa_nil)) (se_call c (by decide) (ok__law_moved T) (by rfl) T.g__law_moved T.F__law_moved.kp T.b__law_moved .nil DefOk.nil (sa_cons (se_call c (by decide) (ok__law_standing T) (by rfl) T.g__law_standing T.F__law_standing.kp T.b__law_standing .nil DefOk.nil (sa_cons (se_rd (pv 8)) sa_nil)) (sa_cons se_int (sa_cons (se_neg se_int) sa_nil))))))
  (ss_cons (ss_set (i := 15) (fun te he => ps_set (i := 15) sc_law.nd rfl (by first | exact .inl rfl | exact .inr rfl) he) (se_add (se_rd (pv 15)) (se_call c (by decide) (ok__law_moved T) (by rfl) T.g__law_moved T.F__law_moved.kp T.b__law_moved .nil DefOk.nil (sa_cons (se_call c (by decide) (ok__law_standing T) (by rfl) T.g__law_standing T.F__law_standing.kp T.b__law_standing .nil DefOk.nil (sa_cons (se_rd (pv 9)) sa_nil)) (sa_cons (se_add se_int (se_len (by rfl) T.n_len (sa_cons (se_rd (pv 8)) sa_nil))) (sa_cons se_int sa_nil))))))
  (ss_cons (ss_if (st_not (st_val (se_call c (by decide) (ok__law_same T) (by rfl) T.g__law_same T.F__law_same.kp T.b__law_same .nil DefOk.nil (sa_cons (se_kw0 c (by decide) (ok_standing_in T) (by rfl) T.g_standing_in T.F_standing_in.kp (kb_standing_in_0 T) (kj_ord _ _) (sk_cons (se_rd (pv 11)) sk_nil)) (sa_cons (se_rd (pv 15)) sa_nil))))) (ss_one (ss_ret se_bl)) ss_nil)
  (ss_cons (ss_set (i := 15) (fun te he => ps_set (i := 15) sc_law.nd rfl (by first | exact .inl rfl | exact .inr rfl) he) (se_add (se_tuplec (by rfl) T.n_tuple (sa_cons (se_of (so_lc (own := [("word", 16)]) rfl sc_law.nd (si_seq (se_rd (pv 4))) (blkOk_by (N := N_law) (sc := defScope s_law) (by decide +kernel)) (by decide) (fun s H C cl fp => (sg_name (pg_name (i := 16) sc_law.nd rfl (by first | exact .inl rfl | exact .inr rfl)))) (fun s H C cl fp => sts_nil) (fun s H C cl fp => (se_tup (sa_cons se_int (sa_cons se_int (sa_cons (se_rd (pv 16)) sa_nil))))))) sa_nil)) (se_tup (sa_cons (se_tup (sa_cons se_int (sa_cons (se_neg se_int) (sa_cons (se_rd (pv 12)) sa_nil)))) sa_nil))))
  (ss_one (ss_ret (se_and (se_call c (by decide) (ok__law_same T) (by rfl) T.g__law_same T.F__law_same.kp T.b__law_same .nil DefOk.nil (sa_cons (se_kw0 c (by decide) (ok_standing_in T) (by rfl) T.g_standing_in T.F_standing_in.kp (kb_standing_in_0 T) (kj_ord _ _) (sk_cons (se_rd (pv 13)) sk_nil)) (sa_cons (se_rd (pv 15)) sa_nil))) (se_one (se_call c (by decide) (ok__law_same T) (by rfl) T.g__law_same T.F__law_same.kp T.b__law_same .nil DefOk.nil (sa_cons (se_call c (by decide) (ok_standing_in T) (by rfl) T.g_standing_in T.F_standing_in.kp T.b_standing_in .nil DefOk.nil (sa_cons (se_tup (sa_cons (se_with (se_ix (se_rd (pv 2)) se_int)) sa_nil)) sa_nil)) (sa_cons (se_tup sa_nil) sa_nil)))))))))))))))))))))))))))
end
end VM.K03

set_option Elab.async false
set_option linter.all false
set_option autoImplicit false
set_option maxRecDepth 100000
set_option maxHeartbeats 400000
namespace VM.K03
open PySem PySem.Spec PyProof.Rows L2 VM
theorem pow18 : cPow 10 18 = some (.int 1000000000000000000) := rfl
theorem cMulL {i : Int} (j : Int) (h : -(2 ^ 64) < i) (h' : i < 2 ^ 64) : cMul i j = some (.int (i * j)) := by unfold cMul; rw [if_pos (.inl ⟨h, h'⟩)]
theorem cMulR (i : Int) {j : Int} (h : -(2 ^ 64) < j) (h' : j < 2 ^ 64) : cMul i j = some (.int (i * j)) := by unfold cMul; rw [if_pos (.inr ⟨h, h'⟩)]
theorem cModL (i : Int) {j : Int} (h : 0 < j) : cMod i j = some (.int (i % j)) := by unfold cMod; rw [if_pos h]
theorem cell_ok (ns : List Int) (k : Nat) : Ans (F__law_cell [.fl (ns.map .int), .int k]) fun d => ∃ c : Int, d = .int c := by
  unfold F__law_cell
  rw [fnOf_none]
  unfold m__law_cell
  by_cases hk : k < ns.length
  · simp [dCmp, dLen, ciLt, hk, dIx, atI_natL]
  · obtain ⟨s, e1, x, y, hx, e2⟩ := for_turns (t := mtN 3) (b := b__law_cell_0) (ds := ns.map D.int) (sv := [.pl (.fl (ns.map .int)), .pl (.int k), .pl (.int 17), .un])
      (fun i s => ∃ (x : Int) (y : Sl), (0 ≤ x ∧ x < 1000003) ∧ s = [.pl (.fl (ns.map .int)), .pl (.int k), .pl (.int x), y]) ⟨17, .un, by decide, rfl⟩ fun i d s hd hP => by
        obtain ⟨x, y, hx, rfl⟩ := hP
        obtain ⟨n, hn, rfl⟩ : ∃ n, ns[i]? = some n ∧ D.int n = d := by simpa using hd
        simp [b__law_cell_0, dInt, dAdd, cMul, cMod, dI2]
        exact ⟨Int.emod_nonneg _ (by decide), Int.emod_lt_of_pos _ (by decide)⟩
    subst e2
    have h1 := cMulL (i := x + 7) (k + 3) (by omega) (by omega)
    have h2 := fun i => cMulR i (j := 69621) (by decide) (by decide)
    have hF : f__law_cell_1 [.pl (.fl (ns.map .int)), .pl (.int k), .pl (.int 17), .un] = .nx [.pl (.fl (ns.map .int)), .pl (.int k), .pl (.int x), y] := for_of (by simp) e1
    simp [dCmp, dLen, ciLt, hk, hF, dAdd, dInt, h1, h2, cMod, dI2]
/-- what a size must be -/
def SizeOk (z : Int) : Prop := 0 < z ∧ z < 1000
theorem digits_ok (c : Int) (zs : List Int) (hz : ∀ z ∈ zs, SizeOk z) (hl : zs.length ≤ 1000) : Ans (F__law_digits [.int c, .lst (zs.map .int)]) fun d => ∃ ds : List Int, d = .lst (ds.map .int) ∧ ds.length = zs.length ∧ ∀ (i : Nat) (z e : Int), zs[i]? = some z → ds[i]? = some e → 0 ≤ e ∧ e < z := by
  unfold F__law_digits
  rw [fnOf_none]
  unfold m__law_digits
  have hs : ∀ n : Nat, n ≤ 1000 → n < sizeLine := fun n h => small1000 h
  by_cases hc : 1000000000000000000 ≤ c
  · obtain ⟨s, e1, ds, x, y, hl2, hb, e2⟩ := for_turns (t := mtN 4) (b := b__law_digits_0) (ds := zs.map D.int) (sv := [.pl (.int c), .pl (.lst (zs.map .int)), .ow (.lst []), .pl (.int (c - 1000000000000000000)), .un, .un, .un, .un])
      (fun i s => ∃ (ds : List Int) (x : Int) (y : Sl), ds.length = i ∧ (∀ (i : Nat) (z e : Int), zs[i]? = some z → ds[i]? = some e → 0 ≤ e ∧ e < z) ∧ s = [.pl (.int c), .pl (.lst (zs.map .int)), .ow (.lst (ds.map .int)), .pl (.int x), y, .un, .un, .un]) ⟨[], _, .un, rfl, by simp, rfl⟩ fun i d s hd hP => by
        obtain ⟨ds, x, y, hl2, hb, rfl⟩ := hP
        obtain ⟨z, hn, rfl⟩ : ∃ n, zs[i]? = some n ∧ D.int n = d := by simpa using hd
        have hz1 := hz z (List.mem_of_getElem? hn)
        have hi : i < zs.length := (List.getElem?_eq_some_iff.mp hn).1
        simp [b__law_digits_0, dInt, dAdd, cMul, cMod, cDiv, dI2, hz1.1, show z < 1073741824 by have := hz1.2; omega, hs i (by omega), hl2]
        refine ⟨ds ++ [x % z], by simp [hl2], ?_, by simp⟩
        intro j z' e h1 h2
        rcases Nat.lt_or_ge j ds.length with h | h
        · exact hb j z' e h1 (by rwa [List.getElem?_append_left h] at h2)
        · have hj : j = i := by
            have := (List.getElem?_eq_some_iff.mp h2).1
            simp at this; omega
          subst hj
          rw [List.getElem?_append_right h, hl2] at h2
          simp at h2
          rw [hn] at h1; cases h1
          subst h2
          exact ⟨Int.emod_nonneg _ (by have := hz1.1; omega), Int.emod_lt_of_pos _ hz1.1⟩
    subst e2
    simp at hl2
    have hF : f__law_digits_1 [.pl (.int c), .pl (.lst (zs.map .int)), .ow (.lst []), .pl (.int (c - 1000000000000000000)), .un, .un, .un, .un] = .nx [.pl (.int c), .pl (.lst (zs.map .int)), .ow (.lst (ds.map .int)), .pl (.int x), y, .un, .un, .un] := for_of (by simp) e1
    simp [dCI, ciGe, hc, hF, dAdd, dInt, cMul, cMod, pow18, cSub, dI2]
    exact ⟨ds, rfl, hl2, hb⟩
  · obtain ⟨s, e1, ds, x, y, z1, hl2, hb, e2⟩ := for_turns (t := mtN 6) (b := b__law_digits_2) (ds := rngs 0 zs.length) (sv := [.pl (.int c), .pl (.lst (zs.map .int)), .ow (.lst []), .pl (.int c), .un, .pl (.int (c % 2147483629)), .un, .un])
      (fun i s => ∃ (ds : List Int) (x : Int) (y z1 : Sl), ds.length = i ∧ (∀ (i : Nat) (z e : Int), zs[i]? = some z → ds[i]? = some e → 0 ≤ e ∧ e < z) ∧ s = [.pl (.int c), .pl (.lst (zs.map .int)), .ow (.lst (ds.map .int)), .pl (.int c), .un, .pl (.int x), y, z1]) ⟨[], _, .un, .un, rfl, by simp, rfl⟩ fun i d s hd hP => by
        obtain ⟨ds, x, y, z1, hl2, hb, rfl⟩ := hP
        obtain ⟨hi, rfl⟩ := rngs_get hd
        have hn : zs[i]? = some zs[i] := List.getElem?_eq_getElem hi
        have hz1 := hz _ (List.mem_of_getElem? hn)
        generalize hzz : zs[i] = z at hn hz1
        have ha : atI (zs.map D.int) (i : Int) = some (.int z) := by rw [atI_natL (by simpa using hi)]; simp [hzz]
        have hcm : ∀ w : Int, cMul (w % 2147483647) (w % 2147483647 / 65537 + 3) = some (.int (w % 2147483647 * (w % 2147483647 / 65537 + 3))) := fun w => by
          have h1 := Int.emod_nonneg w (show (2147483647 : Int) ≠ 0 by decide)
          have h2 := Int.emod_lt_of_pos w (show (0 : Int) < 2147483647 by decide)
          unfold cMul
          rw [if_pos (.inl ⟨by omega, by omega⟩)]
        have hc2 : ∀ w : Int, cMul w 48271 = some (.int (w * 48271)) := fun w => by unfold cMul; rw [if_pos (.inr ⟨by decide, by decide⟩)]
        have hc3 : ∀ w : Int, cMul 974711 w = some (.int (974711 * w)) := fun w => by unfold cMul; rw [if_pos (.inl ⟨by decide, by decide⟩)]
        simp [b__law_digits_2, dInt, dAdd, hcm, hc2, hc3, cMod, cDiv, dI2, dIx, ha, hz1.1, hs i (by omega), hl2]
        refine ⟨ds ++ [_], by simp [hl2], ?_, by rw [List.map_append]; rfl⟩
        intro j z' e h1 h2
        rcases Nat.lt_or_ge j ds.length with h | h
        · exact hb j z' e h1 (by rwa [List.getElem?_append_left h] at h2)
        · have hj : j = i := by
            have := (List.getElem?_eq_some_iff.mp h2).1
            simp at this; omega
          subst hj
          rw [List.getElem?_append_right h, hl2] at h2
          simp at h2
          rw [hn] at h1; cases h1
          subst h2
          exact ⟨Int.emod_nonneg _ (by have := hz1.1; omega), Int.emod_lt_of_pos _ hz1.1⟩
    subst e2
    rw [rngs_len] at hl2
    have hF : f__law_digits_3 [.pl (.int c), .pl (.lst (zs.map .int)), .ow (.lst []), .pl (.int c), .un, .pl (.int (c % 2147483629)), .un, .un] = .nx [.pl (.int c), .pl (.lst (zs.map .int)), .ow (.lst (ds.map .int)), .pl (.int c), .un, .pl (.int x), y, z1] :=
      for_of (rng1_of (by simp [dLen]) (by omega)) e1
    simp [dCI, ciGe, hc, hF, dAdd, dInt, dLen, cMod, pow18, cSub, dI2]
    exact ⟨ds, rfl, hl2, hb⟩
end VM.K03

set_option Elab.async false
set_option linter.all false
set_option autoImplicit false
set_option maxRecDepth 100000
set_option maxHeartbeats 400000
namespace VM.K03
open PySem PySem.Spec PyProof.Rows L2 VM
abbrev sgns : Str := "abcdefghijklmnopqrstuvwxyzABCDEFGHIJKLMNOPQRSTUVWXYZ0123456789"
abbrev alnum : List Nat := sgns.cps.toList
theorem alnum_len : alnum.length = 62 := by decide +kernel
/-- a word of at most n signs, the first of them in fs -/
structure Wl (fs : List Nat) (n : Nat) (w : Str) : Prop where
  hd : ∃ c r, w.cps.toList = c :: r ∧ c ∈ fs
  al : ∀ c ∈ w.cps.toList, c ∈ alnum
  ln : w.length ≤ n
theorem Wl.mono {fs : List Nat} {n m : Nat} {w : Str} (h : Wl fs n w) (k : n ≤ m) : Wl fs m w := ⟨h.hd, h.al, Nat.le_trans h.ln k⟩
theorem Wl.add {fs : List Nat} {n : Nat} {w : Str} {c : Nat} (h : Wl fs n w) (hc : c ∈ alnum) : Wl fs (n + 1) (w ++ (⟨#[c]⟩ : Str)) := by
  obtain ⟨⟨a, r, e, ha⟩, h2, h3⟩ := h
  refine ⟨⟨a, r ++ [c], by rw [str_app, e, one_list]; rfl, ha⟩, fun x hx => ?_, ?_⟩
  · rw [str_app, one_list] at hx
    rcases List.mem_append.mp hx with h | h
    · exact h2 x h
    · simp at h; subst h; exact hc
  · rw [str_len, str_app, List.length_append, ← str_len, one_list]
    simpa using h3
theorem Wl.cut {fs : List Nat} {n : Nat} {w : Str} (h : Wl fs n w) {k : Nat} (hk : 0 < k) : Wl fs k (cutS w none (some (k : Int))) := by
  obtain ⟨⟨a, r, e, ha⟩, h2, h3⟩ := h
  refine ⟨⟨a, r.take (k - 1), ?_, ha⟩, fun x hx => ?_, ?_⟩
  · rw [cut_to, e]
    obtain ⟨j, rfl⟩ : ∃ j, k = j + 1 := ⟨k - 1, by omega⟩
    simp
  · rw [cut_to] at hx
    exact h2 x (List.mem_of_mem_take hx)
  · rw [str_len, cut_to]
    simp; omega
theorem Wl.join {fs : List Nat} {n m : Nat} {w v : Str} (h : Wl fs n w) (hv : ∀ c ∈ v.cps.toList, c ∈ alnum) (hl : v.length ≤ m) : Wl fs (n + m) (w ++ v) := by
  obtain ⟨⟨a, r, e, ha⟩, h2, h3⟩ := h
  refine ⟨⟨a, r ++ v.cps.toList, by rw [str_app, e]; rfl, ha⟩, fun x hx => ?_, ?_⟩
  · rw [str_app] at hx
    rcases List.mem_append.mp hx with h | h
    · exact h2 x h
    · exact hv x h
  · rw [str_len, str_app, List.length_append, ← str_len, ← str_len]
    omega
theorem tail_al {fs : List Nat} {n : Nat} {w : Str} (h : Wl fs n w) (k : Nat) : (∀ c ∈ (cutS w (some (k : Int)) none).cps.toList, c ∈ alnum) ∧ (cutS w (some (k : Int)) none).length = w.length - k := by
  refine ⟨fun c hc => ?_, ?_⟩
  · rw [cut_from] at hc
    exact h.al c (List.mem_of_mem_drop hc)
  · rw [str_len, cut_from, str_len]
    simp
/-- the digits of one word -/
structure Ds (ds : List Int) : Prop where
  ln : ds.length = 15
  b1 : ∃ n : Nat, ds[1]? = some (n : Int) ∧ n < 26
  b2 : ∃ n : Nat, ds[2]? = some (n : Int) ∧ n < 12
  b3 : ∃ n : Nat, ds[3]? = some (n : Int) ∧ n < 12
  b0 : ∃ n : Nat, ds[0]? = some (n : Int) ∧ n < 6
  bj : ∀ j, j < 11 → ∃ n : Nat, ds[4 + j]? = some (n : Int) ∧ n < 62
theorem at_of {ds : List Int} {i : Nat} {n : Int} (h : ds[i]? = some n) : atI (ds.map D.int) (i : Int) = some (.int n) := by
  obtain ⟨h1, h2⟩ := List.getElem?_eq_some_iff.mp h
  rw [atI_natL (by simpa using h1)]
  simp [h2]
theorem small_str {n : Nat} (h : n ≤ 1000) : n ≤ sizeLine := Nat.le_of_lt (small1000 h)
theorem letter_at {z : Str} {n : Nat} (h : n < z.cps.toList.length) (hz : z.cps.toList.length ≤ 1000) : dIx (.str z) (.int (n : Int)) = some (.str ⟨#[z.cps.toList[n]]⟩) := ix_strL h (by rw [str_len]; exact small_str hz)
theorem letter_al {n : Nat} (h : n < 62) : ∃ c, c ∈ alnum ∧ dIx (.str sgns) (.int (n : Int)) = some (.str ⟨#[c]⟩) := ⟨_, List.getElem_mem (by rw [alnum_len]; exact h), letter_at (by rw [alnum_len]; exact h) (by rw [alnum_len]; decide)⟩
/-- the letters a word begins with -/
structure Fs (f : Str) : Prop where
  ln : f.cps.toList.length = 26
  al : ∀ c ∈ f.cps.toList, c ∈ alnum
theorem Fs.at {f : Str} (h : Fs f) {n : Nat} (hn : n < 26) : ∃ c, c ∈ f.cps.toList ∧ dIx (.str f) (.int (n : Int)) = some (.str ⟨#[c]⟩) := ⟨_, List.getElem_mem (by rw [h.ln]; exact hn), letter_at (by rw [h.ln]; exact hn) (by rw [h.ln]; decide)⟩
theorem Fs.one {f : Str} (h : Fs f) {c : Nat} (hc : c ∈ f.cps.toList) : Wl f.cps.toList 1 ⟨#[c]⟩ := ⟨⟨c, [], rfl, hc⟩, fun x hx => by
  have : x = c := by simpa using hx
  subst this; exact h.al _ hc, Nat.le_refl 1⟩
theorem add_str {a b : Str} (h : a.length + b.length ≤ 1000) : dAdd (.str a) (.str b) = some (.str (a ++ b)) := by
  unfold dAdd
  dsimp only
  rw [if_pos (small_str h)]
theorem word_mid {ds : List Int} {ws bs : List Str} {f : Str} (hd : Ds ds) (hf : Fs f) (hw : ∀ w ∈ ws, Wl f.cps.toList 12 w) (hl : ws.length ≤ 100) (hb : bs.length ≤ 100) {w : Str} (hw6 : Wl f.cps.toList 12 w) (y6 : Sl) :
    Nxt (i__law_word_2 [.pl (.lst (ds.map .int)), .pl (.lst (ws.map .str)), .pl (.str f), .pl (.lst (bs.map .str)), .pl (.str sgns), .pl (.str w), y6, .un, .un, .un]) fun s => ∃ w y7 y8, Wl f.cps.toList 12 w ∧ s = [.pl (.lst (ds.map .int)), .pl (.lst (ws.map .str)), .pl (.str f), .pl (.lst (bs.map .str)), .pl (.str sgns), .pl (.str w), y6, y7, y8, .un] := by
  obtain ⟨n1, e1, h1⟩ := hd.b1
  obtain ⟨n2, e2, h2⟩ := hd.b2
  obtain ⟨n3, e3, h3⟩ := hd.b3
  obtain ⟨n0, e0, h0⟩ := hd.b0
  have a0 : dIx (.lst (ds.map D.int)) (.int 0) = some (.int n0) := at_of e0
  have a1 : dIx (.lst (ds.map D.int)) (.int 1) = some (.int n1) := at_of e1
  have a2 : dIx (.lst (ds.map D.int)) (.int 2) = some (.int n2) := at_of e2
  have a3 : dIx (.lst (ds.map D.int)) (.int 3) = some (.int n3) := at_of e3
  obtain ⟨n4, e4, h4⟩ := hd.bj 0 (by decide)
  obtain ⟨n5, e5, h5⟩ := hd.bj 1 (by decide)
  have a4 : dIx (.lst (ds.map D.int)) (.int 4) = some (.int n4) := at_of (i := 4) e4
  have a5 : dIx (.lst (ds.map D.int)) (.int 5) = some (.int n5) := at_of (i := 5) e5
  obtain ⟨c1, hc1, i1⟩ := hf.at h1
  obtain ⟨c4, hc4, i4⟩ := letter_al h4
  have w1 := hf.one hc1
  unfold i__law_word_2
  by_cases hn : ws = []
  · subst hn
    exact nxt_if (c := false) (by simp [dLen, dCI, ciGt]) (fun z => nomatch z) fun _ => nxt_of rfl ⟨w, _, _, hw6, rfl⟩
  · have hpos : 0 < ws.length := List.length_pos_iff.mpr hn
    refine nxt_if (c := true) (by simp [dLen, dCI, ciGt, hpos]) (fun _ => ?_) (fun z => nomatch z)
    obtain ⟨bf, ebf⟩ : ∃ b, ws[ws.length - 1]? = some b := ⟨_, List.getElem?_eq_getElem (by omega)⟩
    have wb := hw bf (List.mem_of_getElem? ebf)
    have eb : atI (ws.map D.str) ((ws.length : Int) - 1) = some (.str bf) := by
      have h1 : ws.length - 1 < (ws.map D.str).length := by simp; omega
      rw [show (ws.length : Int) - 1 = ((ws.length - 1 : Nat) : Int) by omega, atI_natL h1]
      have := (List.getElem?_eq_some_iff.mp ebf).2
      simp [this]
    have ebx : dIx (.lst (ws.map .str)) (.int ((ws.length : Int) - 1)) = some (.str bf) := eb
    have lb : 0 < bf.length := by
      obtain ⟨c, r, e, _⟩ := wb.hd
      rw [str_len, e]; simp
    have lb2 := wb.ln
    have sb : bf.length ≤ sizeLine := small_str (by omega)
    refine nxt_seq (fun s => s = [.pl (.lst (ds.map .int)), .pl (.lst (ws.map .str)), .pl (.str f), .pl (.lst (bs.map .str)), .pl (.str sgns), .pl (.str w), y6, .pl (.str bf), .un, .un]) (by simp [dLen, dI2, cSub, ebx]) fun s e => ?_
    subst e
    obtain ⟨sp, esp⟩ : ∃ sp : Nat, (n3 : Int) % (bf.length : Int) = (sp : Int) ∧ sp < bf.length := ⟨n3 % bf.length, by omega, Nat.mod_lt _ lb⟩
    have hlb : dLen [.str bf] = some (.int (bf.length : Nat)) := by
      unfold dLen
      dsimp only
      rw [if_pos sb]
    refine nxt_seq (fun s => s = [.pl (.lst (ds.map .int)), .pl (.lst (ws.map .str)), .pl (.str f), .pl (.lst (bs.map .str)), .pl (.str sgns), .pl (.str w), y6, .pl (.str bf), .pl (.int sp), .un]) (by simp [hlb, dI2, cMod, a3, lb, esp.1]) fun s e => ?_
    subst e
    have hto : ∀ k : Nat, dSl (.str bf) none (some (k : Int)) = some (.str (cutS bf none (some (k : Int)))) := fun k => by
      unfold dSl
      dsimp only
      rw [if_pos sb]
    have hfr : ∀ k : Nat, dSl (.str bf) (some (k : Int)) none = some (.str (cutS bf (some (k : Int)) none)) := fun k => by
      unfold dSl
      dsimp only
      rw [if_pos sb]
    have h11 : dSl (.str bf) none (some 11) = some (.str (cutS bf none (some ((11 : Nat) : Int)))) := hto 11
    have h1f : dSl (.str bf) (some 1) none = some (.str (cutS bf (some ((1 : Nat) : Int)) none)) := hfr 1
    refine nxt_seq (fun s => ∃ w, Wl f.cps.toList 12 w ∧ s = [.pl (.lst (ds.map .int)), .pl (.lst (ws.map .str)), .pl (.str f), .pl (.lst (bs.map .str)), .pl (.str sgns), .pl (.str w), y6, .pl (.str bf), .pl (.int sp), .un]) (nxt_if (c := decide ((n0 : Int) = 3)) (by simp [a0, dEq, eqD]) (fun _ => ?_) fun _ => nxt_of rfl ⟨w, hw6, rfl⟩) fun s e => ?_
    · have k := wb.cut (k := 11) (by decide)
      have hadd := add_str (a := cutS bf none (some ((11 : Nat) : Int))) (b := ⟨#[c4]⟩) (by have := k.ln; rw [show (⟨#[c4]⟩ : Str).length = 1 from rfl]; omega)
      simp only [ev_Asg, ev_Bind, ev_2, ev_Sl, ev_Rd, ev_oN, ev_oS, ev_C, ev_ok, List.getElem?_cons_succ, List.getElem?_cons_zero, h11, a4, i4, hadd, nxt_nx, List.set_cons_succ, List.set_cons_zero]
      exact ⟨_, k.add hc4, rfl⟩
    obtain ⟨w, hw7, rfl⟩ := e
    refine nxt_seq (fun s => ∃ w, Wl f.cps.toList 12 w ∧ s = [.pl (.lst (ds.map .int)), .pl (.lst (ws.map .str)), .pl (.str f), .pl (.lst (bs.map .str)), .pl (.str sgns), .pl (.str w), y6, .pl (.str bf), .pl (.int sp), .un]) (nxt_if (c := decide ((n0 : Int) = 4) && decide ((sp : Int) = 0)) (by by_cases h : (n0 : Int) = 4 <;> simp [a0, dEq, eqD, h]) (fun _ => ?_) fun _ => nxt_of rfl ⟨w, hw7, rfl⟩) fun s e => ?_
    · have k := tail_al wb 1
      have hadd := add_str (a := ⟨#[c1]⟩) (b := cutS bf (some ((1 : Nat) : Int)) none) (by rw [k.2, show (⟨#[c1]⟩ : Str).length = 1 from rfl]; omega)
      simp only [ev_Asg, ev_Bind, ev_2, ev_Sl, ev_Rd, ev_oN, ev_oS, ev_C, ev_ok, List.getElem?_cons_succ, List.getElem?_cons_zero, h1f, a1, i1, hadd, nxt_nx, List.set_cons_succ, List.set_cons_zero]
      exact ⟨_, w1.join k.1 (m := 11) (by rw [k.2]; omega), rfl⟩
    obtain ⟨w, hw8, rfl⟩ := e
    refine nxt_seq (fun s => ∃ w, Wl f.cps.toList 12 w ∧ s = [.pl (.lst (ds.map .int)), .pl (.lst (ws.map .str)), .pl (.str f), .pl (.lst (bs.map .str)), .pl (.str sgns), .pl (.str w), y6, .pl (.str bf), .pl (.int sp), .un]) (nxt_if (c := decide ((n0 : Int) = 4) && decide (0 < (sp : Int))) (by by_cases h : (n0 : Int) = 4 <;> simp [a0, dEq, eqD, h, dCI, ciGt]) (fun z => ?_) fun _ => nxt_of rfl ⟨w, hw8, rfl⟩) fun s e => ?_
    · have hsp : 0 < sp := by simp at z; omega
      have k1 := wb.cut (k := sp) hsp
      have k2 := tail_al wb (sp + 1)
      have had1 := add_str (a := cutS bf none (some (sp : Int))) (b := ⟨#[c4]⟩) (by have := k1.ln; rw [show (⟨#[c4]⟩ : Str).length = 1 from rfl]; omega)
      have k3 := k1.add hc4
      have had2 := add_str (a := cutS bf none (some (sp : Int)) ++ (⟨#[c4]⟩ : Str)) (b := cutS bf (some ((sp + 1 : Nat) : Int)) none) (by have := k3.ln; rw [k2.2]; omega)
      have hs1 : dAdd (.int (sp : Int)) (.int 1) = some (.int ((sp + 1 : Nat) : Int)) := rfl
      simp only [ev_Asg, ev_Bind, ev_2, ev_Sl, ev_Rd, ev_oN, ev_oS, ev_C, ev_ok, List.getElem?_cons_succ, List.getElem?_cons_zero, hto, hfr, a4, i4, hs1, had1, had2, nxt_nx, List.set_cons_succ, List.set_cons_zero]
      exact ⟨_, (k3.join k2.1 (Nat.le_refl _)).mono (by rw [k2.2]; omega), rfl⟩
    obtain ⟨w, hw9, rfl⟩ := e
    refine nxt_mono (P := fun s => ∃ w, Wl f.cps.toList 12 w ∧ s = [.pl (.lst (ds.map .int)), .pl (.lst (ws.map .str)), .pl (.str f), .pl (.lst (bs.map .str)), .pl (.str sgns), .pl (.str w), y6, .pl (.str bf), .pl (.int sp), .un]) (nxt_if (c := decide ((n0 : Int) = 5) && decide (1 < (bf.length : Int))) (by by_cases h : (n0 : Int) = 5 <;> simp [a0, dEq, eqD, h, dCI, ciGt, hlb]) (fun z => ?_) fun _ => nxt_of rfl ⟨w, hw9, rfl⟩) fun s e => ?_
    · have hsp : 1 < bf.length := by simp at z; omega
      have k1 := wb.cut (k := bf.length - 1) (by omega)
      have hs1 : dI2 cSub (.int ((bf.length : Nat) : Int)) (.int 1) = some (.int ((bf.length - 1 : Nat) : Int)) := by
        show some (D.int ((bf.length : Int) - 1)) = _
        rw [show (bf.length : Int) - 1 = ((bf.length - 1 : Nat) : Int) by omega]
      simp only [ev_Asg, ev_Bind, ev_2, ev_Sl, ev_Rd, ev_oN, ev_oS, ev_C, ev_Call1, ev_cons, ev_nil, ev_ok, hlb, List.getElem?_cons_succ, List.getElem?_cons_zero, hto, hs1, nxt_nx, List.set_cons_succ, List.set_cons_zero]
      exact ⟨_, k1.mono (by omega), rfl⟩
    · obtain ⟨w, hw, rfl⟩ := e
      exact ⟨w, _, _, hw, rfl⟩

theorem word_end {ds : List Int} {ws bs : List Str} {f : Str} (hd : Ds ds) (hf : Fs f) (hw : ∀ w ∈ ws, Wl f.cps.toList 12 w) (hl : ws.length ≤ 100) (hb : bs.length ≤ 100) {w : Str} (hw7 : Wl f.cps.toList 12 w) (y6 y7 y8 : Sl) :
    Ans (endN false (mSeq f__law_word_4 (mRet (mRd 5)) [.pl (.lst (ds.map .int)), .pl (.lst (ws.map .str)), .pl (.str f), .pl (.lst (bs.map .str)), .pl (.str sgns), .pl (.str w), y6, y7, y8, .un])) fun d => ∃ w, d = .str w ∧ Wl f.cps.toList 12 w := by
  obtain ⟨n1, e1, h1⟩ := hd.b1
  obtain ⟨n2, e2, h2⟩ := hd.b2
  obtain ⟨n3, e3, h3⟩ := hd.b3
  obtain ⟨n0, e0, h0⟩ := hd.b0
  have a0 : dIx (.lst (ds.map D.int)) (.int 0) = some (.int n0) := at_of e0
  have a1 : dIx (.lst (ds.map D.int)) (.int 1) = some (.int n1) := at_of e1
  have a2 : dIx (.lst (ds.map D.int)) (.int 2) = some (.int n2) := at_of e2
  have a3 : dIx (.lst (ds.map D.int)) (.int 3) = some (.int n3) := at_of e3
  obtain ⟨n4, e4, h4⟩ := hd.bj 0 (by decide)
  obtain ⟨n5, e5, h5⟩ := hd.bj 1 (by decide)
  have a4 : dIx (.lst (ds.map D.int)) (.int 4) = some (.int n4) := at_of (i := 4) e4
  have a5 : dIx (.lst (ds.map D.int)) (.int 5) = some (.int n5) := at_of (i := 5) e5
  obtain ⟨c1, hc1, i1⟩ := hf.at h1
  obtain ⟨c4, hc4, i4⟩ := letter_al h4
  have w1 := hf.one hc1
  refine fin_seq (fun s => ∃ w y9, Wl f.cps.toList 12 w ∧ s = [.pl (.lst (ds.map .int)), .pl (.lst (ws.map .str)), .pl (.str f), .pl (.lst (bs.map .str)), .pl (.str sgns), .pl (.str w), y6, y7, y8, y9]) ?_ fun s e => ?_
  · have hcl : mCons (m2 dAdd (m2 dAdd (mCall1 dLen (mCons (mRd 1) mNil)) (mCall1 dLen (mCons (mRd 3) mNil))) (mC (.int 1))) mNil [.pl (.lst (ds.map .int)), .pl (.lst (ws.map .str)), .pl (.str f), .pl (.lst (bs.map .str)), .pl (.str sgns), .pl (.str w), y6, y7, y8, .un] = .ok [.int ((ws.length + bs.length + 1 : Nat) : Int)] [.pl (.lst (ds.map .int)), .pl (.lst (ws.map .str)), .pl (.str f), .pl (.lst (bs.map .str)), .pl (.str sgns), .pl (.str w), y6, y7, y8, .un] := by
      simp [dLen, dAdd]
    have hrg := rng1_of hcl (by omega)
    unfold f__law_word_4
    refine nxt_for (fun i s => ∃ w y9, Wl f.cps.toList 12 w ∧ s = [.pl (.lst (ds.map .int)), .pl (.lst (ws.map .str)), .pl (.str f), .pl (.lst (bs.map .str)), .pl (.str sgns), .pl (.str w), y6, y7, y8, y9]) hrg ⟨w, .un, hw7, rfl⟩ (fun i d s hdi hP => ?_) fun s hP => hP
    obtain ⟨w, y9, hw8, rfl⟩ := hP
    obtain ⟨hi, rfl⟩ := rngs_get hdi
    obtain ⟨q1, hq1⟩ := in_strs w ws
    obtain ⟨q2, hq2⟩ := in_strs w bs
    rw [turn_n]
    refine nxt_if (c := q1 || q2) (by cases q1 <;> simp [hq1, hq2]) (fun _ => ?_) fun _ => nxt_of rfl ⟨w, _, hw8, rfl⟩
    obtain ⟨c, hc, ic⟩ := letter_al (n := (n5 + i) % 62) (Nat.mod_lt _ (by decide))
    have k := hw8.cut (k := 11) (by decide)
    have hto : dSl (.str w) none (some 11) = some (.str (cutS w none (some ((11 : Nat) : Int)))) := by
      unfold dSl
      dsimp only
      rw [if_pos (small_str (by have := hw8.ln; omega))]
      rfl
    have hadd := add_str (a := cutS w none (some ((11 : Nat) : Int))) (b := ⟨#[c]⟩) (by have := k.ln; rw [show (⟨#[c]⟩ : Str).length = 1 from rfl]; omega)
    have hm : dI2 cMod (.int ((n5 : Int) + (i : Int))) (.int 62) = some (.int (((n5 + i) % 62 : Nat) : Int)) := by
      have h := cModL ((n5 : Int) + (i : Int)) (j := 62) (by decide)
      have e : (((n5 + i) % 62 : Nat) : Int) = ((n5 : Int) + (i : Int)) % 62 := by omega
      exact h.trans (congrArg (fun z => some (D.int z)) e.symm)
    have hs5 : dAdd (.int (n5 : Int)) (.int (i : Int)) = some (.int ((n5 : Int) + (i : Int))) := rfl
    have hi5 : dInt [.int ((n5 : Int) + (i : Int))] = some (.int ((n5 : Int) + (i : Int))) := rfl
    simp only [ev_Asg, ev_Bind, ev_2, ev_Sl, ev_Rd, ev_oN, ev_oS, ev_C, ev_Call1, ev_cons, ev_nil, ev_ok, List.getElem?_cons_succ, List.getElem?_cons_zero, hto, a5, hs5, hi5, hm, ic, hadd, nxt_nx, List.set_cons_succ, List.set_cons_zero]
    exact ⟨_, _, k.add hc, rfl⟩
  · obtain ⟨w, y9, hw8, rfl⟩ := e
    simp
    exact hw8

theorem word_ok {ds : List Int} {ws bs : List Str} {f : Str} (hd : Ds ds) (hf : Fs f) (hw : ∀ w ∈ ws, Wl f.cps.toList 12 w) (hl : ws.length ≤ 100) (hb : bs.length ≤ 100) :
    Ans (F__law_word [.lst (ds.map .int), .lst (ws.map .str), .str f, .lst (bs.map .str)]) fun d => ∃ w, d = .str w ∧ Wl f.cps.toList 12 w := by
  obtain ⟨n1, e1, h1⟩ := hd.b1
  obtain ⟨n2, e2, h2⟩ := hd.b2
  obtain ⟨n3, e3, h3⟩ := hd.b3
  obtain ⟨n0, e0, h0⟩ := hd.b0
  have a0 : dIx (.lst (ds.map D.int)) (.int 0) = some (.int n0) := at_of e0
  have a1 : dIx (.lst (ds.map D.int)) (.int 1) = some (.int n1) := at_of e1
  have a2 : dIx (.lst (ds.map D.int)) (.int 2) = some (.int n2) := at_of e2
  have a3 : dIx (.lst (ds.map D.int)) (.int 3) = some (.int n3) := at_of e3
  obtain ⟨n4, e4, h4⟩ := hd.bj 0 (by decide)
  obtain ⟨n5, e5, h5⟩ := hd.bj 1 (by decide)
  have a4 : dIx (.lst (ds.map D.int)) (.int 4) = some (.int n4) := at_of (i := 4) e4
  have a5 : dIx (.lst (ds.map D.int)) (.int 5) = some (.int n5) := at_of (i := 5) e5
  obtain ⟨c1, hc1, i1⟩ := hf.at h1
  obtain ⟨c4, hc4, i4⟩ := letter_al h4
  have w1 := hf.one hc1
  unfold F__law_word
  rw [fnOf_none]
  unfold m__law_word
  refine fin_seq (fun s => s = [.pl (.lst (ds.map .int)), .pl (.lst (ws.map .str)), .pl (.str f), .pl (.lst (bs.map .str)), .pl (.str sgns), .un, .un, .un, .un, .un]) (by simp) fun s e => ?_
  subst e
  refine fin_seq (fun s => s = [.pl (.lst (ds.map .int)), .pl (.lst (ws.map .str)), .pl (.str f), .pl (.lst (bs.map .str)), .pl (.str sgns), .pl (.str ⟨#[c1]⟩), .un, .un, .un, .un]) (by simp [a1, i1]) fun s e => ?_
  subst e
  refine fin_seq (fun s => ∃ w y6, Wl f.cps.toList 12 w ∧ s = [.pl (.lst (ds.map .int)), .pl (.lst (ws.map .str)), .pl (.str f), .pl (.lst (bs.map .str)), .pl (.str sgns), .pl (.str w), y6, .un, .un, .un]) ?_ fun s e => ?_
  · refine nxt_for (fun i s => ∃ w y6, Wl f.cps.toList (1 + i) w ∧ s = [.pl (.lst (ds.map .int)), .pl (.lst (ws.map .str)), .pl (.str f), .pl (.lst (bs.map .str)), .pl (.str sgns), .pl (.str w), y6, .un, .un, .un]) (rng1_of (n := n2) (by simp [a2]) (by omega)) ⟨_, .un, w1, rfl⟩ (fun i d s hdi hP => ?_) fun s hP => ?_
    · obtain ⟨w, y6, hw6, rfl⟩ := hP
      obtain ⟨hi, rfl⟩ := rngs_get hdi
      obtain ⟨m, em, hm⟩ := hd.bj i (by omega)
      obtain ⟨c, hc, ic⟩ := letter_al hm
      have am : atI (ds.map D.int) (4 + (i : Int)) = some (.int m) := by
        have := at_of em
        rwa [show ((4 + i : Nat) : Int) = 4 + (i : Int) by omega] at this
      have hadd := add_str (a := w) (b := ⟨#[c]⟩) (by have := hw6.ln; rw [show (⟨#[c]⟩ : Str).length = 1 from rfl]; omega)
      have ea : dIx (.lst (ds.map .int)) (.int (4 + (i : Int))) = some (.int m) := am
      have ed : dAdd (.int 4) (.int (i : Int)) = some (.int (4 + (i : Int))) := rfl
      simp [b__law_word_0, ed, ea, ic, hadd]
      exact (hw6.add hc).mono (by omega)
    · obtain ⟨w, y6, hw6, rfl⟩ := hP
      rw [rngs_len] at hw6
      exact ⟨w, y6, hw6.mono (by omega), rfl⟩
  · obtain ⟨w, y6, hw6, rfl⟩ := e
    refine fin_seq (fun s => ∃ w y7 y8, Wl f.cps.toList 12 w ∧ s = [.pl (.lst (ds.map .int)), .pl (.lst (ws.map .str)), .pl (.str f), .pl (.lst (bs.map .str)), .pl (.str sgns), .pl (.str w), y6, y7, y8, .un]) (word_mid hd hf hw hl hb hw6 y6) fun s e => ?_
    obtain ⟨w, y7, y8, hw7, rfl⟩ := e
    exact word_end hd hf hw hl hb hw7 y6 y7 y8
end VM.K03

set_option Elab.async false
set_option linter.all false
set_option autoImplicit false
set_option maxRecDepth 100000
set_option maxHeartbeats 400000
namespace VM.K03
open PySem PySem.Spec PyProof.Rows L2 VM
def zs15 : List Int := [6, 26, 12, 12, 62, 62, 62, 62, 62, 62, 62, 62, 62, 62, 62]
def zs75 : List Int := zs15 ++ zs15 ++ zs15 ++ zs15 ++ zs15
theorem zs75_ev (sv : SV) : (m2 dRep (m2 dAdd (mLst (mCons (mC (.int 6)) (mCons (mC (.int 26)) (mCons (mC (.int 12)) (mCons (mC (.int 12)) mNil))))) (m2 dRep (mLst (mCons (mC (.int 62)) mNil)) (mC (.int 11)))) (mC (.int 5))) sv = .ok (.lst (zs75.map .int)) sv := rfl
theorem zs75_at : ∀ r, r < 5 → ∀ j, j < 15 → zs75[15 * r + j]? = zs15[j]? := by decide
theorem zs75_sz : ∀ z ∈ zs75, SizeOk z := by
  unfold SizeOk
  have : zs75.all (fun z => decide (0 < z ∧ z < 1000)) = true := by decide
  intro z hz
  have h := List.all_eq_true.mp this z hz
  exact of_decide_eq_true h
structure Dz (ds : List Int) : Prop where
  ln : ds.length = 75
  bd : ∀ (i : Nat) (z e : Int), zs75[i]? = some z → ds[i]? = some e → 0 ≤ e ∧ e < z
theorem Dz.cut {ds : List Int} (h : Dz ds) {r : Nat} (hr : r < 5) : Ds ((ds.drop (15 * r)).take 15) := by
  have at_ : ∀ j, j < 15 → ((ds.drop (15 * r)).take 15)[j]? = ds[15 * r + j]? := fun j hj => by
    rw [List.getElem?_take, if_pos hj, List.getElem?_drop]
  have val : ∀ j z, j < 15 → zs15[j]? = some (z : Int) → ∃ n : Nat, ((ds.drop (15 * r)).take 15)[j]? = some (n : Int) ∧ (n : Int) < z := fun j z hj hz => by
    have hl : 15 * r + j < ds.length := by rw [h.ln]; omega
    have e1 : ds[15 * r + j]? = some ds[15 * r + j] := List.getElem?_eq_getElem hl
    obtain ⟨b1, b2⟩ := h.bd (15 * r + j) z _ (by rw [zs75_at r hr j hj]; exact hz) e1
    refine ⟨(ds[15 * r + j]).toNat, ?_, ?_⟩
    · rw [at_ j hj, e1, Int.toNat_of_nonneg b1]
    · rw [Int.toNat_of_nonneg b1]; exact b2
  refine ⟨by simp [h.ln]; omega, ?_, ?_, ?_, ?_, fun j hj => ?_⟩
  · obtain ⟨n, e, b⟩ := val 1 26 (by decide) rfl; exact ⟨n, e, by omega⟩
  · obtain ⟨n, e, b⟩ := val 2 12 (by decide) rfl; exact ⟨n, e, by omega⟩
  · obtain ⟨n, e, b⟩ := val 3 12 (by decide) rfl; exact ⟨n, e, by omega⟩
  · obtain ⟨n, e, b⟩ := val 0 6 (by decide) rfl; exact ⟨n, e, by omega⟩
  · have : zs15[4 + j]? = some 62 := by
      have : ∀ j, j < 11 → zs15[4 + j]? = some 62 := by decide
      exact this j hj
    obtain ⟨n, e, b⟩ := val (4 + j) 62 (by omega) this; exact ⟨n, e, by omega⟩
theorem words_ok {ns : List Int} {a m : Nat} {f : Str} {bs : List Str} (hf : Fs f) (hm : m ≤ 50) (hb : bs.length ≤ 100) :
    Ans (F__law_words [.fl (ns.map .int), .int a, .int m, .str f, .lst (bs.map .str)]) fun d => ∃ ws : List Str, d = .lst (ws.map .str) ∧ ws.length = m ∧ ∀ w ∈ ws, Wl f.cps.toList 12 w := by
  unfold F__law_words
  rw [fnOf_none]
  unfold m__law_words
  refine fin_seq (fun s => s = [.pl (.fl (ns.map .int)), .pl (.int a), .pl (.int m), .pl (.str f), .pl (.lst (bs.map .str)), .ow (.lst []), .un, .un]) (by simp) fun s e => ?_
  subst e
  refine fin_seq (fun s => s = [.pl (.fl (ns.map .int)), .pl (.int a), .pl (.int m), .pl (.str f), .pl (.lst (bs.map .str)), .ow (.lst []), .pl (.lst []), .un]) (by simp) fun s e => ?_
  subst e
  refine fin_seq (fun s => ∃ (ws : List Str) (y6 y7 : Sl), ws.length = m ∧ (∀ w ∈ ws, Wl f.cps.toList 12 w) ∧ s = [.pl (.fl (ns.map .int)), .pl (.int a), .pl (.int m), .pl (.str f), .pl (.lst (bs.map .str)), .ow (.lst (ws.map .str)), y6, y7]) ?_ fun s e => ?_
  · have hrg := rng1_of (ms := mCons (mRd 2) mNil) (sv := [.pl (.fl (ns.map .int)), .pl (.int a), .pl (.int m), .pl (.str f), .pl (.lst (bs.map .str)), .ow (.lst []), .pl (.lst []), .un]) (n := m) (by simp; rfl) (by omega)
    refine nxt_for (fun i s => ∃ (ws : List Str) (y6 y7 : Sl), ws.length = i ∧ (∀ w ∈ ws, Wl f.cps.toList 12 w) ∧ (i = 0 ∨ ∃ ds : List Int, Dz ds ∧ y6 = .pl (.lst (ds.map .int))) ∧ s = [.pl (.fl (ns.map .int)), .pl (.int a), .pl (.int m), .pl (.str f), .pl (.lst (bs.map .str)), .ow (.lst (ws.map .str)), y6, y7]) hrg ⟨[], _, _, rfl, by simp, .inl rfl, rfl⟩ (fun i d s hdi hP => ?_) fun s hP => ?_
    · obtain ⟨ws, y6, y7, hl, hw, h6, rfl⟩ := hP
      obtain ⟨hi, rfl⟩ := rngs_get hdi
      rw [turn_n]
      refine nxt_seq (fun s => ∃ ds : List Int, Dz ds ∧ s = [.pl (.fl (ns.map .int)), .pl (.int a), .pl (.int m), .pl (.str f), .pl (.lst (bs.map .str)), .ow (.lst (ws.map .str)), .pl (.lst (ds.map .int)), .pl (.int i)]) (nxt_if (c := decide ((i : Int) % 5 = 0)) (by simp [dI2, cModL, dEq, eqD]) (fun _ => ?_) fun z => ?_) fun s e => ?_
      · have hd : dI2 cDiv (.int (i : Int)) (.int 5) = some (.int ((i / 5 : Nat) : Int)) := rfl
        have ha : dAdd (.int (a : Int)) (.int ((i / 5 : Nat) : Int)) = some (.int ((a + i / 5 : Nat) : Int)) := rfl
        obtain ⟨dc, ec, c, rfl⟩ := (cell_ok ns (a + i / 5)).eq
        obtain ⟨dd, ed, ds, rfl, hl1, hb1⟩ := (digits_ok c zs75 zs75_sz (by decide)).eq
        refine nxt_of (s := [.pl (.fl (ns.map .int)), .pl (.int a), .pl (.int m), .pl (.str f), .pl (.lst (bs.map .str)), .ow (.lst (ws.map .str)), .pl (.lst (ds.map .int)), .pl (.int i)]) ?_ ⟨ds, ⟨hl1, hb1⟩, rfl⟩
        rw [show ((a + i / 5 : Nat) : Int) = (a : Int) + (i : Int) / 5 by omega] at ec ha
        rw [show ((i / 5 : Nat) : Int) = (i : Int) / 5 by omega] at hd ha
        simp [↓zs75_ev, hd, ha, ec, ed]
      · rcases h6 with h6 | ⟨ds, h6, rfl⟩
        · subst h6
          simp at z
        · exact nxt_of rfl ⟨ds, h6, rfl⟩
      · obtain ⟨ds, hD, rfl⟩ := e
        have hr : i % 5 < 5 := Nat.mod_lt _ (by decide)
        obtain ⟨dw, ew, w, rfl, hw1⟩ := (word_ok (hD.cut hr) hf hw (by omega) hb).eq
        have hm5 : dI2 cMod (.int (i : Int)) (.int 5) = some (.int ((i % 5 : Nat) : Int)) := rfl
        have h15 : dI2 cMul (.int 15) (.int ((i % 5 : Nat) : Int)) = some (.int ((15 * (i % 5) : Nat) : Int)) := cMulL _ (by decide) (by decide)
        have h30 : dAdd (.int ((15 * (i % 5) : Nat) : Int)) (.int 15) = some (.int ((15 * (i % 5) + 15 : Nat) : Int)) := rfl
        have hs : dSl (.lst (ds.map .int)) (some ((15 * (i % 5) : Nat) : Int)) (some ((15 * (i % 5) + 15 : Nat) : Int)) = some (.lst (((ds.drop (15 * (i % 5))).take 15).map .int)) := by
          show some (D.lst (cutD _ _ _)) = _
          rw [cut_list, Nat.add_sub_cancel_left, List.map_take, List.map_drop]
        refine nxt_of (s := [.pl (.fl (ns.map .int)), .pl (.int a), .pl (.int m), .pl (.str f), .pl (.lst (bs.map .str)), .ow (.lst ((ws ++ [w]).map .str)), .pl (.lst (ds.map .int)), .pl (.int i)]) ?_ ⟨ws ++ [w], _, _, by simp [hl], ?_, .inr ⟨ds, hD, rfl⟩, rfl⟩
        · have hws : ws.length < sizeLine := small1000 (by omega)
          have e5 : ((i % 5 : Nat) : Int) = (i : Int) % 5 := by omega
          have e6 : ((15 * (i % 5) : Nat) : Int) = 15 * ((i : Int) % 5) := by omega
          have e7 : ((15 * (i % 5) + 15 : Nat) : Int) = 15 * ((i : Int) % 5) + 15 := by omega
          rw [e7, e6] at hs h30
          rw [e6, e5] at h15
          rw [e5] at hm5
          generalize (ds.drop (15 * (i % 5))).take 15 = sl at hs ew
          simp [hm5, h15, h30, hs, ew, lfree, hws]
        · intro x hx
          rcases List.mem_append.mp hx with h | h
          · exact hw x h
          · simp at h; subst h; exact hw1
    · obtain ⟨ws, y6, y7, hl, hw, h6, rfl⟩ := hP
      rw [rngs_len] at hl
      exact ⟨ws, y6, y7, hl, hw, rfl⟩
  · obtain ⟨ws, y6, y7, hl, hw, rfl⟩ := e
    simp
    exact ⟨ws, rfl, hl, hw⟩
theorem txts_map (ss : List Str) : txts (ss.map .str) = some ss := strs_map ss
theorem subset_ok {ws : List Str} (dg : Int) (hl : ws.length ≤ 50) :
    Ans (F__law_subset [.lst (ws.map .str), .int dg]) fun d => ∃ fs : List Str, d = .tup (fs.map .str) ∧ fs.length ≤ ws.length ∧ ∀ w ∈ fs, w ∈ ws := by
  unfold F__law_subset
  rw [fnOf_none]
  unfold m__law_subset
  refine fin_seq (fun s => s = [.pl (.lst (ws.map .str)), .pl (.int dg), .ow (.lst []), .un, .un]) (by simp) fun s e => ?_
  subst e
  refine fin_seq (fun s => s = [.pl (.lst (ws.map .str)), .pl (.int dg), .ow (.lst []), .pl (.int dg), .un]) (by simp [dInt]) fun s e => ?_
  subst e
  refine fin_seq (fun s => ∃ r : Int, s = [.pl (.lst (ws.map .str)), .pl (.int dg), .ow (.lst []), .pl (.int r), .un]) (nxt_if (c := decide (dg < 64)) (by simp [dCmp, ciLt]) (fun _ => by simp) fun _ => by simp) fun s e => ?_
  obtain ⟨r, rfl⟩ := e
  refine fin_seq (fun s => ∃ (fs : List Str) (r : Int) (y4 : Sl), fs.length ≤ ws.length ∧ (∀ w ∈ fs, w ∈ ws) ∧ s = [.pl (.lst (ws.map .str)), .pl (.int dg), .ow (.lst (fs.map .str)), .pl (.int r), y4]) ?_ fun s e => ?_
  · refine nxt_for (ds := ws.map .str) (fun i s => ∃ (fs : List Str) (r : Int) (y4 : Sl), fs.length ≤ i ∧ (∀ w ∈ fs, w ∈ ws) ∧ s = [.pl (.lst (ws.map .str)), .pl (.int dg), .ow (.lst (fs.map .str)), .pl (.int r), y4]) (by simp) ⟨[], r, .un, Nat.le_refl _, by simp, rfl⟩ (fun i d s hdi hP => ?_) fun s hP => ?_
    · obtain ⟨fs, r, y4, hfl, hfs, rfl⟩ := hP
      obtain ⟨w, hw, rfl⟩ : ∃ w, ws[i]? = some w ∧ D.str w = d := by simpa using hdi
      have hi : i < ws.length := (List.getElem?_eq_some_iff.mp hw).1
      rw [turn_n]
      have hd : dI2 cDiv (.int r) (.int 2) = some (.int (r / 2)) := rfl
      refine nxt_seq (fun s => ∃ (fs : List Str), fs.length ≤ i + 1 ∧ (∀ w ∈ fs, w ∈ ws) ∧ s = [.pl (.lst (ws.map .str)), .pl (.int dg), .ow (.lst (fs.map .str)), .pl (.int r), .pl (.str w)]) (nxt_if (c := decide (r % 2 = 1)) (by simp [dInt, dI2, cModL, dEq, eqD]) (fun _ => ?_) fun _ => nxt_of rfl ⟨fs, by omega, hfs, rfl⟩) fun s e => ?_
      · refine nxt_of (s := [.pl (.lst (ws.map .str)), .pl (.int dg), .ow (.lst ((fs ++ [w]).map .str)), .pl (.int r), .pl (.str w)]) ?_ ⟨fs ++ [w], by simp; omega, ?_, rfl⟩
        · have hws : fs.length < sizeLine := small1000 (by omega)
          simp [hws]
        · intro x hx
          rcases List.mem_append.mp hx with h | h
          · exact hfs x h
          · simp at h; subst h; exact List.mem_of_getElem? hw
      · obtain ⟨fs, h1, h2, rfl⟩ := e
        refine nxt_of (s := [.pl (.lst (ws.map .str)), .pl (.int dg), .ow (.lst (fs.map .str)), .pl (.int (r / 2)), .pl (.str w)]) (by simp [hd]) ⟨fs, _, _, h1, h2, rfl⟩
    · obtain ⟨fs, r, y4, h1, h2, rfl⟩ := hP
      exact ⟨fs, r, y4, by simpa using h1, h2, rfl⟩
  · obtain ⟨fs, r, y4, h1, h2, rfl⟩ := e
    have hs : dSorted [.lst (fs.map .str)] = some (.lst ((sortS fs).map .str)) := by
      unfold dSorted
      dsimp only
      rw [txts_map]
      dsimp only
      rw [if_pos (by omega)]
    simp [hs, dTuple]
    exact ⟨sortS fs, rfl, by unfold sortS; rw [List.length_mergeSort]; exact h1, fun w hw => h2 w (by unfold sortS at hw; exact List.mem_mergeSort.mp hw)⟩
end VM.K03

set_option Elab.async false
set_option linter.all false
set_option autoImplicit false
set_option maxRecDepth 100000
set_option maxHeartbeats 400000
namespace VM.K03
open PySem PySem.Spec PyProof.Rows L2 VM
/-- the tokens of a kind -/
inductive Tk where
  | row (ws : List Str) | wd (w : Str)
def Tk.d : Tk → D
  | .row ws => .tup (ws.map .str)
  | .wd w => .str w
abbrev Gw (w : Str) : Prop := Wl alnum 12 w
theorem Wl.gw {fs : List Nat} {w : Str} (h : Wl fs 12 w) : Gw w := ⟨by
  obtain ⟨c, r, e, _⟩ := h.hd
  exact ⟨c, r, e, h.al c (by rw [e]; simp)⟩, h.al, h.ln⟩
def Gt : Tk → Prop
  | .row ws => ws.length ≤ 6 ∧ ∀ w ∈ ws, Gw w
  | .wd w => Gw w
/-- how many kinds are still to come -/
def run : Nat → List Tk → Option Nat
  | p, [] => some p
  | 0, _ :: _ => none
  | p + 1, .wd _ :: r => run p r
  | p + 1, .row _ :: r => run (p + 2) r
theorem run_app : ∀ (a b : List Tk) (p : Nat), run p (a ++ b) = (run p a).bind fun q => run q b
  | [], b, p => rfl
  | _ :: _, b, 0 => rfl
  | .wd _ :: r, b, p + 1 => run_app r b p
  | .row _ :: r, b, p + 1 => run_app r b (p + 2)
theorem ix_int {xs : List Int} {i : Nat} (h : i < xs.length) : dIx (.lst (xs.map .int)) (.int (i : Int)) = some (.int xs[i]) := by
  show atI _ _ = _
  rw [atI_natL (by simpa using h)]
  simp
theorem ix_lstr {xs : List Str} {i : Nat} (h : i < xs.length) : dIx (.lst (xs.map .str)) (.int (i : Int)) = some (.str xs[i]) := by
  show atI _ _ = _
  rw [atI_natL (by simpa using h)]
  simp
structure Dk (ds : List Int) : Prop where
  ln : ds.length = 128
  b0 : ∃ n : Nat, ds[0]? = some (n : Int) ∧ n < 4
theorem kind_ok {ds : List Int} {m : Nat} {ws as : List Str} (hd : Dk ds) (hm : m ≤ 31) (hw : ∀ w ∈ ws, Gw w) (ha : ∀ w ∈ as, Gw w) (hl : 0 < ws.length) (hla : as.length ≤ 6) :
    Ans (F__law_kind [.lst (ds.map .int), .int m, .lst (ws.map .str), .lst (as.map .str)]) fun d => ∃ ts : List Tk, d = .tup (ts.map Tk.d) ∧ run 1 ts = some 0 ∧ ts.length = 2 * m + 1 ∧ ∀ t ∈ ts, Gt t := by
  obtain ⟨n0, e0, h0⟩ := hd.b0
  have a0 : dIx (.lst (ds.map D.int)) (.int 0) = some (.int n0) := at_of e0
  unfold F__law_kind
  rw [fnOf_none]
  unfold m__law_kind
  refine fin_seq (fun s => s = [.pl (.lst (ds.map .int)), .pl (.int m), .pl (.lst (ws.map .str)), .pl (.lst (as.map .str)), .ow (.lst []), .un, .un, .un, .un, .un]) (by simp) fun s e => ?_
  subst e
  refine fin_seq (fun s => s = [.pl (.lst (ds.map .int)), .pl (.int m), .pl (.lst (ws.map .str)), .pl (.lst (as.map .str)), .ow (.lst []), .pl (.int 1), .un, .un, .un, .un]) (by simp) fun s e => ?_
  subst e
  refine fin_seq (fun s => s = [.pl (.lst (ds.map .int)), .pl (.int m), .pl (.lst (ws.map .str)), .pl (.lst (as.map .str)), .ow (.lst []), .pl (.int 1), .pl (.int m), .un, .un, .un]) (by simp) fun s e => ?_
  subst e
  refine fin_seq (fun s => ∃ (ts : List Tk) (y5 y6 y7 y8 y9 : Sl), run 1 ts = some 0 ∧ ts.length = 2 * m + 1 ∧ (∀ t ∈ ts, Gt t) ∧ s = [.pl (.lst (ds.map .int)), .pl (.int m), .pl (.lst (ws.map .str)), .pl (.lst (as.map .str)), .ow (.lst (ts.map Tk.d)), y5, y6, y7, y8, y9]) ?_ fun s e => ?_
  · have hrg := rng1_of (ms := mCons (m2 dAdd (m2 (dI2 cMul) (mC (.int 2)) (mRd 1)) (mC (.int 1))) mNil) (sv := [.pl (.lst (ds.map .int)), .pl (.int m), .pl (.lst (ws.map .str)), .pl (.lst (as.map .str)), .ow (.lst []), .pl (.int 1), .pl (.int m), .un, .un, .un]) (n := 2 * m + 1) (by simp [dI2, cMulL, dAdd]; rfl) (by omega)
    refine nxt_for (fun i s => ∃ (ts : List Tk) (p r : Nat) (y7 y8 y9 : Sl), run 1 ts = some p ∧ ts.length = i ∧ p + i + 2 * r = 1 + 2 * m ∧ (0 < r → 0 < p) ∧ (∀ t ∈ ts, Gt t) ∧ s = [.pl (.lst (ds.map .int)), .pl (.int m), .pl (.lst (ws.map .str)), .pl (.lst (as.map .str)), .ow (.lst (ts.map Tk.d)), .pl (.int p), .pl (.int r), y7, y8, y9]) hrg ⟨[], 1, m, _, _, _, rfl, rfl, by omega, fun _ => by decide, by simp, rfl⟩ (fun i d s hdi hP => ?_) fun s hP => ?_
    · obtain ⟨ts, p, r, y7, y8, y9, hr, hts, hpr, hp0, hg, rfl⟩ := hP
      obtain ⟨hi, rfl⟩ := rngs_get hdi
      rw [turn_n]
      have hp1 : 0 < p := by
        rcases Nat.eq_zero_or_pos r with z | z
        · omega
        · exact hp0 z
      have hlen := hd.ln
      have i1 := ix_int (xs := ds) (i := 3 + 2 * (i % 63)) (by omega)
      have i2 := ix_int (xs := ds) (i := 2 + 2 * (i % 63)) (by omega)
      have i3 := ix_int (xs := ds) (i := 2 + 2 * (i % 6)) (by omega)
      rw [show ((3 + 2 * (i % 63) : Nat) : Int) = 3 + 2 * ((i : Int) % 63) by omega] at i1
      rw [show ((2 + 2 * (i % 63) : Nat) : Int) = 2 + 2 * ((i : Int) % 63) by omega] at i2
      rw [show ((2 + 2 * (i % 6) : Nat) : Int) = 2 + 2 * ((i : Int) % 6) by omega] at i3
      generalize ds[3 + 2 * (i % 63)] = dg at i1
      generalize ds[2 + 2 * (i % 63)] = u1 at i2
      generalize ds[2 + 2 * (i % 6)] = u2 at i3
      have hcm : ∀ z : Int, cMul 2 z = some (.int (2 * z)) := fun z => cMulL z (by decide) (by decide)
      refine nxt_seq (fun s => s = [.pl (.lst (ds.map .int)), .pl (.int m), .pl (.lst (ws.map .str)), .pl (.lst (as.map .str)), .ow (.lst (ts.map Tk.d)), .pl (.int p), .pl (.int r), .pl (.int i), .pl (.int dg), y9]) (by simp [dI2, cModL, hcm, dAdd, i1]) fun s e => ?_
      subst e
      refine nxt_seq (fun s => ∃ t : Int, s = [.pl (.lst (ds.map .int)), .pl (.int m), .pl (.lst (ws.map .str)), .pl (.lst (as.map .str)), .ow (.lst (ts.map Tk.d)), .pl (.int p), .pl (.int r), .pl (.int i), .pl (.int dg), .pl (.int t)]) ?_ fun s e => ?_
      · have ht : ∃ t : Int, dIx (.lst [.int 0, .int 1, .int u1, .int u2]) (.int (n0 : Int)) = some (.int t) := ⟨_, ix_int (xs := [0, 1, u1, u2]) (by simpa using h0)⟩
        obtain ⟨t, ht⟩ := ht
        have hs4 : 4 ≤ sizeLine := small_str (by decide)
        simp [dI2, cModL, hcm, dAdd, i2, i3, a0, ht, hs4]
      obtain ⟨t, rfl⟩ := e
      have hq : ∃ q : Bool, (mAnd (mB (m2 (dCI ciGt) (mRd 6) (mC (.int 0)))) (mOr (mB (m2 dEq (mRd 5) (mC (.int 1)))) (mB (m2 dEq (mRd 9) (mC (.int 1)))))) [.pl (.lst (ds.map .int)), .pl (.int m), .pl (.lst (ws.map .str)), .pl (.lst (as.map .str)), .ow (.lst (ts.map Tk.d)), .pl (.int p), .pl (.int r), .pl (.int i), .pl (.int dg), .pl (.int t)] = .ok q [.pl (.lst (ds.map .int)), .pl (.int m), .pl (.lst (ws.map .str)), .pl (.lst (as.map .str)), .ow (.lst (ts.map Tk.d)), .pl (.int p), .pl (.int r), .pl (.int i), .pl (.int dg), .pl (.int t)] ∧ (q = true → 0 < r) ∧ (q = false → r = 0 ∨ p ≠ 1) := by
        by_cases h1 : 0 < r
        · by_cases h2 : p = 1
          · exact ⟨true, by simp [dCI, ciGt, h1, h2, dEq, eqD], fun _ => h1, fun z => nomatch z⟩
          · by_cases h3 : t = 1
            · exact ⟨true, by simp [dCI, ciGt, h1, h2, h3, dEq, eqD], fun _ => h1, fun z => nomatch z⟩
            · have h2' : ¬ ((p : Int) = 1) := by omega
              exact ⟨false, by simp [dCI, ciGt, h1, h2', h3, dEq, eqD], fun z => (nomatch z), fun _ => .inr h2⟩
        · exact ⟨false, by simp [dCI, ciGt, h1], fun z => (nomatch z), fun _ => .inl (by omega)⟩
      obtain ⟨q, hq1, hq2, hq3⟩ := hq
      have hsz : ts.length < sizeLine := small1000 (by omega)
      refine nxt_if (c := q) hq1 (fun z => ?_) fun z => ?_
      · have hr0 := hq2 z
        obtain ⟨df, ef, fs, rfl, hf1, hf2⟩ := (subset_ok (ws := as) dg (by omega)).eq
        have c1 : ((r - 1 : Nat) : Int) = (r : Int) - 1 := by omega
        refine nxt_of (s := [.pl (.lst (ds.map .int)), .pl (.int m), .pl (.lst (ws.map .str)), .pl (.lst (as.map .str)), .ow (.lst ((ts ++ [Tk.row fs]).map Tk.d)), .pl (.int (p + 1 : Nat)), .pl (.int (r - 1 : Nat)), .pl (.int i), .pl (.int dg), .pl (.int t)]) ?_ ⟨ts ++ [Tk.row fs], p + 1, r - 1, _, _, _, ?_, by simp [hts], by omega, fun _ => by omega, ?_, rfl⟩
        · simp [ef, hsz, dI2, cSub, dAdd, c1, Tk.d]
        · rw [run_app, hr]
          obtain ⟨p', rfl⟩ : ∃ p', p = p' + 1 := ⟨p - 1, by omega⟩
          rfl
        · intro x hx
          rcases List.mem_append.mp hx with h | h
          · exact hg x h
          · simp at h; subst h
            exact ⟨by omega, fun w hw => ha w (hf2 w hw)⟩
      · have hmod : ((dg % (ws.length : Int)).toNat : Int) = dg % (ws.length : Int) := Int.toNat_of_nonneg (Int.emod_nonneg _ (by omega))
        have hlt : (dg % (ws.length : Int)).toNat < ws.length := by
          have := Int.emod_lt_of_pos dg (show (0 : Int) < ws.length by omega)
          omega
        have iw := ix_lstr hlt
        rw [hmod] at iw
        have hmem : ws[(dg % (ws.length : Int)).toNat] ∈ ws := List.getElem_mem hlt
        generalize ws[(dg % (ws.length : Int)).toNat] = w at iw hmem
        have c1 : ((p - 1 : Nat) : Int) = (p : Int) - 1 := by omega
        have hmo : cMod dg (ws.length : Int) = some (.int (dg % (ws.length : Int))) := cModL _ (by omega)
        refine nxt_of (s := [.pl (.lst (ds.map .int)), .pl (.int m), .pl (.lst (ws.map .str)), .pl (.lst (as.map .str)), .ow (.lst ((ts ++ [Tk.wd w]).map Tk.d)), .pl (.int (p - 1 : Nat)), .pl (.int r), .pl (.int i), .pl (.int dg), .pl (.int t)]) ?_ ⟨ts ++ [Tk.wd w], p - 1, r, _, _, _, ?_, by simp [hts], by omega, fun h => ?_, ?_, rfl⟩
        · simp [hsz, dI2, cSub, dInt, dLen, hmo, iw, c1, Tk.d]
        · rw [run_app, hr]
          obtain ⟨p', rfl⟩ : ∃ p', p = p' + 1 := ⟨p - 1, by omega⟩
          rfl
        · rcases hq3 z with h' | h' <;> omega
        · intro x hx
          rcases List.mem_append.mp hx with h | h
          · exact hg x h
          · simp at h; subst h
            exact hw _ hmem
    · obtain ⟨ts, p, r, y7, y8, y9, hr, hts, hpr, hp0, hg, rfl⟩ := hP
      rw [rngs_len] at hts hpr
      have hp : p = 0 := by omega
      subst hp
      exact ⟨ts, _, _, _, _, _, hr, hts, hg, rfl⟩
  · obtain ⟨ts, y5, y6, y7, y8, y9, hr, hts, hg, rfl⟩ := e
    simp [dTuple]
    exact ⟨ts, rfl, hr, hts, hg⟩
end VM.K03

set_option Elab.async false
set_option linter.all false
set_option autoImplicit false
set_option maxRecDepth 100000
set_option maxHeartbeats 400000
namespace VM.K03
open PySem PySem.Spec PyProof.Rows L2 VM
def zs128 : List Int := [4, 40] ++ (List.replicate 63 [2, 192]).flatten
theorem zs128_ev (sv : SV) : (m2 dAdd (mLst (mCons (mC (.int 4)) (mCons (mC (.int 40)) mNil))) (m2 dRep (mLst (mCons (mC (.int 2)) (mCons (mC (.int 192)) mNil))) (mC (.int 63)))) sv = .ok (.lst (zs128.map .int)) sv := rfl
theorem zs128_sz : ∀ z ∈ zs128, SizeOk z := by
  unfold SizeOk
  have : zs128.all (fun z => decide (0 < z ∧ z < 1000)) = true := by decide +kernel
  intro z hz
  have h := List.all_eq_true.mp this z hz
  exact of_decide_eq_true h
theorem zs128_len : zs128.length = 128 := by decide +kernel
theorem drawn_ok {c : Int} {mo : Nat} {ws as : List Str} (hm : mo ≤ 31) (hw : ∀ w ∈ ws, Gw w) (ha : ∀ w ∈ as, Gw w) (hl : 0 < ws.length) (hla : as.length ≤ 6) :
    Ans (F__law_drawn [.int c, .int mo, .lst (ws.map .str), .lst (as.map .str)]) fun d => ∃ ts : List Tk, d = .tup (ts.map Tk.d) ∧ run 1 ts = some 0 ∧ ts.length ≤ 2 * mo + 1 ∧ ∀ t ∈ ts, Gt t := by
  obtain ⟨dd, ed, ds, rfl, hl1, hb1⟩ := (digits_ok c zs128 zs128_sz (by rw [zs128_len]; decide)).eq
  rw [zs128_len] at hl1
  have hD : Dk ds := ⟨hl1, by
    have e1 : ds[0]? = some ds[0] := List.getElem?_eq_getElem (by omega)
    obtain ⟨b1, b2⟩ := hb1 0 4 _ rfl e1
    exact ⟨(ds[0]).toNat, by rw [e1, Int.toNat_of_nonneg b1], by omega⟩⟩
  obtain ⟨n1, e1, h1⟩ : ∃ n : Nat, ds[1]? = some (n : Int) ∧ n < 40 := by
    have e1 : ds[1]? = some ds[1] := List.getElem?_eq_getElem (by omega)
    obtain ⟨b1, b2⟩ := hb1 1 40 _ rfl e1
    exact ⟨(ds[1]).toNat, by rw [e1, Int.toNat_of_nonneg b1], by omega⟩
  have a1 : dIx (.lst (ds.map D.int)) (.int 1) = some (.int n1) := at_of e1
  unfold F__law_drawn
  rw [fnOf_none]
  unfold m__law_drawn
  refine fin_seq (fun s => s = [.pl (.int c), .pl (.int mo), .pl (.lst (ws.map .str)), .pl (.lst (as.map .str)), .pl (.lst (ds.map .int)), .un]) (by simp [↓zs128_ev, ed]) fun s e => ?_
  subst e
  refine fin_seq (fun s => s = [.pl (.int c), .pl (.int mo), .pl (.lst (ws.map .str)), .pl (.lst (as.map .str)), .pl (.lst (ds.map .int)), .pl (.int n1)]) (by simp [a1]) fun s e => ?_
  subst e
  refine fin_seq (fun s => ∃ n : Nat, s = [.pl (.int c), .pl (.int mo), .pl (.lst (ws.map .str)), .pl (.lst (as.map .str)), .pl (.lst (ds.map .int)), .pl (.int n)]) (nxt_if (c := decide ((31 : Int) < n1)) (by simp [dCI, ciGt]) (fun z => ?_) fun _ => nxt_of rfl ⟨n1, rfl⟩) fun s e => ?_
  · have : 31 < n1 := by simp at z; omega
    exact nxt_of (s := [.pl (.int c), .pl (.int mo), .pl (.lst (ws.map .str)), .pl (.lst (as.map .str)), .pl (.lst (ds.map .int)), .pl (.int (n1 - 32 : Nat))]) (by
      have : ((n1 - 32 : Nat) : Int) = (n1 : Int) - 32 := by omega
      simp [dI2, cSub, this]) ⟨_, rfl⟩
  · obtain ⟨n, rfl⟩ := e
    obtain ⟨dk, ek, ts, rfl, h1, h2, h3⟩ := (kind_ok (m := n % (mo + 1)) hD (by have := Nat.mod_lt n (show 0 < mo + 1 by omega); omega) hw ha hl hla).eq
    have hmo : cMod (n : Int) ((mo : Int) + 1) = some (.int ((n : Int) % ((mo : Int) + 1))) := cModL _ (by omega)
    rw [show ((n % (mo + 1) : Nat) : Int) = (n : Int) % ((mo : Int) + 1) by simp] at ek
    simp [dInt, dAdd, dI2, hmo, ek]
    exact ⟨ts, rfl, h1, by have := Nat.mod_lt n (show 0 < mo + 1 by omega); omega, h3⟩
/-! ### the plain law -/
abbrev caps : Str := "ABCDEFGHIJKLMNOPQRSTUVWXYZ"
def cap (w : Str) : Bool := match w.cps.toList with
  | [] => false
  | c :: _ => strIn ⟨#[c]⟩ caps
/-- the triples of one token -/
def piece (k : Nat) (s : Int) : Tk → List (Nat × Int × Str)
  | .row ws => ws.map fun w => (k, s, w)
  | .wd w => if cap w = true then [(k, s, w)] else []
def trs : Nat → List Int → List Tk → List (Nat × Int × Str)
  | k, s :: ss, t :: r => piece k s t ++ trs (k + 1) ss r
  | _, _, _ => []
/-- the sign at each token -/
def tops : List Int → List Tk → List Int
  | s :: st, .wd _ :: r => s :: tops st r
  | s :: st, .row _ :: r => s :: tops (-s :: s :: st) r
  | _, _ => []
def trD (x : Nat × Int × Str) : D := .tup [.int x.1, .int x.2.1, .str x.2.2]
theorem run_up (c : Nat) : ∀ (a : List Tk) (p q : Nat), run p a = some q → run (p + c) a = some (q + c)
  | [], p, q, h => by cases h; rfl
  | _ :: _, 0, q, h => by cases h
  | .wd _ :: r, p + 1, q, h => by
    rw [show p + 1 + c = (p + c) + 1 by omega]
    exact run_up c r p q h
  | .row _ :: r, p + 1, q, h => by
    rw [show p + 1 + c = (p + c) + 1 by omega]
    show run (p + c + 2) r = _
    rw [show p + c + 2 = p + 2 + c by omega]
    exact run_up c r (p + 2) q h
theorem tops_len : ∀ (a : List Tk) (st : List Int) (q : Nat), run st.length a = some q → (tops st a).length = a.length
  | [], st, q, h => by cases st <;> rfl
  | .wd _ :: r, [], q, h => by cases h
  | .row _ :: r, [], q, h => by cases h
  | .wd _ :: r, s :: st, q, h => by
    show (s :: tops st r).length = _
    simp [tops_len r st q h]
  | .row _ :: r, s :: st, q, h => by
    show (s :: tops (-s :: s :: st) r).length = _
    simp [tops_len r (-s :: s :: st) q h]
theorem tops_app : ∀ (a b : List Tk) (st R : List Int), run st.length a = some 0 → tops (st ++ R) (a ++ b) = tops st a ++ tops R b
  | [], b, [], R, h => by cases R <;> rfl
  | [], b, _ :: _, R, h => by cases h
  | .wd _ :: r, b, [], R, h => by cases h
  | .row _ :: r, b, [], R, h => by cases h
  | .wd _ :: r, b, s :: st, R, h => by
    show s :: tops (st ++ R) (r ++ b) = s :: tops st r ++ tops R b
    rw [tops_app r b st R h]
    rfl
  | .row _ :: r, b, s :: st, R, h => by
    show s :: tops ((-s :: s :: st) ++ R) (r ++ b) = s :: tops (-s :: s :: st) r ++ tops R b
    rw [tops_app r b (-s :: s :: st) R h]
    rfl
theorem tops_mul (c : Int) : ∀ (a : List Tk) (st : List Int), tops (st.map (· * c)) a = (tops st a).map (· * c)
  | [], st => by cases st <;> rfl
  | .wd _ :: r, [] => rfl
  | .row _ :: r, [] => rfl
  | .wd _ :: r, s :: st => by
    show s * c :: tops (st.map (· * c)) r = s * c :: (tops st r).map (· * c)
    rw [tops_mul c r st]
  | .row _ :: r, s :: st => by
    show s * c :: tops (-(s * c) :: s * c :: st.map (· * c)) r = s * c :: (tops (-s :: s :: st) r).map (· * c)
    rw [← tops_mul c r (-s :: s :: st)]
    simp [Int.neg_mul]
theorem trs_app : ∀ (a b : List Tk) (sa sb : List Int) (k : Nat), sa.length = a.length → trs k (sa ++ sb) (a ++ b) = trs k sa a ++ trs (k + a.length) sb b
  | [], b, [], sb, k, h => by simp [trs]
  | [], b, _ :: _, sb, k, h => by cases h
  | _ :: _, b, [], sb, k, h => by cases h
  | t :: a, b, s :: sa, sb, k, h => by
    show piece k s t ++ trs (k + 1) (sa ++ sb) (a ++ b) = (piece k s t ++ trs (k + 1) sa a) ++ trs (k + (a.length + 1)) sb b
    rw [trs_app a b sa sb (k + 1) (by simpa using h), List.append_assoc, show k + 1 + a.length = k + (a.length + 1) by omega]
def mv (c : Nat) (t : Int) (x : Nat × Int × Str) : Nat × Int × Str := (x.1 + c, x.2.1 * t, x.2.2)
theorem trs_mv (c : Nat) (t : Int) : ∀ (a : List Tk) (ss : List Int) (k : Nat), trs (k + c) (ss.map (· * t)) a = (trs k ss a).map (mv c t)
  | [], ss, k => by cases ss <;> rfl
  | _ :: _, [], k => rfl
  | x :: a, s :: ss, k => by
    show piece (k + c) (s * t) x ++ trs (k + c + 1) (ss.map (· * t)) a = (piece k s x ++ trs (k + 1) ss a).map (mv c t)
    rw [show k + c + 1 = k + 1 + c by omega, trs_mv c t a ss (k + 1), List.map_append]
    congr 1
    cases x with
    | row ws => simp [piece, mv]
    | wd w => simp only [piece]; split <;> simp [mv]
theorem joined_law {one two : List Tk} {ar : List Str} (h1 : run 1 one = some 0) (h2 : run 1 two = some 0) :
    run 1 (.row ar :: (one ++ two)) = some 0 ∧ trs 0 (tops [1] (.row ar :: (one ++ two))) (.row ar :: (one ++ two)) = ar.map (fun w => (0, 1, w)) ++ (trs 0 (tops [1] one) one).map (mv 1 (-1)) ++ (trs 0 (tops [1] two) two).map (mv (1 + one.length) 1) := by
  have r2 : run 2 one = some 1 := run_up 1 one 1 0 h1
  constructor
  · show run 2 (one ++ two) = some 0
    rw [run_app, r2]
    exact h2
  · show ar.map (fun w => (0, 1, w)) ++ trs 1 (tops [-1, 1] (one ++ two)) (one ++ two) = _
    have e : tops [-1, 1] (one ++ two) = tops [-1] one ++ tops [1] two := tops_app one two [-1] [1] h1
    rw [e, trs_app one two _ _ 1 (tops_len one [-1] 0 h1), List.append_assoc]
    have e1 : tops [-1] one = (tops [1] one).map (· * (-1)) := (show tops [-1] one = tops ([1].map (· * (-1))) one from rfl).trans (tops_mul (-1) one [1])
    have e2 : tops [1] two = (tops [1] two).map (· * 1) := by simp
    congr 1
    rw [e1, show (1 : Nat) = 0 + 1 from rfl, trs_mv 1 (-1) one _ 0]
    congr 1
    rw [e2, show 0 + 1 + one.length = 0 + (1 + one.length) by omega, trs_mv (1 + one.length) 1 two _ 0]
    simp
end VM.K03

set_option Elab.async false
set_option linter.all false
set_option autoImplicit false
set_option maxRecDepth 100000
set_option maxHeartbeats 400000
namespace VM.K03
open PySem PySem.Spec PyProof.Rows L2 VM
theorem drop_cons {α : Type} {xs : List α} {i : Nat} {t : α} (h : xs[i]? = some t) : xs.drop i = t :: xs.drop (i + 1) := by
  obtain ⟨h1, h2⟩ := List.getElem?_eq_some_iff.mp h
  rw [List.drop_eq_getElem_cons h1, h2]
theorem kit_tt : kitB "tuple" "tuple" = some true := by decide +kernel
theorem kit_st : kitB "str" "tuple" = some false := by decide +kernel
theorem kit_ss : kitB "str" "str" = some true := by decide +kernel
theorem isi_tup (xs : List D) : isi "tuple" (.tup xs) = some (.bl true) := by
  show (kitB "tuple" "tuple").map D.bl = _
  rw [kit_tt]
  rfl
theorem isi_str (z : Str) : isi "tuple" (.str z) = some (.bl false) := by
  show (kitB "str" "tuple").map D.bl = _
  rw [kit_st]
  rfl
theorem isis_str (z : Str) : isi "str" (.str z) = some (.bl true) := by
  show (kitB "str" "str").map D.bl = _
  rw [kit_ss]
  rfl
theorem gw_cons {w : Str} (h : Gw w) : ∃ c r, w.cps.toList = c :: r ∧ cap w = strIn ⟨#[c]⟩ caps ∧ dIx (.str w) (.int 0) = some (.str ⟨#[c]⟩) := by
  obtain ⟨c, r, e, _⟩ := h.hd
  refine ⟨c, r, e, by unfold cap; rw [e], ?_⟩
  have hl : 0 < w.cps.toList.length := by rw [e]; simp
  have := ix_strL hl (small_str (by have := h.ln; omega))
  rw [show w.cps.toList[0] = c by simp [e]] at this
  exact this
/-- how many triples at most -/
theorem piece_len (k : Nat) (s : Int) {t : Tk} (h : Gt t) : (piece k s t).length ≤ 6 := by
  cases t with
  | row ws => simp [piece]; exact h.1
  | wd w => simp only [piece]; split <;> simp
theorem trs_len : ∀ (ts : List Tk) (ss : List Int) (k : Nat), (∀ t ∈ ts, Gt t) → (trs k ss ts).length ≤ 6 * ts.length
  | [], ss, k, _ => by cases ss <;> simp [trs]
  | _ :: _, [], k, _ => by simp [trs]
  | t :: r, s :: ss, k, h => by
    have h1 := piece_len k s (h t (by simp))
    have h2 := trs_len r ss (k + 1) fun x hx => h x (by simp [hx])
    simp only [trs, List.length_append, List.length_cons]
    omega
/-! ### the stack's way -/
/-- the stack after one token -/
def nst (s : Int) (st : List Int) : Tk → List Int
  | .row _ => -s :: s :: st
  | .wd _ => st
theorem standing_loop (ts : List Tk) (hg : ∀ t ∈ ts, Gt t) (hl : ts.length ≤ 100) {i : Nat} {t : Tk} (ht : ts[i]? = some t) {s : Int} {st : List Int} {fs : List (Nat × Int × Str)} (hst : st.length ≤ 200) (hfs : fs.length ≤ 900) (y4 y5 y6 y3 : Sl) :
    Nxt (b__law_standing_3 [.pl (.tup (ts.map Tk.d)), .ow (.lst ((s :: st).reverse.map .int)), .ow (.lst (fs.map trD)), .pl (.int i), y4, y5, y6]) fun s' => ∃ y4 y5 y6, s' = [.pl (.tup (ts.map Tk.d)), .ow (.lst ((nst s st t).reverse.map .int)), .ow (.lst ((fs ++ piece i s t).map trD)), .pl (.int i), y4, y5, y6] := by
  obtain ⟨hi, hit⟩ := List.getElem?_eq_some_iff.mp ht
  have hgt := hg t (List.mem_of_getElem? ht)
  have ix : dIx (.tup (ts.map Tk.d)) (.int (i : Int)) = some t.d := by
    show atI _ _ = _
    rw [atI_natL (by simpa using hi)]
    simp [hit]
  have hpop : ((s :: st).reverse.map D.int)[((s :: st).reverse.map D.int).length - 1]? = some (.int s) := by simp
  have hdrop : ((s :: st).reverse.map D.int).dropLast = st.reverse.map .int := by simp
  unfold b__law_standing_3
  refine nxt_seq (fun s' => s' = [.pl (.tup (ts.map Tk.d)), .ow (.lst ((s :: st).reverse.map .int)), .ow (.lst (fs.map trD)), .pl (.int i), .pl t.d, y5, y6]) (by simp [ix]) fun s' e => ?_
  subst e
  refine nxt_seq (fun s' => s' = [.pl (.tup (ts.map Tk.d)), .ow (.lst (st.reverse.map .int)), .ow (.lst (fs.map trD)), .pl (.int i), .pl t.d, .pl (.int s), y6]) ?_ fun s' e => ?_
  · generalize (s :: st).reverse.map D.int = L at hpop hdrop
    simp [hpop, hdrop]
  subst e
  unfold i__law_standing_2
  cases t with
  | row ws =>
    refine nxt_if (c := true) (by simp [Tk.d, isi_tup]) (fun _ => ?_) fun z => nomatch z
    have hws := hgt.1
    refine nxt_seq (fun s' => ∃ y6, s' = [.pl (.tup (ts.map Tk.d)), .ow (.lst (st.reverse.map .int)), .ow (.lst ((fs ++ piece i s (.row ws)).map trD)), .pl (.int i), .pl (.tup (ws.map .str)), .pl (.int s), y6]) ?_ fun s' e => ?_
    · refine nxt_for (ds := ws.map .str) (fun j s' => ∃ y6, s' = [.pl (.tup (ts.map Tk.d)), .ow (.lst (st.reverse.map .int)), .ow (.lst ((fs ++ piece i s (.row (ws.take j))).map trD)), .pl (.int i), .pl (.tup (ws.map .str)), .pl (.int s), y6]) (by simp [Tk.d]; rfl) ⟨y6, by simp [piece, Tk.d]⟩ (fun j d s' hdj hP => ?_) fun s' hP => ?_
      · obtain ⟨y6, rfl⟩ := hP
        obtain ⟨w, hw, rfl⟩ : ∃ w, ws[j]? = some w ∧ D.str w = d := by simpa using hdj
        have hj : j < ws.length := (List.getElem?_eq_some_iff.mp hw).1
        rw [turn_n]
        have hpc : piece i s (.row (ws.take (j + 1))) = piece i s (.row (ws.take j)) ++ [(i, s, w)] := by simp [piece, List.take_add_one, hw]
        have hlen : ((fs ++ piece i s (.row (ws.take j))).map trD).length < sizeLine := small1000 (by simp [piece]; omega)
        have h3 : 3 ≤ sizeLine := small_str (by decide)
        refine nxt_of (s := [.pl (.tup (ts.map Tk.d)), .ow (.lst (st.reverse.map .int)), .ow (.lst ((fs ++ piece i s (.row (ws.take j))).map trD ++ [trD (i, s, w)])), .pl (.int i), .pl (.tup (ws.map .str)), .pl (.int s), .pl (.str w)]) ?_ ⟨.pl (.str w), by rw [hpc]; simp⟩
        generalize (fs ++ piece i s (.row (ws.take j))).map trD = L at hlen
        simp [b__law_standing_0, h3, hlen, trD]
      · obtain ⟨y6, rfl⟩ := hP
        exact ⟨y6, by simp⟩
    · obtain ⟨y6, rfl⟩ := e
      have h1 : st.length < sizeLine := small1000 (by omega)
      have h2 : st.length + 1 < sizeLine := small1000 (by omega)
      simp [dNeg, h1, h2, nst]
  | wd w =>
    obtain ⟨c, r, e, hc, h0⟩ := gw_cons hgt
    refine nxt_if (c := false) (by simp [Tk.d, isi_str]) (fun z => nomatch z) fun _ => ?_
    refine nxt_if (c := cap w) (by simp [Tk.d, h0, dIn, inD, hc]) (fun z => ?_) fun z => ?_
    · have h1 : fs.length < sizeLine := small1000 (by omega)
      have h3 : 3 ≤ sizeLine := small_str (by decide)
      simp [piece, z, Tk.d, h1, h3, trD, nst]
    · simp [piece, z, Tk.d, nst]
end VM.K03

set_option Elab.async false
set_option linter.all false
set_option autoImplicit false
set_option maxRecDepth 100000
set_option maxHeartbeats 400000
namespace VM.K03
open PySem PySem.Spec PyProof.Rows L2 VM
def up (q : Nat) : Tk → Nat
  | .row _ => q + 2
  | .wd _ => q
theorem run_cons {p : Nat} {t : Tk} {r : List Tk} (h : run p (t :: r) = some 0) : ∃ q, p = q + 1 ∧ run (up q t) r = some 0 := by
  cases p with
  | zero => cases h
  | succ q => cases t <;> exact ⟨q, rfl, h⟩
theorem tops_cons (s : Int) (st : List Int) (t : Tk) (r : List Tk) : tops (s :: st) (t :: r) = s :: tops (nst s st t) r := by cases t <;> rfl
abbrev triples (ts : List Tk) : List (Nat × Int × Str) := trs 0 (tops [1] ts) ts
theorem standing_ok {ts : List Tk} (hg : ∀ t ∈ ts, Gt t) (hl : ts.length ≤ 100) (hr : run 1 ts = some 0) : Ans (F__law_standing [.tup (ts.map Tk.d)]) fun d => d = .tup ((triples ts).map trD) := by
  unfold F__law_standing
  rw [fnOf_none]
  unfold m__law_standing
  have h1 : 1 ≤ sizeLine := small_str (by decide)
  refine fin_seq (fun s => s = [.pl (.tup (ts.map Tk.d)), .ow (.lst [.int 1]), .un, .un, .un, .un, .un]) (by simp [h1]) fun s e => ?_
  subst e
  refine fin_seq (fun s => s = [.pl (.tup (ts.map Tk.d)), .ow (.lst [.int 1]), .ow (.lst []), .un, .un, .un, .un]) (by simp) fun s e => ?_
  subst e
  refine fin_seq (fun s => ∃ y1 y3 y4 y5 y6, s = [.pl (.tup (ts.map Tk.d)), y1, .ow (.lst ((triples ts).map trD)), y3, y4, y5, y6]) ?_ fun s e => ?_
  · have hrg := rng1_of (ms := mCons (mCall1 dLen (mCons (mRd 0) mNil)) mNil) (sv := [.pl (.tup (ts.map Tk.d)), .ow (.lst [.int 1]), .ow (.lst []), .un, .un, .un, .un]) (n := ts.length) (by simp [dLen]; rfl) (by omega)
    refine nxt_for (fun i s => ∃ (st : List Int) (fs : List (Nat × Int × Str)) (y3 y4 y5 y6 : Sl), run st.length (ts.drop i) = some 0 ∧ fs ++ trs i (tops st (ts.drop i)) (ts.drop i) = triples ts ∧ fs.length ≤ 6 * i ∧ st.length ≤ 1 + i ∧ s = [.pl (.tup (ts.map Tk.d)), .ow (.lst (st.reverse.map .int)), .ow (.lst (fs.map trD)), y3, y4, y5, y6]) hrg ⟨[1], [], _, _, _, _, by simpa using hr, rfl, by simp, by simp, rfl⟩ (fun i d s hdi hP => ?_) fun s hP => ?_
    · obtain ⟨st, fs, y3, y4, y5, y6, hrun, htot, hfs, hst, rfl⟩ := hP
      obtain ⟨hi, rfl⟩ := rngs_get hdi
      obtain ⟨t, ht⟩ : ∃ t, ts[i]? = some t := ⟨_, List.getElem?_eq_getElem hi⟩
      rw [turn_n]
      rw [drop_cons ht] at hrun htot
      obtain ⟨q, hq, hrun2⟩ := run_cons hrun
      obtain ⟨s, st', rfl⟩ : ∃ s st', st = s :: st' := by
        cases st with
        | nil => simp at hq
        | cons a b => exact ⟨a, b, rfl⟩
      refine nxt_mono (standing_loop ts hg hl ht (s := s) (st := st') (fs := fs) (by simp at hst; omega) (by omega) y4 y5 y6 .un) fun s' e => ?_
      obtain ⟨y4, y5, y6, rfl⟩ := e
      refine ⟨nst s st' t, fs ++ piece i s t, .pl (.int i), y4, y5, y6, ?_, ?_, ?_, ?_, rfl⟩
      · have hq' : st'.length = q := by simpa using hq
        cases t <;> (subst hq'; exact hrun2)
      · rw [tops_cons] at htot
        rw [List.append_assoc]
        exact htot
      · have := piece_len i s (hg t (List.mem_of_getElem? ht))
        simp; omega
      · cases t <;> simp [nst] at hst ⊢ <;> omega
    · obtain ⟨st, fs, y3, y4, y5, y6, hrun, htot, hfs, hst, rfl⟩ := hP
      rw [rngs_len, List.drop_length] at htot
      have : trs ts.length (tops st []) [] = [] := by cases st <;> rfl
      rw [this, List.append_nil] at htot
      rw [htot]
      exact ⟨_, _, _, _, _, rfl⟩
  · obtain ⟨y1, y3, y4, y5, y6, rfl⟩ := e
    simp [dTuple]
end VM.K03

set_option Elab.async false
set_option linter.all false
set_option autoImplicit false
set_option maxRecDepth 100000
set_option maxHeartbeats 400000
namespace VM.K03
open PySem PySem.Spec PyProof.Rows L2 VM
structure Bd (x : Nat × Int × Str) : Prop where
  k : x.1 ≤ 300
  s : x.2.1 = 1 ∨ x.2.1 = -1
  w : Gw x.2.2
theorem alnum_small : ∀ c ∈ alnum, c < 16 ^ 8 := by
  have : alnum.all (fun c => decide (c < 16 ^ 8)) = true := by decide +kernel
  intro c hc
  have h := List.all_eq_true.mp this c hc
  exact of_decide_eq_true h
theorem int_short {n : Nat} (h : n ≤ 300) : (PyData.shown (.int (n : Int))).length ≤ 13 := by
  have := toString_length_le (v := (n : Int)) (by omega) (k := 3) (by decide) (by omega)
  have e : PyData.shown (.int (n : Int)) = Str.ofString (toString (n : Int)) := rfl
  rw [e]
  omega
structure Ok1 (q : PyData) : Prop where
  sh : q.showable = true
  hd : q.hasDict = false
  dp : q.depth ≤ 1
  ls : q.leavesShort 13 = true
  wt : q.weight ≤ 400
theorem tri_py {x : Nat × Int × Str} (h : Bd x) : ∃ q, py (trD x) = some q ∧ Ok1 q := by
  obtain ⟨k, s, w⟩ := x
  obtain ⟨h1, h2, h3⟩ := h
  dsimp only at h1 h2 h3
  refine ⟨.tuple [.int k, .int s, .str w], rfl, ?_⟩
  have hk : (k : Int).natAbs.log2 < 1920 := by
    have := Nat.log2_le_self k
    rw [Int.natAbs_natCast]; omega
  have hs : s.natAbs.log2 < 1920 := by rcases h2 with rfl | rfl <;> decide
  have lk := int_short h1
  have ls : (PyData.shown (.int s)).length ≤ 13 := by rcases h2 with rfl | rfl <;> decide +kernel
  have lw : (w.cps.toList.all fun c => decide (c < 16 ^ 8)) = true := List.all_eq_true.mpr fun c hc => decide_eq_true (alnum_small c (h3.al c hc))
  refine ⟨?_, ?_, ?_, ?_, ?_⟩
  · simp [PyData.showable, PyData.showableAll, hs]
    simpa using hk
  · rfl
  · simp [PyData.depth, PyData.depthAll]
  · simp only [PyData.leavesShort, PyData.leavesShortAll, lk, ls, lw, decide_true, Bool.and_self]
  · have w1 : PyData.weight (.int (k : Int)) ≤ 301 := by
      simp only [PyData.weight]
      have := Nat.log2_le_self k
      split
      · omega
      · rw [Int.natAbs_natCast]; omega
    have w2 : PyData.weight (.int s) ≤ 1 := by rcases h2 with rfl | rfl <;> decide
    have w3 : PyData.weight (.str w) ≤ 12 := h3.ln
    simp only [PyData.weight, PyData.weightAll] at w1 w2 w3 ⊢
    omega
theorem tris_py : ∀ xs : List (Nat × Int × Str), (∀ x ∈ xs, Bd x) → ∃ qs, pyL (xs.map trD) = some qs ∧ PyData.showableAll qs = true ∧ PyData.hasDictAll qs = false ∧ PyData.depthAll qs ≤ 1 ∧ PyData.leavesShortAll 13 qs = true ∧ PyData.weightAll qs ≤ 401 * xs.length
  | [], _ => ⟨[], rfl, rfl, rfl, Nat.zero_le _, rfl, Nat.zero_le _⟩
  | x :: xs, h => by
    obtain ⟨q, e, o⟩ := tri_py (h x (by simp))
    obtain ⟨qs, e2, h1, h2, h3, h4, h5⟩ := tris_py xs fun y hy => h y (by simp [hy])
    refine ⟨q :: qs, ?_, ?_, ?_, ?_, ?_, ?_⟩
    · show pyL (trD x :: xs.map trD) = _
      simp only [pyL, e, e2]
    · simp only [PyData.showableAll, o.sh, h1, Bool.and_self]
    · simp only [PyData.hasDictAll, o.hd, h2, Bool.or_self]
    · have := o.dp
      simp only [PyData.depthAll]
      omega
    · simp only [PyData.leavesShortAll, o.ls, h4, Bool.and_self]
    · have := o.wt
      simp only [PyData.weightAll, List.length_cons]
      omega
theorem same_ok {xs : List (Nat × Int × Str)} (h : ∀ x ∈ xs, Bd x) (hl : xs.length ≤ 1200) : Ans (F__law_same [.tup (xs.map trD), .tup (xs.map trD)]) fun d => d = .bl true := by
  obtain ⟨qs, e, h1, h2, h3, h4, h5⟩ := tris_py xs h
  have hp : py (.tup (xs.map trD)) = some (.tuple qs) := by
    simp only [py, e, Option.map_some]
  have hr : reprOk (.tuple qs) = true := by
    have l1 : PyData.leavesShort 13 (.tuple qs) = true := by simpa only [PyData.leavesShort] using h4
    have sz := PyData.shown_fits (B := 13) (by decide) (by decide) l1 (by simp only [PyData.weight]; omega)
    unfold reprOk
    simp only [PyData.showable, h1, PyData.hasDict, h2, PyData.depth, sz, Bool.not_false, Bool.and_true, Bool.true_and, decide_true]
    exact decide_eq_true (by omega)
  have hd : dRepr [.tup (xs.map trD)] = some (.str (PyData.shown (.tuple qs))) := by
    unfold dRepr
    dsimp only
    rw [hp]
    dsimp only
    rw [if_pos hr]
  generalize xs.map trD = L at hd
  unfold F__law_same
  rw [fnOf_none]
  unfold m__law_same
  simp [hd, dEq, eqD]
/-! ### what the triples hold -/
theorem tops_pm : ∀ (ts : List Tk) (st : List Int), (∀ s ∈ st, s = 1 ∨ s = -1) → ∀ s ∈ tops st ts, s = 1 ∨ s = -1
  | [], st, h, s, hs => by cases st <;> cases hs
  | .wd _ :: r, [], h, s, hs => by cases hs
  | .row _ :: r, [], h, s, hs => by cases hs
  | .wd _ :: r, a :: st, h, s, hs => by
    have hs' : s ∈ a :: tops st r := hs
    rcases List.mem_cons.mp hs' with e | e
    · exact e ▸ h a (by simp)
    · exact tops_pm r st (fun x hx => h x (by simp [hx])) s e
  | .row _ :: r, a :: st, h, s, hs => by
    have hs' : s ∈ a :: tops (-a :: a :: st) r := hs
    rcases List.mem_cons.mp hs' with e | e
    · exact e ▸ h a (by simp)
    · refine tops_pm r (-a :: a :: st) (fun x hx => ?_) s e
      rcases List.mem_cons.mp hx with q | q
      · rcases h a (by simp) with z | z <;> subst q <;> subst z <;> simp
      · exact h x q
theorem trs_bd : ∀ (ts : List Tk) (ss : List Int) (k : Nat), (∀ t ∈ ts, Gt t) → (∀ s ∈ ss, s = 1 ∨ s = -1) → k + ts.length ≤ 300 → ∀ x ∈ trs k ss ts, Bd x
  | [], ss, k, _, _, _, x, hx => by cases ss <;> cases hx
  | _ :: _, [], k, _, _, _, x, hx => by cases hx
  | t :: r, s :: ss, k, hg, hs, hk, x, hx => by
    have hx' : x ∈ piece k s t ++ trs (k + 1) ss r := hx
    simp only [List.length_cons] at hk
    rcases List.mem_append.mp hx' with h | h
    · have hg1 := hg t (by simp)
      cases t with
      | row ws =>
        simp only [piece, List.mem_map] at h
        obtain ⟨w, hw, rfl⟩ := h
        exact ⟨by show k ≤ 300; omega, hs s (by simp), hg1.2 w hw⟩
      | wd w =>
        simp only [piece] at h
        split at h
        · simp at h; subst h
          exact ⟨by show k ≤ 300; omega, hs s (by simp), hg1⟩
        · cases h
    · exact trs_bd r ss (k + 1) (fun y hy => hg y (by simp [hy])) (fun y hy => hs y (by simp [hy])) (by omega) x h
theorem triples_bd {ts : List Tk} (hg : ∀ t ∈ ts, Gt t) (hl : ts.length ≤ 200) : (∀ x ∈ triples ts, Bd x) ∧ (triples ts).length ≤ 1200 :=
  ⟨trs_bd ts _ 0 hg (tops_pm ts [1] (by simp)) (by omega), by have := trs_len ts (tops [1] ts) 0 hg; show (trs 0 (tops [1] ts) ts).length ≤ 1200; omega⟩
end VM.K03

set_option Elab.async false
set_option linter.all false
set_option autoImplicit false
set_option maxRecDepth 100000
set_option maxHeartbeats 400000
namespace VM.K03
open PySem PySem.Spec PyProof.Rows L2 VM
theorem alnum_in : ∀ c ∈ alnum, strIn ⟨#[c]⟩ sgns = true := by
  have : alnum.all (fun c => strIn ⟨#[c]⟩ sgns) = true := by decide +kernel
  intro c hc
  exact List.all_eq_true.mp this c hc
theorem data_word_ok {w : Str} (h : Gw w) : Ans (F_is_data_word [.str w]) fun d => d = .bl (cap w) := by
  obtain ⟨c, r, e, hc, h0⟩ := gw_cons h
  have hb : Ans (F_begins_in [.str w, .str caps]) fun d => d = .bl (cap w) := by
    unfold F_begins_in
    rw [fnOf_none]
    unfold m_begins_in
    have hne : w ≠ "" := fun z => by
      have : w.cps.toList = [] := by rw [z]; rfl
      rw [e] at this; cases this
    refine fin_seq (fun s => s = [.pl (.str w), .pl (.str caps), .un]) (nxt_if (c := false) (by simp [isis_str, dEq, eqD, hne]) (fun z => nomatch z) fun _ => nxt_of rfl rfl) fun s e => ?_
    subst e
    cases hcap : cap w with
    | false =>
      have hs : strIn ⟨#[c]⟩ caps = false := hc.symm.trans hcap
      simp [h0, dNotIn, inD, hs]
    | true =>
      have hs : strIn ⟨#[c]⟩ caps = true := hc.symm.trans hcap
      refine fin_seq (fun s => s = [.pl (.str w), .pl (.str caps), .un]) (nxt_if (c := false) (by simp [h0, dNotIn, inD, hs]) (fun z => nomatch z) fun _ => nxt_of rfl rfl) fun s e => ?_
      subst e
      refine fin_seq (fun s => ∃ y, s = [.pl (.str w), .pl (.str caps), y]) ?_ fun s e => ?_
      · refine nxt_for (ds := w.cps.toList.map fun c => D.str ⟨#[c]⟩) (fun i s => ∃ y, s = [.pl (.str w), .pl (.str caps), y]) (by simp; rfl) ⟨_, rfl⟩ (fun i d s hdi hP => ?_) fun s hP => hP
        obtain ⟨y, rfl⟩ := hP
        rw [List.getElem?_map] at hdi
        obtain ⟨c', hc1, rfl⟩ := Option.map_eq_some_iff.mp hdi
        have hin := alnum_in c' (h.al c' (List.mem_of_getElem? hc1))
        rw [turn_n]
        exact nxt_if (c := false) (by simp [dNotIn, inD, hin]) (fun z => nomatch z) fun _ => nxt_of rfl ⟨_, rfl⟩
      · obtain ⟨y, rfl⟩ := e
        simp
  obtain ⟨d, ed, rfl⟩ := hb.eq
  unfold F_is_data_word
  rw [fnOf_none]
  unfold m_is_data_word
  simp [ed]
/-! ### where kinds begin -/
def ch : Nat → List Tk → List Nat
  | _, [] => []
  | k, .wd _ :: r => k :: ch (k + 1) r
  | k, .row _ :: r => k :: (ch (k + 1) r).drop 2
theorem ch_len : ∀ (r : List Tk) (k p : Nat), run p r = some 0 → (ch k r).length = p
  | [], k, p, h => by cases h; rfl
  | _ :: _, k, 0, h => by cases h
  | .wd _ :: r, k, p + 1, h => by
    simp only [ch, List.length_cons, ch_len r (k + 1) p h]
  | .row _ :: r, k, p + 1, h => by
    simp only [ch, List.length_cons, List.length_drop, ch_len r (k + 1) (p + 2) h]
    omega
theorem ch_at : ∀ (r : List Tk) (k m b : Nat), (ch k r)[m]? = some b → k ≤ b ∧ b < k + r.length ∧ ch b (r.drop (b - k)) = (ch k r).drop m
  | [], k, m, b, h => by simp [ch] at h
  | .wd x :: r, k, 0, b, h => by
    simp [ch] at h; subst h
    simp
  | .row x :: r, k, 0, b, h => by
    simp [ch] at h; subst h
    simp
  | .wd x :: r, k, m + 1, b, h => by
    simp only [ch, List.getElem?_cons_succ] at h
    obtain ⟨h1, h2, h3⟩ := ch_at r (k + 1) m b h
    refine ⟨by omega, by simp; omega, ?_⟩
    rw [show b - k = (b - (k + 1)) + 1 by omega, List.drop_succ_cons, h3]
    simp [ch]
  | .row x :: r, k, m + 1, b, h => by
    simp only [ch, List.getElem?_cons_succ, List.getElem?_drop] at h
    obtain ⟨h1, h2, h3⟩ := ch_at r (k + 1) (2 + m) b h
    refine ⟨by omega, by simp; omega, ?_⟩
    rw [show b - k = (b - (k + 1)) + 1 by omega, List.drop_succ_cons, h3]
    simp [ch]
theorem ch_lt {r : List Tk} {k m b : Nat} (h : (ch k r)[m + 1]? = some b) : k < b := by
  cases r with
  | nil => simp [ch] at h
  | cons t r =>
    cases t with
    | wd x =>
      simp only [ch, List.getElem?_cons_succ] at h
      exact (ch_at r (k + 1) m b h).1
    | row x =>
      simp only [ch, List.getElem?_cons_succ, List.getElem?_drop] at h
      exact (ch_at r (k + 1) (2 + m) b h).1
theorem ch_mono {r : List Tk} {k m n b b' : Nat} (h : (ch k r)[m]? = some b) (h' : (ch k r)[n]? = some b') (hmn : m < n) : b < b' := by
  obtain ⟨h1, h2, h3⟩ := ch_at r k m b h
  refine ch_lt (r := r.drop (b - k)) (k := b) (m := n - m - 1) (b := b') ?_
  rw [h3, List.getElem?_drop, show m + (n - m - 1 + 1) = n by omega]
  exact h'
theorem run_drop : ∀ (ts : List Tk) (p i : Nat), run p ts = some 0 → ∃ q, run q (ts.drop i) = some 0
  | ts, p, 0, h => ⟨p, h⟩
  | [], p, i + 1, h => ⟨0, rfl⟩
  | t :: r, p, i + 1, h => by
    obtain ⟨q, _, h2⟩ := run_cons h
    exact run_drop r _ i h2
/-- the end of the kind that begins at j -/
def eAt (ts : List Tk) (j : Nat) : Nat := ((ch j (ts.drop j))[1]?).getD ts.length
def nD (x : Nat) : D := .int (x : Int)
end VM.K03

set_option Elab.async false
set_option linter.all false
set_option autoImplicit false
set_option maxRecDepth 100000
set_option maxHeartbeats 400000
namespace VM.K03
open PySem PySem.Spec PyProof.Rows L2 VM
theorem ixt {xs : List D} {i : Nat} {d : D} (h : xs[i]? = some d) : dIx (.tup xs) (.int (i : Int)) = some d := by
  obtain ⟨h1, h2⟩ := List.getElem?_eq_some_iff.mp h
  show atI _ _ = _
  rw [atI_natL h1, h2]
theorem ixl {xs : List D} {i : Nat} {d : D} (h : xs[i]? = some d) : dIx (.lst xs) (.int (i : Int)) = some d := by
  obtain ⟨h1, h2⟩ := List.getElem?_eq_some_iff.mp h
  show atI _ _ = _
  rw [atI_natL h1, h2]
theorem tk_at {ts : List Tk} {i : Nat} {t : Tk} (h : ts[i]? = some t) : (ts.map Tk.d)[i]? = some t.d := by rw [List.getElem?_map, h]; rfl
theorem nat_at {E : List Nat} {i x : Nat} (h : E[i]? = some x) : (E.map nD)[i]? = some (.int (x : Int)) := by rw [List.getElem?_map, h]; rfl
theorem ch_first {ts : List Tk} {i : Nat} {t : Tk} (h : ts[i]? = some t) : ch i (ts.drop i) = i :: (ch i (ts.drop i)).drop 1 := by
  rw [drop_cons h]
  cases t <;> rfl
theorem eAt_wd {ts : List Tk} {i : Nat} {w : Str} (h : ts[i]? = some (.wd w)) : eAt ts i = i + 1 := by
  have hi : i < ts.length := (List.getElem?_eq_some_iff.mp h).1
  unfold eAt
  rw [drop_cons h]
  show ((ch (i + 1) (ts.drop (i + 1)))[0]?).getD ts.length = i + 1
  rcases Nat.lt_or_ge (i + 1) ts.length with q | q
  · rw [ch_first (List.getElem?_eq_getElem q)]
    rfl
  · rw [List.drop_of_length_le q]
    simp [ch]; omega
theorem eAt_row {ts : List Tk} {i : Nat} {ws : List Str} (h : ts[i]? = some (.row ws)) (hr : run 1 ts = some 0) : ∃ b, (ch (i + 1) (ts.drop (i + 1)))[1]? = some b ∧ eAt ts (i + 1) = b ∧ i + 1 < b ∧ b < ts.length ∧ eAt ts i = eAt ts b := by
  have hi : i < ts.length := (List.getElem?_eq_some_iff.mp h).1
  obtain ⟨p, hp⟩ := run_drop ts 1 i hr
  rw [drop_cons h] at hp
  obtain ⟨q, _, hq⟩ := run_cons hp
  have hl := ch_len _ (i + 1) (q + 2) hq
  obtain ⟨b, hb⟩ : ∃ b, (ch (i + 1) (ts.drop (i + 1)))[1]? = some b := ⟨_, List.getElem?_eq_getElem (by omega)⟩
  obtain ⟨h1, h2, h3⟩ := ch_at _ _ _ _ hb
  have h4 := ch_lt hb
  rw [List.length_drop] at h2
  rw [List.drop_drop, show i + 1 + (b - (i + 1)) = b by omega] at h3
  refine ⟨b, hb, ?_, h4, by omega, ?_⟩
  · unfold eAt
    rw [hb]
    rfl
  · unfold eAt
    rw [drop_cons h, h3]
    show (((ch (i + 1) (ts.drop (i + 1))).drop 2)[0]?).getD ts.length = _
    rw [List.getElem?_drop, List.getElem?_drop]
theorem put_ev {sv : SV} {i j : Nat} {xs : List D} {d : D} {m mk : M D} (h1 : m sv = .ok d sv) (h2 : sv[i]? = some (.ow (.lst xs))) (h3 : mk sv = .ok (.int (j : Int)) sv) (hj : j < xs.length) : mPut i m mk sv = .nx (sv.set i (.ow (.lst (xs.set j d)))) := by
  rw [ev_Put, ev_Bind, h1]
  simp [h2, h3, ixN_nat hj]
theorem m2_of {f : D → D → Option D} {ma mb : M D} {sv s1 s2 : SV} {a b d : D} (h1 : ma sv = .ok a s1) (h2 : mb s1 = .ok b s2) (h3 : f a b = some d) : m2 f ma mb sv = .ok d s2 := by
  rw [ev_2, h1, ev_ok, h2, ev_ok, h3]
theorem asgO_of {i : Nat} {m : M D} {sv s : SV} {d : D} (h : m sv = .ok d s) : mAsgO i m sv = .nx (s.set i (.ow d)) := by
  rw [ev_AsgO, ev_Bind, h]
theorem rep_if {xs : List D} {k : Int} {n : Nat} (e : k.toNat = n) (h : -(2 ^ 63) ≤ k ∧ k < 2 ^ 63 ∧ xs.length * k.toNat ≤ sizeLine) : dRep (.lst xs) (.int k) = some (.lst (List.replicate n xs).flatten) := by
  subst e
  exact if_pos h
theorem rep_b {n : Nat} (h : n ≤ 1000000) : -(2 ^ 63) ≤ (n : Int) ∧ (n : Int) < 2 ^ 63 := by constructor <;> omega
theorem rep_sz {n : Nat} (h : n ≤ 1000) (d : D) : [d].length * (n : Int).toNat ≤ sizeLine := by
  rw [Int.toNat_natCast]
  exact Nat.le_trans (Nat.le_of_eq (Nat.one_mul _)) (small_str h)
theorem rep_one (d : D) {n : Nat} (h : n ≤ 1000) : dRep (.lst [d]) (.int (n : Int)) = some (.lst (List.replicate n d)) := by
  have b := rep_b (n := n) (by omega)
  have q := rep_if (xs := [d]) (k := (n : Int)) (Int.toNat_natCast n) ⟨b.1, b.2, rep_sz h d⟩
  rw [List.flatten_replicate_singleton] at q
  exact q
theorem ends_ok {ts : List Tk} (hl : ts.length ≤ 200) (hr : run 1 ts = some 0) : Ans (F_kind_ends [.tup (ts.map Tk.d)]) fun d => ∃ E : List Nat, d = .tup (E.map nD) ∧ E.length = ts.length ∧ ∀ j, j < ts.length → E[j]? = some (eAt ts j) := by
  unfold F_kind_ends
  rw [fnOf_none]
  unfold m_kind_ends
  have h1 : 1 ≤ sizeLine := small_str (by decide)
  have hrep : dRep (.lst [.int 0]) (.int (ts.length : Int)) = some (.lst ((List.replicate ts.length 0).map nD)) := by
    have q := rep_one (.int 0) (n := ts.length) (by omega)
    rw [List.map_replicate]
    exact q
  refine fin_seq (fun s => s = [.pl (.tup (ts.map Tk.d)), .ow (.lst ((List.replicate ts.length 0).map nD)), .un, .un]) (nxt_of (asgO_of (m2_of (s1 := [.pl (.tup (ts.map Tk.d)), .un, .un, .un]) (s2 := [.pl (.tup (ts.map Tk.d)), .un, .un, .un]) (a := .lst [.int 0]) (b := .int (ts.length : Int)) (by simp [h1]) (by simp [dLen]) hrep)) rfl) fun s e => ?_
  subst e
  refine fin_seq (fun s => ∃ (E : List Nat) (y2 y3 : Sl), E.length = ts.length ∧ (∀ j, j < ts.length → E[j]? = some (eAt ts j)) ∧ s = [.pl (.tup (ts.map Tk.d)), .ow (.lst (E.map nD)), y2, y3]) ?_ fun s e => ?_
  · have hrg := rng1_of (ms := mCons (mCall1 dLen (mCons (mRd 0) mNil)) mNil) (sv := [.pl (.tup (ts.map Tk.d)), .ow (.lst ((List.replicate ts.length 0).map nD)), .un, .un]) (n := ts.length) (by simp [dLen]; rfl) (by omega)
    refine nxt_for (fun i s => ∃ (E : List Nat) (y2 y3 : Sl), E.length = ts.length ∧ (∀ j, ts.length - i ≤ j → j < ts.length → E[j]? = some (eAt ts j)) ∧ s = [.pl (.tup (ts.map Tk.d)), .ow (.lst (E.map nD)), y2, y3]) hrg ⟨List.replicate ts.length 0, .un, .un, by simp, fun j h1 h2 => by omega, by simp⟩ (fun i d s hdi hP => ?_) fun s hP => ?_
    · obtain ⟨E, y2, y3, hE, hEj, rfl⟩ := hP
      obtain ⟨hi, rfl⟩ := rngs_get hdi
      rw [turn_n]
      obtain ⟨pl, hpl⟩ : ∃ pl : Nat, (ts.length : Int) - 1 - (i : Int) = (pl : Int) ∧ pl + 1 + i = ts.length := ⟨ts.length - 1 - i, by omega, by omega⟩
      obtain ⟨hpl, hpn⟩ := hpl
      have hpi : pl < ts.length := by omega
      obtain ⟨t, ht⟩ : ∃ t, ts[pl]? = some t := ⟨_, List.getElem?_eq_getElem hpi⟩
      have hsub : ∀ a b : Int, dI2 cSub (.int a) (.int b) = some (.int (a - b)) := fun _ _ => rfl
      unfold b_kind_ends_0
      refine nxt_seq (fun s => s = [.pl (.tup (ts.map Tk.d)), .ow (.lst (E.map nD)), .pl (.int i), .pl (.int pl)]) (by simp [dLen, hsub, hpl]) fun s e => ?_
      subst e
      have hlenE : pl < (E.map nD).length := by simp [hE]; omega
      refine nxt_seq (fun s => s = [.pl (.tup (ts.map Tk.d)), .ow (.lst ((E.set pl (pl + 1)).map nD)), .pl (.int i), .pl (.int pl)]) ?_ fun s e => ?_
      · refine nxt_of (put_ev (d := nD (pl + 1)) (xs := E.map nD) (j := pl) (by simp [dAdd, nD]) rfl (by simp) hlenE) ?_
        rw [List.map_set]
        rfl
      subst e
      have hE2 : (E.set pl (pl + 1)).length = ts.length := by simp [hE]
      have hget : ∀ j, ts.length - i ≤ j → j < ts.length → (E.set pl (pl + 1))[j]? = some (eAt ts j) := fun j h1 h2 => by
        rw [List.getElem?_set_ne (by omega)]
        exact hEj j h1 h2
      have hself : (E.set pl (pl + 1))[pl]? = some (pl + 1) := by rw [List.getElem?_set_self (by omega)]
      have ixk := ixt (tk_at ht)
      generalize E.set pl (pl + 1) = E2 at hE2 hget hself
      cases t with
      | wd w =>
        refine nxt_if (c := false) (by simp [ixk, Tk.d, isi_str]) (fun z => nomatch z) fun _ => nxt_of rfl ⟨E2, _, _, hE2, fun j h1 h2 => ?_, rfl⟩
        rcases Nat.lt_or_ge pl j with h | h
        · exact hget j (by omega) h2
        · have : j = pl := by omega
          subst this
          rw [hself, eAt_wd ht]
      | row ws =>
        obtain ⟨b, hb, eb, hb1, hb2, hb3⟩ := eAt_row ht hr
        refine nxt_if (c := true) (by simp [ixk, Tk.d, isi_tup]) (fun _ => ?_) fun z => nomatch z
        have g1 := hget (pl + 1) (by omega) (by omega)
        rw [eb] at g1
        have g2 := hget b (by omega) hb2
        have i1 := ixl (nat_at g1)
        have i2 := ixl (nat_at g2)
        rw [show ((pl + 1 : Nat) : Int) = (pl : Int) + 1 by omega] at i1
        have hlen2 : pl < (E2.map nD).length := by simp [hE2]; omega
        refine nxt_of (put_ev (d := nD (eAt ts b)) (xs := E2.map nD) (j := pl) (by simp [dAdd, i1, i2, lfree, nD]) rfl (by simp) hlen2) ⟨E2.set pl (eAt ts b), .pl (.int i), .pl (.int pl), by simp [hE2], fun j h1 h2 => ?_, by rw [List.map_set]; rfl⟩
        rcases Nat.lt_or_ge pl j with h | h
        · rw [List.getElem?_set_ne (by omega)]
          exact hget j (by omega) h2
        · have : j = pl := by omega
          subst this
          rw [List.getElem?_set_self (by omega), hb3]
    · obtain ⟨E, y2, y3, hE, hEj, rfl⟩ := hP
      rw [rngs_len] at hEj
      exact ⟨E, y2, y3, hE, fun j hj => hEj j (by omega) hj, rfl⟩
  · obtain ⟨E, y2, y3, hE, hEj, rfl⟩ := e
    simp [dTuple]
    exact ⟨E, rfl, hE, hEj⟩
end VM.K03

set_option Elab.async false
set_option linter.all false
set_option autoImplicit false
set_option maxRecDepth 100000
set_option maxHeartbeats 400000
namespace VM.K03
open PySem PySem.Spec PyProof.Rows L2 VM
theorem call_of {n : Nat} {fn : Fn} {ms : M (List D)} {sv s : SV} {ds : List D} {d : D} (h1 : ms sv = .ok ds s) (h2 : fn ds = .ok d none) (h3 : ds.length = n) : mCall n fn [] ms sv = .ok d s := by
  rw [ev_Call, h1, ev_ok, List.append_nil, if_pos h3, h2, ev_frok]
theorem asg_of {i : Nat} {m : M D} {sv s : SV} {d : D} (h : m sv = .ok d s) : mAsg i m sv = .nx (s.set i (.pl d)) := by
  rw [ev_Asg, ev_Bind, h]
theorem turn_2 (i j : Nat) (b : MS) (x y : D) (s : SV) (P : SV → Prop) : Turn (mtTup 2 (mtCons (mtN i) (mtCons (mtN j) mtNil))) b (.tup [x, y]) s P = Nxt (b ((s.set i (.pl x)).set j (.pl y))) P := rfl
theorem enum_tk {ts : List Tk} {i : Nat} {d : D} (h : (enumD 0 (ts.map Tk.d))[i]? = some d) : ∃ t, ts[i]? = some t ∧ d = .tup [.int (i : Int), t.d] := by
  obtain ⟨e, h1, h2⟩ := enumD_get 0 _ i d h
  rw [List.getElem?_map] at h1
  obtain ⟨t, h3, rfl⟩ := Option.map_eq_some_iff.mp h1
  rw [Nat.zero_add] at h2
  exact ⟨t, h3, h2⟩
theorem int_at {S : List Int} {i : Nat} {x : Int} (h : S[i]? = some x) : (S.map D.int)[i]? = some (.int x) := by rw [List.getElem?_map, h]; rfl
theorem take_succ {S : List Int} {i : Nat} {s : Int} (h : S[i]? = some s) : S.take (i + 1) = S.take i ++ [s] := by rw [List.take_add_one, h]; rfl
theorem take_set {S : List Int} {i j : Nat} (s : Int) (h : i ≤ j) : (S.set j s).take i = S.take i := by
  apply List.ext_getElem?
  intro m
  rw [List.getElem?_take, List.getElem?_take]
  split
  · rw [List.getElem?_set_ne (by omega)]
  · rfl
structure Sg (ts : List Tk) (i : Nat) (st S : List Int) : Prop where
  ln : S.length = ts.length
  rn : run st.length (ts.drop i) = some 0
  tp : S.take i ++ tops st (ts.drop i) = tops [1] ts
  cn : ∀ (m : Nat) (s : Int), st[m]? = some s → ∃ c : Nat, (ch i (ts.drop i))[m]? = some c ∧ S[c]? = some s
theorem Sg.next {ts : List Tk} {i : Nat} {st S : List Int} {t : Tk} (h : Sg ts i st S) (ht : ts[i]? = some t) (hr : run 1 ts = some 0) : ∃ s st', st = s :: st' ∧ S[i]? = some s ∧
    (match t with | .wd _ => Sg ts (i + 1) st' S | .row _ => ∃ b, eAt ts (i + 1) = b ∧ i + 1 < b ∧ b < ts.length ∧ Sg ts (i + 1) (-s :: s :: st') ((S.set (i + 1) (-s)).set b s)) := by
  obtain ⟨hl, hrun, htp, hcn⟩ := h
  rw [drop_cons ht] at hrun htp hcn
  obtain ⟨q, hq, hrun2⟩ := run_cons hrun
  obtain ⟨s, st', rfl⟩ : ∃ s st', st = s :: st' := by
    cases st with
    | nil => simp at hq
    | cons a b => exact ⟨a, b, rfl⟩
  have hq' : st'.length = q := by simpa using hq
  obtain ⟨c, hc, hs⟩ := hcn 0 s rfl
  have hci : c = i := by cases t <;> (simp [ch] at hc; exact hc.symm)
  subst hci
  refine ⟨s, st', rfl, hs, ?_⟩
  cases t with
  | wd w =>
    refine ⟨hl, by rw [hq']; exact hrun2, ?_, fun m x hx => hcn (m + 1) x hx⟩
    rw [take_succ hs, List.append_assoc]
    exact htp
  | row ws =>
    obtain ⟨b, hb, eb, h1, h2, _⟩ := eAt_row ht hr
    refine ⟨b, eb, h1, h2, by simp [hl], by show run (st'.length + 2) _ = _; rw [hq']; exact hrun2, ?_, fun m x hx => ?_⟩
    · rw [take_set _ (by omega), take_set _ (by omega), take_succ hs, List.append_assoc]
      exact htp
    · have hl1 : (S.set (c + 1) (-s)).length = ts.length := by simp [hl]
      match m, hx with
      | 0, hx =>
        have hx' : -s = x := by simpa using hx
        subst hx'
        have hz : (ch (c + 1) (ts.drop (c + 1)))[0]? = some (c + 1) := by
          rw [ch_first (List.getElem?_eq_getElem (show c + 1 < ts.length by omega))]
          rfl
        refine ⟨c + 1, hz, ?_⟩
        rw [List.getElem?_set_ne (by omega), List.getElem?_set_self (by omega)]
      | 1, hx =>
        have hx' : s = x := by simpa using hx
        subst hx'
        exact ⟨b, hb, by rw [List.getElem?_set_self (by omega)]⟩
      | m + 2, hx =>
        have hx' : st'[m]? = some x := by simpa using hx
        obtain ⟨d, hd, hS⟩ := hcn (m + 1) x (by simpa using hx')
        have hd' : (ch (c + 1) (ts.drop (c + 1)))[m + 2]? = some d := by
          simp only [ch, List.getElem?_cons_succ, List.getElem?_drop] at hd
          rw [Nat.add_comm m 2]
          exact hd
        have l1 := ch_mono hb hd' (by omega)
        refine ⟨d, hd', ?_⟩
        rw [List.getElem?_set_ne (by omega), List.getElem?_set_ne (by omega)]
        exact hS
theorem signs_ok {ts : List Tk} (hl : ts.length ≤ 200) (hr : run 1 ts = some 0) : Ans (F_signs_of [.tup (ts.map Tk.d)]) fun d => d = .tup ((tops [1] ts).map .int) := by
  obtain ⟨dE, eE, E, rfl, hE, hEj⟩ := (ends_ok hl hr).eq
  unfold F_signs_of
  rw [fnOf_none]
  unfold m_signs_of
  have h1 : 1 ≤ sizeLine := small_str (by decide)
  have hrep : dRep (.lst [.int 1]) (.int (ts.length : Int)) = some (.lst ((List.replicate ts.length (1 : Int)).map .int)) := by
    have q := rep_one (.int 1) (n := ts.length) (by omega)
    rw [List.map_replicate]
    exact q
  refine fin_seq (fun s => s = [.pl (.tup (ts.map Tk.d)), .pl (.tup (E.map nD)), .un, .un, .un]) (nxt_of (asg_of (call_of (ds := [.tup (ts.map Tk.d)]) (s := [.pl (.tup (ts.map Tk.d)), .un, .un, .un, .un]) (by simp) eE rfl)) rfl) fun s e => ?_
  subst e
  refine fin_seq (fun s => s = [.pl (.tup (ts.map Tk.d)), .pl (.tup (E.map nD)), .ow (.lst ((List.replicate ts.length (1 : Int)).map .int)), .un, .un]) (nxt_of (asgO_of (m2_of (s1 := [.pl (.tup (ts.map Tk.d)), .pl (.tup (E.map nD)), .un, .un, .un]) (s2 := [.pl (.tup (ts.map Tk.d)), .pl (.tup (E.map nD)), .un, .un, .un]) (a := .lst [.int 1]) (b := .int (ts.length : Int)) (by simp [h1]) (by simp [dLen]) hrep)) rfl) fun s e => ?_
  subst e
  refine fin_seq (fun s => ∃ (y3 y4 : Sl), s = [.pl (.tup (ts.map Tk.d)), .pl (.tup (E.map nD)), .ow (.lst ((tops [1] ts).map .int)), y3, y4]) ?_ fun s e => ?_
  · refine nxt_for (ds := enumD 0 (ts.map Tk.d)) (fun i s => ∃ (st S : List Int) (y3 y4 : Sl), Sg ts i st S ∧ s = [.pl (.tup (ts.map Tk.d)), .pl (.tup (E.map nD)), .ow (.lst (S.map .int)), y3, y4]) (by simp) ⟨[1], List.replicate ts.length 1, .un, .un, ⟨by simp, by simpa using hr, by simp, fun m s hm => ?_⟩, rfl⟩ (fun i d s hdi hP => ?_) fun s hP => ?_
    · match m, hm with
      | 0, hm =>
        have hm' : (1 : Int) = s := by simpa using hm
        subst hm'
        cases ts with
        | nil => cases hr
        | cons t r => exact ⟨0, by cases t <;> rfl, rfl⟩
    · obtain ⟨st, S, y3, y4, hS, rfl⟩ := hP
      obtain ⟨t, ht, rfl⟩ := enum_tk hdi
      have hi : i < ts.length := (List.getElem?_eq_some_iff.mp ht).1
      obtain ⟨s, st', rfl, hSi, hN⟩ := hS.next ht hr
      have i1 := ixl (int_at hSi)
      rw [turn_2]
      unfold b_signs_of_0
      cases t with
      | wd w =>
        refine nxt_if (c := false) (by simp [Tk.d, isi_str]) (fun z => nomatch z) fun _ => nxt_of rfl ⟨st', S, _, _, hN, rfl⟩
      | row ws =>
        obtain ⟨b, eb, hb1, hb2, hN⟩ := hN
        refine nxt_if (c := true) (by simp [Tk.d, isi_tup]) (fun _ => ?_) fun z => nomatch z
        have hl1 : i + 1 < (S.map D.int).length := by simp [hS.ln]; omega
        have hl2 : b < ((S.set (i + 1) (-s)).map D.int).length := by simp [hS.ln]; omega
        have hE1 := ixt (nat_at (hEj (i + 1) (by omega)))
        rw [eb, show ((i + 1 : Nat) : Int) = (i : Int) + 1 by omega] at hE1
        have hSi2 : (S.set (i + 1) (-s))[i]? = some s := by rw [List.getElem?_set_ne (by omega)]; exact hSi
        have i2 := ixl (int_at hSi2)
        refine nxt_seq (fun s' => s' = [.pl (.tup (ts.map Tk.d)), .pl (.tup (E.map nD)), .ow (.lst ((S.set (i + 1) (-s)).map .int)), .pl (.int i), .pl (Tk.row ws).d]) ?_ fun s' e => ?_
        · refine nxt_of (put_ev (d := .int (-s)) (xs := S.map D.int) (j := i + 1) (by simp [i1, lfree, dNeg]) rfl (by simp [dAdd]) hl1) ?_
          rw [List.map_set]
          rfl
        subst e
        refine nxt_of (put_ev (d := .int s) (xs := (S.set (i + 1) (-s)).map D.int) (j := b) ?_ rfl (by simp [dAdd, hE1]) hl2) ⟨_, _, _, _, hN, by rw [List.map_set (f := D.int) (i := b)]; rfl⟩
        generalize (S.set (i + 1) (-s)).map D.int = L at i2
        simp [i2, lfree]
    · obtain ⟨st, S, y3, y4, hS, rfl⟩ := hP
      have h2 := hS.tp
      rw [enumD_len, List.length_map, List.drop_length, ← hS.ln, List.take_length] at h2
      have : tops st [] = [] := by cases st <;> rfl
      rw [this, List.append_nil] at h2
      subst h2
      exact ⟨_, _, rfl⟩
  · obtain ⟨y3, y4, rfl⟩ := e
    simp [dTuple]
end VM.K03

set_option Elab.async false
set_option linter.all false
set_option autoImplicit false
set_option maxRecDepth 100000
set_option maxHeartbeats 400000
namespace VM.K03
open PySem PySem.Spec PyProof.Rows L2 VM
theorem mB_of {m : M D} {sv s : SV} {b : Bool} (h : m sv = .ok (.bl b) s) : mB m sv = .ok b s := by rw [ev_B, h]; rfl
theorem stand_body {ts : List Tk} {G : List Int} {i : Nat} {t : Tk} (ht : ts[i]? = some t) (hgt : Gt t) {s : Int} (hs : G[i]? = some s) {fs : List (Nat × Int × Str)} (hfs : fs.length ≤ 1200) (y5 : Sl) :
    Nxt (b_standing_in_2 [.pl (.tup (ts.map Tk.d)), .pl (.tup (G.map .int)), .ow (.lst (fs.map trD)), .pl (.int i), .pl t.d, y5]) fun s' => ∃ y5, s' = [.pl (.tup (ts.map Tk.d)), .pl (.tup (G.map .int)), .ow (.lst ((fs ++ piece i s t).map trD)), .pl (.int i), .pl t.d, y5] := by
  have ig := ixt (int_at hs)
  have h3 : 3 ≤ sizeLine := small_str (by decide)
  have hsm : ∀ n : Nat, n ≤ 2000 → n < sizeLine := fun n h => Nat.lt_of_le_of_lt h (by decide)
  unfold b_standing_in_2
  cases t with
  | row ws =>
    have hws := hgt.1
    refine nxt_if (c := true) (by simp [Tk.d, isi_tup]) (fun _ => ?_) fun z => nomatch z
    refine nxt_for (ds := ws.map .str) (fun j s' => ∃ y5, s' = [.pl (.tup (ts.map Tk.d)), .pl (.tup (G.map .int)), .ow (.lst ((fs ++ piece i s (.row (ws.take j))).map trD)), .pl (.int i), .pl (.tup (ws.map .str)), y5]) (by simp [Tk.d]; rfl) ⟨y5, by simp [piece, Tk.d]⟩ (fun j d s' hdj hP => ?_) fun s' hP => ?_
    · obtain ⟨y6, rfl⟩ := hP
      obtain ⟨w, hw, rfl⟩ : ∃ w, ws[j]? = some w ∧ D.str w = d := by simpa using hdj
      have hj : j < ws.length := (List.getElem?_eq_some_iff.mp hw).1
      rw [turn_n]
      have hpc : piece i s (.row (ws.take (j + 1))) = piece i s (.row (ws.take j)) ++ [(i, s, w)] := by simp [piece, List.take_add_one, hw]
      have hlen : ((fs ++ piece i s (.row (ws.take j))).map trD).length < sizeLine := hsm _ (by simp [piece]; omega)
      refine nxt_of (s := [.pl (.tup (ts.map Tk.d)), .pl (.tup (G.map .int)), .ow (.lst ((fs ++ piece i s (.row (ws.take j))).map trD ++ [trD (i, s, w)])), .pl (.int i), .pl (.tup (ws.map .str)), .pl (.str w)]) ?_ ⟨.pl (.str w), by rw [hpc]; simp⟩
      generalize (fs ++ piece i s (.row (ws.take j))).map trD = L at hlen
      simp [b_standing_in_0, h3, hlen, trD, ig]
    · obtain ⟨y6, rfl⟩ := hP
      exact ⟨y6, by simp [Tk.d]⟩
  | wd w =>
    refine nxt_if (c := false) (by simp [Tk.d, isi_str]) (fun z => nomatch z) fun _ => ?_
    obtain ⟨d, ed, rfl⟩ := (data_word_ok (w := w) hgt).eq
    refine nxt_if (c := cap w) (mB_of (call_of (ds := [.str w]) (by simp [Tk.d]) ed rfl)) (fun z => ?_) fun z => ?_
    · have h1 : fs.length < sizeLine := hsm _ (by omega)
      simp [piece, z, Tk.d, h1, h3, trD, ig]
    · simp [piece, z, Tk.d]
theorem standing_in_ok {ts : List Tk} (hg : ∀ t ∈ ts, Gt t) (hl : ts.length ≤ 200) (hr : run 1 ts = some 0) : Ans (F_standing_in [.tup (ts.map Tk.d)]) fun d => d = .tup ((triples ts).map trD) := by
  obtain ⟨dE, eE, rfl⟩ := (signs_ok hl hr).eq
  have hG : (tops [1] ts).length = ts.length := tops_len ts [1] 0 hr
  have htot : trs 0 (tops [1] ts) ts = triples ts := rfl
  generalize triples ts = T at htot
  generalize tops [1] ts = G at hG eE htot
  unfold F_standing_in
  rw [fnOf_none]
  unfold m_standing_in
  refine fin_seq (fun s => s = [.pl (.tup (ts.map Tk.d)), .pl (.tup (G.map .int)), .un, .un, .un, .un]) (nxt_of (asg_of (call_of (ds := [.tup (ts.map Tk.d)]) (s := [.pl (.tup (ts.map Tk.d)), .un, .un, .un, .un, .un]) (by simp) eE rfl)) rfl) fun s e => ?_
  subst e
  refine fin_seq (fun s => s = [.pl (.tup (ts.map Tk.d)), .pl (.tup (G.map .int)), .ow (.lst []), .un, .un, .un]) (by simp) fun s e => ?_
  subst e
  refine fin_seq (fun s => ∃ (y3 y4 y5 : Sl), s = [.pl (.tup (ts.map Tk.d)), .pl (.tup (G.map .int)), .ow (.lst (T.map trD)), y3, y4, y5]) ?_ fun s e => ?_
  · refine nxt_for (ds := enumD 0 (ts.map Tk.d)) (fun i s => ∃ (fs : List (Nat × Int × Str)) (y3 y4 y5 : Sl), fs ++ trs i (G.drop i) (ts.drop i) = T ∧ fs.length ≤ 6 * i ∧ s = [.pl (.tup (ts.map Tk.d)), .pl (.tup (G.map .int)), .ow (.lst (fs.map trD)), y3, y4, y5]) (by simp) ⟨[], .un, .un, .un, htot, by simp, rfl⟩ (fun i d s hdi hP => ?_) fun s hP => ?_
    · obtain ⟨fs, y3, y4, y5, hf, hfl, rfl⟩ := hP
      obtain ⟨t, ht, rfl⟩ := enum_tk hdi
      have hi : i < ts.length := (List.getElem?_eq_some_iff.mp ht).1
      obtain ⟨s, hs⟩ : ∃ s, G[i]? = some s := ⟨_, List.getElem?_eq_getElem (by omega)⟩
      rw [drop_cons ht, drop_cons hs] at hf
      have hgt := hg t (List.mem_of_getElem? ht)
      rw [turn_2]
      refine nxt_mono (stand_body ht hgt hs (fs := fs) (by omega) y5) fun s' e => ?_
      obtain ⟨y5, rfl⟩ := e
      refine ⟨fs ++ piece i s t, _, _, _, ?_, ?_, rfl⟩
      · rw [List.append_assoc]
        exact hf
      · have := piece_len i s hgt
        simp; omega
    · obtain ⟨fs, y3, y4, y5, hf, hfl, rfl⟩ := hP
      rw [enumD_len, List.length_map, List.drop_length] at hf
      have : trs ts.length (G.drop ts.length) [] = [] := by cases G.drop ts.length <;> rfl
      rw [this, List.append_nil] at hf
      subst hf
      exact ⟨_, _, _, rfl⟩
  · obtain ⟨y3, y4, y5, rfl⟩ := e
    simp [dTuple]
/-! ### moved -/
theorem moved_ok {xs : List (Nat × Int × Str)} (h : ∀ x ∈ xs, Bd x) (hl : xs.length ≤ 1200) (c : Nat) (t : Int) : Ans (F__law_moved [.tup (xs.map trD), .int c, .int t]) fun d => d = .tup ((xs.map (mv c t)).map trD) := by
  unfold F__law_moved
  rw [fnOf_none]
  unfold m__law_moved
  have h3 : 3 ≤ sizeLine := small_str (by decide)
  have hsm : ∀ n : Nat, n ≤ 2000 → n < sizeLine := fun n h => Nat.lt_of_le_of_lt h (by decide)
  have go : ∀ (ys : List (Nat × Int × Str)) (acc : List D) (y : Sl), (∀ x ∈ ys, Bd x) → acc.length + ys.length ≤ 1200 → ∃ s', lcL [3] (mtN 3) mYes (mTup (mCons (m2 dAdd (m2 dIx (mRd 3) (mC (.int 0))) (mRd 1)) (mCons (m2 (dI2 cMul) (m2 dIx (mRd 3) (mC (.int 1))) (mRd 2)) (mCons (m2 dIx (mRd 3) (mC (.int 2))) mNil)))) (ys.map trD) [.pl (.tup (xs.map trD)), .pl (.int c), .pl (.int t), .un] acc = .ok (acc ++ (ys.map (mv c t)).map trD) s' := fun ys => by
    induction ys with
    | nil => intro acc y _ _; exact ⟨_, by simp [lcL]; rfl⟩
    | cons x r ih =>
      intro acc y hb hle
      obtain ⟨k, s, w⟩ := x
      have hs := (hb _ (List.mem_cons_self)).s
      have hm : cMul s t = some (.int (s * t)) := cMulL t (by rcases hs with e | e <;> (dsimp only at e; omega)) (by rcases hs with e | e <;> (dsimp only at e; omega))
      have i0 : dIx (.tup [.int (k : Int), .int s, .str w]) (.int 0) = some (.int k) := rfl
      have i1 : dIx (.tup [.int (k : Int), .int s, .str w]) (.int 1) = some (.int s) := rfl
      have i2 : dIx (.tup [.int (k : Int), .int s, .str w]) (.int 2) = some (.str w) := rfl
      simp only [List.length_cons] at hle
      have ha : acc.length < sizeLine := hsm _ (by omega)
      obtain ⟨s', e⟩ := ih (acc ++ [trD (mv c t (k, s, w))]) .un (fun x hx => hb x (by simp [hx])) (by simp; omega)
      refine ⟨s', ?_⟩
      rw [List.map_cons, lcL]
      simp only [ev_tN, ev_yes, List.set_cons_succ, List.set_cons_zero]
      have he : mTup (mCons (m2 dAdd (m2 dIx (mRd 3) (mC (.int 0))) (mRd 1)) (mCons (m2 (dI2 cMul) (m2 dIx (mRd 3) (mC (.int 1))) (mRd 2)) (mCons (m2 dIx (mRd 3) (mC (.int 2))) mNil))) [.pl (.tup (xs.map trD)), .pl (.int c), .pl (.int t), .pl (trD (k, s, w))] = .ok (trD (mv c t (k, s, w))) [.pl (.tup (xs.map trD)), .pl (.int c), .pl (.int t), .pl (trD (k, s, w))] := by
        simp [trD, i0, i1, i2, dAdd, dI2, hm, h3, mv]
      rw [he]
      dsimp only
      rw [if_pos ha]
      have hw : wipeV [.pl (.tup (xs.map trD)), .pl (.int c), .pl (.int t), .pl (trD (k, s, w))] [3] = [.pl (.tup (xs.map trD)), .pl (.int c), .pl (.int t), .un] := rfl
      rw [hw, e]
      simp
  obtain ⟨s', e⟩ := go xs [] .un h (by simpa using hl)
  have hml : (mLc [3] (mItems (mRd 0)) (mtN 3) mYes (mTup (mCons (m2 dAdd (m2 dIx (mRd 3) (mC (.int 0))) (mRd 1)) (mCons (m2 (dI2 cMul) (m2 dIx (mRd 3) (mC (.int 1))) (mRd 2)) (mCons (m2 dIx (mRd 3) (mC (.int 2))) mNil))))) [.pl (.tup (xs.map trD)), .pl (.int c), .pl (.int t), .un] = .ok (.lst ((xs.map (mv c t)).map trD)) (restV [3] [.pl (.tup (xs.map trD)), .pl (.int c), .pl (.int t), .un] s') := by
    unfold mLc
    simp only [ev_Items, ev_Rd, ev_ok, List.getElem?_cons_zero, ev_it1]
    have ho : ownOk [3] [.pl (.tup (xs.map trD)), .pl (.int c), .pl (.int t), .un] = true := rfl
    have hw : wipeV [.pl (.tup (xs.map trD)), .pl (.int c), .pl (.int t), .un] [3] = [.pl (.tup (xs.map trD)), .pl (.int c), .pl (.int t), .un] := rfl
    rw [if_pos ho, hw, e]
    rfl
  have hi : initA none 0 [.tup (xs.map trD), .int (c : Int), .int t] ++ List.replicate (4 - [D.tup (xs.map trD), .int (c : Int), .int t].length) Sl.un = [.pl (.tup (xs.map trD)), .pl (.int c), .pl (.int t), .un] := rfl
  rw [hi, ev_Ret, ev_Bind, ev_Call1, ev_cons, hml]
  simp [dTuple]
end VM.K03

set_option Elab.async false
set_option linter.all false
set_option autoImplicit false
set_option maxRecDepth 100000
set_option maxHeartbeats 1000000
namespace VM.K03
open PySem PySem.Spec PyProof.Rows L2 VM
abbrev lower : Str := "abcdefghijklmnopqrstuvwxyz"
abbrev res : List Str := ["fun", "of", "case", "ask", "keep", "under", "as", "to", "with", "gives", "data", "maker"]
def wlB (fs : List Nat) (n : Nat) (w : Str) : Bool := match w.cps.toList with
  | [] => false
  | c :: r => fs.contains c && (c :: r).all (fun x => alnum.contains x) && decide (w.length ≤ n)
theorem wlB_ok {fs : List Nat} {n : Nat} {w : Str} (h : wlB fs n w = true) : Wl fs n w := by
  unfold wlB at h
  split at h
  · cases h
  · rename_i c r e
    simp only [Bool.and_eq_true, List.all_eq_true, decide_eq_true_eq] at h
    obtain ⟨⟨h1, h2⟩, h3⟩ := h
    exact ⟨⟨c, r, e, List.contains_iff_mem.mp h1⟩, fun x hx => List.contains_iff_mem.mp (h2 x (e ▸ hx)), h3⟩
theorem res_ok : ∀ w ∈ res, Wl lower.cps.toList 12 w := by
  have : res.all (fun w => wlB lower.cps.toList 12 w) = true := by decide +kernel
  intro w hw
  exact wlB_ok (List.all_eq_true.mp this w hw)
theorem fs_lower : Fs lower := ⟨by decide +kernel, by
  have : lower.cps.toList.all (fun x => alnum.contains x) = true := by decide +kernel
  intro c hc
  exact List.contains_iff_mem.mp (List.all_eq_true.mp this c hc)⟩
theorem fs_caps : Fs caps := ⟨by decide +kernel, by
  have : caps.cps.toList.all (fun x => alnum.contains x) = true := by decide +kernel
  intro c hc
  exact List.contains_iff_mem.mp (List.all_eq_true.mp this c hc)⟩
theorem low_cap {w : Str} (h : Wl lower.cps.toList 12 w) : cap w = false := by
  obtain ⟨c, r, e, hc⟩ := h.hd
  have : lower.cps.toList.all (fun x => !strIn ⟨#[x]⟩ caps) = true := by decide +kernel
  have q := List.all_eq_true.mp this c hc
  unfold cap
  rw [e]
  simpa using q
theorem cap_cap {w : Str} (h : Wl caps.cps.toList 12 w) : cap w = true := by
  obtain ⟨c, r, e, hc⟩ := h.hd
  have : caps.cps.toList.all (fun x => strIn ⟨#[x]⟩ caps) = true := by decide +kernel
  have q := List.all_eq_true.mp this c hc
  unfold cap
  rw [e]
  exact q
theorem upper_lower : dUpper (.str lower) = some (.str caps) := by
  have h1 : lower.length ≤ 5592405 := by decide +kernel
  have h2 : Txt.upper lower = caps := by decide +kernel
  unfold dUpper
  dsimp only
  rw [if_pos h1, h2]
theorem reserved_ok : F__law_reserved [] = .ok (.lst (res.map .str)) none := by
  have h12 : 12 ≤ sizeLine := small_str (by decide)
  unfold F__law_reserved
  rw [fnOf_none]
  unfold m__law_reserved
  simp [h12]
theorem rd_of {sv : SV} {i : Nat} {d : D} (h : sv[i]? = some (.pl d)) : mRd i sv = .ok d sv := by rw [ev_Rd, h]
theorem cons_of {m : M D} {ms : M (List D)} {sv s1 s2 : SV} {d : D} {ds : List D} (h1 : m sv = .ok d s1) (h2 : ms s1 = .ok ds s2) : mCons m ms sv = .ok (d :: ds) s2 := by rw [ev_cons, h1, ev_ok, h2, ev_ok]
theorem nil_of {sv : SV} : mNil sv = .ok [] sv := rfl
theorem c_of {sv : SV} {d : D} : mC d sv = .ok d sv := rfl
theorem call1_of {f : List D → Option D} {ms : M (List D)} {sv s : SV} {ds : List D} {d : D} (h1 : ms sv = .ok ds s) (h2 : f ds = some d) : mCall1 f ms sv = .ok d s := by rw [ev_Call1, h1, ev_ok, h2]
theorem tup_of {ms : M (List D)} {sv s : SV} {ds : List D} (h1 : ms sv = .ok ds s) (h2 : ds.length ≤ 1000) : mTup ms sv = .ok (.tup ds) s := by rw [ev_Tup, h1, ev_ok, if_pos (small_str h2)]
theorem callK_of {n k : Nat} {fn : Fn} {mk : M (List D)} {sv s : SV} {ds : List D} {d : D} (h1 : mk sv = .ok ds s) (h2 : fn ds = .ok d none) (h3 : ds.length = n) (h4 : ds.length = k) : mCallK n fn (kj 0 k) mNil mk sv = .ok d s := by
  have e : kj 0 k [] ds = ds := by unfold kj; rw [if_pos ⟨rfl, h4⟩]; rfl
  rw [ev_CallK, ev_nil, ev_ok, h1, ev_ok, e, if_pos h3, h2, ev_frok]
theorem catT {xs ys : List D} (h : xs.length + ys.length ≤ 5000) : dAdd (.tup xs) (.tup ys) = some (.tup (xs ++ ys)) := by
  unfold dAdd
  dsimp only
  rw [if_pos (Nat.le_trans h (by decide))]
theorem catL {xs ys : List D} (h : xs.length + ys.length ≤ 5000) : dAdd (.lst xs) (.lst ys) = some (.lst (xs ++ ys)) := by
  unfold dAdd
  dsimp only
  rw [if_pos (Nat.le_trans h (by decide))]
/-- a kind whose answers are known -/
structure Kd (ts : List Tk) : Prop where
  g : ∀ t ∈ ts, Gt t
  l : ts.length ≤ 100
  r : run 1 ts = some 0
theorem Kd.same {ts : List Tk} (h : Kd ts) : F__law_same [.tup ((triples ts).map trD), .tup ((triples ts).map trD)] = .ok (.bl true) none := by
  have b := triples_bd h.g (by have := h.l; omega)
  obtain ⟨d, e, rfl⟩ := (same_ok b.1 b.2).eq
  exact e
theorem Kd.a {ts : List Tk} (h : Kd ts) : F_standing_in [.tup (ts.map Tk.d)] = .ok (.tup ((triples ts).map trD)) none := by
  obtain ⟨d, e, rfl⟩ := (standing_in_ok h.g (by have := h.l; omega) h.r).eq
  exact e
theorem Kd.b {ts : List Tk} (h : Kd ts) : F__law_standing [.tup (ts.map Tk.d)] = .ok (.tup ((triples ts).map trD)) none := by
  obtain ⟨d, e, rfl⟩ := (standing_ok h.g h.l h.r).eq
  exact e
theorem lc_row (sv : SV) (i : Nat) (ws : List Str) (hl : ws.length ≤ 1000) (me : M D) (h0 : sv.length = 17) (h16 : sv[16]? = some .un) (hi : mItems (mRd i) sv = .ok (ws.map .str) sv) : mLc [16] (mItems (mRd i)) (mtN 16) mYes (mTup (mCons (mC (.int 0)) (mCons (mC (.int 1)) (mCons (mRd 16) mNil)))) sv = .ok (.lst ((ws.map fun w => ((0 : Nat), (1 : Int), w)).map trD)) sv := by
  have h3 : 3 ≤ sizeLine := small_str (by decide)
  obtain ⟨a0, a1, a2, a3, a4, a5, a6, a7, a8, a9, a10, a11, a12, a13, a14, a15, a16, rfl⟩ : ∃ a0 a1 a2 a3 a4 a5 a6 a7 a8 a9 a10 a11 a12 a13 a14 a15 a16, sv = [a0, a1, a2, a3, a4, a5, a6, a7, a8, a9, a10, a11, a12, a13, a14, a15, a16] := by
    match sv, h0 with
    | [a0, a1, a2, a3, a4, a5, a6, a7, a8, a9, a10, a11, a12, a13, a14, a15, a16], _ => exact ⟨a0, a1, a2, a3, a4, a5, a6, a7, a8, a9, a10, a11, a12, a13, a14, a15, a16, rfl⟩
  have e16 : a16 = .un := by simpa using h16
  subst e16
  have go : ∀ (ys : List Str) (acc : List D), acc.length + ys.length ≤ 1000 → lcL [16] (mtN 16) mYes (mTup (mCons (mC (.int 0)) (mCons (mC (.int 1)) (mCons (mRd 16) mNil)))) (ys.map .str) [a0, a1, a2, a3, a4, a5, a6, a7, a8, a9, a10, a11, a12, a13, a14, a15, .un] acc = .ok (acc ++ (ys.map fun w => ((0 : Nat), (1 : Int), w)).map trD) [a0, a1, a2, a3, a4, a5, a6, a7, a8, a9, a10, a11, a12, a13, a14, a15, .un] := fun ys => by
    induction ys with
    | nil => intro acc _; simp
    | cons x r ih =>
      intro acc hle
      simp only [List.length_cons] at hle
      have ha : acc.length < sizeLine := small1000 (by omega)
      rw [List.map_cons, lcL]
      simp only [ev_tN, ev_yes, List.set_cons_succ, List.set_cons_zero]
      have he : mTup (mCons (mC (.int 0)) (mCons (mC (.int 1)) (mCons (mRd 16) mNil))) [a0, a1, a2, a3, a4, a5, a6, a7, a8, a9, a10, a11, a12, a13, a14, a15, .pl (.str x)] = .ok (trD (0, 1, x)) [a0, a1, a2, a3, a4, a5, a6, a7, a8, a9, a10, a11, a12, a13, a14, a15, .pl (.str x)] := by
        simp [trD, h3]
      rw [he]
      dsimp only
      rw [if_pos ha]
      have hw : wipeV [a0, a1, a2, a3, a4, a5, a6, a7, a8, a9, a10, a11, a12, a13, a14, a15, .pl (.str x)] [16] = [a0, a1, a2, a3, a4, a5, a6, a7, a8, a9, a10, a11, a12, a13, a14, a15, .un] := rfl
      rw [hw, ih _ (by simp; omega)]
      simp
  unfold mLc
  rw [hi, ev_ok]
  have ho : ownOk [16] [a0, a1, a2, a3, a4, a5, a6, a7, a8, a9, a10, a11, a12, a13, a14, a15, .un] = true := rfl
  have hw : wipeV [a0, a1, a2, a3, a4, a5, a6, a7, a8, a9, a10, a11, a12, a13, a14, a15, .un] [16] = [a0, a1, a2, a3, a4, a5, a6, a7, a8, a9, a10, a11, a12, a13, a14, a15, .un] := rfl
  rw [if_pos ho, hw, go ws [] (by simpa using hl)]
  rfl
end VM.K03

set_option Elab.async false
set_option linter.all false
set_option autoImplicit false
set_option maxRecDepth 100000
set_option maxHeartbeats 1000000
namespace VM.K03
open PySem PySem.Spec PyProof.Rows L2 VM
theorem not_of {t : M Bool} {sv s : SV} {b : Bool} (h : t sv = .ok b s) : mNot t sv = .ok (!b) s := by rw [ev_Not, h, ev_ok]
theorem with_pl {ok : D → Bool} {i : Nat} {m : M D} {sv : SV} {d : D} {r : R D} (h : sv[i]? = some (.pl d)) (k : m sv = r) : mWith ok i m sv = r := by
  rw [ev_With, h]
  exact k
theorem m1_of {f : D → Option D} {m : M D} {sv s : SV} {a d : D} (h1 : m sv = .ok a s) (h2 : f a = some d) : m1 f m sv = .ok d s := by rw [ev_1, h1, ev_ok, h2]
theorem andT_of {a b : M D} {sv s : SV} {r : R D} (h1 : a sv = .ok (.bl true) s) (h2 : b s = r) : mAndV a b sv = r := by
  unfold mAndV
  rw [h1, ev_ok]
  exact h2
theorem items_of {m : M D} {sv s : SV} {d : D} {ds : List D} (h1 : m sv = .ok d s) (h2 : itemsD d = some ds) : mItems m sv = .ok ds s := by rw [ev_Items, h1, ev_ok, h2]
theorem lst_of {ms : M (List D)} {sv s : SV} {ds : List D} (h1 : ms sv = .ok ds s) (h2 : ds.length ≤ 1000) : mLst ms sv = .ok (.lst ds) s := by rw [ev_Lst, h1, ev_ok, if_pos (small_str h2)]
theorem dg_at {ds : List Int} {i : Nat} {x : Int} (h : ds[i]? = some x) : dIx (.lst (ds.map .int)) (.int (i : Int)) = some (.int x) := ixl (int_at h)
theorem put_mem {b : List Str} {w : Str} {i : Nat} {P : Str → Prop} (hb : ∀ x ∈ b, P x) (hw : P w) : ∀ x ∈ b.set i w, P x := fun x hx => by
  rcases List.mem_or_eq_of_mem_set hx with h | h
  · exact hb x h
  · exact h ▸ hw
theorem fin_ret {m : M D} {sv s : SV} {d : D} {P : D → Prop} (h : m sv = .ok d s) (hp : P d) : Ans (endN false (mRet m sv)) P := by
  rw [ev_Ret, ev_Bind, h]
  exact ⟨_, rfl, hp⟩
def zs5 : List Int := [3, 12, 6, 12, 192]
theorem law_tail {ns ms : List Int} {b cs as ar : List Str} {fi on tw : List Tk} {cp b1 b0 : Str} {y14 : Sl} (hon : Kd on) (htw : Kd tw) (hj : Kd (Tk.row ar :: (on ++ tw))) (hwh : Kd [Tk.row as, .wd cp, .wd b1]) (har : ar.length ≤ 6) (has : as.length ≤ 6)
    (hb0 : dIx (.lst (b.map .str)) (.int 0) = some (.str b0)) (gb0 : Wl lower.cps.toList 12 b0) (gb1 : Wl lower.cps.toList 12 b1) (gcp : Wl caps.cps.toList 12 cp) (ol : on.length ≤ 40) :
    Ans (endN false ((mSeq (mAsg 15 (m2 dAdd (mCall1 dTuple (mCons (mLc [16] (mItems (mRd 10)) (mtN 16) mYes (mTup (mCons (mC (.int 0)) (mCons (mC (.int 1)) (mCons (mRd 16) mNil))))) mNil)) (mCall 3 F__law_moved [] (mCons (mCall 1 F__law_standing [] (mCons (mRd 8) mNil)) (mCons (mC (.int 1)) (mCons (m1 dNeg (mC (.int 1))) mNil))))))
  (mSeq (mAsg 15 (m2 dAdd (mRd 15) (mCall 3 F__law_moved [] (mCons (mCall 1 F__law_standing [] (mCons (mRd 9) mNil)) (mCons (m2 dAdd (mC (.int 1)) (mCall1 dLen (mCons (mRd 8) mNil))) (mCons (mC (.int 1)) mNil))))))
  (mSeq (mIfS (mNot (mB (mCall 2 F__law_same [] (mCons (mCallK 1 F_standing_in (kj 0 1) mNil (mCons (mRd 11) mNil)) (mCons (mRd 15) mNil))))) (mRet (mC (.bl false))) mSkip)
  (mSeq (mAsg 15 (m2 dAdd (mCall1 dTuple (mCons (mLc [16] (mItems (mRd 4)) (mtN 16) mYes (mTup (mCons (mC (.int 0)) (mCons (mC (.int 1)) (mCons (mRd 16) mNil))))) mNil)) (mTup (mCons (mTup (mCons (mC (.int 1)) (mCons (m1 dNeg (mC (.int 1))) (mCons (mRd 12) mNil)))) mNil))))
  (mRet (mAndV (mCall 2 F__law_same [] (mCons (mCallK 1 F_standing_in (kj 0 1) mNil (mCons (mRd 13) mNil)) (mCons (mRd 15) mNil))) (mCall 2 F__law_same [] (mCons (mCall 1 F_standing_in [] (mCons (mTup (mCons (mWith lfree 2 (m2 dIx (mRd 2) (mC (.int 0)))) mNil)) mNil)) (mCons (mTup mNil) mNil))))))))) [.pl (.fl (ns.map .int)), .pl (.str lower), .pl (.lst (b.map .str)), .pl (.lst (cs.map .str)), .pl (.lst (as.map .str)), .pl (.lst (ms.map .int)), .pl (.lst ((b ++ cs).map .str)), .pl (.tup (fi.map Tk.d)), .pl (.tup (on.map Tk.d)), .pl (.tup (tw.map Tk.d)), .pl (.tup (ar.map .str)), .pl (.tup ((Tk.row ar :: (on ++ tw)).map Tk.d)), .pl (.str cp), .pl (.tup ([Tk.row as, .wd cp, .wd b1].map Tk.d)), y14, .un, .un])) fun d => d = .bl true := by
  have jl := (joined_law (ar := ar) hon.r htw.r).2
  have jm : (triples (Tk.row ar :: (on ++ tw))).map trD = (ar.map fun w => ((0 : Nat), (1 : Int), w)).map trD ++ ((triples on).map (mv 1 (-1))).map trD ++ ((triples tw).map (mv (1 + on.length) 1)).map trD := by
    rw [show triples (Tk.row ar :: (on ++ tw)) = _ from jl, List.map_append, List.map_append]
  have bo := triples_bd hon.g (by have := hon.l; omega)
  have bt := triples_bd htw.g (by have := htw.l; omega)
  obtain ⟨d1, mo1, rfl⟩ := (moved_ok bo.1 bo.2 1 (-1)).eq
  obtain ⟨d2, mo2, rfl⟩ := (moved_ok bt.1 bt.2 (1 + on.length) 1).eq
  have mo1' : F__law_moved [.tup ((triples on).map trD), .int 1, .int (-1)] = _ := mo1
  have neg : ∀ sv, m1 dNeg (mC (.int 1)) sv = .ok (.int (-1)) sv := fun sv => rfl
  have hadd : dAdd (.int 1) (.int (on.length : Int)) = some (.int ((1 + on.length : Nat) : Int)) := by
    show some (D.int (1 + (on.length : Int))) = _
    rw [show ((1 + on.length : Nat) : Int) = 1 + (on.length : Int) by omega]
  have hlen : dLen [.tup (on.map Tk.d)] = some (.int (on.length : Int)) := by
    show some (D.int ((on.map Tk.d).length : Int)) = _
    rw [List.length_map]
  refine fin_seq (fun s => s = [.pl (.fl (ns.map .int)), .pl (.str lower), .pl (.lst (b.map .str)), .pl (.lst (cs.map .str)), .pl (.lst (as.map .str)), .pl (.lst (ms.map .int)), .pl (.lst ((b ++ cs).map .str)), .pl (.tup (fi.map Tk.d)), .pl (.tup (on.map Tk.d)), .pl (.tup (tw.map Tk.d)), .pl (.tup (ar.map .str)), .pl (.tup ((Tk.row ar :: (on ++ tw)).map Tk.d)), .pl (.str cp), .pl (.tup ([Tk.row as, .wd cp, .wd b1].map Tk.d)), y14, .pl (.tup ((ar.map fun w => ((0 : Nat), (1 : Int), w)).map trD ++ ((triples on).map (mv 1 (-1))).map trD)), .un]) (nxt_of (asg_of (m2_of (call1_of (cons_of (lc_row [.pl (.fl (ns.map .int)), .pl (.str lower), .pl (.lst (b.map .str)), .pl (.lst (cs.map .str)), .pl (.lst (as.map .str)), .pl (.lst (ms.map .int)), .pl (.lst ((b ++ cs).map .str)), .pl (.tup (fi.map Tk.d)), .pl (.tup (on.map Tk.d)), .pl (.tup (tw.map Tk.d)), .pl (.tup (ar.map .str)), .pl (.tup ((Tk.row ar :: (on ++ tw)).map Tk.d)), .pl (.str cp), .pl (.tup ([Tk.row as, .wd cp, .wd b1].map Tk.d)), y14, .un, .un] 10 ar (by omega) (mC .non) rfl rfl (items_of (rd_of rfl) rfl)) nil_of) rfl) (call_of (cons_of (call_of (cons_of (rd_of rfl) nil_of) hon.b rfl) (cons_of c_of (cons_of (neg _) nil_of))) mo1' rfl) (catT (by have := bo.2; simp only [List.length_map]; omega)))) (rfl)) fun s e => ?_
  subst e
  refine fin_seq (fun s => s = [.pl (.fl (ns.map .int)), .pl (.str lower), .pl (.lst (b.map .str)), .pl (.lst (cs.map .str)), .pl (.lst (as.map .str)), .pl (.lst (ms.map .int)), .pl (.lst ((b ++ cs).map .str)), .pl (.tup (fi.map Tk.d)), .pl (.tup (on.map Tk.d)), .pl (.tup (tw.map Tk.d)), .pl (.tup (ar.map .str)), .pl (.tup ((Tk.row ar :: (on ++ tw)).map Tk.d)), .pl (.str cp), .pl (.tup ([Tk.row as, .wd cp, .wd b1].map Tk.d)), y14, .pl (.tup ((triples (Tk.row ar :: (on ++ tw))).map trD)), .un]) (nxt_of (asg_of (m2_of (rd_of rfl) (call_of (cons_of (call_of (cons_of (rd_of rfl) nil_of) htw.b rfl) (cons_of (m2_of c_of (call1_of (cons_of (rd_of rfl) nil_of) hlen) hadd) (cons_of c_of nil_of))) mo2 rfl) (catT (by have := bo.2; have := bt.2; simp only [List.length_map, List.length_append]; omega)))) (by rw [jm]; rfl)) fun s e => ?_
  subst e
  refine fin_seq (fun s => s = [.pl (.fl (ns.map .int)), .pl (.str lower), .pl (.lst (b.map .str)), .pl (.lst (cs.map .str)), .pl (.lst (as.map .str)), .pl (.lst (ms.map .int)), .pl (.lst ((b ++ cs).map .str)), .pl (.tup (fi.map Tk.d)), .pl (.tup (on.map Tk.d)), .pl (.tup (tw.map Tk.d)), .pl (.tup (ar.map .str)), .pl (.tup ((Tk.row ar :: (on ++ tw)).map Tk.d)), .pl (.str cp), .pl (.tup ([Tk.row as, .wd cp, .wd b1].map Tk.d)), y14, .pl (.tup ((triples (Tk.row ar :: (on ++ tw))).map trD)), .un]) (nxt_if (c := false) (not_of (mB_of (b := true) (call_of (cons_of (callK_of (cons_of (rd_of rfl) nil_of) hj.a rfl rfl) (cons_of (rd_of rfl) nil_of)) hj.same rfl))) (fun z => nomatch z) fun _ => nxt_of rfl rfl) fun s e => ?_
  subst e
  have wl : triples [Tk.row as, .wd cp, .wd b1] = (as.map fun w => ((0 : Nat), (1 : Int), w)) ++ [((1 : Nat), (-1 : Int), cp)] := by
    show (as.map fun w => ((0 : Nat), (1 : Int), w)) ++ ((if cap cp = true then [((1 : Nat), (-1 : Int), cp)] else []) ++ ((if cap b1 = true then [((2 : Nat), (1 : Int), b1)] else []) ++ [])) = _
    rw [if_pos (cap_cap gcp), if_neg (by rw [low_cap gb1]; exact Bool.false_ne_true)]
    simp
  have wm : (triples [Tk.row as, .wd cp, .wd b1]).map trD = (as.map fun w => ((0 : Nat), (1 : Int), w)).map trD ++ [trD ((1 : Nat), (-1 : Int), cp)] := by
    rw [wl, List.map_append]
    rfl
  refine fin_seq (fun s => s = [.pl (.fl (ns.map .int)), .pl (.str lower), .pl (.lst (b.map .str)), .pl (.lst (cs.map .str)), .pl (.lst (as.map .str)), .pl (.lst (ms.map .int)), .pl (.lst ((b ++ cs).map .str)), .pl (.tup (fi.map Tk.d)), .pl (.tup (on.map Tk.d)), .pl (.tup (tw.map Tk.d)), .pl (.tup (ar.map .str)), .pl (.tup ((Tk.row ar :: (on ++ tw)).map Tk.d)), .pl (.str cp), .pl (.tup ([Tk.row as, .wd cp, .wd b1].map Tk.d)), y14, .pl (.tup ((triples [Tk.row as, .wd cp, .wd b1]).map trD)), .un]) (nxt_of (asg_of (m2_of (call1_of (cons_of (lc_row [.pl (.fl (ns.map .int)), .pl (.str lower), .pl (.lst (b.map .str)), .pl (.lst (cs.map .str)), .pl (.lst (as.map .str)), .pl (.lst (ms.map .int)), .pl (.lst ((b ++ cs).map .str)), .pl (.tup (fi.map Tk.d)), .pl (.tup (on.map Tk.d)), .pl (.tup (tw.map Tk.d)), .pl (.tup (ar.map .str)), .pl (.tup ((Tk.row ar :: (on ++ tw)).map Tk.d)), .pl (.str cp), .pl (.tup ([Tk.row as, .wd cp, .wd b1].map Tk.d)), y14, .pl (.tup ((triples (Tk.row ar :: (on ++ tw))).map trD)), .un] 4 as (by omega) (mC .non) rfl rfl (items_of (rd_of rfl) rfl)) nil_of) rfl) (tup_of (cons_of (tup_of (cons_of c_of (cons_of (neg _) (cons_of (rd_of rfl) nil_of))) (by simp)) nil_of) (by simp)) (catT (by simp only [List.length_map, List.length_cons, List.length_nil]; omega)))) (by rw [wm]; rfl)) fun s e => ?_
  subst e
  have k0 : Kd [Tk.wd b0] := ⟨fun t ht => by
    have : t = Tk.wd b0 := by simpa using ht
    subst this
    exact gb0.gw, by simp, rfl⟩
  have t0 : triples [Tk.wd b0] = [] := by
    show (if cap b0 = true then [((0 : Nat), (1 : Int), b0)] else []) ++ [] = _
    rw [if_neg (by rw [low_cap gb0]; exact Bool.false_ne_true)]
    rfl
  have s0 := k0.same
  have a0 := k0.a
  rw [t0] at s0 a0
  exact fin_ret (andT_of (call_of (cons_of (callK_of (cons_of (rd_of rfl) nil_of) hwh.a rfl rfl) (cons_of (rd_of rfl) nil_of)) hwh.same rfl) (call_of (cons_of (call_of (cons_of (tup_of (cons_of (with_pl rfl (m2_of (rd_of rfl) c_of hb0)) nil_of) (by simp)) nil_of) a0 rfl) (cons_of (tup_of nil_of (by simp)) nil_of)) s0 rfl)) rfl
end VM.K03

set_option Elab.async false
set_option linter.all false
set_option autoImplicit false
set_option maxRecDepth 100000
set_option maxHeartbeats 1000000
namespace VM.K03
open PySem PySem.Spec PyProof.Rows L2 VM
theorem zs5_sz : ∀ z ∈ zs5, SizeOk z := by
  unfold SizeOk
  have : zs5.all (fun z => decide (0 < z ∧ z < 1000)) = true := by decide +kernel
  intro z hz
  have h := List.all_eq_true.mp this z hz
  exact of_decide_eq_true h
theorem sorted_of {ws : List Str} (h : ws.length < 64) : dSorted [.lst (ws.map .str)] = some (.lst ((sortS ws).map .str)) := by
  unfold dSorted
  dsimp only
  rw [txts_map]
  dsimp only
  rw [if_pos h]
theorem dig {ds : List Int} {zs : List Int} (hl : ds.length = zs.length) (hb : ∀ (i : Nat) (z e : Int), zs[i]? = some z → ds[i]? = some e → 0 ≤ e ∧ e < z) {i : Nat} {z : Int} (hz : zs[i]? = some z) : ∃ n : Nat, dIx (.lst (ds.map .int)) (.int (i : Int)) = some (.int (n : Int)) ∧ (n : Int) < z := by
  obtain ⟨h1, _⟩ := List.getElem?_eq_some_iff.mp hz
  have e1 : ds[i]? = some (ds[i]'(by omega)) := List.getElem?_eq_getElem (by omega)
  obtain ⟨b1, b2⟩ := hb i z _ hz e1
  refine ⟨(ds[i]'(by omega)).toNat, ?_, ?_⟩
  · rw [dg_at e1, Int.toNat_of_nonneg b1]
  · rw [Int.toNat_of_nonneg b1]; exact b2
theorem ix_mod {ws : List Str} {n : Nat} (h : n < ws.length) : ∃ w, w ∈ ws ∧ dIx (.lst (ws.map .str)) (.int (n : Int)) = some (.str w) := ⟨_, List.getElem_mem h, ix_lstr h⟩
theorem law_true (ns : List Int) (hn : ns.length ≤ 63) : F_law [.fl (ns.map .int)] = .ok (.bl true) none := by
  have main : Ans (F_law [.fl (ns.map .int)]) fun d => d = .bl true := by
    obtain ⟨_, eb, b, rfl, hb, wb⟩ := (words_ok (ns := ns) (a := 0) (m := 3) (bs := []) fs_lower (by omega) (by simp)).eq
    obtain ⟨_, ec, cs, rfl, hc, wc⟩ := (words_ok (ns := ns) (a := 1) (m := 3) (bs := []) fs_caps (by omega) (by simp)).eq
    obtain ⟨_, ea, a0, rfl, ha0, wa0⟩ := (words_ok (ns := ns) (a := 2) (m := 6) (bs := res) fs_lower (by omega) (by simp)).eq
    obtain ⟨_, e4, c4, rfl⟩ := (cell_ok ns 4).eq
    obtain ⟨_, e5, c5, rfl⟩ := (cell_ok ns 5).eq
    obtain ⟨_, e6, c6, rfl⟩ := (cell_ok ns 6).eq
    obtain ⟨_, e7, c7, rfl⟩ := (cell_ok ns 7).eq
    obtain ⟨_, em, ms, rfl, hm, bm⟩ := (digits_ok c4 zs5 zs5_sz (by simp [zs5])).eq
    obtain ⟨x0, d0, hx0⟩ := dig hm bm (i := 0) (z := 3) rfl
    obtain ⟨x1, d1, hx1⟩ := dig hm bm (i := 1) (z := 12) rfl
    obtain ⟨x2, d2, hx2⟩ := dig hm bm (i := 2) (z := 6) rfl
    obtain ⟨x3, d3, hx3⟩ := dig hm bm (i := 3) (z := 12) rfl
    obtain ⟨x4, d4, hx4⟩ := dig hm bm (i := 4) (z := 192) rfl
    have hsort := sorted_of (ws := a0) (by omega)
    have has : (sortS a0).length = 6 := by unfold sortS; rw [List.length_mergeSort]; exact ha0
    have was : ∀ w ∈ sortS a0, Wl lower.cps.toList 12 w := fun w hw => wa0 w (by unfold sortS at hw; exact List.mem_mergeSort.mp hw)
    generalize sortS a0 = as at hsort has was
    have eb' : F__law_words [.fl (ns.map .int), .int 0, .int 3, .str lower, .lst []] = .ok (.lst (b.map .str)) none := eb
    have ec' : F__law_words [.fl (ns.map .int), .int 1, .int 3, .str caps, .lst []] = .ok (.lst (cs.map .str)) none := ec
    have ea' : F__law_words [.fl (ns.map .int), .int 2, .int 6, .str lower, .lst (res.map .str)] = .ok (.lst (a0.map .str)) none := ea
    have e4' : F__law_cell [.fl (ns.map .int), .int 4] = .ok (.int c4) none := e4
    have e5' : F__law_cell [.fl (ns.map .int), .int 5] = .ok (.int c5) none := e5
    have e6' : F__law_cell [.fl (ns.map .int), .int 6] = .ok (.int c6) none := e6
    have e7' : F__law_cell [.fl (ns.map .int), .int 7] = .ok (.int c7) none := e7
    have d0' : dIx (.lst (ms.map .int)) (.int 0) = some (.int (x0 : Int)) := d0
    have d1' : dIx (.lst (ms.map .int)) (.int 1) = some (.int (x1 : Int)) := d1
    have d2' : dIx (.lst (ms.map .int)) (.int 2) = some (.int (x2 : Int)) := d2
    have d3' : dIx (.lst (ms.map .int)) (.int 3) = some (.int (x3 : Int)) := d3
    have d4' : dIx (.lst (ms.map .int)) (.int 4) = some (.int (x4 : Int)) := d4
    have e51 : 5 ≤ sizeLine := small_str (by decide)
    unfold F_law
    rw [fnOf_none]
    unfold m_law
    refine fin_seq (fun s => s = [.pl (.fl (ns.map .int)), .pl (.str lower), .un, .un, .un, .un, .un, .un, .un, .un, .un, .un, .un, .un, .un, .un, .un]) (nxt_of (asg_of c_of) (rfl)) fun s e => ?_
    subst e
    refine fin_seq (fun s => s = [.pl (.fl (ns.map .int)), .pl (.str lower), .ow (.lst (b.map .str)), .un, .un, .un, .un, .un, .un, .un, .un, .un, .un, .un, .un, .un, .un]) (nxt_of (asgO_of (call_of (s := [.pl (.fl (ns.map .int)), .pl (.str lower), .un, .un, .un, .un, .un, .un, .un, .un, .un, .un, .un, .un, .un, .un, .un]) (cons_of (rd_of rfl) (cons_of c_of (cons_of c_of (cons_of (rd_of rfl) (cons_of (lst_of nil_of (by simp)) nil_of))))) eb' rfl)) (rfl)) fun s e => ?_
    subst e
    refine fin_seq (fun s => s = [.pl (.fl (ns.map .int)), .pl (.str lower), .ow (.lst (b.map .str)), .pl (.lst (cs.map .str)), .un, .un, .un, .un, .un, .un, .un, .un, .un, .un, .un, .un, .un]) (nxt_of (asg_of (call_of (s := [.pl (.fl (ns.map .int)), .pl (.str lower), .ow (.lst (b.map .str)), .un, .un, .un, .un, .un, .un, .un, .un, .un, .un, .un, .un, .un, .un]) (cons_of (rd_of rfl) (cons_of c_of (cons_of c_of (cons_of (m1_of (rd_of rfl) upper_lower) (cons_of (lst_of nil_of (by simp)) nil_of))))) ec' rfl)) (rfl)) fun s e => ?_
    subst e
    refine fin_seq (fun s => s = [.pl (.fl (ns.map .int)), .pl (.str lower), .ow (.lst (b.map .str)), .pl (.lst (cs.map .str)), .pl (.lst (as.map .str)), .un, .un, .un, .un, .un, .un, .un, .un, .un, .un, .un, .un]) (nxt_of (asg_of (call1_of (s := [.pl (.fl (ns.map .int)), .pl (.str lower), .ow (.lst (b.map .str)), .pl (.lst (cs.map .str)), .un, .un, .un, .un, .un, .un, .un, .un, .un, .un, .un, .un, .un]) (cons_of (call_of (cons_of (rd_of rfl) (cons_of c_of (cons_of c_of (cons_of (rd_of rfl) (cons_of (call_of nil_of reserved_ok rfl) nil_of))))) ea' rfl) nil_of) hsort)) (rfl)) fun s e => ?_
    subst e
    refine fin_seq (fun s => s = [.pl (.fl (ns.map .int)), .pl (.str lower), .ow (.lst (b.map .str)), .pl (.lst (cs.map .str)), .pl (.lst (as.map .str)), .pl (.lst (ms.map .int)), .un, .un, .un, .un, .un, .un, .un, .un, .un, .un, .un]) (nxt_of (asg_of (call_of (s := [.pl (.fl (ns.map .int)), .pl (.str lower), .ow (.lst (b.map .str)), .pl (.lst (cs.map .str)), .pl (.lst (as.map .str)), .un, .un, .un, .un, .un, .un, .un, .un, .un, .un, .un, .un]) (cons_of (call_of (cons_of (rd_of rfl) (cons_of c_of nil_of)) e4' rfl) (cons_of (by simp [e51]; rfl) nil_of)) (show F__law_digits [.int c4, .lst (zs5.map .int)] = _ from em) rfl)) (rfl)) fun s e => ?_
    subst e
    refine fin_seq (fun s => ∃ b : List Str, b.length = 3 ∧ (∀ w ∈ b, Wl lower.cps.toList 12 w) ∧ s = [.pl (.fl (ns.map .int)), .pl (.str lower), .ow (.lst (b.map .str)), .pl (.lst (cs.map .str)), .pl (.lst (as.map .str)), .pl (.lst (ms.map .int)), .un, .un, .un, .un, .un, .un, .un, .un, .un, .un, .un]) (nxt_if (c := decide ((x0 : Int) = 1)) (mB_of (m2_of (m2_of (rd_of rfl) c_of d0') c_of rfl)) (fun _ => ?_) fun _ => nxt_of rfl ⟨b, hb, wb, rfl⟩) fun s e => ?_
    · obtain ⟨w1, hw1, iw1⟩ := ix_mod (ws := res) (n := x1) (by show x1 < 12; omega)
      exact nxt_of (put_ev (d := .str w1) (j := 1) (xs := b.map .str) (m2_of (call_of nil_of reserved_ok rfl) (m2_of (rd_of rfl) c_of d1') iw1) rfl c_of (by simp [hb])) ⟨b.set 1 w1, by simp [hb], put_mem wb (res_ok w1 hw1), by rw [List.map_set]; rfl⟩
    obtain ⟨b, hb, wb, rfl⟩ := e
    refine fin_seq (fun s => ∃ b : List Str, b.length = 3 ∧ (∀ w ∈ b, Wl lower.cps.toList 12 w) ∧ s = [.pl (.fl (ns.map .int)), .pl (.str lower), .ow (.lst (b.map .str)), .pl (.lst (cs.map .str)), .pl (.lst (as.map .str)), .pl (.lst (ms.map .int)), .un, .un, .un, .un, .un, .un, .un, .un, .un, .un, .un]) (nxt_if (c := decide ((x0 : Int) = 2)) (mB_of (m2_of (m2_of (rd_of rfl) c_of d0') c_of rfl)) (fun _ => ?_) fun _ => nxt_of rfl ⟨b, hb, wb, rfl⟩) fun s e => ?_
    · obtain ⟨w1, hw1, iw1⟩ := ix_mod (ws := as) (n := x2) (by omega)
      exact nxt_of (put_ev (d := .str w1) (j := 1) (xs := b.map .str) (m2_of (rd_of rfl) (m2_of (rd_of rfl) c_of d2') iw1) rfl c_of (by simp [hb])) ⟨b.set 1 w1, by simp [hb], put_mem wb (was w1 hw1), by rw [List.map_set]; rfl⟩
    obtain ⟨b, hb, wb, rfl⟩ := e
    refine fin_seq (fun s => s = [.pl (.fl (ns.map .int)), .pl (.str lower), .pl (.lst (b.map .str)), .pl (.lst (cs.map .str)), .pl (.lst (as.map .str)), .pl (.lst (ms.map .int)), .pl (.lst ((b ++ cs).map .str)), .un, .un, .un, .un, .un, .un, .un, .un, .un, .un]) (nxt_of (asg_of (m2_of (s1 := [.pl (.fl (ns.map .int)), .pl (.str lower), .pl (.lst (b.map .str)), .pl (.lst (cs.map .str)), .pl (.lst (as.map .str)), .pl (.lst (ms.map .int)), .un, .un, .un, .un, .un, .un, .un, .un, .un, .un, .un]) (s2 := [.pl (.fl (ns.map .int)), .pl (.str lower), .pl (.lst (b.map .str)), .pl (.lst (cs.map .str)), .pl (.lst (as.map .str)), .pl (.lst (ms.map .int)), .un, .un, .un, .un, .un, .un, .un, .un, .un, .un, .un]) (a := .lst (b.map .str)) (by simp) (rd_of rfl) (catL (by simp only [List.length_map]; omega)))) (by rw [List.map_append]; rfl)) fun s e => ?_
    subst e
    have gw : ∀ w ∈ b ++ cs, Gw w := fun w hw => by
      rcases List.mem_append.mp hw with h | h
      · exact (wb w h).gw
      · exact (wc w h).gw
    have gas : ∀ w ∈ as, Gw w := fun w hw => (was w hw).gw
    obtain ⟨_, f1, fi, rfl, r1, l1, g1⟩ := (drawn_ok (c := c5) (mo := 31) (ws := b ++ cs) (as := as) (by omega) gw gas (by simp; omega) (by omega)).eq
    obtain ⟨_, f2, on, rfl, r2, l2, g2⟩ := (drawn_ok (c := c6) (mo := 15) (ws := b ++ cs) (as := as) (by omega) gw gas (by simp; omega) (by omega)).eq
    obtain ⟨_, f3, tw, rfl, r3, l3, g3⟩ := (drawn_ok (c := c7) (mo := 15) (ws := b ++ cs) (as := as) (by omega) gw gas (by simp; omega) (by omega)).eq
    have f1' : F__law_drawn [.int c5, .int 31, .lst ((b ++ cs).map .str), .lst (as.map .str)] = .ok (.tup (fi.map Tk.d)) none := f1
    have f2' : F__law_drawn [.int c6, .int 15, .lst ((b ++ cs).map .str), .lst (as.map .str)] = .ok (.tup (on.map Tk.d)) none := f2
    have f3' : F__law_drawn [.int c7, .int 15, .lst ((b ++ cs).map .str), .lst (as.map .str)] = .ok (.tup (tw.map Tk.d)) none := f3
    obtain ⟨_, f4, ar, rfl, l4, g4⟩ := (subset_ok (ws := as) (x4 : Int) (by omega)).eq
    have hmod : dI2 cMod (.int (x3 : Int)) (.int 3) = some (.int ((x3 % 3 : Nat) : Int)) := rfl
    have hdiv : dI2 cDiv (.int (x3 : Int)) (.int 3) = some (.int ((x3 / 3 : Nat) : Int)) := rfl
    have hmod2 : dI2 cMod (.int ((x3 / 3 : Nat) : Int)) (.int 3) = some (.int ((x3 / 3 % 3 : Nat) : Int)) := rfl
    obtain ⟨cp, hcp, icp⟩ := ix_mod (ws := cs) (n := x3 % 3) (by omega)
    obtain ⟨b1, hb1, ib1⟩ := ix_mod (ws := b) (n := x3 / 3 % 3) (by omega)
    obtain ⟨b0, hb0, ib0⟩ := ix_mod (ws := b) (n := 0) (by omega)
    have jq : (Tk.row ar :: (on ++ tw)).map Tk.d = [D.tup (ar.map .str)] ++ on.map Tk.d ++ tw.map Tk.d := by
      rw [List.map_cons, List.map_append (f := Tk.d)]
      rfl
    refine fin_seq (fun s => s = [.pl (.fl (ns.map .int)), .pl (.str lower), .pl (.lst (b.map .str)), .pl (.lst (cs.map .str)), .pl (.lst (as.map .str)), .pl (.lst (ms.map .int)), .pl (.lst ((b ++ cs).map .str)), .pl (.tup (fi.map Tk.d)), .un, .un, .un, .un, .un, .un, .un, .un, .un]) (nxt_of (asg_of (call_of (s := [.pl (.fl (ns.map .int)), .pl (.str lower), .pl (.lst (b.map .str)), .pl (.lst (cs.map .str)), .pl (.lst (as.map .str)), .pl (.lst (ms.map .int)), .pl (.lst ((b ++ cs).map .str)), .un, .un, .un, .un, .un, .un, .un, .un, .un, .un]) (cons_of (call_of (cons_of (rd_of rfl) (cons_of c_of nil_of)) e5' rfl) (cons_of c_of (cons_of (rd_of rfl) (cons_of (rd_of rfl) nil_of)))) f1' rfl)) (rfl)) fun s e => ?_
    subst e
    refine fin_seq (fun s => s = [.pl (.fl (ns.map .int)), .pl (.str lower), .pl (.lst (b.map .str)), .pl (.lst (cs.map .str)), .pl (.lst (as.map .str)), .pl (.lst (ms.map .int)), .pl (.lst ((b ++ cs).map .str)), .pl (.tup (fi.map Tk.d)), .pl (.tup (on.map Tk.d)), .un, .un, .un, .un, .un, .un, .un, .un]) (nxt_of (asg_of (call_of (s := [.pl (.fl (ns.map .int)), .pl (.str lower), .pl (.lst (b.map .str)), .pl (.lst (cs.map .str)), .pl (.lst (as.map .str)), .pl (.lst (ms.map .int)), .pl (.lst ((b ++ cs).map .str)), .pl (.tup (fi.map Tk.d)), .un, .un, .un, .un, .un, .un, .un, .un, .un]) (cons_of (call_of (cons_of (rd_of rfl) (cons_of c_of nil_of)) e6' rfl) (cons_of c_of (cons_of (rd_of rfl) (cons_of (rd_of rfl) nil_of)))) f2' rfl)) (rfl)) fun s e => ?_
    subst e
    refine fin_seq (fun s => s = [.pl (.fl (ns.map .int)), .pl (.str lower), .pl (.lst (b.map .str)), .pl (.lst (cs.map .str)), .pl (.lst (as.map .str)), .pl (.lst (ms.map .int)), .pl (.lst ((b ++ cs).map .str)), .pl (.tup (fi.map Tk.d)), .pl (.tup (on.map Tk.d)), .pl (.tup (tw.map Tk.d)), .un, .un, .un, .un, .un, .un, .un]) (nxt_of (asg_of (call_of (s := [.pl (.fl (ns.map .int)), .pl (.str lower), .pl (.lst (b.map .str)), .pl (.lst (cs.map .str)), .pl (.lst (as.map .str)), .pl (.lst (ms.map .int)), .pl (.lst ((b ++ cs).map .str)), .pl (.tup (fi.map Tk.d)), .pl (.tup (on.map Tk.d)), .un, .un, .un, .un, .un, .un, .un, .un]) (cons_of (call_of (cons_of (rd_of rfl) (cons_of c_of nil_of)) e7' rfl) (cons_of c_of (cons_of (rd_of rfl) (cons_of (rd_of rfl) nil_of)))) f3' rfl)) (rfl)) fun s e => ?_
    subst e
    refine fin_seq (fun s => s = [.pl (.fl (ns.map .int)), .pl (.str lower), .pl (.lst (b.map .str)), .pl (.lst (cs.map .str)), .pl (.lst (as.map .str)), .pl (.lst (ms.map .int)), .pl (.lst ((b ++ cs).map .str)), .pl (.tup (fi.map Tk.d)), .pl (.tup (on.map Tk.d)), .pl (.tup (tw.map Tk.d)), .pl (.tup (ar.map .str)), .un, .un, .un, .un, .un, .un]) (nxt_of (asg_of (call_of (s := [.pl (.fl (ns.map .int)), .pl (.str lower), .pl (.lst (b.map .str)), .pl (.lst (cs.map .str)), .pl (.lst (as.map .str)), .pl (.lst (ms.map .int)), .pl (.lst ((b ++ cs).map .str)), .pl (.tup (fi.map Tk.d)), .pl (.tup (on.map Tk.d)), .pl (.tup (tw.map Tk.d)), .un, .un, .un, .un, .un, .un, .un]) (cons_of (rd_of rfl) (cons_of (m2_of (rd_of rfl) c_of d4') nil_of)) f4 rfl)) (rfl)) fun s e => ?_
    subst e
    refine fin_seq (fun s => s = [.pl (.fl (ns.map .int)), .pl (.str lower), .pl (.lst (b.map .str)), .pl (.lst (cs.map .str)), .pl (.lst (as.map .str)), .pl (.lst (ms.map .int)), .pl (.lst ((b ++ cs).map .str)), .pl (.tup (fi.map Tk.d)), .pl (.tup (on.map Tk.d)), .pl (.tup (tw.map Tk.d)), .pl (.tup (ar.map .str)), .pl (.tup ((Tk.row ar :: (on ++ tw)).map Tk.d)), .un, .un, .un, .un, .un]) (nxt_of (asg_of (m2_of (s1 := [.pl (.fl (ns.map .int)), .pl (.str lower), .pl (.lst (b.map .str)), .pl (.lst (cs.map .str)), .pl (.lst (as.map .str)), .pl (.lst (ms.map .int)), .pl (.lst ((b ++ cs).map .str)), .pl (.tup (fi.map Tk.d)), .pl (.tup (on.map Tk.d)), .pl (.tup (tw.map Tk.d)), .pl (.tup (ar.map .str)), .un, .un, .un, .un, .un, .un]) (s2 := [.pl (.fl (ns.map .int)), .pl (.str lower), .pl (.lst (b.map .str)), .pl (.lst (cs.map .str)), .pl (.lst (as.map .str)), .pl (.lst (ms.map .int)), .pl (.lst ((b ++ cs).map .str)), .pl (.tup (fi.map Tk.d)), .pl (.tup (on.map Tk.d)), .pl (.tup (tw.map Tk.d)), .pl (.tup (ar.map .str)), .un, .un, .un, .un, .un, .un]) (m2_of (tup_of (cons_of (rd_of rfl) nil_of) (by simp)) (rd_of rfl) (catT (by simp only [List.length_map, List.length_cons, List.length_nil]; omega))) (rd_of rfl) (catT (by simp only [List.length_map, List.length_cons, List.length_nil, List.length_append]; omega)))) (by rw [jq]; rfl)) fun s e => ?_
    subst e
    refine fin_seq (fun s => s = [.pl (.fl (ns.map .int)), .pl (.str lower), .pl (.lst (b.map .str)), .pl (.lst (cs.map .str)), .pl (.lst (as.map .str)), .pl (.lst (ms.map .int)), .pl (.lst ((b ++ cs).map .str)), .pl (.tup (fi.map Tk.d)), .pl (.tup (on.map Tk.d)), .pl (.tup (tw.map Tk.d)), .pl (.tup (ar.map .str)), .pl (.tup ((Tk.row ar :: (on ++ tw)).map Tk.d)), .pl (.str cp), .un, .un, .un, .un]) (nxt_of (asg_of (m2_of (s1 := [.pl (.fl (ns.map .int)), .pl (.str lower), .pl (.lst (b.map .str)), .pl (.lst (cs.map .str)), .pl (.lst (as.map .str)), .pl (.lst (ms.map .int)), .pl (.lst ((b ++ cs).map .str)), .pl (.tup (fi.map Tk.d)), .pl (.tup (on.map Tk.d)), .pl (.tup (tw.map Tk.d)), .pl (.tup (ar.map .str)), .pl (.tup ((Tk.row ar :: (on ++ tw)).map Tk.d)), .un, .un, .un, .un, .un]) (s2 := [.pl (.fl (ns.map .int)), .pl (.str lower), .pl (.lst (b.map .str)), .pl (.lst (cs.map .str)), .pl (.lst (as.map .str)), .pl (.lst (ms.map .int)), .pl (.lst ((b ++ cs).map .str)), .pl (.tup (fi.map Tk.d)), .pl (.tup (on.map Tk.d)), .pl (.tup (tw.map Tk.d)), .pl (.tup (ar.map .str)), .pl (.tup ((Tk.row ar :: (on ++ tw)).map Tk.d)), .un, .un, .un, .un, .un]) (rd_of rfl) (m2_of (call1_of (cons_of (m2_of (rd_of rfl) c_of d3') nil_of) rfl) c_of hmod) icp)) (rfl)) fun s e => ?_
    subst e
    refine fin_seq (fun s => s = [.pl (.fl (ns.map .int)), .pl (.str lower), .pl (.lst (b.map .str)), .pl (.lst (cs.map .str)), .pl (.lst (as.map .str)), .pl (.lst (ms.map .int)), .pl (.lst ((b ++ cs).map .str)), .pl (.tup (fi.map Tk.d)), .pl (.tup (on.map Tk.d)), .pl (.tup (tw.map Tk.d)), .pl (.tup (ar.map .str)), .pl (.tup ((Tk.row ar :: (on ++ tw)).map Tk.d)), .pl (.str cp), .pl (.tup ([Tk.row as, .wd cp, .wd b1].map Tk.d)), .un, .un, .un]) (nxt_of (asg_of (tup_of (s := [.pl (.fl (ns.map .int)), .pl (.str lower), .pl (.lst (b.map .str)), .pl (.lst (cs.map .str)), .pl (.lst (as.map .str)), .pl (.lst (ms.map .int)), .pl (.lst ((b ++ cs).map .str)), .pl (.tup (fi.map Tk.d)), .pl (.tup (on.map Tk.d)), .pl (.tup (tw.map Tk.d)), .pl (.tup (ar.map .str)), .pl (.tup ((Tk.row ar :: (on ++ tw)).map Tk.d)), .pl (.str cp), .un, .un, .un, .un]) (cons_of (call1_of (cons_of (rd_of rfl) nil_of) rfl) (cons_of (rd_of rfl) (cons_of (with_pl rfl (m2_of (rd_of rfl) (m2_of (m2_of (call1_of (cons_of (m2_of (rd_of rfl) c_of d3') nil_of) rfl) c_of hdiv) c_of hmod2) ib1)) nil_of))) (by simp))) (rfl)) fun s e => ?_
    subst e
    have kfi : Kd fi := ⟨g1, by omega, r1⟩
    have kon : Kd on := ⟨g2, by omega, r2⟩
    have ktw : Kd tw := ⟨g3, by omega, r3⟩
    have gar : Gt (Tk.row ar) := ⟨by omega, fun w hw => gas w (g4 w hw)⟩
    have kj : Kd (Tk.row ar :: (on ++ tw)) := ⟨fun t ht => by
      rcases List.mem_cons.mp ht with h | h
      · exact h ▸ gar
      · rcases List.mem_append.mp h with h | h
        · exact g2 t h
        · exact g3 t h, by simp; omega, (joined_law (ar := ar) r2 r3).1⟩
    have gcp := wc cp hcp
    have gb1 := wb b1 hb1
    have kw : Kd [Tk.row as, .wd cp, .wd b1] := ⟨fun t ht => by
      simp only [List.mem_cons, List.not_mem_nil, or_false] at ht
      rcases ht with h | h | h
      · exact h ▸ (show Gt (Tk.row as) from ⟨by omega, gas⟩)
      · exact h ▸ (show Gt (Tk.wd cp) from gcp.gw)
      · exact h ▸ (show Gt (Tk.wd b1) from gb1.gw), by simp, rfl⟩
    have kc : Kd [Tk.wd cp] := ⟨fun t ht => by
      have : t = Tk.wd cp := by simpa using ht
      exact this ▸ (show Gt (Tk.wd cp) from gcp.gw), by simp, rfl⟩
    refine fin_seq (fun s => ∃ y14, s = [.pl (.fl (ns.map .int)), .pl (.str lower), .pl (.lst (b.map .str)), .pl (.lst (cs.map .str)), .pl (.lst (as.map .str)), .pl (.lst (ms.map .int)), .pl (.lst ((b ++ cs).map .str)), .pl (.tup (fi.map Tk.d)), .pl (.tup (on.map Tk.d)), .pl (.tup (tw.map Tk.d)), .pl (.tup (ar.map .str)), .pl (.tup ((Tk.row ar :: (on ++ tw)).map Tk.d)), .pl (.str cp), .pl (.tup ([Tk.row as, .wd cp, .wd b1].map Tk.d)), y14, .un, .un]) ?_ fun s e => ?_
    · refine nxt_for (ds := [fi, on, [Tk.wd cp], tw, Tk.row ar :: (on ++ tw), [Tk.row as, .wd cp, .wd b1], fi].map fun ts => D.tup (ts.map Tk.d)) (fun i s => ∃ y14, s = [.pl (.fl (ns.map .int)), .pl (.str lower), .pl (.lst (b.map .str)), .pl (.lst (cs.map .str)), .pl (.lst (as.map .str)), .pl (.lst (ms.map .int)), .pl (.lst ((b ++ cs).map .str)), .pl (.tup (fi.map Tk.d)), .pl (.tup (on.map Tk.d)), .pl (.tup (tw.map Tk.d)), .pl (.tup (ar.map .str)), .pl (.tup ((Tk.row ar :: (on ++ tw)).map Tk.d)), .pl (.str cp), .pl (.tup ([Tk.row as, .wd cp, .wd b1].map Tk.d)), y14, .un, .un]) (items_of (lst_of (cons_of (rd_of rfl) (cons_of (rd_of rfl) (cons_of (tup_of (cons_of (rd_of rfl) nil_of) (by simp)) (cons_of (rd_of rfl) (cons_of (rd_of rfl) (cons_of (rd_of rfl) (cons_of (rd_of rfl) nil_of))))))) (by simp)) rfl) ⟨.un, rfl⟩ (fun i d s hdi hP => ?_) fun s hP => hP
      obtain ⟨y14, rfl⟩ := hP
      rw [List.getElem?_map] at hdi
      obtain ⟨ts, h1, rfl⟩ := Option.map_eq_some_iff.mp hdi
      have k : Kd ts := by
        have hmem := List.mem_of_getElem? h1
        simp only [List.mem_cons, List.not_mem_nil, or_false] at hmem
        rcases hmem with h | h | h | h | h | h | h
        · exact h ▸ kfi
        · exact h ▸ kon
        · exact h ▸ kc
        · exact h ▸ ktw
        · exact h ▸ kj
        · exact h ▸ kw
        · exact h ▸ kfi
      rw [turn_n]
      exact nxt_if (c := false) (not_of (mB_of (b := true) (call_of (cons_of (call_of (cons_of (rd_of rfl) nil_of) k.a rfl) (cons_of (call_of (cons_of (rd_of rfl) nil_of) k.b rfl) nil_of)) k.same rfl))) (fun z => nomatch z) fun _ => nxt_of rfl ⟨_, rfl⟩
    obtain ⟨y14, rfl⟩ := e
    exact law_tail kon ktw kj kw (by omega) (by omega) ib0 (wb b0 hb0) gb1 gcp (by omega)
  obtain ⟨d, e, rfl⟩ := main.eq
  exact e
end VM.K03

set_option Elab.async false
set_option linter.all false
set_option autoImplicit false
set_option maxRecDepth 100000
set_option maxHeartbeats 1000000
namespace VM.K03
open PySem PySem.Spec PyProof.Rows L2 VM
theorem all_mk {P : Program} {w : World} {K : PySem.W.Frag} {h : Heap} {mg : Str → Option Value} {fa : Addr} (X : K.In h) (G : h.Ns mainGlobals mg) (hfa : mg "law" = some (.ref fa))
    {f0 : Addr} {od0 an0 : Option Addr} {sl0 : Array (Option Value)} {oc0 kV0 dc0 pm0 cd0 ct0 : Value}
    {f1 : Addr} {od1 an1 : Option Addr} {sl1 : Array (Option Value)} {oc1 kV1 dc1 pm1 cd1 ct1 : Value}
    {f2 : Addr} {od2 an2 : Option Addr} {sl2 : Array (Option Value)} {oc2 kV2 dc2 pm2 cd2 ct2 : Value}
    {f3 : Addr} {od3 an3 : Option Addr} {sl3 : Array (Option Value)} {oc3 kV3 dc3 pm3 cd3 ct3 : Value}
    {f4 : Addr} {od4 an4 : Option Addr} {sl4 : Array (Option Value)} {oc4 kV4 dc4 pm4 cd4 ct4 : Value}
    {f5 : Addr} {od5 an5 : Option Addr} {sl5 : Array (Option Value)} {oc5 kV5 dc5 pm5 cd5 ct5 : Value}
    {f6 : Addr} {od6 an6 : Option Addr} {sl6 : Array (Option Value)} {oc6 kV6 dc6 pm6 cd6 ct6 : Value}
    {f7 : Addr} {od7 an7 : Option Addr} {sl7 : Array (Option Value)} {oc7 kV7 dc7 pm7 cd7 ct7 : Value}
    {f8 : Addr} {od8 an8 : Option Addr} {sl8 : Array (Option Value)} {oc8 kV8 dc8 pm8 cd8 ct8 : Value}
    {f9 : Addr} {od9 an9 : Option Addr} {sl9 : Array (Option Value)} {oc9 kV9 dc9 pm9 cd9 ct9 : Value}
    {f10 : Addr} {od10 an10 : Option Addr} {sl10 : Array (Option Value)} {oc10 kV10 dc10 pm10 cd10 ct10 : Value}
    {f11 : Addr} {od11 an11 : Option Addr} {sl11 : Array (Option Value)} {oc11 kV11 dc11 pm11 cd11 ct11 : Value}
    {f12 : Addr} {od12 an12 : Option Addr} {sl12 : Array (Option Value)} {oc12 kV12 dc12 pm12 cd12 ct12 : Value}
    {f13 : Addr} {od13 an13 : Option Addr} {sl13 : Array (Option Value)} {oc13 kV13 dc13 pm13 cd13 ct13 : Value}
    {f14 : Addr} {od14 an14 : Option Addr} {sl14 : Array (Option Value)} {oc14 kV14 dc14 pm14 cd14 ct14 : Value}
    {f15 : Addr} {od15 an15 : Option Addr} {sl15 : Array (Option Value)} {oc15 kV15 dc15 pm15 cd15 ct15 : Value}
    {f16 : Addr} {od16 an16 : Option Addr} {sl16 : Array (Option Value)} {oc16 kV16 dc16 pm16 cd16 ct16 : Value}
    (a0 : PySem.W.nsIn K mainGlobals "begins_in" = some (some (.ref f0))) (l0 : K.lookup f0 = some ⟨oc0, od0, .func (PySem.W.fnOf "begins_in" "begins_in" (defArgs s_begins_in) (defBody s_begins_in) (defScope s_begins_in) .none kV0 dc0 pm0 an0 cd0 ct0), sl0⟩) (c0 : PySem.W.codeIn K cd0 "begins_in" = true) (k0 : PySem.W.keepIn K (.ref f0) = true)
    (a1 : PySem.W.nsIn K mainGlobals "is_data_word" = some (some (.ref f1))) (l1 : K.lookup f1 = some ⟨oc1, od1, .func (PySem.W.fnOf "is_data_word" "is_data_word" (defArgs s_is_data_word) (defBody s_is_data_word) (defScope s_is_data_word) .none kV1 dc1 pm1 an1 cd1 ct1), sl1⟩) (c1 : PySem.W.codeIn K cd1 "is_data_word" = true) (k1 : PySem.W.keepIn K (.ref f1) = true)
    (a2 : PySem.W.nsIn K mainGlobals "kind_ends" = some (some (.ref f2))) (l2 : K.lookup f2 = some ⟨oc2, od2, .func (PySem.W.fnOf "kind_ends" "kind_ends" (defArgs s_kind_ends) (defBody s_kind_ends) (defScope s_kind_ends) .none kV2 dc2 pm2 an2 cd2 ct2), sl2⟩) (c2 : PySem.W.codeIn K cd2 "kind_ends" = true) (k2 : PySem.W.keepIn K (.ref f2) = true)
    (a3 : PySem.W.nsIn K mainGlobals "signs_of" = some (some (.ref f3))) (l3 : K.lookup f3 = some ⟨oc3, od3, .func (PySem.W.fnOf "signs_of" "signs_of" (defArgs s_signs_of) (defBody s_signs_of) (defScope s_signs_of) .none kV3 dc3 pm3 an3 cd3 ct3), sl3⟩) (c3 : PySem.W.codeIn K cd3 "signs_of" = true) (k3 : PySem.W.keepIn K (.ref f3) = true)
    (a4 : PySem.W.nsIn K mainGlobals "standing_in" = some (some (.ref f4))) (l4 : K.lookup f4 = some ⟨oc4, od4, .func (PySem.W.fnOf "standing_in" "standing_in" (defArgs s_standing_in) (defBody s_standing_in) (defScope s_standing_in) .none kV4 dc4 pm4 an4 cd4 ct4), sl4⟩) (c4 : PySem.W.codeIn K cd4 "standing_in" = true) (k4 : PySem.W.keepIn K (.ref f4) = true)
    (a5 : PySem.W.nsIn K mainGlobals "_law_cell" = some (some (.ref f5))) (l5 : K.lookup f5 = some ⟨oc5, od5, .func (PySem.W.fnOf "_law_cell" "_law_cell" (defArgs s__law_cell) (defBody s__law_cell) (defScope s__law_cell) .none kV5 dc5 pm5 an5 cd5 ct5), sl5⟩) (c5 : PySem.W.codeIn K cd5 "_law_cell" = true) (k5 : PySem.W.keepIn K (.ref f5) = true)
    (a6 : PySem.W.nsIn K mainGlobals "_law_digits" = some (some (.ref f6))) (l6 : K.lookup f6 = some ⟨oc6, od6, .func (PySem.W.fnOf "_law_digits" "_law_digits" (defArgs s__law_digits) (defBody s__law_digits) (defScope s__law_digits) .none kV6 dc6 pm6 an6 cd6 ct6), sl6⟩) (c6 : PySem.W.codeIn K cd6 "_law_digits" = true) (k6 : PySem.W.keepIn K (.ref f6) = true)
    (a7 : PySem.W.nsIn K mainGlobals "_law_reserved" = some (some (.ref f7))) (l7 : K.lookup f7 = some ⟨oc7, od7, .func (PySem.W.fnOf "_law_reserved" "_law_reserved" (defArgs s__law_reserved) (defBody s__law_reserved) (defScope s__law_reserved) .none kV7 dc7 pm7 an7 cd7 ct7), sl7⟩) (c7 : PySem.W.codeIn K cd7 "_law_reserved" = true) (k7 : PySem.W.keepIn K (.ref f7) = true)
    (a8 : PySem.W.nsIn K mainGlobals "_law_word" = some (some (.ref f8))) (l8 : K.lookup f8 = some ⟨oc8, od8, .func (PySem.W.fnOf "_law_word" "_law_word" (defArgs s__law_word) (defBody s__law_word) (defScope s__law_word) .none kV8 dc8 pm8 an8 cd8 ct8), sl8⟩) (c8 : PySem.W.codeIn K cd8 "_law_word" = true) (k8 : PySem.W.keepIn K (.ref f8) = true)
    (a9 : PySem.W.nsIn K mainGlobals "_law_words" = some (some (.ref f9))) (l9 : K.lookup f9 = some ⟨oc9, od9, .func (PySem.W.fnOf "_law_words" "_law_words" (defArgs s__law_words) (defBody s__law_words) (defScope s__law_words) .none kV9 dc9 pm9 an9 cd9 ct9), sl9⟩) (c9 : PySem.W.codeIn K cd9 "_law_words" = true) (k9 : PySem.W.keepIn K (.ref f9) = true)
    (a10 : PySem.W.nsIn K mainGlobals "_law_subset" = some (some (.ref f10))) (l10 : K.lookup f10 = some ⟨oc10, od10, .func (PySem.W.fnOf "_law_subset" "_law_subset" (defArgs s__law_subset) (defBody s__law_subset) (defScope s__law_subset) .none kV10 dc10 pm10 an10 cd10 ct10), sl10⟩) (c10 : PySem.W.codeIn K cd10 "_law_subset" = true) (k10 : PySem.W.keepIn K (.ref f10) = true)
    (a11 : PySem.W.nsIn K mainGlobals "_law_kind" = some (some (.ref f11))) (l11 : K.lookup f11 = some ⟨oc11, od11, .func (PySem.W.fnOf "_law_kind" "_law_kind" (defArgs s__law_kind) (defBody s__law_kind) (defScope s__law_kind) .none kV11 dc11 pm11 an11 cd11 ct11), sl11⟩) (c11 : PySem.W.codeIn K cd11 "_law_kind" = true) (k11 : PySem.W.keepIn K (.ref f11) = true)
    (a12 : PySem.W.nsIn K mainGlobals "_law_drawn" = some (some (.ref f12))) (l12 : K.lookup f12 = some ⟨oc12, od12, .func (PySem.W.fnOf "_law_drawn" "_law_drawn" (defArgs s__law_drawn) (defBody s__law_drawn) (defScope s__law_drawn) .none kV12 dc12 pm12 an12 cd12 ct12), sl12⟩) (c12 : PySem.W.codeIn K cd12 "_law_drawn" = true) (k12 : PySem.W.keepIn K (.ref f12) = true)
    (a13 : PySem.W.nsIn K mainGlobals "_law_same" = some (some (.ref f13))) (l13 : K.lookup f13 = some ⟨oc13, od13, .func (PySem.W.fnOf "_law_same" "_law_same" (defArgs s__law_same) (defBody s__law_same) (defScope s__law_same) .none kV13 dc13 pm13 an13 cd13 ct13), sl13⟩) (c13 : PySem.W.codeIn K cd13 "_law_same" = true) (k13 : PySem.W.keepIn K (.ref f13) = true)
    (a14 : PySem.W.nsIn K mainGlobals "_law_standing" = some (some (.ref f14))) (l14 : K.lookup f14 = some ⟨oc14, od14, .func (PySem.W.fnOf "_law_standing" "_law_standing" (defArgs s__law_standing) (defBody s__law_standing) (defScope s__law_standing) .none kV14 dc14 pm14 an14 cd14 ct14), sl14⟩) (c14 : PySem.W.codeIn K cd14 "_law_standing" = true) (k14 : PySem.W.keepIn K (.ref f14) = true)
    (a15 : PySem.W.nsIn K mainGlobals "_law_moved" = some (some (.ref f15))) (l15 : K.lookup f15 = some ⟨oc15, od15, .func (PySem.W.fnOf "_law_moved" "_law_moved" (defArgs s__law_moved) (defBody s__law_moved) (defScope s__law_moved) .none kV15 dc15 pm15 an15 cd15 ct15), sl15⟩) (c15 : PySem.W.codeIn K cd15 "_law_moved" = true) (k15 : PySem.W.keepIn K (.ref f15) = true)
    (a16 : PySem.W.nsIn K mainGlobals "law" = some (some (.ref f16))) (l16 : K.lookup f16 = some ⟨oc16, od16, .func (PySem.W.fnOf "law" "law" (defArgs s_law) (defBody s_law) (defScope s_law) .none kV16 dc16 pm16 an16 cd16 ct16), sl16⟩) (c16 : PySem.W.codeIn K cd16 "law" = true) (k16 : PySem.W.keepIn K (.ref f16) = true)
    {t_CAPITAL : Tok} (c_CAPITAL : PySem.W.nsIn K mainGlobals "CAPITAL" = some (some (.str "ABCDEFGHIJKLMNOPQRSTUVWXYZ" t_CAPITAL)))
    {t_SIGNS : Tok} (c_SIGNS : PySem.W.nsIn K mainGlobals "SIGNS" = some (some (.str "abcdefghijklmnopqrstuvwxyzABCDEFGHIJKLMNOPQRSTUVWXYZ0123456789" t_SIGNS)))
    (n_enumerate : PySem.W.nsIn K mainGlobals "enumerate" = some none)
    (n_int : PySem.W.nsIn K mainGlobals "int" = some none)
    (n_isinstance : PySem.W.nsIn K mainGlobals "isinstance" = some none)
    (n_len : PySem.W.nsIn K mainGlobals "len" = some none)
    (n_range : PySem.W.nsIn K mainGlobals "range" = some none)
    (n_repr : PySem.W.nsIn K mainGlobals "repr" = some none)
    (n_sorted : PySem.W.nsIn K mainGlobals "sorted" = some none)
    (n_str : PySem.W.nsIn K mainGlobals "str" = some none)
    (n_tuple : PySem.W.nsIn K mainGlobals "tuple" = some none) :
    ∃ fd : FuncData, (∀ (s : Shared) (v : Value), BindsTo s fd ⟨[v], []⟩ [("script", v)]) ∧ ∀ base : Heap, K.In base → base.Ns mainGlobals mg → FnG P w K mg base 4 fa fd ["script"] (spLaw K) := by
  have e := hfa.symm.trans (PySem.W.mg_of X G a16)
  cases e
  let T : Txt K mg := {
    a_begins_in := f0, d_begins_in := _, F_begins_in := fun_mk (st := s_begins_in) l0 c0 k0, g_begins_in := PySem.W.mg_of X G a0, b_begins_in := (fun_mk (st := s_begins_in) l0 c0 k0).binds (ps := ["value", "letters"]) fun _ _ _ _ _ _ us hl => match us, hl with | [_, _], _ => rfl,
    a_is_data_word := f1, d_is_data_word := _, F_is_data_word := fun_mk (st := s_is_data_word) l1 c1 k1, g_is_data_word := PySem.W.mg_of X G a1, b_is_data_word := (fun_mk (st := s_is_data_word) l1 c1 k1).binds (ps := ["value"]) fun _ _ _ _ _ _ us hl => match us, hl with | [_], _ => rfl,
    a_kind_ends := f2, d_kind_ends := _, F_kind_ends := fun_mk (st := s_kind_ends) l2 c2 k2, g_kind_ends := PySem.W.mg_of X G a2, b_kind_ends := (fun_mk (st := s_kind_ends) l2 c2 k2).binds (ps := ["kind"]) fun _ _ _ _ _ _ us hl => match us, hl with | [_], _ => rfl,
    a_signs_of := f3, d_signs_of := _, F_signs_of := fun_mk (st := s_signs_of) l3 c3 k3, g_signs_of := PySem.W.mg_of X G a3, b_signs_of := (fun_mk (st := s_signs_of) l3 c3 k3).binds (ps := ["kind"]) fun _ _ _ _ _ _ us hl => match us, hl with | [_], _ => rfl,
    a_standing_in := f4, d_standing_in := _, F_standing_in := fun_mk (st := s_standing_in) l4 c4 k4, g_standing_in := PySem.W.mg_of X G a4, b_standing_in := (fun_mk (st := s_standing_in) l4 c4 k4).binds (ps := ["kind"]) fun _ _ _ _ _ _ us hl => match us, hl with | [_], _ => rfl,
    a__law_cell := f5, d__law_cell := _, F__law_cell := fun_mk (st := s__law_cell) l5 c5 k5, g__law_cell := PySem.W.mg_of X G a5, b__law_cell := (fun_mk (st := s__law_cell) l5 c5 k5).binds (ps := ["script", "k"]) fun _ _ _ _ _ _ us hl => match us, hl with | [_, _], _ => rfl,
    a__law_digits := f6, d__law_digits := _, F__law_digits := fun_mk (st := s__law_digits) l6 c6 k6, g__law_digits := PySem.W.mg_of X G a6, b__law_digits := (fun_mk (st := s__law_digits) l6 c6 k6).binds (ps := ["cell", "sizes"]) fun _ _ _ _ _ _ us hl => match us, hl with | [_, _], _ => rfl,
    a__law_reserved := f7, d__law_reserved := _, F__law_reserved := fun_mk (st := s__law_reserved) l7 c7 k7, g__law_reserved := PySem.W.mg_of X G a7, b__law_reserved := (fun_mk (st := s__law_reserved) l7 c7 k7).binds (ps := []) fun _ _ _ _ _ _ us hl => match us, hl with | [], _ => rfl,
    a__law_word := f8, d__law_word := _, F__law_word := fun_mk (st := s__law_word) l8 c8 k8, g__law_word := PySem.W.mg_of X G a8, b__law_word := (fun_mk (st := s__law_word) l8 c8 k8).binds (ps := ["ds", "words", "firsts", "barred"]) fun _ _ _ _ _ _ us hl => match us, hl with | [_, _, _, _], _ => rfl,
    a__law_words := f9, d__law_words := _, F__law_words := fun_mk (st := s__law_words) l9 c9 k9, g__law_words := PySem.W.mg_of X G a9, b__law_words := (fun_mk (st := s__law_words) l9 c9 k9).binds (ps := ["script", "at", "many", "firsts", "barred"]) fun _ _ _ _ _ _ us hl => match us, hl with | [_, _, _, _, _], _ => rfl,
    a__law_subset := f10, d__law_subset := _, F__law_subset := fun_mk (st := s__law_subset) l10 c10 k10, g__law_subset := PySem.W.mg_of X G a10, b__law_subset := (fun_mk (st := s__law_subset) l10 c10 k10).binds (ps := ["words", "digit"]) fun _ _ _ _ _ _ us hl => match us, hl with | [_, _], _ => rfl,
    a__law_kind := f11, d__law_kind := _, F__law_kind := fun_mk (st := s__law_kind) l11 c11 k11, g__law_kind := PySem.W.mg_of X G a11, b__law_kind := (fun_mk (st := s__law_kind) l11 c11 k11).binds (ps := ["ds", "many", "words", "asked"]) fun _ _ _ _ _ _ us hl => match us, hl with | [_, _, _, _], _ => rfl,
    a__law_drawn := f12, d__law_drawn := _, F__law_drawn := fun_mk (st := s__law_drawn) l12 c12 k12, g__law_drawn := PySem.W.mg_of X G a12, b__law_drawn := (fun_mk (st := s__law_drawn) l12 c12 k12).binds (ps := ["cell", "most", "words", "asked"]) fun _ _ _ _ _ _ us hl => match us, hl with | [_, _, _, _], _ => rfl,
    a__law_same := f13, d__law_same := _, F__law_same := fun_mk (st := s__law_same) l13 c13 k13, g__law_same := PySem.W.mg_of X G a13, b__law_same := (fun_mk (st := s__law_same) l13 c13 k13).binds (ps := ["actual", "due"]) fun _ _ _ _ _ _ us hl => match us, hl with | [_, _], _ => rfl,
    a__law_standing := f14, d__law_standing := _, F__law_standing := fun_mk (st := s__law_standing) l14 c14 k14, g__law_standing := PySem.W.mg_of X G a14, b__law_standing := (fun_mk (st := s__law_standing) l14 c14 k14).binds (ps := ["tokens"]) fun _ _ _ _ _ _ us hl => match us, hl with | [_], _ => rfl,
    a__law_moved := f15, d__law_moved := _, F__law_moved := fun_mk (st := s__law_moved) l15 c15 k15, g__law_moved := PySem.W.mg_of X G a15, b__law_moved := (fun_mk (st := s__law_moved) l15 c15 k15).binds (ps := ["triples", "by", "turn"]) fun _ _ _ _ _ _ us hl => match us, hl with | [_, _, _], _ => rfl,
    a_law := fa, d_law := _, F_law := fun_mk (st := s_law) l16 c16 k16, g_law := PySem.W.mg_of X G a16, b_law := (fun_mk (st := s_law) l16 c16 k16).binds (ps := ["script"]) fun _ _ _ _ _ _ us hl => match us, hl with | [_], _ => rfl,
    t_CAPITAL := t_CAPITAL, c_CAPITAL := PySem.W.mg_of X G c_CAPITAL,
    t_SIGNS := t_SIGNS, c_SIGNS := PySem.W.mg_of X G c_SIGNS,
    n_enumerate := PySem.W.mg_none_of X G n_enumerate,
    n_int := PySem.W.mg_none_of X G n_int,
    n_isinstance := PySem.W.mg_none_of X G n_isinstance,
    n_len := PySem.W.mg_none_of X G n_len,
    n_range := PySem.W.mg_none_of X G n_range,
    n_repr := PySem.W.mg_none_of X G n_repr,
    n_sorted := PySem.W.mg_none_of X G n_sorted,
    n_str := PySem.W.mg_none_of X G n_str,
    n_tuple := PySem.W.mg_none_of X G n_tuple }
  exact ⟨T.d_law, fun s v => .of_eq rfl, fun base _ _ => law_of rfl (ok_law T) law_true⟩
end VM.K03
open PySem PySem.W PyProof.Rows
set_option maxHeartbeats 0 in
theorem PySem.Challenge.cw_ownleft_k03_what_stands_holds : PySem.Challenge.rw_ownleft_k03_what_stands.Holds := by
  w_on; o_law; k_head; (case hw => w_witness2)
  k_fill
  refine VM.walk_ofG (l := PySem.Challenge.rw_ownleft_k03_what_stands) (k := 4) (x := "script") rfl rfl ⟨rfl, by decide, by decide⟩ (fun w h Y => PySem.W.kIn_of Y) ?F
  case F =>
    intro w mg fa h KX G hmg
    refine' VM.K03.all_mk KX G hmg ?a0 ?l0 ?c0 ?k0 ?a1 ?l1 ?c1 ?k1 ?a2 ?l2 ?c2 ?k2 ?a3 ?l3 ?c3 ?k3 ?a4 ?l4 ?c4 ?k4 ?a5 ?l5 ?c5 ?k5 ?a6 ?l6 ?c6 ?k6 ?a7 ?l7 ?c7 ?k7 ?a8 ?l8 ?c8 ?k8 ?a9 ?l9 ?c9 ?k9 ?a10 ?l10 ?c10 ?k10 ?a11 ?l11 ?c11 ?k11 ?a12 ?l12 ?c12 ?k12 ?a13 ?l13 ?c13 ?k13 ?a14 ?l14 ?c14 ?k14 ?a15 ?l15 ?c15 ?k15 ?a16 ?l16 ?c16 ?k16 ?c_CAPITAL ?c_SIGNS ?n_enumerate ?n_int ?n_isinstance ?n_len ?n_range ?n_repr ?n_sorted ?n_str ?n_tuple
    (case a0 => k_is); (case l0 => k_is); (case c0 => k_is); (case k0 => k_is); (case a1 => k_is); (case l1 => k_is); (case c1 => k_is); (case k1 => k_is); (case a2 => k_is); (case l2 => k_is); (case c2 => k_is); (case k2 => k_is); (case a3 => k_is); (case l3 => k_is); (case c3 => k_is); (case k3 => k_is); (case a4 => k_is); (case l4 => k_is); (case c4 => k_is); (case k4 => k_is); (case a5 => k_is); (case l5 => k_is); (case c5 => k_is); (case k5 => k_is); (case a6 => k_is); (case l6 => k_is); (case c6 => k_is); (case k6 => k_is); (case a7 => k_is); (case l7 => k_is); (case c7 => k_is); (case k7 => k_is); (case a8 => k_is); (case l8 => k_is); (case c8 => k_is); (case k8 => k_is); (case a9 => k_is); (case l9 => k_is); (case c9 => k_is); (case k9 => k_is); (case a10 => k_is); (case l10 => k_is); (case c10 => k_is); (case k10 => k_is); (case a11 => k_is); (case l11 => k_is); (case c11 => k_is); (case k11 => k_is); (case a12 => k_is); (case l12 => k_is); (case c12 => k_is); (case k12 => k_is); (case a13 => k_is); (case l13 => k_is); (case c13 => k_is); (case k13 => k_is); (case a14 => k_is); (case l14 => k_is); (case c14 => k_is); (case k14 => k_is); (case a15 => k_is); (case l15 => k_is); (case c15 => k_is); (case k15 => k_is); (case a16 => k_is); (case l16 => k_is); (case c16 => k_is); (case k16 => k_is); (case c_CAPITAL => k_is); (case c_SIGNS => k_is); (case n_enumerate => k_is); (case n_int => k_is); (case n_isinstance => k_is); (case n_len => k_is); (case n_range => k_is); (case n_repr => k_is); (case n_sorted => k_is); (case n_str => k_is); (case n_tuple => k_is)

