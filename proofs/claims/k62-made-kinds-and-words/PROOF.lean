import PyProof.Rows.All
import Wide.All
import OpenK.AllK
import Wide.FinOn
import HandS.ForMost
import HandS.Exc
import HandS.ExcOwn
import HandS.WordsExc
import HandS.CallSlots
import HandS.IsInst
import HandS.Wide
import HandS.Deep
import HandS.ExcCtx
import HandS.Hot
import HandS.HotCalls
import HandS.ExcInit
import HandS.ExcInitHot
import HandS.ExcField
import HandS.ExcIs
import HandS.Defaults
import HandS.DictComp
import HandS.Nested
import HandS.Flow
import KE.KExcIs
import HandS.TupAny
import HandS.Style
import KE.GoesEnum
import HandS.Ends
import HandS.Conv
import PyProof.AutoSeq1
import HandS.Text
import PySem.Challenge.RW_ownleft_k62_made_kinds_and_words
set_option Elab.async false
set_option linter.all false
set_option autoImplicit false
set_option maxRecDepth 100000
set_option maxHeartbeats 1000000
namespace VM
open PySem PySem.Spec PyProof.Rows L2

/-- where a name of the module leads -/
def adIn (K : PySem.W.Frag) (c : Str) : Addr := match PySem.W.nsIn K mainGlobals c with
  | some (some (.ref a)) => a
  | _ => 0
/-! ### data -/
/-- deep: a container whose items may be its own (own ..); else what a container holds is frozen -/
inductive D where
  | non | bl (b : Bool) | int (i : Int) | str (x : Str)
  | tup (xs : List D) | lst (xs : List D) | fl (xs : List D)
  | dct (ks : List Key) (xs : List D)
  | obj (c : Str) (ns : List Str) (xs : List D)
  | deep (d : D) | own (d : D)
  deriving Inhabited

mutual
def Rp (K : PySem.W.Frag) (F : Hp) : D → V → Prop
  | .non, v => v = .non
  | .bl b, v => v = .bl b
  | .int i, v => v = .int i
  | .str x, v => v = .str x
  | .tup ds, v => ∃ a vs, v = .ref a ∧ SqT K F a vs ∧ RpL K F ds vs
  | .lst ds, v => ∃ a vs, v = .ref a ∧ F a = some (.lst vs) ∧ RpL K F ds vs
  | .fl ds, v => ∃ a vs, v = .ref a ∧ SqL K F a vs ∧ RpL K F ds vs
  | .dct ks ds, v => ∃ a kvs, v = .ref a ∧ F a = some (.dK kvs) ∧ kvs.map (·.1) = ks ∧ RpL K F ds (kvs.map (·.2))
  | .obj c ns ds, v => ∃ a dx fs, v = .ref a ∧ F a = some (.ins (adIn K c) dx fs) ∧ fs.map (·.1) = ns ∧ RpL K F ds (fs.map (·.2))
  | .deep _, _ => False
  | .own _, _ => False
def RpL (K : PySem.W.Frag) (F : Hp) : List D → List V → Prop
  | [], vs => vs = []
  | d :: ds, vs => ∃ v r, vs = v :: r ∧ Rp K F d v ∧ RpL K F ds r
end

section
variable {K : PySem.W.Frag} {F F' H : Hp}
theorem sqT_mono {a : Addr} {xs : List V} (e : Same F F') (h : SqT K F a xs) : SqT K F' a xs := by
  rcases h with (h | ⟨o, h⟩) | h
  · exact .inl (.inl (e _ _ h))
  · exact .inl (.inr ⟨o, e _ _ h⟩)
  · exact .inr h
mutual
theorem Rp.mono (e : Same F F') : ∀ (d : D) (v : V), Rp K F d v → Rp K F' d v
  | .non, _, h => h
  | .bl _, _, h => h
  | .int _, _, h => h
  | .str _, _, h => h
  | .tup ds, v, h => by
    obtain ⟨a, vs, rfl, h1, h2⟩ := h
    exact ⟨a, vs, rfl, sqT_mono e h1, RpL.mono e ds vs h2⟩
  | .lst ds, v, h => by
    obtain ⟨a, vs, rfl, h1, h2⟩ := h
    exact ⟨a, vs, rfl, e _ _ h1, RpL.mono e ds vs h2⟩
  | .fl ds, v, h => by
    obtain ⟨a, vs, rfl, h1, h2⟩ := h
    exact ⟨a, vs, rfl, e.seq h1, RpL.mono e ds vs h2⟩
  | .dct ks ds, v, h => by
    obtain ⟨a, kvs, rfl, h1, h2, h3⟩ := h
    exact ⟨a, kvs, rfl, e _ _ h1, h2, RpL.mono e ds _ h3⟩
  | .obj c ns ds, v, h => by
    obtain ⟨a, dx, fs, rfl, h1, h2, h3⟩ := h
    exact ⟨a, dx, fs, rfl, e _ _ h1, h2, RpL.mono e ds _ h3⟩
  | .deep _, _, h => h
  | .own _, _, h => h
theorem RpL.mono (e : Same F F') : ∀ (ds : List D) (vs : List V), RpL K F ds vs → RpL K F' ds vs
  | [], vs, h => h
  | d :: ds, vs, h => by
    obtain ⟨v, r, rfl, h1, h2⟩ := h
    exact ⟨v, r, rfl, Rp.mono e d v h1, RpL.mono e ds r h2⟩
end
theorem RpL.length : ∀ {ds : List D} {vs : List V}, RpL K F ds vs → ds.length = vs.length
  | [], vs, h => by cases h; rfl
  | d :: ds, vs, h => by
    obtain ⟨v, r, rfl, _, h2⟩ := h
    simp [RpL.length h2]
theorem RpL.get : ∀ {ds : List D} {vs : List V} (i : Nat) (d : D), RpL K F ds vs → ds[i]? = some d → ∃ v, vs[i]? = some v ∧ Rp K F d v
  | [], vs, i, d, h, e => by simp at e
  | d0 :: ds, vs, i, d, h, e => by
    obtain ⟨v, r, rfl, h1, h2⟩ := h
    cases i with
    | zero => simp at e; subst e; exact ⟨v, rfl, h1⟩
    | succ i => exact RpL.get (ds := ds) (vs := r) i d h2 (by simpa using e)
theorem RpL.get' : ∀ {ds : List D} {vs : List V} (i : Nat) (v : V), RpL K F ds vs → vs[i]? = some v → ∃ d, ds[i]? = some d ∧ Rp K F d v := fun {ds vs} i v h e => by
  have hl := h.length
  obtain ⟨hi, _⟩ := List.getElem?_eq_some_iff.mp e
  have : ds[i]? = some ds[i] := List.getElem?_eq_getElem (by omega)
  obtain ⟨v', e', h'⟩ := h.get i _ this
  rw [e] at e'; cases e'
  exact ⟨_, this, h'⟩
theorem RpL.append : ∀ {ds es : List D} {vs us : List V}, RpL K F ds vs → RpL K F es us → RpL K F (ds ++ es) (vs ++ us)
  | [], es, vs, us, h, h' => by cases h; exact h'
  | d :: ds, es, vs, us, h, h' => by
    obtain ⟨v, r, rfl, h1, h2⟩ := h
    exact ⟨v, r ++ us, rfl, h1, RpL.append h2 h'⟩
theorem RpL.set : ∀ {ds : List D} {vs : List V} {d : D} {v : V} (i : Nat), RpL K F ds vs → Rp K F d v → RpL K F (ds.set i d) (vs.set i v)
  | [], vs, d, v, i, h, _ => by cases h; exact rfl
  | d0 :: ds, vs, d, v, i, h, hv => by
    obtain ⟨v0, r, rfl, h1, h2⟩ := h
    cases i with
    | zero => exact ⟨v, r, rfl, hv, h2⟩
    | succ i => exact ⟨v0, _, rfl, h1, RpL.set i h2 hv⟩
theorem RpL.take : ∀ {ds : List D} {vs : List V} (n : Nat), RpL K F ds vs → RpL K F (ds.take n) (vs.take n)
  | _, _, 0, _ => rfl
  | [], vs, n + 1, h => by cases h; exact rfl
  | d :: ds, vs, n + 1, h => by
    obtain ⟨v, r, rfl, h1, h2⟩ := h
    exact ⟨v, _, rfl, h1, RpL.take n h2⟩
theorem RpL.drop : ∀ {ds : List D} {vs : List V} (n : Nat), RpL K F ds vs → RpL K F (ds.drop n) (vs.drop n)
  | _, _, 0, h => h
  | [], vs, n + 1, h => by cases h; exact rfl
  | d :: ds, vs, n + 1, h => by
    obtain ⟨v, r, rfl, h1, h2⟩ := h
    exact RpL.drop (ds := ds) n h2
theorem RpL.one {d : D} {v : V} (h : Rp K F d v) : RpL K F [d] [v] := ⟨v, [], rfl, h, rfl⟩
end

/-! ### slots -/
structure Exn where
  c : Str
  fs : List (Str × D)
inductive Sl where
  | un | pl (d : D) | ow (d : D) | io (k : Nat) (d : D) | ex (x : Exn)
  deriving Inhabited
abbrev SV := List Sl

/-- the module's names; the exception that is in hand -/
structure MX where
  mg : Str → Option Value
  hx : Option (Addr × Obj)
def _root_.L2.Cx.mx (X : Cx) : MX := ⟨X.mg, if X.calm = true then none else X.pn.head?⟩

/-- a frame's ghost: what is protected, where the frozen part is fixed, the in-out objects -/
structure G where
  K : PySem.W.Frag
  pH : Hp
  fx : Addr → Prop
  F0 : Hp
  io : Nat → Option Addr
  mx : MX

/-- what a container of the heap holds, as a container of the data -/
inductive Shp (K : PySem.W.Frag) : D → HO → List D → List V → Prop
  | lst {ds : List D} {vs : List V} : Shp K (.lst ds) (.lst vs) ds vs
  | dct {ks : List Key} {ds : List D} {kvs : List (Key × V)} (h : kvs.map (·.1) = ks) : Shp K (.dct ks ds) (.dK kvs) ds (kvs.map (·.2))
  | obj {c : Str} {ns : List Str} {ds : List D} {dx : Addr} {fs : List (Str × V)} (h : fs.map (·.1) = ns) : Shp K (.obj c ns ds) (.ins (adIn K c) dx fs) ds (fs.map (·.2))
theorem Shp.uniq {K : PySem.W.Frag} {d : D} {o : HO} {ds ds' : List D} {vs vs' : List V} (h : Shp K d o ds vs) (h' : Shp K d o ds' vs') : ds = ds' ∧ vs = vs' := by
  cases h <;> cases h' <;> exact ⟨rfl, rfl⟩
/-- the places that an owned thing has for itself -/
inductive Ft (K : PySem.W.Frag) (H : Hp) : D → Addr → Addr → Prop
  | here {d : D} {p : Addr} : Ft K H d p p
  | kid {d e : D} {p q a : Addr} {o : HO} {ds : List D} {vs : List V} {i : Nat} (hH : H p = some o) (hs : Shp K d o ds vs) (hd : ds[i]? = some (.own e)) (hv : vs[i]? = some (.ref q)) (h : Ft K H e q a) : Ft K H (.deep d) p a
def isOwn : D → Bool
  | .own _ => true
  | _ => false
/-- an owned object at p -/
inductive OwnP (K : PySem.W.Frag) (F H : Hp) : D → Addr → Prop
  | flat {d : D} {p : Addr} {o : HO} {ds : List D} {vs : List V} (hF : F p = none) (hH : H p = some o) (hs : Shp K d o ds vs) (hr : RpL K F ds vs) : OwnP K F H d p
  | deep {d : D} {p : Addr} {o : HO} {ds : List D} {vs : List V} (hF : F p = none) (hH : H p = some o) (hs : Shp K d o ds vs) (hl : ds.length = vs.length)
      (hr : ∀ (i : Nat) (e : D) (v : V), ds[i]? = some e → vs[i]? = some v → isOwn e = false → Rp K F e v)
      (hq : ∀ (i : Nat) (e : D), ds[i]? = some (.own e) → ∃ q, vs[i]? = some (.ref q))
      (hk : ∀ (i : Nat) (e : D) (q : Addr), ds[i]? = some (.own e) → vs[i]? = some (.ref q) → OwnP K F H e q)
      (hp : ∀ (i : Nat) (e : D) (q : Addr), ds[i]? = some (.own e) → vs[i]? = some (.ref q) → ¬ Ft K H e q p)
      (hj : ∀ (i j : Nat) (e e' : D) (q q' a : Addr), i ≠ j → ds[i]? = some (.own e) → vs[i]? = some (.ref q) → ds[j]? = some (.own e') → vs[j]? = some (.ref q') → Ft K H e q a → ¬ Ft K H e' q' a) : OwnP K F H (.deep d) p
theorem OwnP.lst {K : PySem.W.Frag} {F H : Hp} {ds : List D} {vs : List V} {p : Addr} (hF : F p = none) (hH : H p = some (.lst vs)) (hr : RpL K F ds vs) : OwnP K F H (.lst ds) p := .flat hF hH .lst hr
theorem OwnP.lst_inv {K : PySem.W.Frag} {F H : Hp} {ds : List D} {p : Addr} (h : OwnP K F H (.lst ds) p) : F p = none ∧ ∃ vs, H p = some (.lst vs) ∧ RpL K F ds vs := by
  cases h with
  | flat hF hH hs hr =>
    cases hs
    exact ⟨hF, _, hH, hr⟩
theorem OwnP.fp {K : PySem.W.Frag} {F H : Hp} {d : D} {p : Addr} (h : OwnP K F H d p) : F p = none := by
  cases h with
  | flat hF _ _ _ => exact hF
  | deep hF _ _ _ _ _ _ _ _ => exact hF
theorem OwnP.nn {K : PySem.W.Frag} {F H : Hp} {d : D} {p : Addr} (h : OwnP K F H d p) : H p ≠ none := by
  cases h with
  | flat _ hH _ _ => rw [hH]; exact fun z => nomatch z
  | deep _ hH _ _ _ _ _ _ _ => rw [hH]; exact fun z => nomatch z
theorem Ft.flat {K : PySem.W.Frag} {H : Hp} {d : D} {p a : Addr} (h : Ft K H d p a) (hd : ∀ e, d ≠ .deep e) : a = p := by
  cases h with
  | here => rfl
  | kid _ _ _ _ _ => exact absurd rfl (hd _)
theorem shp_deep {K : PySem.W.Frag} {d : D} {o : HO} {ds : List D} {vs : List V} (h : Shp K d o ds vs) : ∀ e, d ≠ .deep e := fun e z => by subst z; cases h
theorem OwnP.ft {K : PySem.W.Frag} {F H : Hp} {d : D} {p : Addr} (o : OwnP K F H d p) : ∀ {a : Addr}, Ft K H d p a → F a = none ∧ H a ≠ none := by
  induction o with
  | flat hF hH hs hr =>
    intro a h
    have := h.flat (shp_deep hs)
    subst this
    exact ⟨hF, by rw [hH]; exact fun z => nomatch z⟩
  | deep hF hH hs hl hr hq hk hp hj ih =>
    intro a h
    cases h with
    | here => exact ⟨hF, by rw [hH]; exact fun z => nomatch z⟩
    | kid hH' hs' hd hv h =>
      rw [hH] at hH'; cases hH'
      obtain ⟨rfl, rfl⟩ := hs.uniq hs'
      exact ih _ _ _ hd hv h
theorem Ft.to {K : PySem.W.Frag} {H H' : Hp} {d : D} {p a : Addr} (h : Ft K H d p a) (e : ∀ b, Ft K H d p b → H' b = H b) : Ft K H' d p a := by
  induction h with
  | here => exact .here
  | kid hH hs hd hv h ih => exact .kid ((e _ .here).trans hH) hs hd hv (ih fun b hb => e b (.kid hH hs hd hv hb))
theorem Ft.from {K : PySem.W.Frag} {H H' : Hp} {d : D} {p a : Addr} (h : Ft K H' d p a) (e : ∀ b, Ft K H d p b → H' b = H b) : Ft K H d p a := by
  induction h with
  | here => exact .here
  | kid hH hs hd hv h ih =>
    have hH2 := (e _ .here).symm.trans hH
    exact .kid hH2 hs hd hv (ih fun b hb => e b (.kid hH2 hs hd hv hb))
theorem OwnP.mono {K : PySem.W.Frag} {F F' H H' : Hp} {d : D} {p : Addr} (o : OwnP K F H d p) (s : Same F F') : (∀ a, Ft K H d p a → F' a = none) → (∀ a, Ft K H d p a → H' a = H a) → OwnP K F' H' d p := by
  induction o with
  | flat hF hH hs hr => exact fun h1 h2 => .flat (h1 _ .here) ((h2 _ .here).trans hH) hs (RpL.mono s _ _ hr)
  | @deep d p o ds vs hF hH hs hl hr hq hk hp hj ih =>
    intro h1 h2
    have k2 : ∀ (i : Nat) (e : D) (q : Addr), ds[i]? = some (.own e) → vs[i]? = some (.ref q) → ∀ b, Ft K H e q b → H' b = H b := fun i e q hd hv b hb => h2 b (.kid hH hs hd hv hb)
    refine .deep (h1 _ .here) ((h2 _ .here).trans hH) hs hl (fun i e v hd hv ho => Rp.mono s e v (hr i e v hd hv ho)) hq (fun i e q hd hv => ih i e q hd hv (fun a ha => h1 a (.kid hH hs hd hv ha)) fun a ha => h2 a (.kid hH hs hd hv ha)) (fun i e q hd hv hf => hp i e q hd hv (hf.from (k2 i e q hd hv))) fun i j e e' q q' a ne hd hv hd' hv' hf hf' => hj i j e e' q q' a ne hd hv hd' hv' (hf.from (k2 i e q hd hv)) (hf'.from (k2 j e' q' hd' hv'))

/-- how an exception is represented: its class, the dict's fields -/
def ErrOk (K : PySem.W.Frag) (mg : Str → Option Value) (F : Hp) (x : Exn) (cls : Value) (dd : Option Addr) : Prop :=
  ∃ C, mg x.c = some (.ref C) ∧ cls = .ref C ∧ ((x.fs = [] ∧ dd = none) ∨ ∃ a vs, dd = some a ∧ F a = some (.xd ((x.fs.map (·.1)).zip vs)) ∧ RpL K F (x.fs.map (·.2)) vs)

theorem ErrOk.mono {K : PySem.W.Frag} {mg : Str → Option Value} {F F' : Hp} {x : Exn} {cls : Value} {dd : Option Addr} (e : Same F F') (h : ErrOk K mg F x cls dd) : ErrOk K mg F' x cls dd := by
  obtain ⟨C, h1, h2, h3⟩ := h
  refine ⟨C, h1, h2, ?_⟩
  rcases h3 with h3 | ⟨a, vs, h4, h5, h6⟩
  · exact .inl h3
  · exact .inr ⟨a, vs, h4, e _ _ h5, RpL.mono e _ _ h6⟩
def SlOk (g : G) (F H : Hp) (ov : Option (Option V)) : Sl → Prop
  | .un => True
  | .pl d => ∃ v, ov = some (some v) ∧ Rp g.K F d v
  | .ow d => ∃ p, ov = some (some (.ref p)) ∧ (∀ a, Ft g.K H d p a → ¬ g.fx a) ∧ OwnP g.K F H d p
  | .io k d => ∃ p, ov = some (some (.ref p)) ∧ g.io k = some p ∧ (∀ a, Ft g.K H d p a → g.pH a = none) ∧ OwnP g.K F H d p
  | .ex x => ∃ a oe d cls, ov = some (some (.ref a)) ∧ g.mx.hx = some (a, oe) ∧ Zc cls d oe ∧ (∃ vs, oe.data = .fields vs) ∧ ErrOk g.K g.mx.mg F x cls d

theorem SlOk.exm {g : G} {F F' H H' : Hp} {ov : Option (Option V)} {x : Exn} (e : Same F F') (h : SlOk g F H ov (.ex x)) : SlOk g F' H' ov (.ex x) := by
  obtain ⟨a, oe, d, cls, h1, h2, h3, h4, h5⟩ := h
  exact ⟨a, oe, d, cls, h1, h2, h3, h4, h5.mono e⟩
/-- what a slot owns -/
def slD : Sl → Option D
  | .ow d => some d
  | .io _ d => some d
  | _ => none
/-- slot i has the place a for itself -/
def Ref (K : PySem.W.Frag) (H : Hp) (σ : L2.St) (sv : SV) (i : Nat) (a : Addr) : Prop := ∃ s d p, sv[i]? = some s ∧ slD s = some d ∧ σ[i]? = some (some (.ref p)) ∧ Ft K H d p a

structure Rl (g : G) (F H : Hp) (σ : L2.St) (sv : SV) : Prop where
  sub : Same F H
  kH : Same g.pH H
  kF : ∀ a, g.fx a → F a = g.F0 a
  fxH : ∀ a, g.fx a → H a ≠ none
  pf : ∀ a o, g.pH a = some o → g.fx a
  ion : ∀ k p, g.io k = some p → g.pH p = none ∧ g.fx p
  len : sv.length = σ.length
  sl : ∀ (i : Nat) (s : Sl), sv[i]? = some s → SlOk g F H σ[i]? s
  dj : ∀ (i j : Nat) (p : Addr), Ref g.K H σ sv i p → Ref g.K H σ sv j p → i = j

inductive R (α : Type) where
  | ok (a : α) (s : SV) | err (x : Exn) (s : SV) | bad
abbrev M (α : Type) := SV → R α
@[simp] def R.bind {α β : Type} (r : R α) (f : α → SV → R β) : R β := match r with
  | .ok a s => f a s
  | .err x s => .err x s
  | .bad => .bad

abbrev WX' := Value → Option Addr → L2.St → Hp → Prop

def PostG {α β : Type} (mg : MX) (g : G) (F : Hp) (σ : L2.St) (r : R α) (W : WX') (Rel : G → Hp → Hp → L2.St → SV → α → β → Prop) (Q : β → Hp → Prop) : Prop := match r with
  | .ok a sv' => ∀ b F' H', Same F F' → Rl g F' H' σ sv' → Rel g F' H' σ sv' a b → Q b H'
  | .err x sv' => ∀ cls dd F' H', Same F F' → Rl g F' H' σ sv' → ErrOk g.K mg.mg F' x cls dd → W cls dd σ H'
  | .bad => False
def RelE (g : G) (F' _H' : Hp) (_ : L2.St) (_ : SV) (d : D) (v : V) : Prop := Rp g.K F' d v
def RelO' (g : G) (F' H' : Hp) (σ : L2.St) (sv : SV) (d : D) (v : V) : Prop := ∃ p, v = .ref p ∧ (∀ a, Ft g.K H' d p a → ¬ g.fx a) ∧ OwnP g.K F' H' d p ∧ ∀ a, Ft g.K H' d p a → ∀ i, ¬ Ref g.K H' σ sv i a
def RelT (_ : G) (_F' _H' : Hp) (_ : L2.St) (_ : SV) (b : Bool) (c : Bool) : Prop := c = b
def tG {α β : Type} (K : PySem.W.Frag) (mg : MX) (W : WX') (Rel : G → Hp → Hp → L2.St → SV → α → β → Prop) (m : M α) : L2.St → Hp → (β → Hp → Prop) → Prop :=
  fun σ H Q => ∃ g F sv, (g.K = K ∧ g.mx = mg) ∧ Rl g F H σ sv ∧ PostG mg g F σ (m sv) W Rel Q
abbrev tE (K : PySem.W.Frag) (mg : MX) (W : WX') (m : M D) : TE := tG K mg W RelE m
abbrev tO (K : PySem.W.Frag) (mg : MX) (W : WX') (m : M D) : TE := tG K mg W RelO' m
abbrev tT (K : PySem.W.Frag) (mg : MX) (W : WX') (m : M Bool) : TT := tG K mg W RelT m

theorem PostG.bind {α β γ δ : Type} {mg : MX} {g : G} {F : Hp} {σ : L2.St} {r : R α} {k : α → SV → R γ} {W : WX'} {Rel1 : G → Hp → Hp → L2.St → SV → α → β → Prop} {Rel2 : G → Hp → Hp → L2.St → SV → γ → δ → Prop} {Q : δ → Hp → Prop} {Q1 : β → Hp → Prop}
    (h : PostG mg g F σ (r.bind k) W Rel2 Q)
    (kk : ∀ a sv1 b F1 H1, Same F F1 → Rl g F1 H1 σ sv1 → Rel1 g F1 H1 σ sv1 a b → PostG mg g F1 σ (k a sv1) W Rel2 Q → Q1 b H1) : PostG mg g F σ r W Rel1 Q1 := by
  cases r with
  | ok a s =>
    intro b F1 H1 e rl rel
    refine kk a s b F1 H1 e rl rel ?_
    have h' : PostG mg g F σ (k a s) W Rel2 Q := h
    revert h'
    cases k a s with
    | ok c s2 => exact fun h' d F2 H2 e2 => h' d F2 H2 (e.trans e2)
    | err x s2 => exact fun h' cls dd F2 H2 e2 => h' cls dd F2 H2 (e.trans e2)
    | bad => exact fun h' => h'
  | err x s => exact h
  | bad => exact h

abbrev SE (X : Cx) (W : WX') (e : Expr) (m : M D) : Prop := PE X e (tE X.K X.mx W m)
abbrev SO (X : Cx) (W : WX') (e : Expr) (m : M D) : Prop := PE X e (tO X.K X.mx W m)
abbrev ST (X : Cx) (W : WX') (e : Expr) (m : M Bool) : Prop := PT X e (tT X.K X.mx W m)

theorem pe_imp {X : Cx} {e : Expr} {t t' : TE} (h : PE X e t) (k : ∀ σ H Q, t' σ H Q → t σ H Q) : PE X e t' := ⟨fun pins s σ H Q I q => h.run pins s σ H Q I (k σ H Q q)⟩
theorem pt_imp {X : Cx} {e : Expr} {t t' : TT} (h : PT X e t) (k : ∀ σ H Q, t' σ H Q → t σ H Q) : PT X e t' := ⟨fun pins s σ H Q I q => h.run pins s σ H Q I (k σ H Q q)⟩
theorem pw_imp {X : Cx} {e : Expr} {t t' : TT} (h : PW X e t) (k : ∀ σ H Q, t' σ H Q → t σ H Q) : PW X e t' := ⟨fun w pins s σ H Q I q => h.run w pins s σ H Q I (k σ H Q q)⟩

section
variable {g : G} {F H F' H' : Hp} {σ : L2.St} {sv : SV}
theorem same_upd {H : Hp} {p : Addr} {o : HO} (h : H p = none) : Same H (upd H p o) := fun b x e => by
  rw [upd_ne (ne_of_none e h)]
  exact e
/-- a slot that owns a -/
theorem Rl.own (r : Rl g F H σ sv) {i : Nat} {a : Addr} (h : Ref g.K H σ sv i a) : F a = none ∧ H a ≠ none ∧ g.pH a = none := by
  obtain ⟨s, d, p, e1, e2, e3, hf⟩ := h
  have q := r.sl i s e1
  cases s with
  | ow d' =>
    cases e2
    obtain ⟨p', e4, nf, o⟩ := q
    rw [e3] at e4; cases e4
    refine ⟨(o.ft hf).1, (o.ft hf).2, ?_⟩
    cases hh : g.pH a with
    | none => rfl
    | some x => exact absurd (r.pf _ _ hh) (nf a hf)
  | io k d' =>
    cases e2
    obtain ⟨p', e4, nf, np, o⟩ := q
    rw [e3] at e4; cases e4
    exact ⟨(o.ft hf).1, (o.ft hf).2, np a hf⟩
  | _ => cases e2
/-- what a slot says, elsewhere -/
theorem SlOk.move (r : Rl g F H σ sv) {i : Nat} {s : Sl} (e : sv[i]? = some s) (sF : Same F F') (hF : ∀ a, Ref g.K H σ sv i a → F' a = none) (hH : ∀ a, Ref g.K H σ sv i a → H' a = H a) : SlOk g F' H' σ[i]? s := by
  have q := r.sl i s e
  cases s with
  | un => trivial
  | ex x => exact SlOk.exm sF q
  | pl d =>
    obtain ⟨v, e1, h⟩ := q
    exact ⟨v, e1, Rp.mono sF d v h⟩
  | ow d =>
    obtain ⟨p, e1, nf, o⟩ := q
    have hh : ∀ a, Ft g.K H d p a → H' a = H a := fun a ha => hH a ⟨_, d, p, e, rfl, e1, ha⟩
    exact ⟨p, e1, fun a ha => nf a (ha.from hh), o.mono sF (fun a ha => hF a ⟨_, d, p, e, rfl, e1, ha⟩) hh⟩
  | io k d =>
    obtain ⟨p, e1, nf, np, o⟩ := q
    have hh : ∀ a, Ft g.K H d p a → H' a = H a := fun a ha => hH a ⟨_, d, p, e, rfl, e1, ha⟩
    exact ⟨p, e1, nf, fun a ha => np a (ha.from hh), o.mono sF (fun a ha => hF a ⟨_, d, p, e, rfl, e1, ha⟩) hh⟩
theorem Ref.from {K : PySem.W.Frag} {i : Nat} {a : Addr} (h : Ref K H' σ sv i a) (hH : ∀ a, Ref K H σ sv i a → H' a = H a) : Ref K H σ sv i a := by
  obtain ⟨s, d, p, e1, e2, e3, hf⟩ := h
  exact ⟨s, d, p, e1, e2, e3, hf.from fun b hb => hH b ⟨s, d, p, e1, e2, e3, hb⟩⟩
/-- the heap changes where no slot has anything for itself -/
theorem Rl.move (r : Rl g F H σ sv) (s2 : Same F' H') (kH : Same g.pH H') (kF : ∀ a, g.fx a → F' a = F a) (fxH : ∀ a, g.fx a → H' a ≠ none) (sF : Same F F') (hF : ∀ i a, Ref g.K H σ sv i a → F' a = none) (hH : ∀ i a, Ref g.K H σ sv i a → H' a = H a) : Rl g F' H' σ sv :=
  ⟨s2, kH, fun a ha => (kF a ha).trans (r.kF a ha), fxH, r.pf, r.ion, r.len, fun i s e => SlOk.move r e sF (hF i) (hH i), fun i j a x y => r.dj i j a (x.from (hH i)) (y.from (hH j))⟩
/-- the heap grows at a place that nobody has: laid open, frozen at once -/
theorem Rl.lay (r : Rl g F H σ sv) {p : Addr} {o : HO} (n : H p = none) : Rl g (upd F p o) (upd H p o) σ sv := by
  have nF : F p = none := r.sub.free n
  have ne : ∀ i q, Ref g.K H σ sv i q → q ≠ p := fun i q h e => by
    have := (r.own h).2.1
    rw [e] at this
    exact this n
  refine r.move (fun a u e => ?_) (r.kH.trans (same_upd n)) (fun a ha => ?_) (fun a ha => ?_) (same_upd nF) (fun i a h => ?_) fun i a h => upd_ne (ne i a h)
  · by_cases h : a = p
    · subst h; rw [upd_same] at e ⊢; exact e
    · rw [upd_ne h] at e ⊢; exact r.sub a u e
  · have : a ≠ p := fun e => by subst e; exact r.fxH _ ha n
    exact upd_ne this
  · have : a ≠ p := fun e => by subst e; exact r.fxH _ ha n
    rw [upd_ne this]; exact r.fxH a ha
  · rw [upd_ne (ne i a h)]; exact (r.own h).1
/-- .. laid open, not frozen -/
theorem Rl.layO (r : Rl g F H σ sv) {p : Addr} {o : HO} (n : H p = none) : Rl g F (upd H p o) σ sv := by
  have ne : ∀ i q, Ref g.K H σ sv i q → q ≠ p := fun i q h e => by
    have := (r.own h).2.1
    rw [e] at this
    exact this n
  refine r.move (r.sub.trans (same_upd n)) (r.kH.trans (same_upd n)) (fun _ _ => rfl) (fun a ha => ?_) (Same.refl F) (fun i a h => (r.own h).1) fun i a h => upd_ne (ne i a h)
  have : a ≠ p := fun e => by subst e; exact r.fxH _ ha n
  rw [upd_ne this]; exact r.fxH a ha
theorem Rl.noRef (r : Rl g F H σ sv) {p : Addr} (n : H p = none) : ∀ i, ¬ Ref g.K H σ sv i p := fun i h => (r.own h).2.1 n
theorem Rl.nofx (r : Rl g F H σ sv) {p : Addr} (n : H p = none) : ¬ g.fx p := fun h => r.fxH _ h n
/-- a flat thing that was just laid open -/
theorem Rl.newO (r : Rl g F H σ sv) {p : Addr} {o : HO} {d : D} {ds : List D} {vs : List V} (n : H p = none) (hs : Shp g.K d o ds vs) (hr : RpL g.K F ds vs) : RelO' g F (upd H p o) σ sv d (.ref p) := by
  have ef : ∀ a, Ft g.K (upd H p o) d p a → a = p := fun a ha => ha.flat (shp_deep hs)
  have ne : ∀ i q, Ref g.K H σ sv i q → q ≠ p := fun i q h e => by
    have := (r.own h).2.1
    rw [e] at this
    exact this n
  refine ⟨p, rfl, fun a ha => by rw [ef a ha]; exact r.nofx n, .flat (r.sub.free n) upd_same hs hr, fun a ha i hi => ?_⟩
  rw [ef a ha] at hi
  exact r.noRef n i (hi.from fun b hb => upd_ne (ne i b hb))
/-- the heap with what is told as frozen -/
noncomputable def ovl (F H : Hp) (φ : Addr → Prop) : Hp := by
  classical
  exact fun a => if φ a then H a else F a
theorem ovl_in {F H : Hp} {φ : Addr → Prop} {a : Addr} (h : φ a) : ovl F H φ a = H a := if_pos h
theorem ovl_out {F H : Hp} {φ : Addr → Prop} {a : Addr} (h : ¬ φ a) : ovl F H φ a = F a := if_neg h
theorem same_ovl {φ : Addr → Prop} (h : ∀ a, φ a → F a = none) : Same F (ovl F H φ) := fun a u e => by
  rw [ovl_out (fun z => by rw [h a z] at e; cases e)]; exact e
/-- what no slot owns is frozen -/
theorem Rl.frz (r : Rl g F H σ sv) {φ : Addr → Prop} (nf : ∀ a, φ a → ¬ g.fx a) (nF : ∀ a, φ a → F a = none) (nr : ∀ a, φ a → ∀ i, ¬ Ref g.K H σ sv i a) : Rl g (ovl F H φ) H σ sv := by
  refine r.move (fun a u e => ?_) r.kH (fun a ha => ovl_out fun z => nf a z ha) r.fxH (same_ovl nF) (fun i a h => ?_) fun i a h => rfl
  · by_cases h : φ a
    · rw [ovl_in h] at e; exact e
    · rw [ovl_out h] at e; exact r.sub a u e
  · rw [ovl_out fun z => nr a z i h]; exact (r.own h).1
/-- slots that say less, or the same -/
theorem Rl.sight (r : Rl g F H σ sv) {σ' : L2.St} {sv' : SV} (hl : σ'.length = σ.length) (hl' : sv'.length = sv.length) (h : ∀ (j : Nat) (s : Sl), sv'[j]? = some s → s = .un ∨ (sv[j]? = some s ∧ σ'[j]? = σ[j]?)) : Rl g F H σ' sv' := by
  have rr : ∀ j p, Ref g.K H σ' sv' j p → Ref g.K H σ sv j p := fun j p ⟨s, d, q, e1, e2, e3, e4⟩ => by
    rcases h j s e1 with rfl | ⟨h1, h2⟩
    · cases e2
    · exact ⟨s, d, q, h1, e2, by rw [← h2]; exact e3, e4⟩
  refine ⟨r.sub, r.kH, r.kF, r.fxH, r.pf, r.ion, by rw [hl, hl', r.len], fun j s e => ?_, fun i j p a b => r.dj i j p (rr _ _ a) (rr _ _ b)⟩
  rcases h j s e with rfl | ⟨h1, h2⟩
  · trivial
  · rw [h2]; exact r.sl j s h1
/-- a slot is forgotten -/
theorem Rl.forget (r : Rl g F H σ sv) (i : Nat) : Rl g F H σ (sv.set i .un) := r.sight rfl (by simp) fun j s e => by
  by_cases h : i = j
  · subst h
    by_cases hl : i < sv.length
    · rw [List.getElem?_set_self hl] at e
      cases e
      exact .inl rfl
    · rw [List.getElem?_eq_none (by simp; omega)] at e; cases e
  · rw [List.getElem?_set_ne h] at e
    exact .inr ⟨e, rfl⟩
/-- a slot gets what it is told -/
theorem Rl.setSl (r : Rl g F H σ sv) (i : Nat) {ov : Option V} {s' : Sl} (h : SlOk g F H (some ov) s') (hn : ∀ d p, slD s' = some d → ov = some (.ref p) → ∀ a, Ft g.K H d p a → ∀ j, j ≠ i → ¬ Ref g.K H σ sv j a) : Rl g F H (σ.set i ov) (sv.set i s') := by
  have rr : ∀ j a, Ref g.K H (σ.set i ov) (sv.set i s') j a → (j = i ∧ ∃ d p, slD s' = some d ∧ ov = some (.ref p) ∧ Ft g.K H d p a) ∨ (j ≠ i ∧ Ref g.K H σ sv j a) := fun j a ⟨s, d, p, e1, e2, e3, e4⟩ => by
    by_cases h : i = j
    · subst h
      have hl : i < sv.length := by
        have := (List.getElem?_eq_some_iff.mp e1).1
        simpa using this
      rw [List.getElem?_set_self hl] at e1
      rw [List.getElem?_set_self (by rw [← r.len]; exact hl)] at e3
      cases e1; cases e3
      exact .inl ⟨rfl, d, p, e2, rfl, e4⟩
    · rw [List.getElem?_set_ne h] at e1 e3
      exact .inr ⟨Ne.symm h, s, d, p, e1, e2, e3, e4⟩
  refine ⟨r.sub, r.kH, r.kF, r.fxH, r.pf, r.ion, by simp [r.len], fun j s e => ?_, fun j k a x y => ?_⟩
  · by_cases hj : i = j
    · subst hj
      have hl : i < sv.length := by
        have := (List.getElem?_eq_some_iff.mp e).1
        simpa using this
      rw [List.getElem?_set_self hl] at e
      cases e
      rw [List.getElem?_set_self (by rw [← r.len]; exact hl)]
      exact h
    · rw [List.getElem?_set_ne hj] at e
      rw [List.getElem?_set_ne hj]
      exact r.sl j s e
  · rcases rr j a x with ⟨rfl, d, p, e2, e3, e4⟩ | ⟨h1, h2⟩
    · rcases rr k a y with ⟨rfl, _⟩ | ⟨h3, h4⟩
      · rfl
      · exact absurd h4 (hn d p e2 e3 a e4 k h3)
    · rcases rr k a y with ⟨rfl, d, p, e2, e3, e4⟩ | ⟨h3, h4⟩
      · exact absurd h2 (hn d p e2 e3 a e4 j h1)
      · exact r.dj j k a h2 h4
/-- a slot of plain value -/
theorem Rl.setPl (r : Rl g F H σ sv) (i : Nat) {d : D} {v : V} (h : Rp g.K F d v) : Rl g F H (σ.set i (some v)) (sv.set i (.pl d)) := r.setSl i ⟨v, rfl, h⟩ fun d p e => by cases e
/-- a slot of an owned object -/
theorem Rl.setOw (r : Rl g F H σ sv) (i : Nat) {d : D} {p : Addr} (nf : ∀ a, Ft g.K H d p a → ¬ g.fx a) (h : OwnP g.K F H d p) (nr : ∀ a, Ft g.K H d p a → ∀ i, ¬ Ref g.K H σ sv i a) : Rl g F H (σ.set i (some (.ref p))) (sv.set i (.ow d)) := r.setSl i ⟨p, rfl, nf, h⟩ fun d p e e' a ha j _ => by
  cases e; cases e'
  exact nr a ha j
end
end VM

set_option Elab.async false
set_option linter.all false
set_option autoImplicit false
set_option maxRecDepth 100000
set_option maxHeartbeats 200000
namespace VM
open PySem PySem.Spec PyProof.Rows L2

/-! ### two-place operations on data -/
def m2 (f : D → D → Option D) (ma mb : M D) : M D := fun sv => (ma sv).bind fun a s1 => (mb s1).bind fun b s2 => match f a b with
  | some d => .ok d s2
  | none => .bad
def m1 (f : D → Option D) (ma : M D) : M D := fun sv => (ma sv).bind fun a s1 => match f a with
  | some d => .ok d s1
  | none => .bad
def O2 (K : PySem.W.Frag) (r : R2) (f : D → D → Option D) : Prop :=
  ∀ (g : G) (F H : Hp) (σ : L2.St) (sv : SV) (a b d : D) (x y : V) (Q : VK), g.K = K → Rl g F H σ sv → f a b = some d → Rp K F a x → Rp K F b y →
    (∀ v F' H', Same F F' → Rl g F' H' σ sv → Rp K F' d v → Q v H') → r x y H Q
def O1 (K : PySem.W.Frag) (r : V → Hp → VK → Prop) (f : D → Option D) : Prop :=
  ∀ (g : G) (F H : Hp) (σ : L2.St) (sv : SV) (a d : D) (x : V) (Q : VK), g.K = K → Rl g F H σ sv → f a = some d → Rp K F a x →
    (∀ v F' H', Same F F' → Rl g F' H' σ sv → Rp K F' d v → Q v H') → r x H Q
theorem O2.or {K : PySem.W.Frag} {r r' : R2} {f f' : D → D → Option D} (h : O2 K r f) (h' : O2 K r' f') : O2 K (fun x y H Q => r x y H Q ∨ r' x y H Q) (fun a b => (f a b).or (f' a b)) := by
  intro g F H σ sv a b d x y Q hK rl e ha hb q
  dsimp only at e
  cases e1 : f a b with
  | some d' =>
    rw [e1] at e
    cases (show d' = d by simpa using e)
    exact .inl (h g F H σ sv a b d x y Q hK rl e1 ha hb q)
  | none =>
    rw [e1] at e
    exact .inr (h' g F H σ sv a b d x y Q hK rl (by simpa using e) ha hb q)
theorem OpR.or {X : Cx} {f : Value → Value → Sem Value} {r r' : R2} (h : OpR X f r) (h' : OpR X f r') : OpR X f (fun x y H Q => r x y H Q ∨ r' x y H Q) := by
  intro pins s σ H x y v u Q I rx ry q
  rcases q with q | q
  · exact h pins s σ H x y v u Q I rx ry q
  · exact h' pins s σ H x y v u Q I rx ry q

section
variable {K : PySem.W.Frag} {mg : MX} {W : WX'}
theorem tg_op2 {r : R2} {f : D → D → Option D} (hf : O2 K r f) {ma mb : M D} {σ : L2.St} {H : Hp} {Q : VK} (h : tE K mg W (m2 f ma mb) σ H Q) : tOp r (tE K mg W ma) (tE K mg W mb) σ H Q := by
  obtain ⟨g, F, sv, hK, rl, h⟩ := h
  refine ⟨g, F, sv, hK, rl, PostG.bind h fun a s1 x F1 H1 e1 rl1 rp1 h1 => ?_⟩
  refine ⟨g, F1, s1, hK, rl1, PostG.bind h1 fun b s2 y F2 H2 e2 rl2 rp2 h2 => ?_⟩
  obtain ⟨hK, hMx⟩ := hK; subst hK
  cases e : f a b with
  | none => rw [e] at h2; exact False.elim h2
  | some d =>
    rw [e] at h2
    exact hf g F2 H2 σ s2 a b d x y Q rfl rl2 e (Rp.mono e2 a x rp1) rp2 fun v F' H' e3 rl3 rp3 => h2 v F' H' e3 rl3 rp3
theorem tg_op1 {r : V → Hp → VK → Prop} {f : D → Option D} (hf : O1 K r f) {ma : M D} {σ : L2.St} {H : Hp} {Q : VK} (h : tE K mg W (m1 f ma) σ H Q) : tUn r (tE K mg W ma) σ H Q := by
  obtain ⟨g, F, sv, hK, rl, h⟩ := h
  refine ⟨g, F, sv, hK, rl, PostG.bind h fun a s1 x F1 H1 e1 rl1 rp1 h1 => ?_⟩
  obtain ⟨hK, hMx⟩ := hK; subst hK
  cases e : f a with
  | none => rw [e] at h1; exact False.elim h1
  | some d =>
    rw [e] at h1
    exact hf g F1 H1 σ s1 a d x Q rfl rl1 e rp1 fun v F' H' e3 rl3 rp3 => h1 v F' H' e3 rl3 rp3
end
/-- a pure operation: nothing is laid -/
theorem o2_pure {K : PySem.W.Frag} {r : R2} {f : D → D → Option D} (h : ∀ (F H : Hp) (a b d : D) (x y : V) (Q : VK), Same F H → f a b = some d → Rp K F a x → Rp K F b y → (∀ v, Rp K F d v → Q v H) → r x y H Q) : O2 K r f :=
  fun g F H σ sv a b d x y Q _ rl e ha hb q => h F H a b d x y Q rl.sub e ha hb fun v rv => q v F H (Same.refl F) rl rv
theorem o1_pure {K : PySem.W.Frag} {r : V → Hp → VK → Prop} {f : D → Option D} (h : ∀ (F H : Hp) (a d : D) (x : V) (Q : VK), Same F H → f a = some d → Rp K F a x → (∀ v, Rp K F d v → Q v H) → r x H Q) : O1 K r f :=
  fun g F H σ sv a d x Q _ rl e ha q => h F H a d x Q rl.sub e ha fun v rv => q v F H (Same.refl F) rl rv

/-! #### arithmetic -/
def dI2 (c : Int → Int → Option D) : D → D → Option D
  | .int i, .int j => c i j
  | _, _ => none
theorem o2_int {K : PySem.W.Frag} {C : Int → Int → Prop} {gg : Int → Int → V} {c : Int → Int → Option D} (hc : ∀ i j d, c i j = some d → C i j) (hg : ∀ i j d F v, c i j = some d → v = gg i j → Rp K F d v) : O2 K (rI C gg) (dI2 c) :=
  o2_pure fun F H a b d x y Q _ e ha hb q => by
    cases a <;> try (cases e; done)
    cases b <;> try (cases e; done)
    rename_i i j
    exact ⟨i, j, ha, hb, hc i j d e, q _ (hg i j d F _ e rfl)⟩
def cSub (i j : Int) : Option D := some (.int (i - j))
def cAdd (i j : Int) : Option D := some (.int (i + j))
def cMul (i j : Int) : Option D := if (-(2 ^ 64) < i ∧ i < 2 ^ 64) ∨ (-(2 ^ 64) < j ∧ j < 2 ^ 64) then some (.int (i * j)) else none
def cDiv (i j : Int) : Option D := if 0 < j ∧ j < 1073741824 then some (.int (i / j)) else none
def cMod (i j : Int) : Option D := if 0 < j then some (.int (i % j)) else none
def cPow (i j : Int) : Option D := if 0 ≤ j ∧ j ≤ 1000000 ∧ i.natAbs < 2 ^ 64 then some (.int (i ^ j.toNat)) else none
theorem op_toI {X : Cx} {f : Value → Value → Sem Value} {g : Int → Int → V} (h : OpR X f (rI0 g)) : OpR X f (rI (fun _ _ => True) g) := by
  intro pins s σ H x y v u Q I rx ry q
  obtain ⟨i, j, e1, e2, _, q⟩ := q
  exact h pins s σ H x y v u Q I rx ry ⟨i, j, e1, e2, q⟩
section
variable {K : PySem.W.Frag}
theorem o2_subI : O2 K (rI (fun _ _ => True) fun i j => .int (i - j)) (dI2 cSub) := o2_int (fun _ _ _ _ => trivial) fun i j d F v e ev => by cases e; exact ev
theorem o2_addI : O2 K (rI (fun _ _ => True) fun i j => .int (i + j)) (dI2 cAdd) := o2_int (fun _ _ _ _ => trivial) fun i j d F v e ev => by cases e; exact ev
theorem o2_mulI : O2 K (rI CMul fun i j => .int (i * j)) (dI2 cMul) := o2_int (fun i j d e => by
    unfold cMul at e
    split at e
    · assumption
    · cases e) fun i j d F v e ev => by
    unfold cMul at e
    split at e
    · cases e; exact ev
    · cases e
theorem o2_divI : O2 K (rI CDiv fun i j => .int (i / j)) (dI2 cDiv) := o2_int (fun i j d e => by
    unfold cDiv at e
    split at e
    · assumption
    · cases e) fun i j d F v e ev => by
    unfold cDiv at e
    split at e
    · cases e; exact ev
    · cases e
theorem o2_modI : O2 K (rI (fun _ j => 0 < j) fun i j => .int (i % j)) (dI2 cMod) := o2_int (fun i j d e => by
    unfold cMod at e
    split at e
    · assumption
    · cases e) fun i j d F v e ev => by
    unfold cMod at e
    split at e
    · cases e; exact ev
    · cases e
theorem o2_powI : O2 K (rI CPow fun i j => .int (i ^ j.toNat)) (dI2 cPow) := o2_int (fun i j d e => by
    unfold cPow at e
    split at e
    · assumption
    · cases e) fun i j d F v e ev => by
    unfold cPow at e
    split at e
    · cases e; exact ev
    · cases e
end
/-- + : ints, texts, lists, tuples -/
def dAdd : D → D → Option D
  | .int i, .int j => some (.int (i + j))
  | .str a, .str b => if a.length + b.length ≤ sizeLine then some (.str (a ++ b)) else none
  | .lst xs, .lst ys => if xs.length + ys.length ≤ sizeLine then some (.lst (xs ++ ys)) else none
  | .tup xs, .tup ys => if xs.length + ys.length ≤ sizeLine then some (.tup (xs ++ ys)) else none
  | _, _ => none
def rAddA (K : PySem.W.Frag) : R2 := fun x y H Q =>
  (((rI (fun _ _ => True) fun i j => .int (i + j)) x y H Q ∨ (∃ i j, x = .str i ∧ y = .str j ∧ i.length + j.length ≤ sizeLine ∧ Q (.str (i ++ j)) H)) ∨ rCat x y H Q) ∨ rCatA K x y H Q
theorem op_addA {X : Cx} : OpR X (binaryOp .Add) (rAddA X.K) := OpR.or (OpR.or (OpR.or (op_toI op_add) op_add_str) op_cat) op_catA
theorem o2_addA {K : PySem.W.Frag} : O2 K (rAddA K) dAdd := by
  intro g F H σ sv a b d x y Q hK rl e ha hb q
  subst hK
  cases a <;> cases b <;> try (cases e; done)
  · rename_i i j
    cases e
    exact .inl (.inl (.inl ⟨i, j, ha, hb, trivial, q _ F H (Same.refl F) rl rfl⟩))
  · rename_i i j
    simp only [dAdd] at e
    split at e
    · cases e
      exact .inl (.inl (.inr ⟨i, j, ha, hb, by assumption, q _ F H (Same.refl F) rl rfl⟩))
    · cases e
  · rename_i xs ys
    simp only [dAdd] at e
    split at e
    · cases e
      rename_i hz
      obtain ⟨a, vs, rfl, h1, h2⟩ := ha
      obtain ⟨b, us, rfl, h3, h4⟩ := hb
      refine .inr ⟨a, b, vs, us, rfl, rfl, sqT_mono rl.sub h1, sqT_mono rl.sub h3, by rw [← h2.length, ← h4.length]; exact hz, fun z => ?_, fun z z2 => ?_, fun z z2 p hp => ?_⟩
      · subst z
        have : xs = [] := List.length_eq_zero_iff.mp h2.length
        subst this
        exact q _ F H (Same.refl F) rl ⟨b, us, rfl, h3, h4⟩
      · subst z2
        have : ys = [] := List.length_eq_zero_iff.mp h4.length
        subst this
        refine q _ F H (Same.refl F) rl ⟨a, vs, rfl, h1, ?_⟩
        rw [List.append_nil]; exact h2
      · have sF : Same F (upd F p (.tup (vs ++ us))) := same_upd (rl.sub.free hp)
        exact q _ _ _ sF (rl.lay hp) ⟨p, _, rfl, .inl (.inl upd_same), (RpL.mono sF _ _ h2).append (RpL.mono sF _ _ h4)⟩
    · cases e
  · rename_i xs ys
    simp only [dAdd] at e
    split at e
    · cases e
      rename_i hz
      obtain ⟨a, vs, rfl, h1, h2⟩ := ha
      obtain ⟨b, us, rfl, h3, h4⟩ := hb
      refine .inl (.inr ⟨a, b, vs, us, rfl, rfl, rl.sub _ _ h1, rl.sub _ _ h3, by rw [← h2.length, ← h4.length]; exact hz, fun p hp => ?_⟩)
      have sF : Same F (upd F p (.lst (vs ++ us))) := same_upd (rl.sub.free hp)
      exact q _ _ _ sF (rl.lay hp) ⟨p, _, rfl, upd_same, (RpL.mono sF _ _ h2).append (RpL.mono sF _ _ h4)⟩
    · cases e

/-! #### comparisons -/
mutual
def py : D → Option PyData
  | .non => some .none
  | .bl b => some (.bool b)
  | .int i => some (.int i)
  | .str x => some (.str x)
  | .tup xs => (pyL xs).map .tuple
  | .lst xs => (pyL xs).map .list
  | .fl xs => (pyL xs).map .list
  | .dct _ _ => none
  | .obj _ _ _ => none
  | .deep _ => none
  | .own _ => none
def pyL : List D → Option (List PyData)
  | [] => some []
  | d :: ds => match py d, pyL ds with
    | some p, some ps => some (p :: ps)
    | _, _ => none
end
section
variable {K : PySem.W.Frag} {F H : Hp}
mutual
theorem dp_of (e : Same F H) : ∀ (d : D) (v : V) (p : PyData), Rp K F d v → py d = some p → Dp K H v p
  | .non, v, p, h, q => by cases h; cases q; exact .non
  | .bl b, v, p, h, q => by cases h; cases q; exact .bl b
  | .int i, v, p, h, q => by cases h; cases q; exact .int i
  | .str x, v, p, h, q => by cases h; cases q; exact .str x
  | .tup ds, v, p, h, q => by
    obtain ⟨a, vs, rfl, h1, h2⟩ := h
    simp only [py, Option.map_eq_some_iff] at q
    obtain ⟨ps, q1, rfl⟩ := q
    exact .tup (sqT_mono e h1) (dpL_of e ds vs ps h2 q1)
  | .lst ds, v, p, h, q => by
    obtain ⟨a, vs, rfl, h1, h2⟩ := h
    simp only [py, Option.map_eq_some_iff] at q
    obtain ⟨ps, q1, rfl⟩ := q
    exact .lst (.inl (.inl (e _ _ h1))) (dpL_of e ds vs ps h2 q1)
  | .fl ds, v, p, h, q => by
    obtain ⟨a, vs, rfl, h1, h2⟩ := h
    simp only [py, Option.map_eq_some_iff] at q
    obtain ⟨ps, q1, rfl⟩ := q
    exact .lst (e.seq h1) (dpL_of e ds vs ps h2 q1)
  | .dct _ _, v, p, h, q => by cases q
  | .obj _ _ _, v, p, h, q => by cases q
  | .deep _, v, p, h, q => by cases q
  | .own _, v, p, h, q => by cases q
theorem dpL_of (e : Same F H) : ∀ (ds : List D) (vs : List V) (ps : List PyData), RpL K F ds vs → pyL ds = some ps → DpAll K H vs ps
  | [], vs, ps, h, q => by
    cases h
    simp only [pyL, Option.some.injEq] at q
    subst q
    exact .nil
  | d :: ds, vs, ps, h, q => by
    obtain ⟨v, r, rfl, h1, h2⟩ := h
    unfold pyL at q
    cases e1 : py d with
    | none => rw [e1] at q; cases q
    | some p =>
      cases e2 : pyL ds with
      | none => rw [e1, e2] at q; cases q
      | some ps' =>
        rw [e1, e2] at q
        cases q
        exact .cons (dp_of e d v p h1 e1) (dpL_of e ds r ps' h2 e2)
end
end
def eqP (a b : D) : Option Bool := match py a, py b with
  | some p, some q => if SeqAt.shaped p = true ∧ SeqAt.shaped q = true then some (PyData.eqv p q) else none
  | _, _ => none
def eqD : D → D → Option Bool
  | .str x, .str y => some (decide (x = y))
  | .int i, .int j => some (decide (i = j))
  | .bl i, .bl j => some (decide (i = j))
  | a, b => eqP a b
def dEq (a b : D) : Option D := (eqD a b).map .bl
def dNe (a b : D) : Option D := (eqD a b).map fun c => .bl !c
def rEqA (K : PySem.W.Frag) : R2 := fun x y H Q => rEq x y H Q ∨ rEqD K x y H Q
def rNeA (K : PySem.W.Frag) : R2 := fun x y H Q => rNe x y H Q ∨ rNeD K x y H Q
theorem op_eqA {X : Cx} (hu : X.A.units + 64 < cLine) : OpR X (compareOp .Eq) (rEqA X.K) := OpR.or op_eq (op_eqD hu)
theorem op_neA {X : Cx} (hu : X.A.units + 64 < cLine) : OpR X (compareOp .NotEq) (rNeA X.K) := OpR.or op_ne (op_neD hu)
theorem eqP_of {K : PySem.W.Frag} {F H : Hp} {a b : D} {x y : V} {c : Bool} (e : eqP a b = some c) (s : Same F H) (ha : Rp K F a x) (hb : Rp K F b y) :
    ∃ p q, Dp K H x p ∧ Dp K H y q ∧ SeqAt.shaped p = true ∧ SeqAt.shaped q = true ∧ PyData.eqv p q = c := by
  unfold eqP at e
  cases e1 : py a with
  | none => rw [e1] at e; cases e
  | some p =>
    cases e2 : py b with
    | none => rw [e1, e2] at e; cases e
    | some q =>
      rw [e1, e2] at e
      dsimp only at e
      split at e
      · rename_i hs
        cases e
        exact ⟨p, q, dp_of s a x p ha e1, dp_of s b y q hb e2, hs.1, hs.2, rfl⟩
      · cases e
theorem eqD_cases {a b : D} {c : Bool} (e : eqD a b = some c) :
    (∃ x y, a = .str x ∧ b = .str y ∧ c = decide (x = y)) ∨ (∃ i j, a = .int i ∧ b = .int j ∧ c = decide (i = j)) ∨ (∃ i j, a = .bl i ∧ b = .bl j ∧ c = decide (i = j)) ∨ eqP a b = some c := by
  unfold eqD at e
  split at e
  · cases e; exact .inl ⟨_, _, rfl, rfl, rfl⟩
  · cases e; exact .inr (.inl ⟨_, _, rfl, rfl, rfl⟩)
  · cases e; exact .inr (.inr (.inl ⟨_, _, rfl, rfl, rfl⟩))
  · exact .inr (.inr (.inr e))
theorem o2_eqA {K : PySem.W.Frag} : O2 K (rEqA K) dEq := o2_pure fun F H a b d x y Q s e ha hb q => by
  unfold dEq at e
  obtain ⟨c, e1, rfl⟩ := Option.map_eq_some_iff.mp e
  rcases eqD_cases e1 with ⟨i, j, rfl, rfl, rfl⟩ | ⟨i, j, rfl, rfl, rfl⟩ | ⟨i, j, rfl, rfl, rfl⟩ | e2
  · cases ha; cases hb
    exact .inl ⟨rfl, q _ (by show V.bl _ = V.bl _; congr 1; simp)⟩
  · cases ha; cases hb
    exact .inl ⟨rfl, q _ (by show V.bl _ = V.bl _; congr 1; simp)⟩
  · cases ha; cases hb
    exact .inl ⟨rfl, q _ (by show V.bl _ = V.bl _; congr 1; simp)⟩
  · obtain ⟨p, p', h1, h2, h3, h4, rfl⟩ := eqP_of e2 s ha hb
    exact .inr ⟨p, p', h1, h2, h3, h4, q _ rfl⟩
theorem o2_neA {K : PySem.W.Frag} : O2 K (rNeA K) dNe := o2_pure fun F H a b d x y Q s e ha hb q => by
  unfold dNe at e
  obtain ⟨c, e1, rfl⟩ := Option.map_eq_some_iff.mp e
  rcases eqD_cases e1 with ⟨i, j, rfl, rfl, rfl⟩ | ⟨i, j, rfl, rfl, rfl⟩ | ⟨i, j, rfl, rfl, rfl⟩ | e2
  · cases ha; cases hb
    exact .inl ⟨rfl, q _ (by show V.bl _ = V.bl _; congr 1; simp)⟩
  · cases ha; cases hb
    exact .inl ⟨rfl, q _ (by show V.bl _ = V.bl _; congr 1; simp)⟩
  · cases ha; cases hb
    exact .inl ⟨rfl, q _ (by show V.bl _ = V.bl _; congr 1; simp)⟩
  · obtain ⟨p, p', h1, h2, h3, h4, rfl⟩ := eqP_of e2 s ha hb
    exact .inr ⟨p, p', h1, h2, h3, h4, q _ rfl⟩
/-- order of ints and texts -/
def dCmp (ci : Int → Int → Bool) (cs : List Nat → List Nat → Bool) : D → D → Option D
  | .int i, .int j => some (.bl (ci i j))
  | .str x, .str y => some (.bl (cs x.cps.toList y.cps.toList))
  | _, _ => none
def rCmp (ci : Int → Int → Bool) (cs : List Nat → List Nat → Bool) : R2 := fun x y H Q => (rI0 fun i j => .bl (ci i j)) x y H Q ∨ (∃ i j, x = .str i ∧ y = .str j ∧ Q (.bl (cs i.cps.toList j.cps.toList)) H)
theorem o2_cmp {K : PySem.W.Frag} {ci : Int → Int → Bool} {cs : List Nat → List Nat → Bool} : O2 K (rCmp ci cs) (dCmp ci cs) := o2_pure fun F H a b d x y Q s e ha hb q => by
  cases a <;> cases b <;> try (cases e; done)
  · cases e; exact .inl ⟨_, _, ha, hb, q _ rfl⟩
  · cases e; exact .inr ⟨_, _, ha, hb, q _ rfl⟩
def csLt (a b : List Nat) : Bool := decide (a < b)
def csLe (a b : List Nat) : Bool := !decide (b < a)
def ciLt (i j : Int) : Bool := decide (i < j)
def ciLe (i j : Int) : Bool := decide (i ≤ j)
def ciGt (i j : Int) : Bool := decide (j < i)
def ciGe (i j : Int) : Bool := decide (j ≤ i)
theorem op_ltA {X : Cx} : OpR X (compareOp .Lt) (rCmp ciLt csLt) := OpR.or op_lt op_lt_str
theorem op_leI {X : Cx} : OpR X (compareOp .LtE) (rI0 fun i j => .bl (ciLe i j)) := op_le
theorem op_gtI {X : Cx} : OpR X (compareOp .Gt) (rI0 fun i j => .bl (ciGt i j)) := op_gt
theorem op_geI {X : Cx} : OpR X (compareOp .GtE) (rI0 fun i j => .bl (ciGe i j)) := op_ge
def dCI (ci : Int → Int → Bool) : D → D → Option D
  | .int i, .int j => some (.bl (ci i j))
  | _, _ => none
theorem o2_ci {K : PySem.W.Frag} {ci : Int → Int → Bool} : O2 K (rI0 fun i j => .bl (ci i j)) (dCI ci) := o2_pure fun F H a b d x y Q s e ha hb q => by
  cases a <;> cases b <;> try (cases e; done)
  cases e; exact ⟨_, _, ha, hb, q _ rfl⟩
/-- in, not in -/
def strIn (x y : Str) : Bool := !(Builtin.Str.occurrences y x 0 y.length 1).isEmpty
def flatD : D → Bool
  | .non => true
  | .bl _ => true
  | .int _ => true
  | .str _ => true
  | _ => false
def eqF : D → D → Bool
  | .non, .non => true
  | .bl a, .bl b => a == b
  | .bl a, .int b => (if a then 1 else 0) == b
  | .int a, .bl b => a == (if b then 1 else 0)
  | .int a, .int b => a == b
  | .str a, .str b => a == b
  | _, _ => false
def inF (x : D) (xs : List D) : Bool := xs.any fun y => eqF y x
def inSeq (x : D) (xs : List D) : Option Bool := if flatD x = true ∧ xs.all flatD = true then some (inF x xs) else none
def inP (x : D) (xs : List D) : Option Bool := match py x, pyL xs with
  | some p, some ps => if SeqAt.shaped p = true ∧ SeqAt.shaped (.list ps) = true then some (ps.any fun z => PyData.eqv z p) else none
  | _, _ => none
def inD : D → D → Option Bool
  | .str x, .str y => some (strIn x y)
  | x, .tup xs => inSeq x xs
  | x, .lst xs => (inSeq x xs).or (inP x xs)
  | x, .fl xs => (inSeq x xs).or (inP x xs)
  | _, _ => none
def dIn (a b : D) : Option D := (inD a b).map .bl
def dNotIn (a b : D) : Option D := (inD a b).map fun c => .bl !c
theorem flat_rel {K : PySem.W.Frag} {F : Hp} {d : D} {v : V} (h : Rp K F d v) (f : flatD d = true) : flatV v = true := by
  cases d <;> first | (cases h; rfl) | (cases f)
theorem eq_rel {K : PySem.W.Frag} {F : Hp} {d e : D} {v u : V} (h : Rp K F d v) (f : flatD d = true) (h' : Rp K F e u) (f' : flatD e = true) : eqV v u = eqF d e := by
  cases d <;> first | (cases f; done) | skip
  all_goals cases e <;> first | (cases f'; done) | skip
  all_goals (cases h; cases h'; rfl)
theorem flatL_rel {K : PySem.W.Frag} {F : Hp} : ∀ {ds : List D} {vs : List V}, RpL K F ds vs → ds.all flatD = true → vs.all flatV = true
  | [], vs, h, _ => by cases h; rfl
  | d :: ds, vs, h, f => by
    obtain ⟨v, r, rfl, h1, h2⟩ := h
    simp only [List.all_cons, Bool.and_eq_true] at f ⊢
    exact ⟨flat_rel h1 f.1, flatL_rel h2 f.2⟩
theorem in_rel {K : PySem.W.Frag} {F : Hp} {d : D} {v : V} (h : Rp K F d v) (f : flatD d = true) : ∀ {ds : List D} {vs : List V}, RpL K F ds vs → ds.all flatD = true → inV v vs = inF d ds
  | [], vs, h, _ => by cases h; rfl
  | e :: ds, vs, h', f' => by
    obtain ⟨u, r, rfl, h1, h2⟩ := h'
    simp only [List.all_cons, Bool.and_eq_true] at f'
    show (eqV u v || inV v r) = (eqF e d || inF d ds)
    rw [eq_rel h1 f'.1 h f, in_rel h f h2 f'.2]
def rInA (K : PySem.W.Frag) : R2 := fun x y H Q => ((∃ i j, x = .str i ∧ y = .str j ∧ Q (.bl (!(Builtin.Str.occurrences j i 0 j.length 1).isEmpty)) H) ∨ rIn K false x y H Q) ∨ rInD K x y H Q
def rNotInA (K : PySem.W.Frag) : R2 := fun x y H Q => ((∃ i j, x = .str i ∧ y = .str j ∧ Q (.bl (!(!(Builtin.Str.occurrences j i 0 j.length 1).isEmpty))) H) ∨ rIn K true x y H Q) ∨ rNotInD K x y H Q
theorem op_inA {X : Cx} (hu : X.A.units + 65 < cLine) : OpR X (compareOp .In) (rInA X.K) := OpR.or (OpR.or op_in_str op_in_seq) (op_inD hu)
theorem op_notInA {X : Cx} (hu : X.A.units + 65 < cLine) : OpR X (compareOp .NotIn) (rNotInA X.K) := OpR.or (OpR.or op_notIn_str op_notIn_seq) (op_notInD hu)
theorem inSeq_of {K : PySem.W.Frag} {F H : Hp} {a : D} {xs : List D} {x : V} {vs : List V} {c : Bool} (e : inSeq a xs = some c) (ha : Rp K F a x) (hx : RpL K F xs vs) : flatV x = true ∧ vs.all flatV = true ∧ inV x vs = c := by
  unfold inSeq at e
  split at e
  · rename_i hf
    cases e
    exact ⟨flat_rel ha hf.1, flatL_rel hx hf.2, in_rel ha hf.1 hx hf.2⟩
  · cases e
theorem inP_of {K : PySem.W.Frag} {F H : Hp} {a : D} {xs : List D} {x : V} {p : Addr} {vs : List V} {c : Bool} (e : inP a xs = some c) (s : Same F H) (ha : Rp K F a x) (hp : SqL K H p vs) (hx : RpL K F xs vs) :
    ∃ q qs, Dp K H x q ∧ Dp K H (.ref p) (.list qs) ∧ SeqAt.shaped q = true ∧ SeqAt.shaped (.list qs) = true ∧ (qs.any fun z => PyData.eqv z q) = c := by
  unfold inP at e
  cases e1 : py a with
  | none => rw [e1] at e; cases e
  | some q =>
    cases e2 : pyL xs with
    | none => rw [e1, e2] at e; cases e
    | some qs =>
      rw [e1, e2] at e
      dsimp only at e
      split at e
      · rename_i hs
        cases e
        exact ⟨q, qs, dp_of s a x q ha e1, .lst hp (dpL_of s xs vs qs hx e2), hs.1, hs.2, rfl⟩
      · cases e
def InC (K : PySem.W.Frag) (H : Hp) (x y : V) (c : Bool) : Prop :=
    (∃ i j, x = .str i ∧ y = .str j ∧ (!(Builtin.Str.occurrences j i 0 j.length 1).isEmpty) = c) ∨
    (∃ p xs, y = .ref p ∧ (SqL K H p xs ∨ SqT K H p xs) ∧ flatV x = true ∧ xs.all flatV = true ∧ inV x xs = c) ∨
    (∃ q qs, Dp K H x q ∧ Dp K H y (.list qs) ∧ SeqAt.shaped q = true ∧ SeqAt.shaped (.list qs) = true ∧ (qs.any fun z => PyData.eqv z q) = c)
theorem inL_of {K : PySem.W.Frag} {F H : Hp} {a : D} {x : V} {c : Bool} (s : Same F H) (ha : Rp K F a x) {xs : List D} {p : Addr} {vs : List V} (e : (inSeq a xs).or (inP a xs) = some c) (h1 : SqL K H p vs) (h2 : RpL K F xs vs) : InC K H x (.ref p) c := by
  cases e1 : inSeq a xs with
  | some c' =>
    rw [e1] at e
    cases (show c' = c by simpa using e)
    obtain ⟨h3, h4, h5⟩ := inSeq_of (H := H) e1 ha h2
    exact .inr (.inl ⟨p, vs, rfl, .inl h1, h3, h4, h5⟩)
  | none =>
    rw [e1] at e
    exact .inr (.inr (inP_of (by simpa using e) s ha h1 h2))
theorem inD_of {K : PySem.W.Frag} {F H : Hp} {a b : D} {x y : V} {c : Bool} (e : inD a b = some c) (s : Same F H) (ha : Rp K F a x) (hb : Rp K F b y) : InC K H x y c := by
  unfold inD at e
  split at e
  · cases e; cases ha; cases hb
    exact .inl ⟨_, _, rfl, rfl, rfl⟩
  · obtain ⟨p, vs, rfl, h1, h2⟩ := hb
    obtain ⟨h3, h4, h5⟩ := inSeq_of (H := H) e ha h2
    exact .inr (.inl ⟨p, vs, rfl, .inr (sqT_mono s h1), h3, h4, h5⟩)
  · obtain ⟨p, vs, rfl, h1, h2⟩ := hb
    exact inL_of s ha e (.inl (.inl (s _ _ h1))) h2
  · obtain ⟨p, vs, rfl, h1, h2⟩ := hb
    exact inL_of s ha e (s.seq h1) h2
  · cases e
theorem o2_inA {K : PySem.W.Frag} : O2 K (rInA K) dIn := o2_pure fun F H a b d x y Q s e ha hb q => by
  unfold dIn at e
  obtain ⟨c, e1, rfl⟩ := Option.map_eq_some_iff.mp e
  rcases inD_of e1 s ha hb with ⟨i, j, rfl, rfl, rfl⟩ | ⟨p, xs, rfl, h1, h2, h3, rfl⟩ | ⟨u, us, h1, h2, h3, h4, rfl⟩
  · exact .inl (.inl ⟨i, j, rfl, rfl, q _ rfl⟩)
  · exact .inl (.inr ⟨p, xs, rfl, h1, h2, h3, q _ rfl⟩)
  · exact .inr ⟨u, us, h1, h2, h3, h4, q _ rfl⟩
theorem o2_notInA {K : PySem.W.Frag} : O2 K (rNotInA K) dNotIn := o2_pure fun F H a b d x y Q s e ha hb q => by
  unfold dNotIn at e
  obtain ⟨c, e1, rfl⟩ := Option.map_eq_some_iff.mp e
  rcases inD_of e1 s ha hb with ⟨i, j, rfl, rfl, rfl⟩ | ⟨p, xs, rfl, h1, h2, h3, rfl⟩ | ⟨u, us, h1, h2, h3, h4, rfl⟩
  · exact .inl (.inl ⟨i, j, rfl, rfl, q _ rfl⟩)
  · exact .inl (.inr ⟨p, xs, rfl, h1, h2, h3, q _ rfl⟩)
  · exact .inr ⟨u, us, h1, h2, h3, h4, q _ rfl⟩
/-- is None, is not None -/
def isNon : D → Bool
  | .non => true
  | _ => false
def dIs : D → D → Option D
  | a, .non => some (.bl (isNon a))
  | .bl a, .bl b => some (.bl (decide (a = b)))
  | _, _ => none
def dIsNot : D → D → Option D
  | a, .non => some (.bl !(isNon a))
  | .bl a, .bl b => some (.bl !(decide (a = b)))
  | _, _ => none
theorem isNon_rel {K : PySem.W.Frag} {F : Hp} {d : D} {v : V} (h : Rp K F d v) : decide (v = .non) = isNon d := by
  cases d with
  | non => cases h; rfl
  | bl b => cases h; rfl
  | int b => cases h; rfl
  | str b => cases h; rfl
  | tup ds => obtain ⟨a, vs, rfl, _⟩ := h; rfl
  | lst ds => obtain ⟨a, vs, rfl, _⟩ := h; rfl
  | fl ds => obtain ⟨a, vs, rfl, _⟩ := h; rfl
  | dct ks ds => obtain ⟨a, vs, rfl, _⟩ := h; rfl
  | obj c ns ds => obtain ⟨a, dx, vs, rfl, _⟩ := h; rfl
  | deep _ => exact False.elim h
  | own _ => exact False.elim h
end VM

set_option Elab.async false
set_option linter.all false
set_option autoImplicit false
set_option maxRecDepth 100000
set_option maxHeartbeats 400000
namespace VM
open PySem PySem.Spec PyProof.Rows L2

/-! ### expressions -/
section
variable {X : Cx} {W : WX'} {a b c e : Expr} {pos : Pos} {ma mb m : M D} {mt mu : M Bool}
def mC (d : D) : M D := fun sv => .ok d sv
theorem se_const {d : D} {v : V} (h : PE X e (tC v)) (r : ∀ F, Rp X.K F d v) : SE X W e (mC d) := pe_imp h fun σ H Q q => by
  obtain ⟨g, F, sv, hK, rl, q⟩ := q
  exact q v F H (Same.refl F) rl (by show Rp g.K F d v; rw [hK.1]; exact r F)
theorem se_int {i j pos} : SE X W (.Constant (.int i) j pos) (mC (.int i)) := se_const pe_int fun _ => rfl
theorem se_bl {b j pos} : SE X W (.Constant (.bool b) j pos) (mC (.bl b)) := se_const pe_bl fun _ => rfl
theorem se_non {j pos} : SE X W (.Constant .none j pos) (mC .non) := se_const pe_non fun _ => rfl
theorem se_str {x j pos} : SE X W (.Constant (.str x) j pos) (mC (.str x)) := se_const pe_str fun _ => rfl
/-- a slot of plain value is read -/
def mRd (i : Nat) : M D := fun sv => match sv[i]? with
  | some (.pl d) => .ok d sv
  | _ => .bad
/-! an owned thing once it is frozen -/
mutual
def fz : D → D
  | .deep d => fzC d
  | d => d
def fzC : D → D
  | .lst ds => .lst (fzL ds)
  | .dct ks ds => .dct ks (fzL ds)
  | .obj c ns ds => .obj c ns (fzL ds)
  | d => d
def fzE : D → D
  | .own e => fz e
  | d => d
def fzL : List D → List D
  | [] => []
  | d :: ds => fzE d :: fzL ds
end
theorem fz_flat {d : D} (h : ∀ e, d ≠ .deep e) : fz d = d := by
  cases d <;> first | rfl | exact absurd rfl (h _)
theorem fzL_len : ∀ ds : List D, (fzL ds).length = ds.length
  | [] => rfl
  | d :: ds => by simp [fzL, fzL_len ds]
theorem fzL_get : ∀ (ds : List D) (i : Nat), (fzL ds)[i]? = ds[i]?.map fzE
  | [], i => by simp [fzL]
  | d :: ds, 0 => by simp [fzL]
  | d :: ds, i + 1 => by simp [fzL, fzL_get ds i]
/-- a slot is read for good: what it owns is frozen -/
def mMv (i : Nat) : M D := fun sv => match sv[i]? with
  | some (.pl d) => .ok d sv
  | some (.ow d) => .ok (fz d) (sv.set i (.pl (fz d)))
  | _ => .bad
/-- what a slot owns is taken -/
def mTk (i : Nat) : M D := fun sv => match sv[i]? with
  | some (.ow d) => .ok d (sv.set i .un)
  | _ => .bad
theorem Rl.at {g : G} {F H : Hp} {σ : L2.St} {sv : SV} (rl : Rl g F H σ sv) {i : Nat} {s : Sl} (h : sv[i]? = some s) : SlOk g F H σ[i]? s := rl.sl i s h
theorem se_rd {i : Nat} {x : Str} {pos : Pos} (h : PE X (.Name x pos) (tVar i)) : SE X W (.Name x pos) (mRd i) := pe_imp h fun σ H Q q => by
  obtain ⟨g, F, sv, hK, rl, q⟩ := q
  unfold mRd at q
  split at q
  · rename_i d hd
    obtain ⟨v, e1, hv⟩ := rl.at hd
    exact ⟨v, e1, q v F H (Same.refl F) rl hv⟩
  · exact False.elim q
theorem set_self {α : Type} {xs : List α} {i : Nat} {x : α} (h : xs[i]? = some x) : xs.set i x = xs := by
  apply List.ext_getElem?
  intro j
  by_cases e : i = j
  · subst e
    rw [List.getElem?_set_self (List.getElem?_eq_some_iff.mp h).1, h]
  · rw [List.getElem?_set_ne e]
theorem Rl.take {g : G} {F H : Hp} {σ : L2.St} {sv : SV} {i : Nat} {d : D} (rl : Rl g F H σ sv) (h : sv[i]? = some (.ow d)) :
    ∃ p, σ[i]? = some (some (.ref p)) ∧ (∀ a, Ft g.K H d p a → ¬ g.fx a) ∧ OwnP g.K F H d p ∧ Rl g F H σ (sv.set i .un) ∧ ∀ a, Ft g.K H d p a → ∀ j, ¬ Ref g.K H σ (sv.set i .un) j a := by
  obtain ⟨p, e1, nf, o⟩ := rl.at h
  refine ⟨p, e1, nf, o, rl.forget i, fun a ha j hj => ?_⟩
  have hi : i < sv.length := (List.getElem?_eq_some_iff.mp h).1
  obtain ⟨s, d', p', e2, e3, e4, hf⟩ := hj
  by_cases hij : i = j
  · subst hij
    rw [List.getElem?_set_self hi] at e2
    cases e2
    cases e3
  · rw [List.getElem?_set_ne hij] at e2
    exact hij (rl.dj i j a ⟨_, d, p, h, rfl, e1, ha⟩ ⟨s, d', p', e2, e3, e4, hf⟩)
theorem RpL.of_get {K : PySem.W.Frag} {F : Hp} : ∀ {ds : List D} {vs : List V}, ds.length = vs.length → (∀ (i : Nat) (d : D) (v : V), ds[i]? = some d → vs[i]? = some v → Rp K F d v) → RpL K F ds vs
  | [], [], _, _ => rfl
  | [], _ :: _, h, _ => by cases h
  | _ :: _, [], h, _ => by cases h
  | d :: ds, v :: vs, hl, h => ⟨v, vs, rfl, h 0 d v rfl rfl, RpL.of_get (by simpa using hl) fun i d' v' h1 h2 => h (i + 1) d' v' (by simpa using h1) (by simpa using h2)⟩
theorem Shp.rpE {K : PySem.W.Frag} {F : Hp} {d : D} {o : HO} {ds : List D} {vs : List V} {p : Addr} (hs : Shp K d o ds vs) (h : F p = some o) (hr : RpL K F ds vs) : Rp K F d (.ref p) := by
  cases hs with
  | lst => exact ⟨p, _, rfl, h, hr⟩
  | dct hk => exact ⟨p, _, rfl, h, hk, hr⟩
  | obj hn => exact ⟨p, _, _, rfl, h, hn, hr⟩
theorem Shp.rpZ {K : PySem.W.Frag} {F : Hp} {d : D} {o : HO} {ds : List D} {vs : List V} {p : Addr} (hs : Shp K d o ds vs) (h : F p = some o) (hr : RpL K F (fzL ds) vs) : Rp K F (fzC d) (.ref p) := by
  cases hs with
  | lst => exact ⟨p, _, rfl, h, hr⟩
  | dct hk => exact ⟨p, _, rfl, h, hk, hr⟩
  | obj hn => exact ⟨p, _, _, rfl, h, hn, hr⟩
theorem ovl_le {F H : Hp} {φ ψ : Addr → Prop} (h : ∀ a, φ a → ψ a) (hn : ∀ a, ψ a → F a = none) : Same (ovl F H φ) (ovl F H ψ) := fun a u e => by
  by_cases hp : φ a
  · rw [ovl_in hp] at e; rw [ovl_in (h a hp)]; exact e
  · rw [ovl_out hp] at e
    rw [ovl_out (fun z => by rw [hn a z] at e; cases e)]; exact e
theorem OwnP.rep {K : PySem.W.Frag} {F H : Hp} {d : D} {p : Addr} (o : OwnP K F H d p) : Rp K (ovl F H (Ft K H d p)) (fz d) (.ref p) := by
  have hN : ∀ a, Ft K H d p a → F a = none := fun a ha => (o.ft ha).1
  induction o with
  | flat hF hH hs hr =>
    rw [fz_flat (shp_deep hs)]
    exact hs.rpE ((ovl_in Ft.here).trans hH) (RpL.mono (same_ovl hN) _ _ hr)
  | @deep d p o ds vs hF hH hs hl hr hq hk hp hj ih =>
    show Rp K _ (fzC d) _
    refine hs.rpZ ((ovl_in Ft.here).trans hH) (RpL.of_get (by rw [fzL_len]; exact hl) fun i e v h1 h2 => ?_)
    rw [fzL_get] at h1
    obtain ⟨e0, h3, rfl⟩ := Option.map_eq_some_iff.mp h1
    cases e0 with
    | own e =>
      obtain ⟨q, h4⟩ := hq i e h3
      rw [h2] at h4; cases h4
      have := ih i e q h3 h2 (fun a ha => hN a (.kid hH hs h3 h2 ha))
      exact Rp.mono (ovl_le (fun a ha => .kid hH hs h3 h2 ha) hN) _ _ this
    | _ => exact Rp.mono (same_ovl hN) _ _ (hr i _ v h3 h2 rfl)
/-- an owned object that is in no slot is frozen -/
theorem Rl.freeze {g : G} {F H : Hp} {σ : L2.St} {sv : SV} {d : D} {p : Addr} (rl : Rl g F H σ sv) (nf : ∀ a, Ft g.K H d p a → ¬ g.fx a) (o : OwnP g.K F H d p) (nr : ∀ a, Ft g.K H d p a → ∀ i, ¬ Ref g.K H σ sv i a) :
    ∃ F', Same F F' ∧ Rl g F' H σ sv ∧ Rp g.K F' (fz d) (.ref p) :=
  ⟨_, same_ovl fun a ha => (o.ft ha).1, rl.frz nf (fun a ha => (o.ft ha).1) nr, o.rep⟩
theorem se_mv {i : Nat} {x : Str} {pos : Pos} (h : PE X (.Name x pos) (tVar i)) : SE X W (.Name x pos) (mMv i) := pe_imp h fun σ H Q q => by
  obtain ⟨g, F, sv, hK, rl, q⟩ := q
  unfold mMv at q
  split at q
  · rename_i d hd
    obtain ⟨v, e1, hv⟩ := rl.at hd
    exact ⟨v, e1, q v F H (Same.refl F) rl hv⟩
  · rename_i d hd
    obtain ⟨p, e1, nf, o, rl1, nr⟩ := rl.take hd
    obtain ⟨F', s1, rl2, rp⟩ := rl1.freeze nf o nr
    refine ⟨.ref p, e1, q _ F' H s1 ?_ rp⟩
    have rl3 := rl2.setPl i rp
    rw [set_self e1, List.set_set] at rl3
    exact rl3
  · exact False.elim q
theorem so_tk {i : Nat} {x : Str} {pos : Pos} (h : PE X (.Name x pos) (tVar i)) : SO X W (.Name x pos) (mTk i) := pe_imp h fun σ H Q q => by
  obtain ⟨g, F, sv, hK, rl, q⟩ := q
  unfold mTk at q
  split at q
  · rename_i d hd
    obtain ⟨p, e1, nf, o, rl1, nr⟩ := rl.take hd
    exact ⟨.ref p, e1, q _ F H (Same.refl F) rl1 ⟨p, rfl, nf, o, nr⟩⟩
  · exact False.elim q
/-- what it gives holds nothing of its own -/
class Fl (m : M D) : Prop where
  h : ∀ sv d s, m sv = .ok d s → ∀ e, d ≠ .deep e
def mFz (m : M D) : M D := fun sv => (m sv).bind fun d s => .ok (fz d) s
/-- an owned value, frozen -/
theorem se_fz (h : SO X W e m) : SE X W e (mFz m) := pe_imp h fun σ H Q q => by
  obtain ⟨g, F, sv, hK, rl, q⟩ := q
  refine ⟨g, F, sv, hK, rl, PostG.bind q fun d s v F1 H1 e1 rl1 r1 h1 => ?_⟩
  obtain ⟨p, rfl, nf, o, nr⟩ := r1
  obtain ⟨F', s1, rl2, rp⟩ := rl1.freeze nf o nr
  exact h1 _ F' H1 s1 rl2 rp
theorem se_of [hf : Fl m] (h : SO X W e m) : SE X W e m := pe_imp h fun σ H Q q => by
  obtain ⟨g, F, sv, hK, rl, q⟩ := q
  refine ⟨g, F, sv, hK, rl, ?_⟩
  have hf := hf.h sv
  revert q hf
  cases m sv with
  | ok d s =>
    intro q hf v F1 H1 e1 rl1 r1
    obtain ⟨p, rfl, nf, o, nr⟩ := r1
    obtain ⟨F', s1, rl2, rp⟩ := rl1.freeze nf o nr
    rw [fz_flat (hf d s rfl)] at rp
    exact q _ F' H1 (e1.trans s1) rl2 rp
  | err x s => exact fun q _ => q
  | bad => exact fun q _ => q

/-! #### operators -/
theorem se_op {op : Operator} {r : R2} {f : D → D → Option D} (ho : OpR X (binaryOp op) r) (hf : O2 X.K r f) (ha : SE X W a ma) (hb : SE X W b mb) : SE X W (.BinOp a op b pos) (m2 f ma mb) := pe_imp (pe_op ho ha hb) fun σ H Q q => tg_op2 hf q
theorem se_cmp {op : CmpOp} {r : R2} {f : D → D → Option D} (ho : OpR X (compareOp op) r) (hf : O2 X.K r f) (ha : SE X W a ma) (hb : SE X W b mb) (hm : behindInMarks op b = false) : SE X W (.Compare a [op] [b] pos) (m2 f ma mb) := pe_imp (pe_cmpR ho ha hb hm) fun σ H Q q => tg_op2 hf q
theorem se_un {op : UnaryOp} {r : V → Hp → VK → Prop} {f : D → Option D} (ho : UnR X (unaryOp op) r) (hf : O1 X.K r f) (ha : SE X W a ma) : SE X W (.UnaryOp op a pos) (m1 f ma) := pe_imp (pe_un ho ha) fun σ H Q q => tg_op1 hf q
theorem se_add (ha : SE X W a ma) (hb : SE X W b mb) : SE X W (.BinOp a .Add b pos) (m2 dAdd ma mb) := se_op op_addA o2_addA ha hb
theorem se_sub (ha : SE X W a ma) (hb : SE X W b mb) : SE X W (.BinOp a .Sub b pos) (m2 (dI2 cSub) ma mb) := se_op (op_toI op_sub) o2_subI ha hb
theorem se_mul (ha : SE X W a ma) (hb : SE X W b mb) : SE X W (.BinOp a .Mult b pos) (m2 (dI2 cMul) ma mb) := se_op op_mul o2_mulI ha hb
theorem se_div (ha : SE X W a ma) (hb : SE X W b mb) : SE X W (.BinOp a .FloorDiv b pos) (m2 (dI2 cDiv) ma mb) := se_op op_fdiv o2_divI ha hb
theorem se_mod (ha : SE X W a ma) (hb : SE X W b mb) : SE X W (.BinOp a .Mod b pos) (m2 (dI2 cMod) ma mb) := se_op op_mod o2_modI ha hb
theorem se_pow (ha : SE X W a ma) (hb : SE X W b mb) : SE X W (.BinOp a .Pow b pos) (m2 (dI2 cPow) ma mb) := se_op op_pow o2_powI ha hb
theorem se_eq (hu : X.A.units + 65 < cLine) (ha : SE X W a ma) (hb : SE X W b mb) : SE X W (.Compare a [.Eq] [b] pos) (m2 dEq ma mb) := se_cmp (op_eqA (by omega)) o2_eqA ha hb (nomark _)
theorem se_ne (hu : X.A.units + 65 < cLine) (ha : SE X W a ma) (hb : SE X W b mb) : SE X W (.Compare a [.NotEq] [b] pos) (m2 dNe ma mb) := se_cmp (op_neA (by omega)) o2_neA ha hb (nomark _)
theorem se_lt (ha : SE X W a ma) (hb : SE X W b mb) : SE X W (.Compare a [.Lt] [b] pos) (m2 (dCmp ciLt csLt) ma mb) := se_cmp op_ltA o2_cmp ha hb (nomark _)
theorem se_le (ha : SE X W a ma) (hb : SE X W b mb) : SE X W (.Compare a [.LtE] [b] pos) (m2 (dCI ciLe) ma mb) := se_cmp op_leI o2_ci ha hb (nomark _)
theorem se_gt (ha : SE X W a ma) (hb : SE X W b mb) : SE X W (.Compare a [.Gt] [b] pos) (m2 (dCI ciGt) ma mb) := se_cmp op_gtI o2_ci ha hb (nomark _)
theorem se_ge (ha : SE X W a ma) (hb : SE X W b mb) : SE X W (.Compare a [.GtE] [b] pos) (m2 (dCI ciGe) ma mb) := se_cmp op_geI o2_ci ha hb (nomark _)
theorem se_in (hu : X.A.units + 65 < cLine) (ha : SE X W a ma) (hb : SE X W b mb) (hm : behindInMarks .In b = false := by rfl) : SE X W (.Compare a [.In] [b] pos) (m2 dIn ma mb) := se_cmp (op_inA hu) o2_inA ha hb hm
theorem se_notIn (hu : X.A.units + 65 < cLine) (ha : SE X W a ma) (hb : SE X W b mb) (hm : behindInMarks .NotIn b = false := by rfl) : SE X W (.Compare a [.NotIn] [b] pos) (m2 dNotIn ma mb) := se_cmp (op_notInA hu) o2_notInA ha hb hm
theorem o2_is {K : PySem.W.Frag} : O2 K (fun x y H Q => (y = .non ∧ Q (.bl (decide (x = .non))) H) ∨ rIsB x y H Q) dIs := o2_pure fun F H a b d x y Q s e ha hb q => by
  unfold dIs at e
  split at e
  · cases e; cases hb
    exact .inl ⟨rfl, q _ (congrArg V.bl (isNon_rel ha))⟩
  · cases e; cases ha; cases hb
    exact .inr ⟨_, _, rfl, rfl, q _ rfl⟩
  · cases e
theorem o2_isNot {K : PySem.W.Frag} : O2 K (fun x y H Q => (y = .non ∧ Q (.bl (!decide (x = .non))) H) ∨ rNotB x y H Q) dIsNot := o2_pure fun F H a b d x y Q s e ha hb q => by
  unfold dIsNot at e
  split at e
  · cases e; cases hb
    exact .inl ⟨rfl, q _ (by show V.bl _ = V.bl _; rw [isNon_rel ha])⟩
  · cases e; cases ha; cases hb
    exact .inr ⟨_, _, rfl, rfl, q _ rfl⟩
  · cases e
theorem se_is (ha : SE X W a ma) (hb : SE X W b mb) : SE X W (.Compare a [.Is] [b] pos) (m2 dIs ma mb) := se_cmp (OpR.or op_isN op_isBl) o2_is ha hb (nomark _)
theorem se_isNot (ha : SE X W a ma) (hb : SE X W b mb) : SE X W (.Compare a [.IsNot] [b] pos) (m2 dIsNot ma mb) := se_cmp (OpR.or op_notN op_notBl) o2_isNot ha hb (nomark _)
def dNeg : D → Option D
  | .int i => some (.int (-i))
  | _ => none
theorem o1_neg {K : PySem.W.Frag} : O1 K (rU fun i => .int (-i)) dNeg := o1_pure fun F H a d x Q s e ha q => by
  cases a <;> try (cases e; done)
  cases e; exact ⟨_, ha, q _ rfl⟩
theorem se_neg (ha : SE X W a ma) : SE X W (.UnaryOp .USub a pos) (m1 dNeg ma) := se_un un_neg o1_neg ha

/-! #### tests -/
def mB (m : M D) : M Bool := fun sv => (m sv).bind fun d s => match d with
  | .bl b => .ok b s
  | _ => .bad
def mV (m : M Bool) : M D := fun sv => (m sv).bind fun b s => .ok (.bl b) s
def mNot (m : M Bool) : M Bool := fun sv => (m sv).bind fun b s => .ok (!b) s
def mAnd (ma mb : M Bool) : M Bool := fun sv => (ma sv).bind fun b s => if b = true then mb s else .ok false s
def mOr (ma mb : M Bool) : M Bool := fun sv => (ma sv).bind fun b s => if b = true then .ok true s else mb s
theorem tg_bl {K : PySem.W.Frag} {mg : MX} {σ : L2.St} {H : Hp} {Q : Bool → Hp → Prop} (h : tT K mg W (mB m) σ H Q) : tE K mg W m σ H fun x H1 => ∃ k, x = .bl k ∧ Q k H1 := by
  obtain ⟨g, F, sv, hK, rl, h⟩ := h
  refine ⟨g, F, sv, hK, rl, PostG.bind h fun d s1 x F1 H1 e1 rl1 rp1 h1 => ?_⟩
  cases d with
  | bl b => exact ⟨b, rp1, h1 b F1 H1 (Same.refl F1) rl1 rfl⟩
  | _ => exact False.elim h1
theorem st_val (h : SE X W e m) (he : ∀ whole, isTrue e X.env whole = (do let v ← whole; standAt e.pos; holding [v] (truthy v)) := by intro _; rfl) : ST X W e (mB m) := pt_imp (pt_val h he) fun σ H Q q => tg_bl q
theorem st_cmp {op : CmpOp} {r : R2} {f : D → D → Option D} (ho : OpR X (compareOp op) r) (hf : O2 X.K r f) (ha : SE X W a ma) (hb : SE X W b mb) (hm : behindInMarks op b = false) : ST X W (.Compare a [op] [b] pos) (mB (m2 f ma mb)) := pt_imp (pt_cmpR ho ha hb hm) fun σ H Q q => tg_op2 hf (tg_bl q)
theorem st_eq (hu : X.A.units + 65 < cLine) (ha : SE X W a ma) (hb : SE X W b mb) : ST X W (.Compare a [.Eq] [b] pos) (mB (m2 dEq ma mb)) := st_cmp (op_eqA (by omega)) o2_eqA ha hb (nomark _)
theorem st_ne (hu : X.A.units + 65 < cLine) (ha : SE X W a ma) (hb : SE X W b mb) : ST X W (.Compare a [.NotEq] [b] pos) (mB (m2 dNe ma mb)) := st_cmp (op_neA (by omega)) o2_neA ha hb (nomark _)
theorem st_lt (ha : SE X W a ma) (hb : SE X W b mb) : ST X W (.Compare a [.Lt] [b] pos) (mB (m2 (dCmp ciLt csLt) ma mb)) := st_cmp op_ltA o2_cmp ha hb (nomark _)
theorem st_le (ha : SE X W a ma) (hb : SE X W b mb) : ST X W (.Compare a [.LtE] [b] pos) (mB (m2 (dCI ciLe) ma mb)) := st_cmp op_leI o2_ci ha hb (nomark _)
theorem st_gt (ha : SE X W a ma) (hb : SE X W b mb) : ST X W (.Compare a [.Gt] [b] pos) (mB (m2 (dCI ciGt) ma mb)) := st_cmp op_gtI o2_ci ha hb (nomark _)
theorem st_ge (ha : SE X W a ma) (hb : SE X W b mb) : ST X W (.Compare a [.GtE] [b] pos) (mB (m2 (dCI ciGe) ma mb)) := st_cmp op_geI o2_ci ha hb (nomark _)
theorem st_in (hu : X.A.units + 65 < cLine) (ha : SE X W a ma) (hb : SE X W b mb) (hm : behindInMarks .In b = false := by rfl) : ST X W (.Compare a [.In] [b] pos) (mB (m2 dIn ma mb)) := st_cmp (op_inA hu) o2_inA ha hb hm
theorem st_notIn (hu : X.A.units + 65 < cLine) (ha : SE X W a ma) (hb : SE X W b mb) (hm : behindInMarks .NotIn b = false := by rfl) : ST X W (.Compare a [.NotIn] [b] pos) (mB (m2 dNotIn ma mb)) := st_cmp (op_notInA hu) o2_notInA ha hb hm
theorem st_is (ha : SE X W a ma) (hb : SE X W b mb) : ST X W (.Compare a [.Is] [b] pos) (mB (m2 dIs ma mb)) := st_cmp (OpR.or op_isN op_isBl) o2_is ha hb (nomark _)
theorem st_isNot (ha : SE X W a ma) (hb : SE X W b mb) : ST X W (.Compare a [.IsNot] [b] pos) (mB (m2 dIsNot ma mb)) := st_cmp (OpR.or op_notN op_notBl) o2_isNot ha hb (nomark _)
theorem st_not (h : ST X W a mt) : ST X W (.UnaryOp .Not a pos) (mNot mt) := pt_imp (pt_not h) fun σ H Q q => by
  obtain ⟨g, F, sv, hK, rl, q⟩ := q
  refine ⟨g, F, sv, hK, rl, PostG.bind q fun b s1 c F1 H1 e1 rl1 rp1 h1 => ?_⟩
  cases rp1
  exact h1 _ F1 H1 (Same.refl F1) rl1 rfl
abbrev SW (X : Cx) (W : WX') (e : Expr) (m : M Bool) : Prop := PW X e (tT X.K X.mx W m)
variable {rest : List Expr}
theorem sw_and1 (h : ST X W a mt) : SW X W (.BoolOp .And [a] pos) mt := pw_and1 h
theorem sw_or1 (h : ST X W a mt) : SW X W (.BoolOp .Or [a] pos) mt := pw_or1 h
theorem sw_and (ha : ST X W a mt) (hb : SW X W (.BoolOp .And (b :: rest) pos) mu) : SW X W (.BoolOp .And (a :: b :: rest) pos) (mAnd mt mu) := pw_imp (pw_and ha hb) fun σ H Q q => by
  obtain ⟨g, F, sv, hK, rl, q⟩ := q
  refine ⟨g, F, sv, hK, rl, PostG.bind q fun c s1 c' F1 H1 e1 rl1 rp1 h1 => ?_⟩
  cases rp1
  cases c with
  | true => exact ⟨g, F1, s1, hK, rl1, h1⟩
  | false => exact h1 false F1 H1 (Same.refl F1) rl1 rfl
theorem sw_or (ha : ST X W a mt) (hb : SW X W (.BoolOp .Or (b :: rest) pos) mu) : SW X W (.BoolOp .Or (a :: b :: rest) pos) (mOr mt mu) := pw_imp (pw_or ha hb) fun σ H Q q => by
  obtain ⟨g, F, sv, hK, rl, q⟩ := q
  refine ⟨g, F, sv, hK, rl, PostG.bind q fun c s1 c' F1 H1 e1 rl1 rp1 h1 => ?_⟩
  cases rp1
  cases c with
  | true => exact h1 true F1 H1 (Same.refl F1) rl1 rfl
  | false => exact ⟨g, F1, s1, hK, rl1, h1⟩
/-- and, or, not as values (of bools) -/
theorem se_one {op : BoolOp} (h : SE X W a ma) : SE X W (.BoolOp op [a] pos) ma := pe_one h
def mAndV (ma mb : M D) : M D := fun sv => (ma sv).bind fun d s => match d with
  | .bl c => if c = true then mb s else .ok (.bl false) s
  | _ => .bad
theorem se_and (ha : SE X W a ma) (hb : SE X W (.BoolOp .And (b :: rest) pos) mb) : SE X W (.BoolOp .And (a :: b :: rest) pos) (mAndV ma mb) := pe_imp (pe_and ha hb) fun σ H Q q => by
  obtain ⟨g, F, sv, hK, rl, q⟩ := q
  refine ⟨g, F, sv, hK, rl, PostG.bind q fun d s1 x F1 H1 e1 rl1 rp1 h1 => ?_⟩
  cases d with
  | bl c =>
    refine ⟨c, rp1, ?_⟩
    cases c with
    | true => exact ⟨g, F1, s1, hK, rl1, h1⟩
    | false => exact h1 _ F1 H1 (Same.refl F1) rl1 rfl
  | _ => exact False.elim h1
def mOrV (ma mb : M D) : M D := fun sv => (ma sv).bind fun d s => match d with
  | .bl c => if c = true then .ok (.bl true) s else mb s
  | _ => .bad
theorem se_or (ha : SE X W a ma) (hb : SE X W (.BoolOp .Or (b :: rest) pos) mb) : SE X W (.BoolOp .Or (a :: b :: rest) pos) (mOrV ma mb) := pe_imp (pe_or ha hb) fun σ H Q q => by
  obtain ⟨g, F, sv, hK, rl, q⟩ := q
  refine ⟨g, F, sv, hK, rl, PostG.bind q fun d s1 x F1 H1 e1 rl1 rp1 h1 => ?_⟩
  cases d with
  | bl c =>
    refine ⟨c, rp1, ?_⟩
    cases c with
    | true => exact h1 _ F1 H1 (Same.refl F1) rl1 rfl
    | false => exact ⟨g, F1, s1, hK, rl1, h1⟩
  | _ => exact False.elim h1
def dNot : D → Option D
  | .bl b => some (.bl !b)
  | _ => none
theorem se_not (ha : SE X W a ma) : SE X W (.UnaryOp .Not a pos) (m1 dNot ma) := pe_imp (pe_not ha) fun σ H Q q => by
  obtain ⟨g, F, sv, hK, rl, q⟩ := q
  refine ⟨g, F, sv, hK, rl, PostG.bind q fun d s1 x F1 H1 e1 rl1 rp1 h1 => ?_⟩
  cases d with
  | bl c => exact ⟨c, rp1, h1 _ F1 H1 (Same.refl F1) rl1 rfl⟩
  | _ => exact False.elim h1
def mIf (t : M Bool) (ma mb : M D) : M D := fun sv => (t sv).bind fun b s => if b = true then ma s else mb s
theorem se_if (hc : ST X W c mt) (ha : SE X W a ma) (hb : SE X W b mb) : SE X W (.IfExp c a b pos) (mIf mt ma mb) := pe_imp (pe_ifExp hc ha hb) fun σ H Q q => by
  obtain ⟨g, F, sv, hK, rl, q⟩ := q
  refine ⟨g, F, sv, hK, rl, PostG.bind q fun c s1 c' F1 H1 e1 rl1 rp1 h1 => ?_⟩
  cases rp1
  cases c with
  | true => exact ⟨g, F1, s1, hK, rl1, h1⟩
  | false => exact ⟨g, F1, s1, hK, rl1, h1⟩

/-! #### subscripts -/
def dIx : D → D → Option D
  | .tup xs, .int i => atI xs i
  | .lst xs, .int i => atI xs i
  | .fl xs, .int i => atI xs i
  | .str z, .int i => if z.length ≤ sizeLine then (atI z.cps.toList i).map fun c => .str ⟨#[c]⟩ else none
  | _, _ => none
theorem atI_rel {K : PySem.W.Frag} {F : Hp} {ds : List D} {vs : List V} {i : Int} {d : D} (h : RpL K F ds vs) (e : atI ds i = some d) : ∃ v, atI vs i = some v ∧ Rp K F d v := by
  unfold atI at e ⊢
  rw [← h.length]
  cases hx : ixN ds.length i with
  | none => rw [hx] at e; cases e
  | some j =>
    rw [hx] at e
    exact h.get j d e
theorem o2_ix {K : PySem.W.Frag} : O2 K (rIx K) dIx := o2_pure fun F H a b d x y Q s e ha hb q => by
  unfold dIx at e
  split at e
  · obtain ⟨p, vs, rfl, h1, h2⟩ := ha
    obtain ⟨v, e1, rv⟩ := atI_rel h2 e
    exact .inr (.inl ⟨p, vs, _, v, rfl, hb, sqT_mono s h1, e1, q v rv⟩)
  · obtain ⟨p, vs, rfl, h1, h2⟩ := ha
    obtain ⟨v, e1, rv⟩ := atI_rel h2 e
    exact .inl ⟨p, vs, _, v, rfl, hb, .inl (.inl (s _ _ h1)), e1, q v rv⟩
  · obtain ⟨p, vs, rfl, h1, h2⟩ := ha
    obtain ⟨v, e1, rv⟩ := atI_rel h2 e
    exact .inl ⟨p, vs, _, v, rfl, hb, s.seq h1, e1, q v rv⟩
  · split at e
    · obtain ⟨c, e1, rfl⟩ := Option.map_eq_some_iff.mp e
      exact .inr (.inr ⟨_, _, c, ha, hb, by assumption, e1, q _ rfl⟩)
    · cases e
  · cases e
theorem se_ix (ha : SE X W a ma) (hb : SE X W b mb) (hs : PlainIx b := by exact fun _ _ => rfl) : SE X W (.Subscript a b pos) (m2 dIx ma mb) := pe_imp (pe_ix ix_seq ha hb hs) fun σ H Q q => tg_op2 o2_ix q

/-! #### slices -/
abbrev MO := M (Option Int)
def RelOI (_ : G) (_ _ : Hp) (_ : L2.St) (_ : SV) (a b : Option Int) : Prop := b = a
abbrev SP' (X : Cx) (W : WX') (e : Option Expr) (m : MO) : Prop := PO X e (tG X.K X.mx W RelOI m)
def moN : MO := fun sv => .ok none sv
def moS (m : M D) : MO := fun sv => (m sv).bind fun d s => match d with
  | .int i => .ok (some i) s
  | _ => .bad
theorem po_imp {eo : Option Expr} {t t' : TO} (h : PO X eo t) (k : ∀ σ H Q, t' σ H Q → t σ H Q) : PO X eo t' := ⟨fun pins s σ H Q I q => h.run pins s σ H Q I (k σ H Q q)⟩
theorem sp_none : SP' X W none moN := po_imp po_none fun σ H Q q => by
  obtain ⟨g, F, sv, hK, rl, q⟩ := q
  exact q none F H (Same.refl F) rl rfl
theorem sp_some (h : SE X W a ma) : SP' X W (some a) (moS ma) := po_imp (po_some h) fun σ H Q q => by
  obtain ⟨g, F, sv, hK, rl, q⟩ := q
  refine ⟨g, F, sv, hK, rl, PostG.bind q fun d s1 x F1 H1 e1 rl1 rp1 h1 => ?_⟩
  cases d with
  | int i => exact ⟨i, rp1, h1 _ F1 H1 (Same.refl F1) rl1 rfl⟩
  | _ => exact False.elim h1
def cutD {α : Type} (xs : List α) (lo hi : Option Int) : List α := (xs.drop (HT.sIx xs.length 0 lo)).take (HT.sIx xs.length xs.length hi - HT.sIx xs.length 0 lo)
def dSl : D → Option Int → Option Int → Option D
  | .tup xs, lo, hi => some (.tup (cutD xs lo hi))
  | .lst xs, lo, hi => some (.lst (cutD xs lo hi))
  | .fl xs, lo, hi => some (.lst (cutD xs lo hi))
  | .str z, lo, hi => if z.length ≤ sizeLine then some (.str (cutS z lo hi)) else none
  | _, _, _ => none
def mSl (m : M D) (ml mh : MO) : M D := fun sv => (m sv).bind fun d s1 => (ml s1).bind fun lo s2 => (mh s2).bind fun hi s3 => match dSl d lo hi with
  | some r => .ok r s3
  | none => .bad
def rSlAll (K : PySem.W.Frag) : V → Option Int → Option Int → Hp → VK → Prop := fun x lo hi H Q => (rSlL K x lo hi H Q ∨ rSlA K x lo hi H Q) ∨ rSlS x lo hi H Q
theorem sl_all : SlR X (rSlAll X.K) := SlR.or (SlR.or sl_list sl_tupA) sl_str
theorem cut_rel {K : PySem.W.Frag} {F : Hp} {ds : List D} {vs : List V} (lo hi : Option Int) (h : RpL K F ds vs) : RpL K F (cutD ds lo hi) (cutV vs lo hi) := by
  unfold cutD cutV
  rw [← h.length]
  exact (h.drop _).take _
theorem se_slice {eo eu : Option Expr} {p2 : Pos} {ml mh : MO} (ha : SE X W a ma) (hl : SP' X W eo ml) (hu : SP' X W eu mh) : SE X W (.Subscript a (.Slice eo eu none p2) pos) (mSl ma ml mh) := pe_imp (pe_slice sl_all ha hl hu) fun σ H Q q => by
  obtain ⟨g, F, sv, hK, rl, q⟩ := q
  refine ⟨g, F, sv, hK, rl, PostG.bind q fun d s1 x F1 H1 e1 rl1 rp1 h1 => ?_⟩
  refine ⟨g, F1, s1, hK, rl1, PostG.bind h1 fun lo s2 lo' F2 H2 e2 rl2 rp2 h2 => ?_⟩
  refine ⟨g, F2, s2, hK, rl2, PostG.bind h2 fun hi s3 hi' F3 H3 e3 rl3 rp3 h3 => ?_⟩
  cases rp2; cases rp3
  have rp : Rp g.K F3 d x := Rp.mono (e2.trans e3) _ _ rp1
  rw [← hK.1]
  have list : ∀ {ds : List D} {p : Addr} {vs : List V}, x = .ref p → SqL g.K H3 p vs → RpL g.K F3 ds vs → PostG X.mx g F3 σ (.ok (.lst (cutD ds lo hi)) s3) W RelE Q → rSlAll g.K x lo hi H3 Q := fun {ds p vs} ex h4 h5 h6 => by
    refine .inl (.inl ⟨p, vs, ex, h4, fun l hl => ?_⟩)
    have sF : Same F3 (upd F3 l (.lst (cutV vs lo hi))) := same_upd (rl3.sub.free hl)
    exact h6 _ _ _ sF (rl3.lay hl) ⟨l, _, rfl, upd_same, RpL.mono sF _ _ (cut_rel lo hi h5)⟩
  cases d with
  | tup ds =>
    obtain ⟨p, vs, rfl, h4, h5⟩ := rp
    have h5' := cut_rel lo hi h5
    refine .inl (.inr ⟨p, vs, rfl, sqT_mono rl3.sub h4, fun w => ?_, fun w l hl => ?_⟩)
    · refine h3 _ F3 H3 (Same.refl F3) rl3 ⟨p, vs, rfl, h4, ?_⟩
      have : cutV vs lo hi = vs := by
        unfold cutV
        rw [w.1, w.2]
        simp
      rwa [this] at h5'
    · have sF : Same F3 (upd F3 l (.tup (cutV vs lo hi))) := same_upd (rl3.sub.free hl)
      exact h3 _ _ _ sF (rl3.lay hl) ⟨l, _, rfl, .inl (.inl upd_same), RpL.mono sF _ _ h5'⟩
  | lst ds =>
    obtain ⟨p, vs, rfl, h4, h5⟩ := rp
    exact list rfl (.inl (.inl (rl3.sub _ _ h4))) h5 h3
  | fl ds =>
    obtain ⟨p, vs, rfl, h4, h5⟩ := rp
    exact list rfl (rl3.sub.seq h4) h5 h3
  | str z =>
    have h3' : PostG X.mx g F3 σ (match dSl (.str z) lo hi with | some r => .ok r s3 | none => .bad) W RelE Q := h3
    simp only [dSl] at h3'
    split at h3'
    · rename_i r hr
      split at hr
      · cases hr
        exact .inr ⟨z, rp, by assumption, h3' _ F3 H3 (Same.refl F3) rl3 rfl⟩
      · cases hr
    · exact False.elim h3'
  | _ => exact False.elim h3

/-! #### arguments, displays -/
def RelL (g : G) (F' _H' : Hp) (_ : L2.St) (_ : SV) (ds : List D) (vs : List V) : Prop := RpL g.K F' ds vs
abbrev SA (X : Cx) (W : WX') (es : List Expr) (m : M (List D)) : Prop := PA X es (tG X.K X.mx W RelL m)
theorem pa_imp {es : List Expr} {t t' : TA} (h : PA X es t) (k : ∀ σ H Q, t' σ H Q → t σ H Q) : PA X es t' := ⟨fun p pins s σ H Q I q => h.run p pins s σ H Q I (k σ H Q q)⟩
def mNil : M (List D) := fun sv => .ok [] sv
def mCons (m : M D) (ms : M (List D)) : M (List D) := fun sv => (m sv).bind fun d s1 => (ms s1).bind fun ds s2 => .ok (d :: ds) s2
variable {es : List Expr} {ms : M (List D)}
theorem sa_nil : SA X W [] mNil := pa_imp pa_nil fun σ H Q q => by
  obtain ⟨g, F, sv, hK, rl, q⟩ := q
  exact q [] F H (Same.refl F) rl rfl
theorem sa_cons (ha : SE X W e m) (hr : SA X W es ms) (hs : starEach (e :: es) X.env = (false, eval e X.env) :: starEach es X.env := by rfl) : SA X W (e :: es) (mCons m ms) := pa_imp (pa_cons ha hr hs) fun σ H Q q => by
  obtain ⟨g, F, sv, hK, rl, q⟩ := q
  refine ⟨g, F, sv, hK, rl, PostG.bind q fun d s1 x F1 H1 e1 rl1 rp1 h1 => ?_⟩
  refine ⟨g, F1, s1, hK, rl1, PostG.bind h1 fun ds s2 xs F2 H2 e2 rl2 rp2 h2 => ?_⟩
  exact h2 _ F2 H2 (Same.refl F2) rl2 ⟨x, xs, rfl, Rp.mono e2 _ _ rp1, rp2⟩
def mTup (ms : M (List D)) : M D := fun sv => (ms sv).bind fun ds s => if ds.length ≤ sizeLine then .ok (.tup ds) s else .bad
def mLst (ms : M (List D)) : M D := fun sv => (ms sv).bind fun ds s => if ds.length ≤ sizeLine then .ok (.lst ds) s else .bad
theorem se_tup {x1} (h : SA X W es ms) : SE X W (.Tuple es x1 pos) (mTup ms) := pe_imp (pe_tup h) fun σ H Q q => by
  obtain ⟨g, F, sv, hK, rl, q⟩ := q
  refine ⟨g, F, sv, hK, rl, PostG.bind q fun ds s1 vs F1 H1 e1 rl1 rp1 h1 => ?_⟩
  split at h1
  · refine ⟨by rw [← RpL.length rp1]; assumption, fun p hp => ?_⟩
    have sF : Same F1 (upd F1 p (.tup vs)) := same_upd (rl1.sub.free hp)
    exact h1 _ _ _ sF (rl1.lay hp) ⟨p, _, rfl, .inl (.inl upd_same), RpL.mono sF _ _ rp1⟩
  · exact False.elim h1
theorem so_lst (h : SA X W es ms) : SO X W (.List es pos) (mLst ms) := pe_imp (pe_lst h) fun σ H Q q => by
  obtain ⟨g, F, sv, hK, rl, q⟩ := q
  refine ⟨g, F, sv, hK, rl, PostG.bind q fun ds s1 vs F1 H1 e1 rl1 rp1 h1 => ?_⟩
  split at h1
  · refine ⟨by rw [← RpL.length rp1]; assumption, fun p hp => ?_⟩
    exact h1 _ _ _ (Same.refl F1) (rl1.layO hp) (rl1.newO hp .lst rp1)
  · exact False.elim h1
instance fl_lst {ms : M (List D)} : Fl (mLst ms) := ⟨fun sv d s h e => by
  unfold mLst at h
  cases hm : ms sv with
  | ok ds s1 =>
    rw [hm] at h
    have h : (if ds.length ≤ sizeLine then R.ok (D.lst ds) s1 else .bad) = .ok d s := h
    split at h <;> cases h
    exact fun z => nomatch z
  | err x s1 => rw [hm] at h; cases h
  | bad => rw [hm] at h; cases h⟩
theorem se_lst (h : SA X W es ms) : SE X W (.List es pos) (mLst ms) := se_of (so_lst h)
/-- xs * k: a new list -/
def dRep : D → D → Option D
  | .lst xs, .int k => if -(2 ^ 63) ≤ k ∧ k < 2 ^ 63 ∧ xs.length * k.toNat ≤ sizeLine then some (.lst (List.replicate k.toNat xs).flatten) else none
  | _, _ => none
theorem rep_rel {K : PySem.W.Frag} {F : Hp} {ds : List D} {vs : List V} (h : RpL K F ds vs) : ∀ n : Nat, RpL K F (List.replicate n ds).flatten (List.replicate n vs).flatten
  | 0 => rfl
  | n + 1 => by
    rw [List.replicate_succ, List.replicate_succ, List.flatten_cons, List.flatten_cons]
    exact h.append (rep_rel h n)
theorem so_rep (ha : SE X W a ma) (hb : SE X W b mb) : SO X W (.BinOp a .Mult b pos) (m2 dRep ma mb) := pe_imp (pe_op op_rep ha hb) fun σ H Q q => by
  obtain ⟨g, F, sv, hK, rl, q⟩ := q
  refine ⟨g, F, sv, hK, rl, PostG.bind q fun d s1 x F1 H1 e1 rl1 rp1 h1 => ?_⟩
  refine ⟨g, F1, s1, hK, rl1, PostG.bind h1 fun d2 s2 y F2 H2 e2 rl2 rp2 h2 => ?_⟩
  cases hd : dRep d d2 with
  | none => rw [hd] at h2; exact False.elim h2
  | some r =>
    rw [hd] at h2
    unfold dRep at hd
    split at hd
    · split at hd
      · rename_i hz
        cases hd
        obtain ⟨p, vs, rfl, h4, h5⟩ := (Rp.mono e2 _ _ rp1 : Rp g.K F2 (.lst _) x)
        refine ⟨p, _, vs, rfl, rp2, rl2.sub _ _ h4, hz.1, hz.2.1, by rw [← h5.length]; exact hz.2.2, fun l hl => ?_⟩
        exact h2 _ _ _ (Same.refl F2) (rl2.layO hl) (rl2.newO hl .lst (rep_rel h5 _))
      · cases hd
    · cases hd
theorem fl_m2 {f : D → D → Option D} {ma mb : M D} (hf : ∀ a b d, f a b = some d → ∀ e, d ≠ .deep e) : Fl (m2 f ma mb) := ⟨fun sv d s h e => by
  unfold m2 at h
  cases hm : ma sv with
  | ok a s1 =>
    rw [hm] at h
    dsimp only [R.bind] at h
    cases hn : mb s1 with
    | ok b s2 =>
      rw [hn] at h
      dsimp only [R.bind] at h
      cases hk : f a b with
      | none => rw [hk] at h; cases h
      | some r => rw [hk] at h; cases h; exact hf a b _ hk e
    | err x s2 => rw [hn] at h; cases h
    | bad => rw [hn] at h; cases h
  | err x s1 => rw [hm] at h; cases h
  | bad => rw [hm] at h; cases h⟩
instance fl_rep {ma mb : M D} : Fl (m2 dRep ma mb) := fl_m2 fun a b d h e => by
  unfold dRep at h
  split at h
  · split at h
    · cases h; exact fun z => nomatch z
    · cases h
  · cases h
theorem se_rep (ha : SE X W a ma) (hb : SE X W b mb) : SE X W (.BinOp a .Mult b pos) (m2 dRep ma mb) := se_of (so_rep ha hb)
end
end VM

set_option Elab.async false
set_option linter.all false
set_option autoImplicit false
set_option maxRecDepth 100000
set_option maxHeartbeats 400000
namespace VM
open PySem PySem.Spec PyProof.Rows L2

/-! ### built-ins called with values -/
def OC (K : PySem.W.Frag) (r : List V → Hp → VK → Prop) (f : List D → Option D) : Prop :=
  ∀ (g : G) (F H : Hp) (σ : L2.St) (sv : SV) (ds : List D) (d : D) (vs : List V) (Q : VK), g.K = K → Rl g F H σ sv → f ds = some d → RpL K F ds vs →
    (∀ v F' H', Same F F' → Rl g F' H' σ sv → Rp K F' d v → Q v H') → r vs H Q
/-- .. whose answer is a new, owned object -/
def OCO (K : PySem.W.Frag) (r : List V → Hp → VK → Prop) (f : List D → Option D) : Prop :=
  ∀ (g : G) (F H : Hp) (σ : L2.St) (sv : SV) (ds : List D) (d : D) (vs : List V) (Q : VK), g.K = K → Rl g F H σ sv → f ds = some d → RpL K F ds vs →
    (∀ v F' H', Same F F' → Rl g F' H' σ sv → RelO' g F' H' σ sv d v → Q v H') → r vs H Q
def mCall1 (f : List D → Option D) (ms : M (List D)) : M D := fun sv => (ms sv).bind fun ds s => match f ds with
  | some d => .ok d s
  | none => .bad
theorem oc_pure {K : PySem.W.Frag} {r : List V → Hp → VK → Prop} {f : List D → Option D} (h : ∀ (F H : Hp) (ds : List D) (d : D) (vs : List V) (Q : VK), Same F H → f ds = some d → RpL K F ds vs → (∀ v, Rp K F d v → Q v H) → r vs H Q) : OC K r f :=
  fun g F H σ sv ds d vs Q _ rl e hv q => h F H ds d vs Q rl.sub e hv fun v rv => q v F H (Same.refl F) rl rv
theorem OC.or {K : PySem.W.Frag} {r r' : List V → Hp → VK → Prop} {f f' : List D → Option D} (h : OC K r f) (h' : OC K r' f') : OC K (fun x H Q => r x H Q ∨ r' x H Q) (fun a => (f a).or (f' a)) := by
  intro g F H σ sv ds d vs Q hK rl e hv q
  dsimp only at e
  cases e1 : f ds with
  | some d' =>
    rw [e1] at e
    cases (show d' = d by simpa using e)
    exact .inl (h g F H σ sv ds d vs Q hK rl e1 hv q)
  | none =>
    rw [e1] at e
    exact .inr (h' g F H σ sv ds d vs Q hK rl (by simpa using e) hv q)
section
variable {X : Cx} {W : WX'} {x : Str} {p pos : Pos} {e : Expr} {es : List Expr} {ms : M (List D)} {id T : String} {r : List V → Hp → VK → Prop} {f : List D → Option D}
theorem tg_call {K : PySem.W.Frag} {mg : MX} (hf : OC K r f) {σ : L2.St} {H : Hp} {Q : VK} (h : tE K mg W (mCall1 f ms) σ H Q) : tCB r (tG K mg W RelL ms) σ H Q := by
  obtain ⟨g, F, sv, hK, rl, h⟩ := h
  refine ⟨g, F, sv, hK, rl, PostG.bind h fun ds s1 vs F1 H1 e1 rl1 rp1 h1 => ?_⟩
  obtain ⟨hK, hMx⟩ := hK; subst hK
  cases hd : f ds with
  | none => rw [hd] at h1; exact False.elim h1
  | some d =>
    rw [hd] at h1
    exact hf g F1 H1 σ s1 ds d vs Q rfl rl1 hd rp1 fun v F' H' e3 rl3 rp3 => h1 v F' H' e3 rl3 rp3
theorem tg_callO {K : PySem.W.Frag} {mg : MX} (hf : OCO K r f) {σ : L2.St} {H : Hp} {Q : VK} (h : tO K mg W (mCall1 f ms) σ H Q) : tCB r (tG K mg W RelL ms) σ H Q := by
  obtain ⟨g, F, sv, hK, rl, h⟩ := h
  refine ⟨g, F, sv, hK, rl, PostG.bind h fun ds s1 vs F1 H1 e1 rl1 rp1 h1 => ?_⟩
  obtain ⟨hK, hMx⟩ := hK; subst hK
  cases hd : f ds with
  | none => rw [hd] at h1; exact False.elim h1
  | some d =>
    rw [hd] at h1
    exact hf g F1 H1 σ s1 ds d vs Q rfl rl1 hd rp1 fun v F' H' e3 rl3 rp3 => h1 v F' H' e3 rl3 rp3
theorem se_callB (hc : CallR X (.builtin id) r) (hf : OC X.K r f) (hg : Gl X x) (hm : X.mg x = none) (hv : bootBuiltins x = some (.builtin id)) (ha : SA X W (e :: es) ms) (hn : x ≠ "__name__" := by decide) (hdb : (x == ("__debug__" : Str)) = false := by decide)
    (h1 : starEach (e :: es) X.env = (false, eval e X.env) :: starEach es X.env := by rfl) (h2 : (backTo pos (starEach es X.env)).any (·.1) = false := by rfl) : SE X W (.Call (.Name x p) (e :: es) [] pos) (mCall1 f ms) :=
  pe_imp (pe_callB hc hg hm hv ha hn hdb h1 h2) fun σ H Q q => tg_call hf q
theorem so_callB (hc : CallR X (.builtin id) r) (hf : OCO X.K r f) (hg : Gl X x) (hm : X.mg x = none) (hv : bootBuiltins x = some (.builtin id)) (ha : SA X W (e :: es) ms) (hn : x ≠ "__name__" := by decide) (hdb : (x == ("__debug__" : Str)) = false := by decide)
    (h1 : starEach (e :: es) X.env = (false, eval e X.env) :: starEach es X.env := by rfl) (h2 : (backTo pos (starEach es X.env)).any (·.1) = false := by rfl) : SO X W (.Call (.Name x p) (e :: es) [] pos) (mCall1 f ms) :=
  pe_imp (pe_callB hc hg hm hv ha hn hdb h1 h2) fun σ H Q q => tg_callO hf q
theorem se_callTy (hc : CallR X (.type T) r) (hf : OC X.K r f) (hg : Gl X x) (hm : X.mg x = none) (hv : bootBuiltins x = some (.type T)) (ha : SA X W (e :: es) ms) (hn : x ≠ "__name__" := by decide) (hdb : (x == ("__debug__" : Str)) = false := by decide)
    (h1 : starEach (e :: es) X.env = (false, eval e X.env) :: starEach es X.env := by rfl) (h2 : (backTo pos (starEach es X.env)).any (·.1) = false := by rfl) : SE X W (.Call (.Name x p) (e :: es) [] pos) (mCall1 f ms) :=
  pe_imp (pe_callTy hc hg hm hv ha hn hdb h1 h2) fun σ H Q q => tg_call hf q
theorem so_callTy (hc : CallR X (.type T) r) (hf : OCO X.K r f) (hg : Gl X x) (hm : X.mg x = none) (hv : bootBuiltins x = some (.type T)) (ha : SA X W (e :: es) ms) (hn : x ≠ "__name__" := by decide) (hdb : (x == ("__debug__" : Str)) = false := by decide)
    (h1 : starEach (e :: es) X.env = (false, eval e X.env) :: starEach es X.env := by rfl) (h2 : (backTo pos (starEach es X.env)).any (·.1) = false := by rfl) : SO X W (.Call (.Name x p) (e :: es) [] pos) (mCall1 f ms) :=
  pe_imp (pe_callTy hc hg hm hv ha hn hdb h1 h2) fun σ H Q q => tg_callO hf q

/-! #### len, int, tuple, list, min, max, sorted, repr -/
def dLen : List D → Option D
  | [.tup xs] => some (.int xs.length)
  | [.lst xs] => some (.int xs.length)
  | [.fl xs] => some (.int xs.length)
  | [.str z] => if z.length ≤ sizeLine then some (.int z.length) else none
  | _ => none
def dInt : List D → Option D
  | [.int i] => some (.int i)
  | [.bl b] => some (.int (if b then 1 else 0))
  | _ => none
def dTuple : List D → Option D
  | [.tup xs] => some (.tup xs)
  | [.lst xs] => some (.tup xs)
  | [.fl xs] => some (.tup xs)
  | _ => none
def dList : List D → Option D
  | [.tup xs] => some (.lst xs)
  | [.lst xs] => some (.lst xs)
  | [.fl xs] => some (.lst xs)
  | _ => none
def dMin2 : List D → Option D
  | [.int i, .int j] => some (.int (if j < i then j else i))
  | _ => none
def dMax2 : List D → Option D
  | [.int i, .int j] => some (.int (if j > i then j else i))
  | _ => none
theorem RpL.one_inv {K : PySem.W.Frag} {F : Hp} {d : D} {vs : List V} (h : RpL K F [d] vs) : ∃ v, vs = [v] ∧ Rp K F d v := by
  obtain ⟨v, r, rfl, h1, rfl⟩ := h
  exact ⟨v, rfl, h1⟩
theorem oc_len {K : PySem.W.Frag} : OC K (fun xs H Q => (∃ p ys, xs = [.ref p] ∧ (SqL K H p ys ∨ SqT K H p ys) ∧ Q (.int ys.length) H) ∨ (∃ z, xs = [.str z] ∧ z.length ≤ sizeLine ∧ Q (.int z.length) H)) dLen := oc_pure fun F H ds d vs Q s e hv q => by
  unfold dLen at e
  split at e
  · cases e
    obtain ⟨v, rfl, p, us, rfl, h1, h2⟩ := hv.one_inv
    exact .inl ⟨p, us, rfl, .inr (sqT_mono s h1), q _ (by rw [← h2.length]; rfl)⟩
  · cases e
    obtain ⟨v, rfl, p, us, rfl, h1, h2⟩ := hv.one_inv
    exact .inl ⟨p, us, rfl, .inl (.inl (.inl (s _ _ h1))), q _ (by rw [← h2.length]; rfl)⟩
  · cases e
    obtain ⟨v, rfl, p, us, rfl, h1, h2⟩ := hv.one_inv
    exact .inl ⟨p, us, rfl, .inl (s.seq h1), q _ (by rw [← h2.length]; rfl)⟩
  · split at e
    · cases e
      obtain ⟨v, rfl, h1⟩ := hv.one_inv
      cases h1
      exact .inr ⟨_, rfl, by assumption, q _ rfl⟩
    · cases e
  · cases e
theorem oc_int {K : PySem.W.Frag} : OC K (fun xs H Q => (∃ i, xs = [V.int i] ∧ Q (.int i) H) ∨ ∃ k, xs = [V.bl k] ∧ Q (.int (if k then 1 else 0)) H) dInt := oc_pure fun F H ds d vs Q s e hv q => by
  unfold dInt at e
  split at e
  · cases e
    obtain ⟨v, rfl, h1⟩ := hv.one_inv
    cases h1
    exact .inl ⟨_, rfl, q _ rfl⟩
  · cases e
    obtain ⟨v, rfl, h1⟩ := hv.one_inv
    cases h1
    exact .inr ⟨_, rfl, q _ rfl⟩
  · cases e
theorem oc_tuple {K : PySem.W.Frag} : OC K (fun xs H Q => ∃ p ys, xs = [V.ref p] ∧ ((SqL K H p ys ∧ ∀ l, H l = none → Q (.ref l) (upd H l (.tup ys))) ∨ (SqT K H p ys ∧ Q (.ref p) H))) dTuple := by
  intro g F H σ sv ds d vs Q hK rl e hv q
  have list : ∀ {xs : List D} {p : Addr} {us : List V}, SqL K H p us → RpL K F xs us → d = .tup xs → ∃ p' ys, [V.ref p] = [V.ref p'] ∧ ((SqL K H p' ys ∧ ∀ l, H l = none → Q (.ref l) (upd H l (.tup ys))) ∨ (SqT K H p' ys ∧ Q (.ref p') H)) := fun {xs p us} h1 h2 ed => by
    subst ed
    refine ⟨p, us, rfl, .inl ⟨h1, fun l hl => ?_⟩⟩
    have sF : Same F (upd F l (.tup us)) := same_upd (rl.sub.free hl)
    exact q _ _ _ sF (rl.lay hl) ⟨l, _, rfl, .inl (.inl upd_same), RpL.mono sF _ _ h2⟩
  unfold dTuple at e
  split at e
  · cases e
    obtain ⟨v, rfl, p, us, rfl, h1, h2⟩ := hv.one_inv
    exact ⟨p, us, rfl, .inr ⟨sqT_mono rl.sub h1, q _ F H (Same.refl F) rl ⟨p, us, rfl, h1, h2⟩⟩⟩
  · cases e
    obtain ⟨v, rfl, p, us, rfl, h1, h2⟩ := hv.one_inv
    exact list (.inl (.inl (rl.sub _ _ h1))) h2 rfl
  · cases e
    obtain ⟨v, rfl, p, us, rfl, h1, h2⟩ := hv.one_inv
    exact list (rl.sub.seq h1) h2 rfl
  · cases e
theorem oc_list {K : PySem.W.Frag} : OCO K (fun xs H Q => ∃ p ys, xs = [V.ref p] ∧ (SqL K H p ys ∨ SqT K H p ys) ∧ ∀ l, H l = none → Q (.ref l) (upd H l (.lst ys))) dList := by
  intro g F H σ sv ds d vs Q hK rl e hv q
  subst hK
  have fin : ∀ {xs : List D} {us : List V}, RpL g.K F xs us → d = .lst xs → ∀ l, H l = none → Q (.ref l) (upd H l (.lst us)) := fun {xs us} h2 ed l hl => by
    subst ed
    exact q _ F _ (Same.refl F) (rl.layO hl) (rl.newO hl .lst h2)
  unfold dList at e
  split at e
  · cases e
    obtain ⟨v, rfl, p, us, rfl, h1, h2⟩ := hv.one_inv
    exact ⟨p, us, rfl, .inr (sqT_mono rl.sub h1), fin h2 rfl⟩
  · cases e
    obtain ⟨v, rfl, p, us, rfl, h1, h2⟩ := hv.one_inv
    exact ⟨p, us, rfl, .inl (.inl (.inl (rl.sub _ _ h1))), fin h2 rfl⟩
  · cases e
    obtain ⟨v, rfl, p, us, rfl, h1, h2⟩ := hv.one_inv
    exact ⟨p, us, rfl, .inl (rl.sub.seq h1), fin h2 rfl⟩
  · cases e
theorem RpL.two_inv {K : PySem.W.Frag} {F : Hp} {d e : D} {vs : List V} (h : RpL K F [d, e] vs) : ∃ v u, vs = [v, u] ∧ Rp K F d v ∧ Rp K F e u := by
  obtain ⟨v, r, rfl, h1, u, r', rfl, h2, rfl⟩ := h
  exact ⟨v, u, rfl, h1, h2⟩
theorem oc_min2 {K : PySem.W.Frag} : OC K (fun xs H Q => ∃ i j, xs = [V.int i, V.int j] ∧ Q (.int (if j < i then j else i)) H) dMin2 := oc_pure fun F H ds d vs Q s e hv q => by
  unfold dMin2 at e
  split at e
  · cases e
    obtain ⟨v, u, rfl, h1, h2⟩ := hv.two_inv
    cases h1; cases h2
    exact ⟨_, _, rfl, q _ rfl⟩
  · cases e
theorem oc_max2 {K : PySem.W.Frag} : OC K (fun xs H Q => ∃ i j, xs = [V.int i, V.int j] ∧ Q (.int (if j > i then j else i)) H) dMax2 := oc_pure fun F H ds d vs Q s e hv q => by
  unfold dMax2 at e
  split at e
  · cases e
    obtain ⟨v, u, rfl, h1, h2⟩ := hv.two_inv
    cases h1; cases h2
    exact ⟨_, _, rfl, q _ rfl⟩
  · cases e
theorem se_len (hg : Gl X "len") (hm : X.mg "len" = none) (ha : SA X W (e :: es) ms)
    (h1 : starEach (e :: es) X.env = (false, eval e X.env) :: starEach es X.env := by rfl) (h2 : (backTo pos (starEach es X.env)).any (·.1) = false := by rfl) : SE X W (.Call (.Name "len" p) (e :: es) [] pos) (mCall1 dLen ms) :=
  se_callB (CallR.or call_len_seq call_len_str) oc_len hg hm PySem.boot_len ha (by decide) (by decide) h1 h2
theorem boot_int' : bootBuiltins "int" = some (.type "int") := by decide +kernel
theorem boot_tuple' : bootBuiltins "tuple" = some (.type "tuple") := by decide +kernel
theorem boot_list' : bootBuiltins "list" = some (.type "list") := by decide +kernel
theorem boot_min' : bootBuiltins "min" = some (.builtin "min") := by decide +kernel
theorem boot_max' : bootBuiltins "max" = some (.builtin "max") := by decide +kernel
theorem boot_sorted' : bootBuiltins "sorted" = some (.builtin "sorted") := by decide +kernel
theorem boot_repr' : bootBuiltins "repr" = some (.builtin "repr") := by decide +kernel
theorem boot_isinstance' : bootBuiltins "isinstance" = some (.builtin "isinstance") := by decide +kernel
theorem se_intc (hg : Gl X "int") (hm : X.mg "int" = none) (ha : SA X W (e :: es) ms)
    (h1 : starEach (e :: es) X.env = (false, eval e X.env) :: starEach es X.env := by rfl) (h2 : (backTo pos (starEach es X.env)).any (·.1) = false := by rfl) : SE X W (.Call (.Name "int" p) (e :: es) [] pos) (mCall1 dInt ms) :=
  se_callTy call_int1 oc_int hg hm boot_int' ha (by decide) (by decide) h1 h2
theorem se_tuplec (hg : Gl X "tuple") (hm : X.mg "tuple" = none) (ha : SA X W (e :: es) ms)
    (h1 : starEach (e :: es) X.env = (false, eval e X.env) :: starEach es X.env := by rfl) (h2 : (backTo pos (starEach es X.env)).any (·.1) = false := by rfl) : SE X W (.Call (.Name "tuple" p) (e :: es) [] pos) (mCall1 dTuple ms) :=
  se_callTy call_tuple_of oc_tuple hg hm boot_tuple' ha (by decide) (by decide) h1 h2
theorem so_listc (hg : Gl X "list") (hm : X.mg "list" = none) (ha : SA X W (e :: es) ms)
    (h1 : starEach (e :: es) X.env = (false, eval e X.env) :: starEach es X.env := by rfl) (h2 : (backTo pos (starEach es X.env)).any (·.1) = false := by rfl) : SO X W (.Call (.Name "list" p) (e :: es) [] pos) (mCall1 dList ms) :=
  so_callTy call_list_of oc_list hg hm boot_list' ha (by decide) (by decide) h1 h2
theorem se_min (hc : X.calm = true) (hg : Gl X "min") (hm : X.mg "min" = none) (ha : SA X W (e :: es) ms)
    (h1 : starEach (e :: es) X.env = (false, eval e X.env) :: starEach es X.env := by rfl) (h2 : (backTo pos (starEach es X.env)).any (·.1) = false := by rfl) : SE X W (.Call (.Name "min" p) (e :: es) [] pos) (mCall1 dMin2 ms) :=
  se_callB (call_min2 hc) oc_min2 hg hm boot_min' ha (by decide) (by decide) h1 h2
theorem se_max (hc : X.calm = true) (hg : Gl X "max") (hm : X.mg "max" = none) (ha : SA X W (e :: es) ms)
    (h1 : starEach (e :: es) X.env = (false, eval e X.env) :: starEach es X.env := by rfl) (h2 : (backTo pos (starEach es X.env)).any (·.1) = false := by rfl) : SE X W (.Call (.Name "max" p) (e :: es) [] pos) (mCall1 dMax2 ms) :=
  se_callB (call_max2 hc) oc_max2 hg hm boot_max' ha (by decide) (by decide) h1 h2

/-- sorted of a list of texts -/
def leS (a b : Str) : Bool := !ltCps b.cps.toList a.cps.toList
def sortS (xs : List Str) : List Str := xs.mergeSort leS
theorem lt_irr : ∀ a : List Nat, ltCps a a = false
  | [] => rfl
  | x :: a => by simp [ltCps, lt_irr a]
theorem lt_tri : ∀ a b : List Nat, ltCps a b = false → ltCps b a = false → a = b
  | [], [], _, _ => rfl
  | [], _ :: _, h, _ => by cases h
  | _ :: _, [], _, h => by cases h
  | x :: a, y :: b, h, h' => by
    simp only [ltCps, Bool.or_eq_false_iff, Bool.and_eq_false_iff, decide_eq_false_iff_not, beq_eq_false_iff_ne] at h h'
    have e : x = y := by omega
    subst e
    have h2 : ltCps a b = false := by rcases h.2 with z | z; exact absurd rfl z; exact z
    have h3 : ltCps b a = false := by rcases h'.2 with z | z; exact absurd rfl z; exact z
    rw [lt_tri a b h2 h3]
theorem lt_trans' : ∀ a b c : List Nat, ltCps a b = true → ltCps b c = true → ltCps a c = true
  | [], [], _, h, _ => by cases h
  | [], _ :: _, [], _, h => by cases h
  | [], _ :: _, _ :: _, _, _ => rfl
  | _ :: _, [], _, h, _ => by cases h
  | _ :: _, _ :: _, [], _, h => by cases h
  | x :: a, y :: b, z :: c, h, h' => by
    simp only [ltCps, Bool.or_eq_true, Bool.and_eq_true, decide_eq_true_eq, beq_iff_eq] at h h' ⊢
    rcases h with h | ⟨h, h2⟩
    · rcases h' with h' | ⟨h', h3⟩
      · exact .inl (by omega)
      · exact .inl (by omega)
    · rcases h' with h' | ⟨h', h3⟩
      · exact .inl (by omega)
      · exact .inr ⟨by omega, lt_trans' a b c h2 h3⟩
theorem le_trans' (a b c : Str) (h : leS a b = true) (h' : leS b c = true) : leS a c = true := by
  unfold leS at *
  simp only [Bool.not_eq_true'] at *
  cases e : ltCps c.cps.toList a.cps.toList with
  | false => rfl
  | true =>
    -- a <= b, b <= c, c < a
    cases e1 : ltCps a.cps.toList b.cps.toList with
    | true =>
      have := lt_trans' _ _ _ e e1
      rw [this] at h'; cases h'
    | false =>
      have := lt_tri _ _ e1 h
      rw [← this, e] at h'; cases h'
theorem le_total' (a b : Str) : (leS a b || leS b a) = true := by
  unfold leS
  cases e : ltCps b.cps.toList a.cps.toList with
  | false => simp
  | true =>
    cases e1 : ltCps a.cps.toList b.cps.toList with
    | false => simp
    | true =>
      have := lt_trans' _ _ _ e e1
      rw [lt_irr] at this; cases this
theorem str_ext {a b : Str} (h : a.cps.toList = b.cps.toList) : a = b := by
  cases a; cases b
  congr 1
  exact Array.ext' h
theorem le_anti (a b : Str) (h : leS a b = true) (h' : leS b a = true) : a = b := by
  unfold leS at *
  simp only [Bool.not_eq_true'] at *
  exact str_ext (lt_tri _ _ h' h)
theorem rising_pw : ∀ (p : Str) (xs : List Str), risingS p xs = true → (∀ x ∈ xs, leS p x = true) ∧ xs.Pairwise fun a b => leS a b = true
  | _, [], _ => ⟨fun _ h => (nomatch h), .nil⟩
  | p, x :: xs, h => by
    simp only [risingS, Bool.and_eq_true] at h
    obtain ⟨h1, h2⟩ := rising_pw x xs h.2
    have hp : leS p x = true := h.1
    exact ⟨fun y hy => by
      rcases List.mem_cons.mp hy with rfl | hy
      · exact hp
      · exact le_trans' _ _ _ hp (h1 y hy), .cons h1 h2⟩
theorem sorted_pw {xs : List Str} (h : sortedS xs = true) : xs.Pairwise fun a b => leS a b = true := by
  cases xs with
  | nil => exact .nil
  | cons x xs =>
    obtain ⟨h1, h2⟩ := rising_pw x xs h
    exact .cons h1 h2
theorem sort_unique {xs ys : List Str} (hp : ys.Perm xs) (hs : sortedS ys = true) : ys = sortS xs := by
  refine List.Perm.eq_of_pairwise (fun a b _ _ h1 h2 => le_anti a b h1 h2) (sorted_pw hs) ?_ (hp.trans (List.mergeSort_perm _ _).symm)
  exact List.pairwise_mergeSort le_trans' le_total' xs
def txts : List D → Option (List Str)
  | [] => some []
  | .str x :: r => (txts r).map (x :: ·)
  | _ => none
def dSorted : List D → Option D
  | [.lst xs] => match txts xs with
    | some ss => if ss.length < 64 then some (.lst ((sortS ss).map .str)) else none
    | none => none
  | _ => none
theorem strs_eq : ∀ {xs : List D} {ss : List Str}, txts xs = some ss → xs = ss.map .str
  | [], ss, h => by cases h; rfl
  | .str x :: r, ss, h => by
    simp only [txts, Option.map_eq_some_iff] at h
    obtain ⟨t, h1, rfl⟩ := h
    rw [strs_eq h1]; rfl
  | .non :: _, _, h => by cases h
  | .bl _ :: _, _, h => by cases h
  | .int _ :: _, _, h => by cases h
  | .tup _ :: _, _, h => by cases h
  | .lst _ :: _, _, h => by cases h
  | .fl _ :: _, _, h => by cases h
  | .dct _ _ :: _, _, h => by cases h
  | .obj _ _ _ :: _, _, h => by cases h
  | .deep _ :: _, _, h => by cases h
  | .own _ :: _, _, h => by cases h
theorem strs_map (ss : List Str) : txts (ss.map .str) = some ss := by
  induction ss with
  | nil => rfl
  | cons x r ih => simp [txts, ih]
theorem rel_strs {K : PySem.W.Frag} {F : Hp} : ∀ {ss : List Str} {vs : List V}, RpL K F (ss.map .str) vs → vs = ss.map .str
  | [], vs, h => by cases h; rfl
  | x :: ss, vs, h => by
    obtain ⟨v, r, rfl, h1, h2⟩ := h
    cases h1
    rw [rel_strs h2]; rfl
theorem strs_rel {K : PySem.W.Frag} {F : Hp} : ∀ (ss : List Str), RpL K F (ss.map .str) (ss.map .str)
  | [] => rfl
  | x :: ss => ⟨_, _, rfl, rfl, strs_rel ss⟩
theorem oc_sorted {K : PySem.W.Frag} : OCO K (rSortedS K) dSorted := by
  intro g F H σ sv ds d vs Q hK rl e hv q
  subst hK
  unfold dSorted at e
  split at e
  · split at e
    · rename_i xs ss hs
      split at e
      · rename_i hz
        cases e
        obtain ⟨v, rfl, p, us, rfl, h1, h2⟩ := hv.one_inv
        have ex := strs_eq hs
        subst ex
        have eu := rel_strs h2
        subst eu
        refine ⟨p, ss, rfl, .inl (.inl (rl.sub _ _ h1)), hz, fun ys l hp hso hl => ?_⟩
        have ey := sort_unique hp hso
        subst ey
        exact q _ F _ (Same.refl F) (rl.layO hl) (rl.newO hl .lst (strs_rel _))
      · cases e
    · cases e
  · cases e
theorem so_sorted (hg : Gl X "sorted") (hm : X.mg "sorted" = none) (ha : SA X W (e :: es) ms)
    (h1 : starEach (e :: es) X.env = (false, eval e X.env) :: starEach es X.env := by rfl) (h2 : (backTo pos (starEach es X.env)).any (·.1) = false := by rfl) : SO X W (.Call (.Name "sorted" p) (e :: es) [] pos) (mCall1 dSorted ms) :=
  so_callB cr_sortedS oc_sorted hg hm boot_sorted' ha (by decide) (by decide) h1 h2

/-- repr of data -/
def reprOk (q : PyData) : Bool := q.showable && !q.hasDict && decide (q.depth ≤ 60) && decide (q.shown.length ≤ sizeLine)
def dRepr : List D → Option D
  | [d] => match py d with
    | some q => if reprOk q = true then some (.str q.shown) else none
    | none => none
  | _ => none
def rRepr (K : PySem.W.Frag) : List V → Hp → VK → Prop := fun xs H Q => ∃ v d, xs = [v] ∧ Dp K H v d ∧ reprOk d = true ∧ Q (.str d.shown) H
theorem call_repr (hu : X.A.units + 64 < cLine) (hg : X.A.guards = some []) : CallR X (.builtin "repr") (rRepr X.K) := by
  intro pins s σ H xs us Q I r h
  obtain ⟨v, d, rfl, hd, hok, q⟩ := h
  unfold reprOk at hok
  simp only [Bool.and_eq_true, Bool.not_eq_true', decide_eq_true_eq] at hok
  obtain ⟨⟨⟨o1, o2⟩, o3⟩, o4⟩ := hok
  obtain ⟨u, rfl, ru⟩ := vals1 r
  cases hd with
  | non =>
    cases ru
    exact PySem.P.repr_of_none ⟨.str _, H, I.tok _, ⟨_, rfl⟩, by simpa only [PyData.shown] using q⟩
  | bl b =>
    cases ru
    refine PySem.P.repr_of_bool ⟨.str _, H, I.tok _, ⟨_, rfl⟩, by simpa only [PyData.shown] using q⟩
  | int i =>
    obtain ⟨t, rfl⟩ := ru
    refine PySem.P.repr_of_int (by simpa [PyData.showable] using o1) ⟨.str _, H, I.tok _, ⟨_, rfl⟩, by simpa only [PyData.shown] using q⟩
  | str x =>
    obtain ⟨t, rfl⟩ := ru
    refine PySem.P.repr_of_str ⟨.str _, H, I.tok _, ⟨_, rfl⟩, by simpa only [PyData.shown] using q⟩ (by simpa only [PyData.shown] using o4)
  | @lst a xs ds hs ha =>
    cases ru
    obtain ⟨as, rd⟩ := Dp.reads I (.list ds) (.ref a) (.ref a) (.lst hs ha) rfl
    exact repr_of_reads' rd o1 (PyData.noDict_hsm o2) hg (by omega) (fun _ _ e => e) (fun h' u tk hk => ⟨.str _, H, I.kept hk, ⟨_, rfl⟩, q⟩) o4
  | @tup a xs ds hs ha =>
    cases ru
    obtain ⟨as, rd⟩ := Dp.reads I (.tuple ds) (.ref a) (.ref a) (.tup hs ha) rfl
    exact repr_of_reads' rd o1 (PyData.noDict_hsm o2) hg (by omega) (fun _ _ e => e) (fun h' u tk hk => ⟨.str _, H, I.kept hk, ⟨_, rfl⟩, q⟩) o4
theorem oc_repr {K : PySem.W.Frag} : OC K (rRepr K) dRepr := oc_pure fun F H ds d vs Q s e hv q => by
  unfold dRepr at e
  split at e
  · rename_i d0
    split at e
    · rename_i q0 hq
      split at e
      · rename_i hok
        cases e
        obtain ⟨v, rfl, h1⟩ := hv.one_inv
        exact ⟨v, q0, rfl, dp_of s d0 v q0 h1 hq, hok, q _ rfl⟩
      · cases e
    · cases e
  · cases e
theorem se_repr (hu : X.A.units + 64 < cLine) (hgd : X.A.guards = some []) (hg : Gl X "repr") (hm : X.mg "repr" = none) (ha : SA X W (e :: es) ms)
    (h1 : starEach (e :: es) X.env = (false, eval e X.env) :: starEach es X.env := by rfl) (h2 : (backTo pos (starEach es X.env)).any (·.1) = false := by rfl) : SE X W (.Call (.Name "repr" p) (e :: es) [] pos) (mCall1 dRepr ms) :=
  se_callB (call_repr hu hgd) oc_repr hg hm boot_repr' ha (by decide) (by decide) h1 h2

/-! #### isinstance -/
def tn : D → String
  | .non => "NoneType"
  | .bl _ => "bool"
  | .int _ => "int"
  | .str _ => "str"
  | .tup _ => "tuple"
  | .lst _ => "list"
  | .fl _ => "list"
  | .dct _ _ => "dict"
  | .obj _ _ _ => "object"
  | .deep _ => ""
  | .own _ => ""
theorem tyX_of {K : PySem.W.Frag} {F H : Hp} {d : D} {v : V} (s : Same F H) (h : Rp K F d v) (ho : ∀ c ns xs, d ≠ .obj c ns xs) : TyX K H v (.type (tn d)) := by
  have sqt : ∀ {a : Addr} {xs : List V}, SqT K H a xs → TyX K H (.ref a) (.type "tuple") := fun {a xs} h => by
    rcases h with (h | ⟨o, h⟩) | ⟨o, its, n, h1, h2, _⟩
    · exact .base (.tup h)
    · exact .fTuple h
    · exact .kTuple h1 h2
  cases d with
  | non => cases h; exact .base .non
  | bl b => cases h; exact .base (.bl b)
  | int i => cases h; exact .base (.int i)
  | str x => cases h; exact .base (.str x)
  | tup ds =>
    obtain ⟨a, vs, rfl, h1, h2⟩ := h
    exact sqt (sqT_mono s h1)
  | lst ds =>
    obtain ⟨a, vs, rfl, h1, h2⟩ := h
    exact .base (.lst (s _ _ h1))
  | fl ds =>
    obtain ⟨a, vs, rfl, h1, h2⟩ := h
    rcases s.seq h1 with (h | ⟨o, h⟩) | ⟨o, its, n, h1, h2, _⟩
    · exact .base (.lst h)
    · exact .base (.frz h)
    · exact .kList h1 h2
  | dct ks ds =>
    obtain ⟨a, kvs, rfl, h1, _⟩ := h
    exact .base (.dK (s _ _ h1))
  | obj c ns ds => exact absurd rfl (ho _ _ _)
  | deep _ => exact False.elim h
  | own _ => exact False.elim h
def isi (T : String) : D → Option D
  | .obj _ _ _ => none
  | d => (kitB (tn d) T).map .bl
theorem isi_of {T : String} {d r : D} (h : isi T d = some r) : (∀ c ns xs, d ≠ .obj c ns xs) ∧ ∃ b, kitB (tn d) T = some b ∧ r = .bl b := by
  unfold isi at h
  split at h
  · cases h
  · rename_i hn
    obtain ⟨b, hb, rfl⟩ := Option.map_eq_some_iff.mp h
    exact ⟨fun c ns xs z => hn c ns xs z, b, hb, rfl⟩
theorem se_isi {T : String} {y : Str} {py : Pos} {m : M D} (hg : Gl X "isinstance") (hm : X.mg "isinstance" = none) (hgT : Gl X y) (hmT : X.mg y = none) (hvT : bootBuiltins y = some (.type T)) (ha : SE X W e m) (hn : y ≠ "__name__" := by decide) (hdb : (y == ("__debug__" : Str)) = false := by decide)
    (h1 : starEach [e, .Name y py] X.env = (false, eval e X.env) :: starEach [.Name y py] X.env := by rfl) (h2 : (backTo pos (starEach [.Name y py] X.env)).any (·.1) = false := by rfl) :
    SE X W (.Call (.Name "isinstance" p) [e, .Name y py] [] pos) (m1 (isi T) m) :=
  pe_imp (pe_callB call_isi hg hm boot_isinstance' (pa_cons ha (pa_cons (pe_bltn (v := .ty T) hgT hmT hvT rfl hn hdb) pa_nil) h1) (by decide) (by decide) h1 h2) fun σ H Q q => by
    obtain ⟨g, F, sv, hK, rl, q⟩ := q
    refine ⟨g, F, sv, hK, rl, PostG.bind q fun d s1 v F1 H1 e1 rl1 rp1 h1 => ?_⟩
    rw [← hK.1]
    cases hd : isi T d with
    | none => rw [hd] at h1; exact False.elim h1
    | some r =>
      rw [hd] at h1
      obtain ⟨ho, b, hb, rfl⟩ := isi_of hd
      exact ⟨v, .ty T, .type (tn d), .type T, b, rfl, .ty T, tyX_of rl1.sub rp1 ho, kit_ty hb, h1 _ F1 H1 (Same.refl F1) rl1 rfl⟩
end
end VM

set_option Elab.async false
set_option linter.all false
set_option autoImplicit false
set_option maxRecDepth 100000
set_option maxHeartbeats 400000
namespace VM
open PySem PySem.Spec PyProof.Rows L2

/-! ### statements -/
inductive O where
  | nx (s : SV) | rt (d : D) (s : SV) | ro (d : D) (s : SV) | bk (s : SV) | ct (s : SV) | err (x : Exn) (s : SV) | bad
abbrev MS := SV → O

def PostS (mg : MX) (g : G) (F : Hp) (o : O) (W : WX') (Dn : Ends) : Prop := match o with
  | .nx sv' => ∀ σ' F' H', Same F F' → Rl g F' H' σ' sv' → Dn.nx σ' H'
  | .rt d sv' => ∀ v σ' F' H', Same F F' → Rl g F' H' σ' sv' → Rp g.K F' d v → Dn.rt v H'
  | .ro d sv' => ∀ v σ' F' H', Same F F' → Rl g F' H' σ' sv' → RelO' g F' H' σ' sv' d v → Dn.rt v H'
  | .bk sv' => ∀ σ' F' H', Same F F' → Rl g F' H' σ' sv' → Dn.bk σ' H'
  | .ct sv' => ∀ σ' F' H', Same F F' → Rl g F' H' σ' sv' → Dn.ct σ' H'
  | .err x sv' => ∀ cls dd σ' F' H', Same F F' → Rl g F' H' σ' sv' → ErrOk g.K mg.mg F' x cls dd → W cls dd σ' H'
  | .bad => False
def tS (K : PySem.W.Frag) (mg : MX) (W : WX') (m : MS) : TS := fun Dn σ H => ∃ g F sv, (g.K = K ∧ g.mx = mg) ∧ Rl g F H σ sv ∧ PostS mg g F (m sv) W Dn
abbrev SS (X : Cx) (W : WX') (st : Stmt) (m : MS) : Prop := PS X st (tS X.K X.mx W m)
abbrev SSs (X : Cx) (W : WX') (sts : List Stmt) (m : MS) : Prop := PSs X sts (tS X.K X.mx W m)
theorem ps_imp {X : Cx} {st : Stmt} {t t' : TS} (h : PS X st t) (k : ∀ Dn σ H, t' Dn σ H → t Dn σ H) : PS X st t' := ⟨fun pins s σ H Dn I q => h.run pins s σ H Dn I (k Dn σ H q)⟩
theorem pss_imp {X : Cx} {st : List Stmt} {t t' : TS} (h : PSs X st t) (k : ∀ Dn σ H, t' Dn σ H → t Dn σ H) : PSs X st t' := ⟨fun pins s σ H Dn I q => h.run pins s σ H Dn I (k Dn σ H q)⟩
theorem PostS.mono {mg : MX} {g : G} {F F1 : Hp} {o : O} {W : WX'} {Dn : Ends} (h : PostS mg g F o W Dn) (e : Same F F1) : PostS mg g F1 o W Dn := by
  cases o with
  | nx s => exact fun σ' F' H' e1 => h σ' F' H' (e.trans e1)
  | rt d s => exact fun v σ' F' H' e1 => h v σ' F' H' (e.trans e1)
  | ro d s => exact fun v σ' F' H' e1 => h v σ' F' H' (e.trans e1)
  | bk s => exact fun σ' F' H' e1 => h σ' F' H' (e.trans e1)
  | ct s => exact fun σ' F' H' e1 => h σ' F' H' (e.trans e1)
  | err x s => exact fun c d σ' F' H' e1 => h c d σ' F' H' (e.trans e1)
  | bad => exact h
/-- an expression, then a statement -/
def mBind {α : Type} (m : M α) (k : α → SV → O) : MS := fun sv => match m sv with
  | .ok a s => k a s
  | .err x s => .err x s
  | .bad => .bad
theorem PostS.bind {α β : Type} {mg : MX} {g : G} {F H : Hp} {σ : L2.St} {m : M α} {sv : SV} {k : α → SV → O} {W : WX'} {Rel1 : G → Hp → Hp → L2.St → SV → α → β → Prop} {Dn : Ends} {Q1 : β → Hp → Prop}
    (h : PostS mg g F (mBind m k sv) W Dn)
    (kk : ∀ a sv1 b F1 H1, Same F F1 → Rl g F1 H1 σ sv1 → Rel1 g F1 H1 σ sv1 a b → PostS mg g F1 (k a sv1) W Dn → Q1 b H1) : PostG mg g F σ (m sv) W Rel1 Q1 := by
  unfold mBind at h
  cases hm : m sv with
  | ok a s =>
    rw [hm] at h
    exact fun b F1 H1 e rl rel => kk a s b F1 H1 e rl rel (h.mono e)
  | err x s =>
    rw [hm] at h
    exact fun c d F1 H1 e rl er => h c d σ F1 H1 e rl er
  | bad => rw [hm] at h; exact h

section
variable {X : Cx} {W : WX'} {a b e : Expr} {st : Stmt} {sts body orelse : List Stmt} {pos : Pos} {m : M D} {mt : M Bool} {ms mu : MS}
def mSkip : MS := fun sv => .nx sv
def mSeq (a b : MS) : MS := fun sv => match a sv with
  | .nx s => b s
  | o => o
theorem ss_nil : SSs X W [] mSkip := pss_imp pss_nil fun Dn σ H q => by
  obtain ⟨g, F, sv, hK, rl, q⟩ := q
  exact q σ F H (Same.refl F) rl
theorem ss_one (h : SS X W st ms) : SSs X W [st] ms := pss_one h
theorem ss_cons (h : SS X W st ms) (hr : SSs X W sts mu) : SSs X W (st :: sts) (mSeq ms mu) := pss_imp (pss_cons h hr) fun Dn σ H q => by
  obtain ⟨g, F, sv, hK, rl, q⟩ := q
  refine ⟨g, F, sv, hK, rl, ?_⟩
  revert q
  unfold mSeq
  cases ms sv with
  | nx s => exact fun q σ' F' H' e1 rl1 => ⟨g, F', s, hK, rl1, q.mono e1⟩
  | rt d s => exact fun q => q
  | ro d s => exact fun q => q
  | bk s => exact fun q => q
  | ct s => exact fun q => q
  | err x s => exact fun q => q
  | bad => exact fun q => q
theorem ss_pass : SS X W (.Pass pos) mSkip := ps_imp ps_pass fun Dn σ H q => by
  obtain ⟨g, F, sv, hK, rl, q⟩ := q
  exact q σ F H (Same.refl F) rl
theorem ss_break : SS X W (.Break pos) (fun sv => .bk sv) := ps_imp ps_break fun Dn σ H q => by
  obtain ⟨g, F, sv, hK, rl, q⟩ := q
  exact q σ F H (Same.refl F) rl
theorem ss_continue : SS X W (.Continue pos) (fun sv => .ct sv) := ps_imp ps_continue fun Dn σ H q => by
  obtain ⟨g, F, sv, hK, rl, q⟩ := q
  exact q σ F H (Same.refl F) rl
/-- a statement that is never reached -/
theorem ss_never : SS X W st (fun _ => .bad) := ps_imp ps_never fun Dn σ H q => by
  obtain ⟨g, F, sv, hK, rl, q⟩ := q
  exact q
def mDrop (m : M D) : MS := mBind m fun _ s => .nx s
theorem ss_expr (h : SE X W e m) (hs : swapsWith e none pos.line X.env = pure false := by rfl) : SS X W (.Expr e pos) (mDrop m) := ps_imp (ps_expr h hs) fun Dn σ H q => by
  obtain ⟨g, F, sv, hK, rl, q⟩ := q
  exact ⟨g, F, sv, hK, rl, PostS.bind (H := H) q fun d s v F1 H1 e1 rl1 rp1 h1 => h1 σ F1 H1 (Same.refl F1) rl1⟩
def mRet (m : M D) : MS := mBind m fun d s => .rt d s
def mRetO (m : M D) : MS := mBind m fun d s => .ro d s
theorem ss_ret (h : SE X W e m) : SS X W (.Return (some e) pos) (mRet m) := ps_imp (ps_ret h) fun Dn σ H q => by
  obtain ⟨g, F, sv, hK, rl, q⟩ := q
  exact ⟨g, F, sv, hK, rl, PostS.bind (H := H) q fun d s v F1 H1 e1 rl1 rp1 h1 => h1 v σ F1 H1 (Same.refl F1) rl1 rp1⟩
theorem ss_retO (h : SO X W e m) : SS X W (.Return (some e) pos) (mRetO m) := ps_imp (ps_ret h) fun Dn σ H q => by
  obtain ⟨g, F, sv, hK, rl, q⟩ := q
  exact ⟨g, F, sv, hK, rl, PostS.bind (H := H) q fun d s v F1 H1 e1 rl1 rp1 h1 => h1 v σ F1 H1 (Same.refl F1) rl1 rp1⟩
theorem ss_retN : SS X W (.Return none pos) (fun sv => .rt .non sv) := ps_imp ps_retN fun Dn σ H q => by
  obtain ⟨g, F, sv, hK, rl, q⟩ := q
  exact q .non σ F H (Same.refl F) rl rfl
def mIfS (t : M Bool) (a b : MS) : MS := mBind t fun c s => if c = true then a s else b s
theorem ss_if {c : Expr} (hc : ST X W c mt) (ha : SSs X W body ms) (hb : SSs X W orelse mu) : SS X W (.If c body orelse pos) (mIfS mt ms mu) := ps_imp (ps_if hc ha hb) fun Dn σ H q => by
  obtain ⟨g, F, sv, hK, rl, q⟩ := q
  refine ⟨g, F, sv, hK, rl, PostS.bind (H := H) q fun c s c' F1 H1 e1 rl1 rp1 h1 => ?_⟩
  cases rp1
  cases c with
  | true => exact ⟨g, F1, s, hK, rl1, h1⟩
  | false => exact ⟨g, F1, s, hK, rl1, h1⟩

/-! #### targets -/
abbrev MT := D → SV → Option SV
/-- the slots outside of some are as they were -/
def Agree (is : List Nat) (σ σ' : L2.St) : Prop := σ'.length = σ.length ∧ ∀ j, j ∉ is → σ'[j]? = σ[j]?
theorem Agree.refl (is : List Nat) (σ : L2.St) : Agree is σ σ := ⟨rfl, fun _ _ => rfl⟩
theorem Agree.trans {is js : List Nat} {σ σ1 σ2 : L2.St} (a : Agree is σ σ1) (b : Agree js σ1 σ2) : Agree (is ++ js) σ σ2 := ⟨b.1.trans a.1, fun j h => (b.2 j fun z => h (List.mem_append_right _ z)).trans (a.2 j fun z => h (List.mem_append_left _ z))⟩
def tGt (K : PySem.W.Frag) (is : List Nat) (mt : MT) : TG := fun v σ H Q => ∃ g F sv d sv', g.K = K ∧ Rl g F H σ sv ∧ Rp K F d v ∧ mt d sv = some sv' ∧ ∀ σ', Rl g F H σ' sv' → Agree is σ σ' → Q σ' H
def tGts (K : PySem.W.Frag) (is : List Nat) (mt : List D → SV → Option SV) : TGs := fun vs σ H Q => ∃ g F sv ds sv', g.K = K ∧ Rl g F H σ sv ∧ RpL K F ds vs ∧ mt ds sv = some sv' ∧ ∀ σ', Rl g F H σ' sv' → Agree is σ σ' → Q σ' H
abbrev SG (X : Cx) (tg : Expr) (is : List Nat) (mt : MT) : Prop := PG X tg (tGt X.K is mt)
abbrev SGs (X : Cx) (tgs : List Expr) (is : List Nat) (mt : List D → SV → Option SV) : Prop := PGs X tgs (tGts X.K is mt)
def mtN (i : Nat) : MT := fun d sv => some (sv.set i (.pl d))
def mtNil : List D → SV → Option SV := fun ds sv => match ds with
  | [] => some sv
  | _ => none
def mtCons (t : MT) (u : List D → SV → Option SV) : List D → SV → Option SV := fun ds sv => match ds with
  | d :: ds => (t d sv).bind fun s => u ds s
  | [] => none
def mtTup (n : Nat) (u : List D → SV → Option SV) : MT := fun d sv => match d with
  | .tup ds => if ds.length = n then u ds sv else none
  | _ => none
theorem pg_imp {tg : Expr} {t t' : TG} (h : PG X tg t) (k : ∀ v σ H Q, t' v σ H Q → t v σ H Q) : PG X tg t' := ⟨fun pins s σ H v u Q I r q => h.run pins s σ H v u Q I r (k v σ H Q q)⟩
theorem pgs_imp {tg : List Expr} {t t' : TGs} (h : PGs X tg t) (k : ∀ v σ H Q, t' v σ H Q → t v σ H Q) : PGs X tg t' := ⟨fun pins s σ H v u Q I r q => h.run pins s σ H v u Q I r (k v σ H Q q)⟩
theorem sg_name {i : Nat} {x : Str} {pos : Pos} (h : PG X (.Name x pos) (gName i)) : SG X (.Name x pos) [i] (mtN i) := pg_imp h fun v σ H Q q => by
  obtain ⟨g, F, sv, d, sv', hK, rl, rp, e, q⟩ := q
  cases e
  exact q _ (rl.setPl i (by rw [hK]; exact rp)) ⟨by simp, fun j hj => List.getElem?_set_ne (fun z => hj (by simp [z]))⟩
theorem sgs_nil : SGs X [] [] mtNil := pgs_imp pgs_nil fun v σ H Q q => by
  obtain ⟨g, F, sv, ds, sv', hK, rl, rp, e, q⟩ := q
  cases ds with
  | nil => cases e; exact ⟨rp, q σ rl (Agree.refl _ _)⟩
  | cons d ds => cases e
theorem sgs_cons {tg : Expr} {tgs : List Expr} {is js : List Nat} {t : MT} {u : List D → SV → Option SV} (h1 : SG X tg is t) (h2 : SGs X tgs js u) (hs : PGs X (tg :: tgs) (gCons (tGt X.K is t) (tGts X.K js u)) := by exact pgs_cons (by assumption) (by assumption)) : SGs X (tg :: tgs) (is ++ js) (mtCons t u) := pgs_imp hs fun vs σ H Q q => by
  obtain ⟨g, F, sv, ds, sv', hK, rl, rp, e, q⟩ := q
  cases ds with
  | nil => cases e
  | cons d ds =>
    obtain ⟨v, r, rfl, r1, r2⟩ := rp
    simp only [mtCons, Option.bind_eq_some_iff] at e
    obtain ⟨s, e1, e2⟩ := e
    exact ⟨v, r, rfl, g, F, sv, d, s, hK, rl, r1, e1, fun σ' rl' a => ⟨g, F, s, ds, sv', hK, rl', r2, e2, fun σ2 rl2 b => q σ2 rl2 (a.trans b)⟩⟩
theorem sg_tup {es : List Expr} {k n : Nat} {is : List Nat} {u : List D → SV → Option SV} {pos : Pos} (hp : PG X (.Tuple es k pos) (gTup X.K n (tGts X.K is u))) : SG X (.Tuple es k pos) is (mtTup n u) := pg_imp hp fun v σ H Q q => by
  obtain ⟨g, F, sv, d, sv', hK, rl, rp, e, q⟩ := q
  unfold mtTup at e
  split at e
  · split at e
    · obtain ⟨a, vs, rfl, h1, h2⟩ := rp
      exact ⟨a, vs, rfl, sqT_mono rl.sub h1, by rw [← h2.length]; assumption, g, F, sv, _, sv', hK, rl, h2, e, q⟩
    · cases e
  · cases e

/-! #### assignments -/
def mAsg (i : Nat) (m : M D) : MS := mBind m fun d s => .nx (s.set i (.pl d))
def mAsgO (i : Nat) (m : M D) : MS := mBind m fun d s => .nx (s.set i (.ow d))
def mAsgT (t : MT) (m : M D) : MS := mBind m fun d s => match t d s with
  | some s' => .nx s'
  | none => .bad
theorem ss_set {i : Nat} {x : Str} {pos' : Pos} (h : ∀ te, PE X e te → PS X (.Assign [.Name x pos'] e pos) (tAsg te (gName i))) (he : SE X W e m) : SS X W (.Assign [.Name x pos'] e pos) (mAsg i m) := ps_imp (h _ he) fun Dn σ H q => by
  obtain ⟨g, F, sv, hK, rl, q⟩ := q
  exact ⟨g, F, sv, hK, rl, PostS.bind (H := H) q fun d s v F1 H1 e1 rl1 rp1 h1 => h1 _ F1 H1 (Same.refl F1) (rl1.setPl i rp1)⟩
theorem ss_setO {i : Nat} {x : Str} {pos' : Pos} (h : ∀ te, PE X e te → PS X (.Assign [.Name x pos'] e pos) (tAsg te (gName i))) (he : SO X W e m) : SS X W (.Assign [.Name x pos'] e pos) (mAsgO i m) := ps_imp (h _ he) fun Dn σ H q => by
  obtain ⟨g, F, sv, hK, rl, q⟩ := q
  refine ⟨g, F, sv, hK, rl, PostS.bind (H := H) q fun d s v F1 H1 e1 rl1 rp1 h1 => ?_⟩
  obtain ⟨p, rfl, nf, o, nr⟩ := rp1
  exact h1 _ F1 H1 (Same.refl F1) (rl1.setOw i nf o nr)
theorem ss_asgT {tg : Expr} {is : List Nat} {t : MT} (h : ∀ te g, PE X e te → PG X tg g → PS X (.Assign [tg] e pos) (tAsg te g)) (he : SE X W e m) (hg : SG X tg is t) : SS X W (.Assign [tg] e pos) (mAsgT t m) := ps_imp (h _ _ he hg) fun Dn σ H q => by
  obtain ⟨g, F, sv, hK, rl, q⟩ := q
  refine ⟨g, F, sv, hK, rl, PostS.bind (H := H) q fun d s v F1 H1 e1 rl1 rp1 h1 => ?_⟩
  cases ht : t d s with
  | none => rw [ht] at h1; exact False.elim h1
  | some s' =>
    rw [ht] at h1
    exact ⟨g, F1, s, d, s', hK.1, rl1, hK.1 ▸ rp1, ht, fun σ' rl' _ => h1 σ' F1 H1 (Same.refl F1) rl'⟩
end

/-! #### what a slot owns is changed -/
/-- the slot's own object, with new content -/
def reSl : Sl → D → Option Sl
  | .ow _, d => some (.ow d)
  | .io k _, d => some (.io k d)
  | _, _ => none
theorem Rl.alt {g : G} {F H F' H' : Hp} {σ : L2.St} {sv : SV} (r : Rl g F H σ sv) {i : Nat} {p : Addr} {s s' : Sl} {d d' : D} (hs : sv[i]? = some s) (hd : slD s = some d) (hs' : reSl s d' = some s') (hp : σ[i]? = some (some (.ref p)))
    (s2 : Same F' H') (kH : Same g.pH H') (kF : ∀ a, g.fx a → F' a = F a) (fxH : ∀ a, g.fx a → H' a ≠ none) (sF : Same F F') (oF : ∀ j a, j ≠ i → Ref g.K H σ sv j a → F' a = none ∧ H' a = H a) (ho : OwnP g.K F' H' d' p)
    (hf : ∀ a, Ft g.K H' d' p a → Ft g.K H d p a ∨ (¬ g.fx a ∧ ∀ j, ¬ Ref g.K H σ sv j a)) : Rl g F' H' σ (sv.set i s') := by
  have hi : i < sv.length := (List.getElem?_eq_some_iff.mp hs).1
  have rr : ∀ j a, Ref g.K H' σ (sv.set i s') j a → (j = i ∧ Ft g.K H' d' p a) ∨ (j ≠ i ∧ Ref g.K H σ sv j a) := fun j a hr => by
    by_cases h : i = j
    · subst h
      obtain ⟨t, e, q, e1, e2, e3, e4⟩ := hr
      rw [List.getElem?_set_self hi] at e1
      cases e1
      rw [hp] at e3; cases e3
      cases s with
      | ow d0 => cases hs'; cases e2; exact .inl ⟨rfl, e4⟩
      | io k d0 => cases hs'; cases e2; exact .inl ⟨rfl, e4⟩
      | _ => cases hd
    · refine .inr ⟨Ne.symm h, ?_⟩
      have h2 : Ref g.K H' σ sv j a := by
        obtain ⟨t, e, q, e1, e2, e3, e4⟩ := hr
        rw [List.getElem?_set_ne h] at e1
        exact ⟨t, e, q, e1, e2, e3, e4⟩
      exact h2.from fun b hb => (oF j b (Ne.symm h) hb).2
  refine ⟨s2, kH, fun a ha => (kF a ha).trans (r.kF a ha), fxH, r.pf, r.ion, by simp [r.len], fun j t e => ?_, fun j k a x y => ?_⟩
  · by_cases h : i = j
    · subst h
      rw [List.getElem?_set_self hi] at e
      cases e
      have q := r.sl i s hs
      cases s with
      | ow d0 =>
        cases hs'; cases hd
        obtain ⟨p', e1, nf, _⟩ := q
        rw [hp] at e1; cases e1
        refine ⟨p, hp, fun a ha => ?_, ho⟩
        rcases hf a ha with h1 | h1
        · exact nf a h1
        · exact h1.1
      | io k d0 =>
        cases hs'; cases hd
        obtain ⟨p', e1, nf, np, _⟩ := q
        rw [hp] at e1; cases e1
        refine ⟨p, hp, nf, fun a ha => ?_, ho⟩
        rcases hf a ha with h1 | h1
        · exact np a h1
        · cases hh : g.pH a with
          | none => rfl
          | some x => exact absurd (r.pf _ _ hh) h1.1
      | _ => cases hd
    · rw [List.getElem?_set_ne h] at e
      exact SlOk.move r e sF (fun a ha => (oF j a (Ne.symm h) ha).1) fun a ha => (oF j a (Ne.symm h) ha).2
  · have own : ∀ a, Ft g.K H d p a → Ref g.K H σ sv i a := fun a ha => ⟨s, d, p, hs, hd, hp, ha⟩
    rcases rr j a x with ⟨rfl, h1⟩ | ⟨h1, h2⟩
    · rcases rr k a y with ⟨rfl, _⟩ | ⟨h3, h4⟩
      · rfl
      · rcases hf a h1 with h5 | h5
        · exact r.dj _ _ a (own a h5) h4
        · exact absurd h4 (h5.2 k)
    · rcases rr k a y with ⟨rfl, h3⟩ | ⟨h3, h4⟩
      · rcases hf a h3 with h5 | h5
        · exact r.dj _ _ a h2 (own a h5)
        · exact absurd h2 (h5.2 j)
      · exact r.dj j k a h2 h4
/-- an object among those that slot i has for itself is changed -/
theorem Rl.put {g : G} {F H : Hp} {σ : L2.St} {sv : SV} (r : Rl g F H σ sv) {i : Nat} {p b : Addr} {s s' : Sl} {d d' : D} {o' : HO} (hs : sv[i]? = some s) (hd : slD s = some d) (hs' : reSl s d' = some s') (hp : σ[i]? = some (some (.ref p)))
    (hb : Ft g.K H d p b) (ho : OwnP g.K F (upd H b o') d' p) (hf : ∀ a, Ft g.K (upd H b o') d' p a → Ft g.K H d p a ∨ (¬ g.fx a ∧ ∀ j, ¬ Ref g.K H σ sv j a)) : Rl g F (upd H b o') σ (sv.set i s') := by
  have ref : Ref g.K H σ sv i b := ⟨s, d, p, hs, hd, hp, hb⟩
  obtain ⟨nF, nH, nP⟩ := r.own ref
  have nep : ∀ {a : Addr} {o : HO}, g.pH a = some o → a ≠ b := fun e z => by rw [z, nP] at e; cases e
  have neF : ∀ {a : Addr} {o : HO}, F a = some o → a ≠ b := fun e z => by rw [z, nF] at e; cases e
  refine r.alt hs hd hs' hp (fun a u e => by rw [upd_ne (neF e)]; exact r.sub a u e) (fun a u e => by rw [upd_ne (nep e)]; exact r.kH a u e) (fun _ _ => rfl) (fun a ha => ?_) (Same.refl F) (fun j a hj h => ⟨(r.own h).1, upd_ne fun z => hj (by rw [z] at h; exact r.dj j i b h ref)⟩) ho hf
  by_cases h : a = b
  · rw [h, upd_same]; exact fun z => nomatch z
  · rw [upd_ne h]; exact r.fxH a ha
/-- .. a flat one -/
theorem Rl.putF {g : G} {F H : Hp} {σ : L2.St} {sv : SV} (r : Rl g F H σ sv) {i : Nat} {p : Addr} {s s' : Sl} {d d' : D} {o' : HO} {ds : List D} {vs : List V} (hs : sv[i]? = some s) (hd : slD s = some d) (hs' : reSl s d' = some s') (hp : σ[i]? = some (some (.ref p)))
    (nF : F p = none) (hS : Shp g.K d' o' ds vs) (hr : RpL g.K F ds vs) : Rl g F (upd H p o') σ (sv.set i s') :=
  r.put hs hd hs' hp .here (.flat nF upd_same hS hr) fun a ha => .inl (by rw [ha.flat (shp_deep hS)]; exact .here)
theorem Rl.ownAt {g : G} {F H : Hp} {σ : L2.St} {sv : SV} (r : Rl g F H σ sv) {i : Nat} {s : Sl} {d : D} (hs : sv[i]? = some s) (hd : slD s = some d) : ∃ p, σ[i]? = some (some (.ref p)) ∧ OwnP g.K F H d p := by
  have q := r.sl i s hs
  cases s with
  | ow d => cases hd; obtain ⟨p, e, _, o⟩ := q; exact ⟨p, e, o⟩
  | io k d => cases hd; obtain ⟨p, e, _, _, o⟩ := q; exact ⟨p, e, o⟩
  | _ => cases hd
/-- the list that slot i owns -/
def ownL (sv : SV) (i : Nat) : Option (Sl × List D) := match sv[i]? with
  | some s => match slD s with
    | some (.lst xs) => some (s, xs)
    | _ => none
  | none => none
def putL (sv : SV) (i : Nat) (xs : List D) : O := match sv[i]? with
  | some s => match reSl s (.lst xs) with
    | some s' => .nx (sv.set i s')
    | none => .bad
  | none => .bad
theorem ownL_eq {sv : SV} {i : Nat} {s : Sl} {xs : List D} (h : ownL sv i = some (s, xs)) : sv[i]? = some s ∧ slD s = some (.lst xs) := by
  unfold ownL at h
  split at h
  · split at h
    · cases h; exact ⟨by assumption, by assumption⟩
    · cases h
  · cases h
theorem re_of {s : Sl} {d d' : D} (h : slD s = some d) : ∃ s', reSl s d' = some s' := by
  cases s with
  | ow d => exact ⟨_, rfl⟩
  | io k d => exact ⟨_, rfl⟩
  | _ => cases h
section
variable {X : Cx} {W : WX'} {a b e : Expr} {pos : Pos} {m mk : M D}
/-- xs.append(e) -/
def mApp (i : Nat) (m : M D) : MS := fun sv => match ownL sv i with
  | none => .bad
  | some _ => mBind m (fun d s => match ownL s i with
    | some (_, xs) => if xs.length < sizeLine then putL s i (xs ++ [d]) else .bad
    | none => .bad) sv
theorem Rl.lst {g : G} {F H : Hp} {σ : L2.St} {sv : SV} (r : Rl g F H σ sv) {i : Nat} {s : Sl} {xs : List D} (h : ownL sv i = some (s, xs)) : ∃ p vs, σ[i]? = some (some (.ref p)) ∧ F p = none ∧ H p = some (.lst vs) ∧ RpL g.K F xs vs := by
  obtain ⟨h1, h2⟩ := ownL_eq h
  obtain ⟨p, e, o⟩ := r.ownAt h1 h2
  obtain ⟨nF, vs, e1, e2⟩ := o.lst_inv
  exact ⟨p, vs, e, nF, e1, e2⟩
theorem putL_post {mg : MX} {g : G} {F H : Hp} {σ : L2.St} {sv : SV} {i : Nat} {s : Sl} {xs ys : List D} {p : Addr} {us : List V} {Dn : Ends} (r : Rl g F H σ sv) (h : ownL sv i = some (s, xs)) (hp : σ[i]? = some (some (.ref p))) (nF : F p = none) (hu : RpL g.K F ys us)
    (q : PostS mg g F (putL sv i ys) W Dn) : Dn.nx σ (upd H p (.lst us)) := by
  obtain ⟨h1, h2⟩ := ownL_eq h
  obtain ⟨s', h3⟩ := re_of (d' := .lst ys) h2
  unfold putL at q
  rw [h1] at q
  dsimp only at q
  rw [h3] at q
  exact q σ F _ (Same.refl F) (r.putF h1 h2 h3 hp nF .lst hu)
theorem ss_app {i : Nat} {x : Str} {p1 apos cpos : Pos} (h : ∀ te, PE X e te → PE X (.Call (.Attribute (.Name x p1) "append" apos) [e] [] cpos) (tBM X.K "list" rAppend (tVar i) (tCons te tNil))) (he : SE X W e m)
    (hs : swapsWith (.Call (.Attribute (.Name x p1) "append" apos) [e] [] cpos) none pos.line X.env = pure false := by rfl) : SS X W (.Expr (.Call (.Attribute (.Name x p1) "append" apos) [e] [] cpos) pos) (mApp i m) :=
  ps_imp (ps_expr (h _ he) hs) fun Dn σ H q => by
    obtain ⟨g, F, sv, hK, rl, q⟩ := q
    unfold mApp at q
    split at q
    · exact False.elim q
    · rename_i z h0
      obtain ⟨s0, xs0⟩ := z
      obtain ⟨p, vs, e1, nF, e2, e3⟩ := rl.lst h0
      refine ⟨.ref p, e1, .inl ⟨rfl, vs, .inl (.inl e2)⟩, g, F, sv, hK, rl, PostS.bind (H := H) q fun d s v F1 H1 f1 rl1 rp1 h1 => ?_⟩
      split at h1
      · rename_i s1 xs1 h2
        split at h1
        · rename_i hz
          obtain ⟨p', vs', e1', nF', e2', e3'⟩ := rl1.lst h2
          rw [e1] at e1'; cases e1'
          refine ⟨p, vs', v, rfl, rfl, e2', by rw [← e3'.length]; exact hz, ?_⟩
          exact putL_post rl1 h2 e1 nF' (e3'.append (RpL.one rp1)) h1
        · exact False.elim h1
      · exact False.elim h1
/-- xs[k] = e -/
def mPut (i : Nat) (m mk : M D) : MS := mBind m fun d s1 => match ownL s1 i with
  | none => .bad
  | some _ => mBind mk (fun k s2 => match k, ownL s2 i with
    | .int z, some (_, xs) => match ixN xs.length z with
      | some j => putL s2 i (xs.set j d)
      | none => .bad
    | _, _ => .bad) s1
theorem ss_put {i : Nat} {x : Str} {p1 tpos : Pos} (h : ∀ te ti, PE X e te → PE X b ti → PS X (.Assign [.Subscript (.Name x p1) b tpos] e pos) (tAsg te (gSub (tVar i) ti rSetL))) (he : SE X W e m) (hk : SE X W b mk) :
    SS X W (.Assign [.Subscript (.Name x p1) b tpos] e pos) (mPut i m mk) := ps_imp (h _ _ he hk) fun Dn σ H q => by
  obtain ⟨g, F, sv, hK, rl, q⟩ := q
  refine ⟨g, F, sv, hK, rl, PostS.bind (H := H) q fun d s v F1 H1 f1 rl1 rp1 h1 => ?_⟩
  split at h1
  · exact False.elim h1
  · rename_i z h0
    obtain ⟨s0, xs0⟩ := z
    obtain ⟨p, vs, e1, nF, e2, e3⟩ := rl1.lst h0
    refine ⟨.ref p, e1, g, F1, s, hK, rl1, PostS.bind (H := H1) h1 fun k s2 y F2 H2 f2 rl2 rp2 h2 => ?_⟩
    split at h2
    · rename_i z s1 xs h3
      split at h2
      · rename_i j hj
        obtain ⟨p', vs', e1', nF', e2', e3'⟩ := rl2.lst h3
        rw [e1] at e1'; cases e1'
        refine ⟨p, vs', z, j, rfl, rp2, e2', by rw [← e3'.length]; exact hj, ?_⟩
        exact putL_post rl2 h3 e1 nF' (e3'.set j (Rp.mono f2 _ _ rp1)) h2
      · exact False.elim h2
    · exact False.elim h2
/-- xs.pop() -/
def mPop (i : Nat) : M D := fun sv => match ownL sv i with
  | some (_, xs) => match xs[xs.length - 1]? with
    | some d => match putL sv i xs.dropLast with
      | .nx s' => .ok d s'
      | _ => .bad
    | none => .bad
  | none => .bad
theorem RpL.dropLast {K : PySem.W.Frag} {F : Hp} {ds : List D} {vs : List V} (h : RpL K F ds vs) : RpL K F ds.dropLast vs.dropLast := by
  rw [List.dropLast_eq_take, List.dropLast_eq_take, ← h.length]
  exact h.take _
theorem se_pop {i : Nat} {x : Str} {p1 apos : Pos} (h : PE X (.Call (.Attribute (.Name x p1) "pop" apos) [] [] pos) (tBM0 X.K "list" rPop (tVar i))) : SE X W (.Call (.Attribute (.Name x p1) "pop" apos) [] [] pos) (mPop i) := pe_imp h fun σ H Q q => by
  obtain ⟨g, F, sv, hK, rl, q⟩ := q
  unfold mPop at q
  split at q
  · rename_i s xs h0
    split at q
    · rename_i d hd
      obtain ⟨p, vs, e1, nF, e2, e3⟩ := rl.lst h0
      obtain ⟨v, ev, rv⟩ := e3.get _ _ hd
      refine ⟨.ref p, e1, .inl ⟨rfl, vs, .inl (.inl e2)⟩, p, vs, v, rfl, rfl, e2, by rw [← e3.length]; exact ev, ?_⟩
      obtain ⟨h1, h2⟩ := ownL_eq h0
      obtain ⟨s', h3⟩ := re_of (d' := .lst xs.dropLast) h2
      unfold putL at q
      rw [h1] at q
      dsimp only at q
      rw [h3] at q
      exact q v F _ (Same.refl F) (rl.putF h1 h2 h3 e1 nF .lst e3.dropLast) rv
    · exact False.elim q
  · exact False.elim q
end

/-! #### while -/
def whileN (c : M Bool) (b : MS) : Nat → SV → Option O
  | 0, _ => none
  | n + 1, sv => match c sv with
    | .ok false s => some (.nx s)
    | .ok true s => match b s with
      | .nx s' => whileN c b n s'
      | .ct s' => whileN c b n s'
      | .bk s' => some (.nx s')
      | o => some o
    | .err x s => some (.err x s)
    | .bad => some .bad
theorem whileN_succ {c : M Bool} {b : MS} : ∀ {n : Nat} {sv : SV} {o : O}, whileN c b n sv = some o → whileN c b (n + 1) sv = some o
  | 0, _, _, h => by cases h
  | n + 1, sv, o, h => by
    unfold whileN at h ⊢
    cases hc : c sv with
    | ok t s =>
      rw [hc] at h
      cases t with
      | false => exact h
      | true =>
        dsimp only at h ⊢
        cases hb : b s with
        | nx s' => rw [hb] at h; exact whileN_succ h
        | ct s' => rw [hb] at h; exact whileN_succ h
        | bk s' => rw [hb] at h; exact h
        | rt d s' => rw [hb] at h; exact h
        | ro d s' => rw [hb] at h; exact h
        | err x s' => rw [hb] at h; exact h
        | bad => rw [hb] at h; exact h
    | err x s => rw [hc] at h; exact h
    | bad => rw [hc] at h; exact h
theorem whileN_le {c : M Bool} {b : MS} {n m : Nat} {sv : SV} {o : O} (h : whileN c b n sv = some o) (hm : n ≤ m) : whileN c b m sv = some o := by
  induction hm with
  | refl => exact h
  | step _ ih => exact whileN_succ ih
open Classical in
noncomputable def mWhile (c : M Bool) (b : MS) : MS := fun sv => if h : ∃ o, ∃ n, whileN c b n sv = some o then h.choose else .bad
theorem mWhile_of {c : M Bool} {b : MS} {n : Nat} {sv : SV} {o : O} (h : whileN c b n sv = some o) : mWhile c b sv = o := by
  have hx : ∃ o, ∃ n, whileN c b n sv = some o := ⟨o, n, h⟩
  unfold mWhile
  rw [dif_pos hx]
  obtain ⟨k, hk⟩ := hx.choose_spec
  have h1 := whileN_le h (Nat.le_max_left n k)
  have h2 := whileN_le hk (Nat.le_max_right n k)
  rw [h1] at h2
  exact (Option.some.inj h2).symm
theorem mWhile_some {c : M Bool} {b : MS} {sv : SV} (h : mWhile c b sv ≠ .bad) : ∃ n, whileN c b n sv = some (mWhile c b sv) := by
  by_cases hx : ∃ o, ∃ n, whileN c b n sv = some o
  · obtain ⟨o, n, hn⟩ := hx
    exact ⟨n, by rw [mWhile_of hn]; exact hn⟩
  · unfold mWhile at h
    rw [dif_neg hx] at h
    exact absurd rfl h
section
variable {X : Cx} {W : WX'} {c : Expr} {body : List Stmt} {pos : Pos} {mt : M Bool} {mb : MS}
theorem ss_while (hp : PassesOwn (model X.prog X.w) X.A X.env X.xe) (hc : ST X W c mt) (hb : SSs X W body mb) : SS X W (.While c body [] pos) (mWhile mt mb) := ps_imp (ps_while hp hc hb) fun Dn σ H q => by
  obtain ⟨g, F, sv, hK, rl, q⟩ := q
  have nb : mWhile mt mb sv ≠ .bad := fun z => by rw [z] at q; exact q
  obtain ⟨n, hn⟩ := mWhile_some nb
  refine ⟨fun k σ H => ∃ F1 sv o, Same F F1 ∧ Rl g F1 H σ sv ∧ whileN mt mb k sv = some o ∧ PostS X.mx g F1 o W Dn, ⟨n, F, sv, _, Same.refl F, rl, hn, q⟩, ?_⟩
  rintro k σ1 H1 ⟨F1, sv1, o, s1, rl1, hk, q1⟩
  cases k with
  | zero => cases hk
  | succ k =>
    unfold whileN at hk
    refine ⟨g, F1, sv1, hK, rl1, ?_⟩
    cases hc : mt sv1 with
    | err x s => rw [hc] at hk; cases hk; exact fun cls dd F2 H2 e2 rl2 er => q1 cls dd σ1 F2 H2 e2 rl2 er
    | bad => rw [hc] at hk; cases hk; exact q1
    | ok t s =>
      rw [hc] at hk
      intro t' F2 H2 e2 rl2 et
      cases et
      cases t with
      | false => cases hk; exact q1 σ1 F2 H2 e2 rl2
      | true =>
        dsimp only at hk
        refine ⟨fun σ H => ∃ F1 sv o, Same F F1 ∧ Rl g F1 H σ sv ∧ whileN mt mb k sv = some o ∧ PostS X.mx g F1 o W Dn, fun σ' H' hN => ⟨k, Nat.lt_succ_self k, hN⟩, g, F2, s, hK, rl2, ?_⟩
        cases hb : mb s with
        | nx s' => rw [hb] at hk; exact fun σ3 F3 H3 e3 rl3 => ⟨F3, s', o, (s1.trans e2).trans e3, rl3, hk, q1.mono (e2.trans e3)⟩
        | ct s' => rw [hb] at hk; exact fun σ3 F3 H3 e3 rl3 => ⟨F3, s', o, (s1.trans e2).trans e3, rl3, hk, q1.mono (e2.trans e3)⟩
        | bk s' => rw [hb] at hk; cases hk; exact q1.mono e2
        | rt d s' => rw [hb] at hk; cases hk; exact q1.mono e2
        | ro d s' => rw [hb] at hk; cases hk; exact q1.mono e2
        | err x s' => rw [hb] at hk; cases hk; exact q1.mono e2
        | bad => rw [hb] at hk; cases hk; exact q1

/-! #### for -/
structure ItOk (K : PySem.W.Frag) (F : Hp) (ds : List D) (J : It) : Prop where
  go : ∀ i H, i < ds.length → Same F H → J.go i H
  stop : ∀ H, Same F H → J.stop ds.length H
  yld : ∀ i d x H H', ds[i]? = some d → Same F H → J.yld i H x H' → (H' = H ∧ Rp K F d x) ∨ ∃ T vs es, d = .tup es ∧ x = .ref T ∧ H T = none ∧ H' = upd H T (.tup vs) ∧ RpL K F es vs
def RelI (g : G) (F' _H' : Hp) (_ : L2.St) (_ : SV) (ds : List D) (J : It) : Prop := ItOk g.K F' ds J
abbrev SI (X : Cx) (W : WX') (tg iter : Expr) (m : M (List D)) : Prop := PI X tg iter (tG X.K X.mx W RelI m)
def forL (t : MT) (b : MS) : List D → MS
  | [], sv => .nx sv
  | d :: ds, sv => match t d sv with
    | none => .bad
    | some s1 => match b s1 with
      | .nx s2 => forL t b ds s2
      | .ct s2 => forL t b ds s2
      | .bk s2 => .nx s2
      | o => o
def mFor (mi : M (List D)) (t : MT) (b : MS) : MS := mBind mi fun ds s => forL t b ds s
theorem ss_for {tg iter : Expr} {mi : M (List D)} {is : List Nat} {t : MT} (hp : PassesOwn (model X.prog X.w) X.A X.env X.xe) (hc : X.calm = true) (hi : SI X W tg iter mi) (hg : SG X tg is t) (hb : SSs X W body mb)
    (hs : ∀ x, foldedSetIterable iter X.env x = pure x := by intro _; rfl) : SS X W (.For tg iter body [] pos) (mFor mi t mb) := ps_imp (ps_for hp hc hi hg hb hs) fun Dn σ H q => by
  obtain ⟨g, F, sv, hK, rl, q⟩ := q
  refine ⟨g, F, sv, hK, rl, PostS.bind (H := H) q fun ds s J F1 H1 e1 rl1 ok q1 => ?_⟩
  refine ⟨fun i m σ H => m = ds.length - i ∧ i ≤ ds.length ∧ ∃ F2 sv2, Same F1 F2 ∧ Rl g F2 H σ sv2 ∧ PostS X.mx g F2 (forL t mb (ds.drop i) sv2) W Dn, ⟨ds.length, by simp, Nat.zero_le _, F1, s, Same.refl F1, rl1, q1⟩, ?_⟩
  rintro i m σ2 H2 ⟨rfl, hi, F2, sv2, s2, rl2, q2⟩
  have sH : Same F1 H2 := s2.trans rl2.sub
  by_cases hlt : i < ds.length
  · refine .inr ⟨ok.go i H2 hlt sH, fun σ H => ∃ F2 sv2, Same F1 F2 ∧ Rl g F2 H σ sv2 ∧ PostS X.mx g F2 (forL t mb (ds.drop (i + 1)) sv2) W Dn, fun σ' H' hN => ⟨ds.length - (i + 1), by omega, rfl, hlt, hN⟩, fun x H' hy => ?_⟩
    have hd : ds[i]? = some ds[i] := List.getElem?_eq_getElem hlt
    rw [List.drop_eq_getElem_cons hlt] at q2
    unfold forL at q2
    -- the item, represented
    have item : ∃ F3, Same F2 F3 ∧ Rl g F3 H' σ2 sv2 ∧ Rp g.K F3 ds[i] x := by
      rcases ok.yld i _ x H2 H' hd sH hy with ⟨rfl, hr⟩ | ⟨T, vs, es, ed, rfl, hT, rfl, hr⟩
      · exact ⟨F2, Same.refl F2, rl2, Rp.mono s2 _ _ hr⟩
      · have sF : Same F2 (upd F2 T (.tup vs)) := same_upd (rl2.sub.free hT)
        refine ⟨upd F2 T (.tup vs), sF, rl2.lay hT, ?_⟩
        rw [ed]
        exact ⟨T, vs, rfl, .inl (.inl upd_same), RpL.mono (s2.trans sF) _ _ hr⟩
    obtain ⟨F3, s3, rl3, rp3⟩ := item
    cases ht : t ds[i] sv2 with
    | none => rw [ht] at q2; exact False.elim q2
    | some sv3 =>
      rw [ht] at q2
      dsimp only at q2
      refine ⟨g, F3, sv2, ds[i], sv3, hK.1, rl3, hK.1 ▸ rp3, ht, fun σ4 rl4 _ => ⟨g, F3, sv3, hK, rl4, ?_⟩⟩
      cases hb : mb sv3 with
      | nx s' => rw [hb] at q2; exact fun σ5 F5 H5 e5 rl5 => ⟨F5, s', (s2.trans s3).trans e5, rl5, q2.mono (s3.trans e5)⟩
      | ct s' => rw [hb] at q2; exact fun σ5 F5 H5 e5 rl5 => ⟨F5, s', (s2.trans s3).trans e5, rl5, q2.mono (s3.trans e5)⟩
      | bk s' => rw [hb] at q2; exact q2.mono s3
      | rt d s' => rw [hb] at q2; exact q2.mono s3
      | ro d s' => rw [hb] at q2; exact q2.mono s3
      | err x s' => rw [hb] at q2; exact q2.mono s3
      | bad => rw [hb] at q2; exact q2
  · have e : i = ds.length := by omega
    subst e
    rw [List.drop_length] at q2
    exact .inl ⟨ok.stop H2 sH, q2 σ2 F2 H2 (Same.refl F2) rl2⟩
end
end VM

set_option Elab.async false
set_option linter.all false
set_option autoImplicit false
set_option maxRecDepth 100000
set_option maxHeartbeats 400000
namespace VM
open PySem PySem.Spec PyProof.Rows L2

/-! ### what is walked -/
theorem pi_imp {X : Cx} {tg e : Expr} {t t' : TI} (h : PI X tg e t) (k : ∀ σ H R, t' σ H R → t σ H R) : PI X tg e t' := ⟨fun pins s σ H R I q => h.run pins s σ H R I (k σ H R q)⟩
/-- a list, a tuple or a text, as it comes -/
def iSeq (K : PySem.W.Frag) (tl : TE) : TI := fun σ H R => tl σ H fun x H1 =>
  (∃ a, x = .ref a ∧ (∃ xs, SqL K H1 a xs) ∧ R (Itl K a) H1) ∨ (∃ a, x = .ref a ∧ (∃ xs, SqT K H1 a xs) ∧ R (Itt K a) H1) ∨ (∃ z, x = .str z ∧ R (Its z) H1)
theorem pi_seq {X : Cx} {tg l : Expr} {tl : TE} (hl : PE X l tl) : PI X tg l (iSeq X.K tl) := by
  constructor
  intro pins s σ H R I h
  apply thn (hl.run pins s σ H _ I h)
  rintro v s1 ⟨x, H1, I1, r1, ⟨a, rfl, ⟨xs, hq⟩, q⟩ | ⟨a, rfl, ⟨xs, hq⟩, q⟩ | ⟨z, rfl, q⟩⟩
  · cases r1
    obtain ⟨its, rv, pl, hz⟩ := I1.list hq
    exact wpAny_pyIter_list pl.isList (pi_one (tk := s1.toks) I1 _ (turn_list a _) ⟨_, Heap.get?_push_size _ rfl, rfl, rfl⟩ q)
  · cases r1
    obtain ⟨its, rv, pl, hz⟩ := I1.tuple hq
    exact wpAny_pyIter_tuple (show s1.heap.IsTuple a its.toArray from pl) (pi_one (tk := s1.toks) I1 _ (turn_tuple a _) ⟨_, Heap.get?_push_size _ rfl, rfl, rfl⟩ q)
  · obtain ⟨t, rfl⟩ := r1
    cases ha : z.cps.all (· < 128)
    · exact wpAny_pyIter_wide ha (pi_one (tk := s1.toks) I1 _ (turn_str _ z t "str_iterator" (.inr rfl)) ⟨_, Heap.get?_push_size _ rfl, rfl, rfl⟩ q)
    · exact wpAny_pyIter_ascii ha (pi_one (tk := s1.toks) I1 _ (turn_str _ z t "str_ascii_iterator" (.inl rfl)) ⟨_, Heap.get?_push_size _ rfl, rfl, rfl⟩ q)
def itemsD : D → Option (List D)
  | .tup xs => some xs
  | .lst xs => some xs
  | .fl xs => some xs
  | .str z => some (z.cps.toList.map fun c => .str ⟨#[c]⟩)
  | _ => none
def mItems (m : M D) : M (List D) := fun sv => (m sv).bind fun d s => match itemsD d with
  | some ds => .ok ds s
  | none => .bad
section
variable {K : PySem.W.Frag} {F H : Hp}
theorem sqL_in {a : Addr} {xs : List V} (s : Same F H) (h : SqL K F a xs) : SqL K H a xs := s.seq h
/-- two readings of one place agree -/
theorem itl_ok {a : Addr} {vs : List V} {ds : List D} (h : SqL K F a vs) (r : RpL K F ds vs) : ItOk K F ds (Itl K a) where
  go := fun i H hi s => ⟨vs, vs[i]'(by rw [← r.length]; exact hi), s.seq h, List.getElem?_eq_getElem _⟩
  stop := fun H s => ⟨vs, s.seq h, by rw [r.length]; exact Nat.le_refl _⟩
  yld := fun i d x H H' hd s y => by
    obtain ⟨rfl, y⟩ := y
    obtain ⟨v, ev, rv⟩ := r.get i d hd
    have := (y vs (s.seq h)).symm.trans ev
    cases this
    exact .inl ⟨rfl, rv⟩
theorem itt_ok {a : Addr} {vs : List V} {ds : List D} (h : SqT K F a vs) (r : RpL K F ds vs) : ItOk K F ds (Itt K a) where
  go := fun i H hi s => ⟨vs, vs[i]'(by rw [← r.length]; exact hi), sqT_mono s h, List.getElem?_eq_getElem _⟩
  stop := fun H s => ⟨vs, sqT_mono s h, by rw [r.length]; exact Nat.le_refl _⟩
  yld := fun i d x H H' hd s y => by
    obtain ⟨rfl, y⟩ := y
    obtain ⟨v, ev, rv⟩ := r.get i d hd
    have := (y vs (sqT_mono s h)).symm.trans ev
    cases this
    exact .inl ⟨rfl, rv⟩
theorem its_ok {z : Str} : ItOk K F (z.cps.toList.map fun c => D.str ⟨#[c]⟩) (Its z) where
  go := fun i H hi s => by show i < z.cps.size; simpa using hi
  stop := fun H s => by simp [Its]
  yld := fun i d x H H' hd s y => by
    obtain ⟨rfl, c, ec, rfl⟩ := y
    refine .inl ⟨rfl, ?_⟩
    have e : z.cps.toList[i]? = some c := by simpa using ec
    rw [List.getElem?_map, e] at hd
    cases hd
    rfl
theorem itr_ok {lo : Int} {n : Nat} : ItOk K F ((List.range n).map fun i => D.int (lo + (i : Nat))) (Itr lo n) where
  go := fun i H hi s => by show i < n; simpa using hi
  stop := fun H s => by simp [Itr]
  yld := fun i d x H H' hd s y => by
    obtain ⟨rfl, rfl⟩ := y
    refine .inl ⟨rfl, ?_⟩
    rw [List.getElem?_map] at hd
    cases hr : (List.range n)[i]? with
    | none => rw [hr] at hd; cases hd
    | some j =>
      rw [hr] at hd
      cases hd
      have : j = i := by
        have := List.getElem?_eq_some_iff.mp hr
        obtain ⟨h1, h2⟩ := this
        simpa using h2.symm
      subst this
      rfl
end
section
variable {X : Cx} {W : WX'} {tg e : Expr} {m : M D} {p pos : Pos}
theorem si_seq (h : SE X W e m) : SI X W tg e (mItems m) := pi_imp (pi_seq h) fun σ H R q => by
  obtain ⟨g, F, sv, hK, rl, q⟩ := q
  refine ⟨g, F, sv, hK, rl, PostG.bind q fun d s x F1 H1 e1 rl1 rp1 q1 => ?_⟩
  have go : ∀ {ds : List D} {J : It}, itemsD d = some ds → ItOk g.K F1 ds J → R J H1 := fun {ds J} he ok => by
    rw [he] at q1
    exact q1 J F1 H1 (Same.refl F1) rl1 ok
  rw [← hK.1]
  cases d with
  | tup ds => obtain ⟨a, vs, rfl, h1, h2⟩ := rp1; exact .inr (.inl ⟨a, rfl, ⟨vs, sqT_mono rl1.sub h1⟩, go rfl (itt_ok h1 h2)⟩)
  | lst ds => obtain ⟨a, vs, rfl, h1, h2⟩ := rp1; exact .inl ⟨a, rfl, ⟨vs, .inl (.inl (rl1.sub _ _ h1))⟩, go rfl (itl_ok (.inl (.inl h1)) h2)⟩
  | fl ds => obtain ⟨a, vs, rfl, h1, h2⟩ := rp1; exact .inl ⟨a, rfl, ⟨vs, rl1.sub.seq h1⟩, go rfl (itl_ok h1 h2)⟩
  | str z => exact .inr (.inr ⟨z, rp1, go rfl its_ok⟩)
  | _ => exact False.elim q1
def rngs (lo : Int) (n : Nat) : List D := (List.range n).map fun i => D.int (lo + (i : Nat))
def mRng1 (ms : M (List D)) : M (List D) := fun sv => (ms sv).bind fun ds s => match ds with
  | [.int j] => if -(2 ^ 62) ≤ j ∧ j < 2 ^ 62 then .ok (rngs 0 j.toNat) s else .bad
  | _ => .bad
def mRng2 (ms : M (List D)) : M (List D) := fun sv => (ms sv).bind fun ds s => match ds with
  | [.int i, .int j] => if -(2 ^ 62) ≤ i ∧ i < 2 ^ 62 ∧ -(2 ^ 62) ≤ j ∧ j < 2 ^ 62 then .ok (rngs i (j - i).toNat) s else .bad
  | _ => .bad
variable {a b : Expr} {ms : M (List D)}
theorem si_range1 (hg : Gl X "range") (hm : X.mg "range" = none) (ha : SA X W [a] ms) (hs : starEach [a] X.env = [(false, eval a X.env)] := by rfl) : SI X W tg (.Call (.Name "range" p) [a] [] pos) (mRng1 ms) := pi_imp (pi_range1 hg hm ha hs) fun σ H R q => by
  obtain ⟨g, F, sv, hK, rl, q⟩ := q
  refine ⟨g, F, sv, hK, rl, PostG.bind q fun ds s x F1 H1 e1 rl1 rp1 q1 => ?_⟩
  split at q1
  · split at q1
    · obtain ⟨v, rfl, hv⟩ := RpL.one_inv rp1
      cases hv
      rename_i hz
      exact ⟨_, rfl, hz.1, hz.2, q1 _ F1 H1 (Same.refl F1) rl1 itr_ok⟩
    · exact False.elim q1
  · exact False.elim q1
theorem si_range2 (hg : Gl X "range") (hm : X.mg "range" = none) (ha : SA X W [a, b] ms) (hs : starEach [a, b] X.env = [(false, eval a X.env), (false, eval b X.env)] := by rfl) (hs2 : starEach [b] X.env = [(false, eval b X.env)] := by rfl) :
    SI X W tg (.Call (.Name "range" p) [a, b] [] pos) (mRng2 ms) := pi_imp (pi_range2 hg hm ha hs hs2) fun σ H R q => by
  obtain ⟨g, F, sv, hK, rl, q⟩ := q
  refine ⟨g, F, sv, hK, rl, PostG.bind q fun ds s x F1 H1 e1 rl1 rp1 q1 => ?_⟩
  split at q1
  · split at q1
    · obtain ⟨v, u, rfl, hv, hu⟩ := RpL.two_inv rp1
      cases hv; cases hu
      rename_i hz
      exact ⟨_, _, rfl, hz, q1 _ F1 H1 (Same.refl F1) rl1 itr_ok⟩
    · exact False.elim q1
  · exact False.elim q1
end

/-! #### enumerate -/
set_option maxHeartbeats 1000000 in
theorem meets_enum1 {v : Value} {o : Obj} {H : Heap → Prop} (B : Begins v o H) :
    Meets (Builtin.«enumerate.__new__» ⟨[.type "enumerate", v], []⟩) (fun _ R s => H s.heap ∧
      R (.ok (.ret (.ref (s.heap.push o).objs.size))) { s with heap := (s.heap.push o).push { cls := .type "enumerate", data := .fields #[.none, .bool false, .ref s.heap.objs.size, rawInt 0, .none, .none] } }) :=
  .of_wp fun prog w A R s h => by
    obtain ⟨hp, g, d, tk, os⟩ := s
    obtain ⟨h1, h⟩ := h
    have hsub := sub_enumerate
    have q1 : ∀ {A' : Around} {E : Value → Shared → Prop} {Q : Value → Shared → Prop}, Q (.ref hp.objs.size) ⟨hp.push o, g, d, tk, os⟩ → wpAny (model prog w) A' (pyIter v) Q E ⟨hp, g, d, tk, os⟩ :=
      fun q => B.iter prog w _ _ ⟨hp, g, d, tk, os⟩ _ h1 q
    wp_walk using q1
    refine wpAny_stack_any fun st => wpAny_pure ?_
    split
    · rename_i c _ _ _ _ _
      cases (c == Value.type "enumerate")
      · wp_walk using q1
        exact ⟨_, rfl, h⟩
      · wp_walk using q1
        exact ⟨_, rfl, h⟩
    · wp_walk using q1
      exact ⟨_, rfl, h⟩
theorem enum1 {prog : Program} {w : World} {A : Around} {E : Value → Shared → Prop} {s : Shared} {v : Value} {o : Obj} {H : Heap → Prop} {Q : Value → Shared → Prop} (B : Begins v o H) (h1 : H s.heap)
    (h : ∀ h', IsEnum h' (s.heap.objs.size + 1) s.heap.objs.size 0 .none → h'.get? s.heap.objs.size = some o → (∀ b o, s.heap.get? b = some o → h'.get? b = some o) → Q (.ref (s.heap.objs.size + 1)) { s with heap := h' }) :
    wpAny (model prog w) A (call (.type "enumerate") [v]) Q E s := by
  refine callType_new F.called_enumerate (by decide) (F.typeCall_enumerate_1 _) (F.newCall_enumerate_1 _) (fun obj => F.args_object_init_2 obj _) F.entry_enumerate_new (meets_enum1 B) ⟨h1, ?_⟩
  have hz : (s.heap.push o).objs.size = s.heap.objs.size + 1 := Heap.size_push ..
  show _ ∧ _
  rw [hz]
  have he : ((s.heap.push o).push { cls := .type "enumerate", data := .fields #[.none, .bool false, .ref s.heap.objs.size, rawInt 0, .none, .none] }).get? (s.heap.objs.size + 1) = some { cls := .type "enumerate", data := .fields #[.none, .bool false, .ref s.heap.objs.size, rawInt 0, .none, .none] } := by
    have := Heap.get?_push_size (s.heap.push o) (o := { cls := .type "enumerate", data := .fields #[.none, .bool false, .ref s.heap.objs.size, rawInt 0, .none, .none] }) rfl
    rw [hz] at this
    exact this
  exact ⟨⟨_, he, rfl⟩, h _ he (Heap.get?_push_of_some _ (Heap.get?_push_size _ B.free)) fun b o x => Heap.get?_push_of_some _ (Heap.get?_push_of_some _ x)⟩
/-- the tuple at a, each item in a new pair -/
def Iet (K : PySem.W.Frag) (a : Addr) : It :=
  ⟨fun i H => ∃ xs x, SqT K H a xs ∧ xs[i]? = some x, fun i H v H' => ∃ T x, v = .ref T ∧ H T = none ∧ H' = upd H T (.tup [.int (i : Nat), x]) ∧ ∀ xs, SqT K H a xs → xs[i]? = some x, fun i H => ∃ xs, SqT K H a xs ∧ xs.length ≤ i⟩
theorem enum_stop {prog : Program} {w : World} {A : Around} {E : Value → Shared → Prop} {s : Shared} {e it t : Addr} {i : Nat} {c : Int} {items : Array Value} {old : Value} {Q : Option Value → Shared → Prop} (hh : A.in1.handled = none)
    (he : IsEnum s.heap e it c old) (hit : s.heap.IsTupleIter it t i) (ht : s.heap.IsTuple t items) (hx : items[i]? = none) (hQ : ∀ h', Heap.ExtBut it s.heap h' → Q none { s with heap := h' }) : wpAny (model prog w) A (pyNext (.ref e)) Q E s := by
  have hT : s.TypeIs (.ref e) "enumerate" := ⟨_, he, rfl⟩
  unfold pyNext
  refine wpAny_bind (wpAny_attempt (wpAny_callSpecial?_slot (name := Str.ofString "__next__") hT F.slot_enumerate_next (wpAny_call_entry F.slot_enumerate_next hT F.entry_enumerate_next ?_ (F.args_enumerate_next_1 _))))
  show wpAny _ _ (field (.ref e) 2 >>= _) _ _ _
  refine wpAny_bind (wpAny_field he rfl (x := .ref it) rfl (wpAny_bind (wpAny_nextOf_tuple_end hh hit ht hx fun h' x he' hx' => ?_)))
  obtain ⟨o, ho, hc⟩ := hx'
  exact wpAny_bind (wpAny_isInstance (T := "StopIteration") (b := true) ⟨o, ho, hc⟩ isSubtype_stop (wpAny_pure (hQ _ he')))
theorem turn_enumT {P : Program} {w : World} {K : PySem.W.Frag} {elts : List Expr} {kk : Nat} {tpos : Pos} (a e it : Addr) :
    Turn P w K (.Tuple elts kk tpos) (Iet K a) [e, it] e (fun i h => (∃ old, IsEnum h e it ((i : Nat) : Int) old) ∧ h.IsTupleIter it a i ∧ e ≠ it ∧ a ≠ it ∧ a ≠ e) where
  mem := by simp
  obj := by
    rintro i h ⟨⟨old, he⟩, ⟨o, ho, hc, hd⟩, _⟩ b hb
    rcases List.mem_cons.mp hb with rfl | hb
    · exact ⟨_, he, fun v q => nomatch q⟩
    · rw [List.mem_singleton.mp hb]
      exact ⟨o, ho, fun v q => by rw [hd] at q; cases q⟩
  keep := by
    rintro i h h' ⟨⟨old, he⟩, hi, hne, hx⟩ k
    exact ⟨⟨old, k e (by simp) _ he⟩, hi.at fun o q => k it (by simp) o q, hne, hx⟩
  item := by
    intro X hP hw hK hc i pins s σ H E I hf st hg
    subst hP hw hK
    obtain ⟨⟨old, he⟩, hit, hne, hai, hae⟩ := st
    obtain ⟨xs, x, hq, hx⟩ := hg
    obtain ⟨its, rv, pl, hz⟩ := I.tuple hq
    obtain ⟨u, hu, ru⟩ := rv.get hx
    have hl := rv.length
    have hix : i < xs.length := (List.getElem?_eq_some_iff.mp hx).1
    have hel : e < s.heap.objs.size := Heap.lt_size he
    have hil : it < s.heap.objs.size := by obtain ⟨_, q, _⟩ := hit; exact Heap.lt_size q
    have hh : X.A.in1.handled = none := I.ok.hd hc
    have D := Draws.tuple (prog := X.prog) (w := X.w) (A := X.A.in1) hh it a hai its.toArray
    refine wpAny_pyNext_enum_itemD D he ⟨hit, show s.heap.IsTuple a its.toArray from pl⟩ (by simpa [← hl] using hix) hne (by simp [hne, Ne.symm hae]) fun y h' tk hy ho st' hT hsz hk => ?_
    have ey : y = u := by
      have hy' : its.toArray[i]? = some y := hy
      rw [List.getElem?_toArray, hu] at hy'
      exact (Option.some.inj hy').symm
    subst ey
    refine ⟨_, rfl, wpAny_letOwnedTupleGo_enum (s := { s with heap := h', toks := tk + 1 }) ho fun h'' he' sb => ?_⟩
    have hT2 : h''.get? s.heap.objs.size = some { cls := .type "tuple", data := .seq #[.int i tk, y] } := (sb.2 _ (Nat.ne_of_gt hel)).trans hT
    have new : ObjOk X.prog X.w (upd H s.heap.objs.size (.tup [.int (i : Nat), x])) h'' s.heap.objs.size (.tup [.int (i : Nat), x]) :=
      ⟨by show 2 ≤ sizeLine; decide, [.int i tk, y], .cons ⟨_, rfl⟩ (.cons ru .nil), ⟨_, hT2, rfl, _, rfl⟩⟩
    have I1 : Inv X pins σ (upd H s.heap.objs.size (.tup [.int (i : Nat), x])) { s with heap := h'', toks := tk + 1 } :=
      I.turnedNew (ch := [e, it]) (fun b ob hb q => (sb.2 b (fun z => hb (by simp [z]))).trans (hk b ob (fun z => hb (by simp [z])) (fun z => hb (by simp [z])) q)) hf (Nat.le_refl _) new
    have e1 : ((i + 1 : Nat) : Int) = (i : Int) + 1 := by omega
    refine ⟨.ref s.heap.objs.size, _, I1, rfl, ⟨_, x, rfl, I.hok.fresh (Nat.le_refl _), rfl, fun ys hy => by rw [I.tuple_inj hy hq]; exact hx⟩, ⟨⟨y, by rw [e1]; exact he'⟩, st'.1.at fun o q => (sb.2 it (Ne.symm hne)).trans q, hne, hai, hae⟩, fun b hb => ?_⟩
    have hb' : b < s.heap.objs.size := by
      rcases List.mem_cons.mp hb with rfl | hb
      · exact hel
      · rw [List.mem_singleton.mp hb]; exact hil
    rw [upd_ne (Nat.ne_of_lt hb')]
    exact (hf b hb).1
  done := by
    intro X hP hw hK hc i pins s σ H E I hf st hg
    subst hP hw hK
    obtain ⟨⟨old, he⟩, hit, hne, hai, hae⟩ := st
    obtain ⟨xs, hq, hx⟩ := hg
    obtain ⟨its, rv, pl, hz⟩ := I.tuple hq
    have hl := rv.length
    obtain ⟨f0, f1, f2, f3, f4, f5⟩ := hf it (by simp)
    have hh : X.A.in1.handled = none := I.ok.hd hc
    exact enum_stop hh he hit (show s.heap.IsTuple a its.toArray from pl) (by rw [List.getElem?_toArray]; exact List.getElem?_eq_none (by omega)) fun h' eb => ⟨rfl, I.turned (t' := s.toks) (fun b o hb q => eb b o hb q) f0 f1 f3 f4 f5⟩
  self := fun A i s Q E st h => let ⟨⟨_, he⟩, _⟩ := st; wpAny_pyIter_enum he h
/-- enumerate of a list or a tuple, as it comes -/
def iEnumA (K : PySem.W.Frag) (ta : TA) : TI := fun σ H R => ta σ H fun vs H1 => ∃ a, vs = [.ref a] ∧ (((∃ xs, SqL K H1 a xs) ∧ R (Ite K a) H1) ∨ ((∃ xs, SqT K H1 a xs) ∧ R (Iet K a) H1))
theorem pi_enumA {X : Cx} {e : Expr} {ta : TA} {p pos tpos : Pos} {elts : List Expr} {kk : Nat} (hg : Gl X "enumerate") (hm : X.mg "enumerate" = none) (ha : PA X [e] ta) (hs : starEach [e] X.env = [(false, eval e X.env)] := by rfl) :
    PI X (.Tuple elts kk tpos) (.Call (.Name "enumerate" p) [e] [] pos) (iEnumA X.K ta) := by
  constructor
  intro pins s σ H R I h
  refine Call_ (ld_blt I hg hm boot_enumerate (PyProof.Rows.callWith_type1 (thn (ha.run pos pins s σ H _ I h) ?_) hs rfl))
  rintro us s1 ⟨vs, H1, I1, r1, a, rfl, q⟩
  have er := r1.ref1
  subst er
  have two : ∀ b, b ∈ [s1.heap.objs.size + 1, s1.heap.objs.size] → s1.heap.objs.size ≤ b := fun b hb => by
    rcases List.mem_cons.mp hb with rfl | hb
    · exact Nat.le_succ _
    · rw [List.mem_singleton.mp hb]; exact Nat.le_refl _
  rcases q with ⟨⟨xs, hq⟩, q⟩ | ⟨⟨xs, hq⟩, q⟩
  · obtain ⟨its, rv, pl, hz⟩ := I1.list hq
    refine enum1 (begins_list a its.toArray) pl.isList fun h' he ho hk => wpAny_pyIter_enum he ?_
    exact ⟨s1.heap.objs.size + 1, [s1.heap.objs.size + 1, s1.heap.objs.size], _, _, H1, rfl, I1.kept (t' := s1.toks) hk, turn_enum a (s1.heap.objs.size + 1) s1.heap.objs.size, ⟨⟨.none, he⟩, ⟨_, ho, rfl, rfl⟩, Nat.succ_ne_self _⟩,
      fun b hb => I1.fpOk (two b hb) (I1.hok.fresh (two b hb)), q⟩
  · obtain ⟨its, rv, pl, hz⟩ := I1.tuple hq
    have hl : a < s1.heap.objs.size := pl.lt
    refine enum1 (begins_tuple a its.toArray) (show s1.heap.IsTuple a its.toArray from pl) fun h' he ho hk => wpAny_pyIter_enum he ?_
    exact ⟨s1.heap.objs.size + 1, [s1.heap.objs.size + 1, s1.heap.objs.size], _, _, H1, rfl, I1.kept (t' := s1.toks) hk, turn_enumT a (s1.heap.objs.size + 1) s1.heap.objs.size,
      ⟨⟨.none, he⟩, ⟨_, ho, rfl, rfl⟩, Nat.succ_ne_self _, Nat.ne_of_lt hl, Nat.ne_of_lt (Nat.lt_succ_of_lt hl)⟩, fun b hb => I1.fpOk (two b hb) (I1.hok.fresh (two b hb)), q⟩
def enumD : Nat → List D → List D
  | _, [] => []
  | n, d :: ds => .tup [.int (n : Nat), d] :: enumD (n + 1) ds
theorem enumD_len : ∀ (n : Nat) (ds : List D), (enumD n ds).length = ds.length
  | _, [] => rfl
  | n, d :: ds => by simp [enumD, enumD_len (n + 1) ds]
theorem enumD_get : ∀ (n : Nat) (ds : List D) (i : Nat) (d : D), (enumD n ds)[i]? = some d → ∃ e, ds[i]? = some e ∧ d = .tup [.int ((n + i : Nat) : Int), e]
  | _, [], i, d, h => by simp [enumD] at h
  | n, e :: ds, 0, d, h => by simp [enumD] at h; exact ⟨e, rfl, h.symm⟩
  | n, e :: ds, i + 1, d, h => by
    obtain ⟨e', h1, h2⟩ := enumD_get (n + 1) ds i d (by simpa [enumD] using h)
    exact ⟨e', by simpa using h1, by rw [h2]; congr 4; omega⟩
theorem ite_ok {K : PySem.W.Frag} {F : Hp} {a : Addr} {vs : List V} {ds : List D} (h : SqL K F a vs) (r : RpL K F ds vs) : ItOk K F (enumD 0 ds) (Ite K a) where
  go := fun i H hi s => ⟨vs, vs[i]'(by rw [← r.length, ← enumD_len 0 ds]; exact hi), s.seq h, List.getElem?_eq_getElem _⟩
  stop := fun H s => ⟨vs, s.seq h, by rw [enumD_len, r.length]; exact Nat.le_refl _⟩
  yld := fun i d x H H' hd s y => by
    obtain ⟨T, u, rfl, hT, rfl, y⟩ := y
    obtain ⟨e, he, rfl⟩ := enumD_get 0 ds i d hd
    obtain ⟨v, ev, rv⟩ := r.get i e he
    have := (y vs (s.seq h)).symm.trans ev
    cases this
    exact .inr ⟨T, _, _, rfl, rfl, hT, rfl, _, _, rfl, by show V.int _ = V.int _; congr 1; omega, _, _, rfl, rv, rfl⟩
theorem iet_ok {K : PySem.W.Frag} {F : Hp} {a : Addr} {vs : List V} {ds : List D} (h : SqT K F a vs) (r : RpL K F ds vs) : ItOk K F (enumD 0 ds) (Iet K a) where
  go := fun i H hi s => ⟨vs, vs[i]'(by rw [← r.length, ← enumD_len 0 ds]; exact hi), sqT_mono s h, List.getElem?_eq_getElem _⟩
  stop := fun H s => ⟨vs, sqT_mono s h, by rw [enumD_len, r.length]; exact Nat.le_refl _⟩
  yld := fun i d x H H' hd s y => by
    obtain ⟨T, u, rfl, hT, rfl, y⟩ := y
    obtain ⟨e, he, rfl⟩ := enumD_get 0 ds i d hd
    obtain ⟨v, ev, rv⟩ := r.get i e he
    have := (y vs (sqT_mono s h)).symm.trans ev
    cases this
    exact .inr ⟨T, _, _, rfl, rfl, hT, rfl, _, _, rfl, by show V.int _ = V.int _; congr 1; omega, _, _, rfl, rv, rfl⟩
def mEnum (ms : M (List D)) : M (List D) := fun sv => (ms sv).bind fun ds s => match ds with
  | [.tup xs] => .ok (enumD 0 xs) s
  | [.lst xs] => .ok (enumD 0 xs) s
  | [.fl xs] => .ok (enumD 0 xs) s
  | _ => .bad
theorem si_enum {X : Cx} {W : WX'} {e : Expr} {ms : M (List D)} {p pos tpos : Pos} {elts : List Expr} {kk : Nat} (hg : Gl X "enumerate") (hm : X.mg "enumerate" = none) (ha : SA X W [e] ms) (hs : starEach [e] X.env = [(false, eval e X.env)] := by rfl) :
    SI X W (.Tuple elts kk tpos) (.Call (.Name "enumerate" p) [e] [] pos) (mEnum ms) := pi_imp (pi_enumA hg hm ha hs) fun σ H R q => by
  obtain ⟨g, F, sv, hK, rl, q⟩ := q
  refine ⟨g, F, sv, hK, rl, PostG.bind q fun ds s x F1 H1 e1 rl1 rp1 q1 => ?_⟩
  rw [← hK.1]
  split at q1
  · obtain ⟨v, rfl, a, vs, rfl, h1, h2⟩ := RpL.one_inv rp1
    exact ⟨a, rfl, .inr ⟨⟨vs, sqT_mono rl1.sub h1⟩, q1 _ F1 H1 (Same.refl F1) rl1 (iet_ok h1 h2)⟩⟩
  · obtain ⟨v, rfl, a, vs, rfl, h1, h2⟩ := RpL.one_inv rp1
    exact ⟨a, rfl, .inl ⟨⟨vs, .inl (.inl (rl1.sub _ _ h1))⟩, q1 _ F1 H1 (Same.refl F1) rl1 (ite_ok (.inl (.inl h1)) h2)⟩⟩
  · obtain ⟨v, rfl, a, vs, rfl, h1, h2⟩ := RpL.one_inv rp1
    exact ⟨a, rfl, .inl ⟨⟨vs, rl1.sub.seq h1⟩, q1 _ F1 H1 (Same.refl F1) rl1 (ite_ok h1 h2)⟩⟩
  · exact False.elim q1
end VM

set_option Elab.async false
set_option linter.all false
set_option autoImplicit false
set_option maxRecDepth 100000
set_option maxHeartbeats 400000
namespace VM
open PySem PySem.Spec PyProof.Rows L2

/-! ### defs -/
inductive FR where
  | ok (d : D) (o : Option D) | err (x : Exn) (o : Option D) | bad
abbrev Fn := List D → FR

/-- a new answer that is the caller's -/
def RoOk (K : PySem.W.Frag) (F' H' H : Hp) (ip : Option Addr) (o : Option D) (d : D) (v : V) : Prop := ∃ p, v = .ref p ∧ OwnP K F' H' d p ∧ (∀ a, Ft K H' d p a → H a = none) ∧ ∀ p' d', ip = some p' → o = some d' → ∀ a, Ft K H' d p a → ¬ Ft K H' d' p' a
/-- ip: the argument that may be changed; φ: what it has for itself -/
def PostF (K : PySem.W.Frag) (mg : Str → Option Value) (F H : Hp) (ip : Option Addr) (φ : Addr → Prop) (ro : Bool) (r : FR) (Q : VK) (E : XK) : Prop := match r with
  | .ok d o => ∀ v F' H', Same F F' → Same F' H' → (∀ a u, H a = some u → ¬ φ a → H' a = some u) → (∀ a, H a ≠ none → F' a = F a) → (∀ a, H a ≠ none → H' a ≠ none) → (∀ p, ip = some p → ∃ d', o = some d' ∧ OwnP K F' H' d' p ∧ ∀ a, Ft K H' d' p a → φ a ∨ H a = none) →
      (if ro = true then RoOk K F' H' H ip o d v else Rp K F' d v) → Q v H'
  | .err x o => ∀ cls dd F' H', Same F F' → Same F' H' → (∀ a u, H a = some u → ¬ φ a → H' a = some u) → (∀ a, H a ≠ none → F' a = F a) → (∀ a, H a ≠ none → H' a ≠ none) → (∀ p, ip = some p → ∃ d', o = some d' ∧ OwnP K F' H' d' p ∧ ∀ a, Ft K H' d' p a → φ a ∨ H a = none) →
      ErrOk K mg F' x cls dd → E cls dd H'
  | .bad => False
/-- what a def promises: it computes fn; io: the place of the argument that it may change; ro: its answer is new and the caller's -/
def spV (K : PySem.W.Frag) (mg : Str → Option Value) (n : Nat) (io : Option Nat) (ro : Bool) (fn : Fn) : Sp := fun vs H Q E => vs.length = n ∧ match io with
  | none => ∃ F ds, Same F H ∧ RpL K F ds vs ∧ PostF K mg F H none (fun _ => False) ro (fn ds) Q E
  | some k => ∃ F ds1 d ds2 vs1 p vs2, Same F H ∧ ds1.length = k ∧ vs = vs1 ++ V.ref p :: vs2 ∧ RpL K F ds1 vs1 ∧ OwnP K F H d p ∧ RpL K F ds2 vs2 ∧ PostF K mg F H (some p) (Ft K H d p) ro (fn (ds1 ++ d :: ds2)) Q E
/-- the heap without some places -/
noncomputable def hole (H : Hp) (φ : Addr → Prop) : Hp := by
  classical
  exact fun a => if φ a then none else H a
theorem hole_in {H : Hp} {φ : Addr → Prop} {a : Addr} (h : φ a) : hole H φ a = none := if_pos h
theorem hole_out {H : Hp} {φ : Addr → Prop} {a : Addr} (h : ¬ φ a) : hole H φ a = H a := if_neg h
theorem hole_some {H : Hp} {φ : Addr → Prop} {a : Addr} {o : HO} (h : hole H φ a = some o) : ¬ φ a ∧ H a = some o := by
  by_cases hp : φ a
  · rw [hole_in hp] at h; cases h
  · rw [hole_out hp] at h; exact ⟨hp, h⟩

/-- FnOk, where no repr is under way -/
structure FnG (P : Program) (w : World) (K : PySem.W.Frag) (mg : Str → Option Value) (base : Heap) (k : Nat) (f : Addr) (fd : FuncData) (ps : List Str) (sp : Sp) : Prop where
  len : ∀ vs H Q E, sp vs H Q E → vs.length = ps.length
  run : ∀ (A : Around) (outer : List Env) (s : Shared) (H : Hp) (args : Args) (us : List Value) (vs : List V) (Q : VK) (E : XK), A.guards = some [] → Room k A → Env0 P w K mg base A outer s H → BindsTo s fd args (ps.zip us) → Vals vs us → sp vs H Q E →
    codeAny (model P w) A (.call (.ref f) args) (CR (L2N.CX P w) outer P w H s Q E) s
theorem FnG.mono {P : Program} {w : World} {K : PySem.W.Frag} {mg : Str → Option Value} {base : Heap} {j k : Nat} {f : Addr} {fd : FuncData} {ps : List Str} {sp : Sp} (F : FnG P w K mg base j f fd ps sp) (h : j ≤ k) : FnG P w K mg base k f fd ps sp :=
  ⟨F.len, fun A outer s H args us vs Q E hg hr => F.run A outer s H args us vs Q E hg (hr.mono h)⟩

/-- what a body's derivation leans on -/
structure Ctx (X : Cx) (W : WX') (k : Nat) : Prop where
  tk : L2N.Takes X W
  hr : Room k X.A
  hg : X.A.guards = some []
  po : PassesOwn (model X.prog X.w) X.A X.env X.xe
theorem Ctx.u {X : Cx} {W : WX'} {k : Nat} (c : Ctx X W k) : X.A.units + 64 < cLine := by have := c.hr.un; omega
theorem Ctx.u5 {X : Cx} {W : WX'} {k : Nat} (c : Ctx X W k) : X.A.units + 65 < cLine := by have := c.hr.un; omega
abbrev WE0 (E : XK) : WX' := fun cls d _ H => E cls d H

/-- the frame at a def's entry -/
def initA (io : Option Nat) : Nat → List D → SV
  | _, [] => []
  | k, d :: ds => (if io = some k then .io 0 d else .pl d) :: initA io (k + 1) ds
def outS (io : Option Nat) (sv : SV) : Option (Option D) := match io with
  | none => some none
  | some k => match sv[k]? with
    | some (.io _ d) => some (some d)
    | _ => none
def fnOf (n : Nat) (io : Option Nat) (ro : Bool) (body : MS) : Fn := fun ds => match body (initA io 0 ds ++ List.replicate (n - ds.length) .un) with
  | .nx s => match outS io s with
    | some o => if ro = true then .bad else .ok .non o
    | none => .bad
  | .rt d s => match outS io s with
    | some o => if ro = true then .bad else .ok d o
    | none => .bad
  | .ro d s => match outS io s with
    | some o => if ro = true then .ok d o else .bad
    | none => .bad
  | .err x s => match outS io s with
    | some o => .err x o
    | none => .bad
  | _ => .bad
theorem initA_len (io : Option Nat) : ∀ (k : Nat) (ds : List D), (initA io k ds).length = ds.length
  | _, [] => rfl
  | k, d :: ds => by simp [initA, initA_len io (k + 1) ds]
theorem initA_get (io : Option Nat) : ∀ (k : Nat) (ds : List D) (i : Nat), (initA io k ds)[i]? = ds[i]?.map fun d => if io = some (k + i) then .io 0 d else .pl d
  | _, [], i => by simp [initA]
  | k, d :: ds, 0 => by simp [initA]
  | k, d :: ds, i + 1 => by
    simp only [initA, List.getElem?_cons_succ]
    rw [initA_get io (k + 1) ds i]
    have : k + 1 + i = k + (i + 1) := by omega
    rw [this]

theorem rl_init {K : PySem.W.Frag} {mx : MX} {F H : Hp} {N : List Str} {ds : List D} {vs : List V} {io : Option Nat} {ip : Option Addr} {φ : Addr → Prop} (sub : Same F H) (hn : vs.length ≤ N.length) (len : ds.length = vs.length)
    (hp : ∀ i d v, ds[i]? = some d → vs[i]? = some v → if io = some i then ∃ p, ip = some p ∧ v = .ref p ∧ OwnP K F H d p ∧ φ = Ft K H d p else Rp K F d v) (hio : ∀ p, ip = some p → H p ≠ none ∧ φ p) :
    Rl ⟨K, hole H φ, fun a => H a ≠ none, F, fun _ => ip, mx⟩ F H (start N vs) (initA io 0 ds ++ List.replicate (N.length - ds.length) .un) := by
  have slot : ∀ (i : Nat) (s : Sl), (initA io 0 ds ++ List.replicate (N.length - ds.length) Sl.un)[i]? = some s → s = .un ∨ ∃ d v, ds[i]? = some d ∧ vs[i]? = some v ∧ (start N vs)[i]? = some (some v) ∧ s = if io = some i then .io 0 d else .pl d := fun i s h => by
    by_cases hi : i < ds.length
    · rw [List.getElem?_append_left (by rw [initA_len]; exact hi), initA_get, List.getElem?_eq_getElem hi] at h
      have hv : i < vs.length := by omega
      have e1 : vs[i]? = some vs[i] := List.getElem?_eq_getElem hv
      refine .inr ⟨ds[i], vs[i], List.getElem?_eq_getElem hi, e1, ?_, ?_⟩
      · unfold L2.start
        rw [List.getElem?_append_left (by simpa using hv), List.getElem?_map, e1]
        rfl
      · simpa using (Option.some.inj h).symm
    · rw [List.getElem?_append_right (by rw [initA_len]; omega)] at h
      obtain ⟨_, h2⟩ := List.getElem?_eq_some_iff.mp h
      exact .inl (by simpa using h2.symm)
  refine ⟨sub, fun a o e => (hole_some e).2, fun a _ => rfl, fun a h => h, fun a o e => (by show H a ≠ none; rw [(hole_some e).2]; exact fun z => nomatch z), fun k p e => ⟨hole_in (hio p e).2, (hio p e).1⟩, ?_, fun i s h => ?_, fun i j p hi hj => ?_⟩
  · unfold L2.start
    simp only [List.length_append, List.length_map, List.length_replicate, initA_len]
    omega
  · rcases slot i s h with rfl | ⟨d, v, e1, e2, e3, rfl⟩
    · trivial
    · have q := hp i d v e1 e2
      split
      · rename_i hio
        rw [if_pos hio] at q
        obtain ⟨p, ep, rfl, o, hf⟩ := q
        exact ⟨p, e3, ep, fun a ha => hole_in (by rw [hf]; exact ha), o⟩
      · rename_i hio
        rw [if_neg hio] at q
        exact ⟨v, e3, q⟩
  · have one : ∀ i, Ref K H (start N vs) (initA io 0 ds ++ List.replicate (N.length - ds.length) Sl.un) i p → io = some i := fun i ⟨s, d0, p0, e1, e2, e3, _⟩ => by
      rcases slot i s e1 with rfl | ⟨d, v, _, _, _, rfl⟩
      · cases e2
      · by_cases h : io = some i
        · exact h
        · rw [if_neg h] at e2
          cases e2
    have h1 := one i hi
    have h2 := one j hj
    rw [h1] at h2
    exact Option.some.inj h2

section
variable {P : Program} {w : World} {K : PySem.W.Frag} {mg : Str → Option Value} {base : Heap}
theorem fin_post {mx : MX} {n : Nat} {io : Option Nat} {ip : Option Addr} {φ : Addr → Prop} {ro : Bool} {body : MS} {ds : List D} {F H : Hp} {Q : VK} {E : XK} {g : G} (eg : g = ⟨K, hole H φ, fun a => H a ≠ none, F, fun _ => ip, mx⟩) (hio : ∀ p, ip = some p → ∃ k, io = some k) (hio2 : io = none → ip = none)
    (q : PostF K mx.mg F H ip φ ro (fnOf n io ro body ds) Q E) : PostS mx g F (body (initA io 0 ds ++ List.replicate (n - ds.length) .un)) (WE0 E) { nx := fun _ H' => Q .non H', rt := Q } := by
  subst eg
  have keep : ∀ {F' H' : Hp} {σ' : L2.St} {sv' : SV}, Rl ⟨K, hole H φ, fun a => H a ≠ none, F, fun _ => ip, mx⟩ F' H' σ' sv' → ∀ a u, H a = some u → ¬ φ a → H' a = some u := fun rl a u e ne => rl.kH a u (by show hole H φ a = some u; rw [hole_out ne]; exact e)
  have atp : ∀ {F' H' : Hp} {σ' : L2.St} {sv' : SV} {o : Option D}, Rl ⟨K, hole H φ, fun a => H a ≠ none, F, fun _ => ip, mx⟩ F' H' σ' sv' → outS io sv' = some o → ∀ p, ip = some p → ∃ k j d', io = some k ∧ o = some d' ∧ sv'[k]? = some (.io j d') ∧ σ'[k]? = some (some (.ref p)) ∧ OwnP K F' H' d' p ∧ ∀ a, Ft K H' d' p a → φ a ∨ H a = none := fun {F' H' σ' sv' o} rl ho p hp => by
    obtain ⟨k, hk⟩ := hio p hp
    subst hk
    unfold outS at ho
    split at ho
    · rename_i z
      cases z
    · rename_i k' z
      cases z
      split at ho
      · rename_i j d hs
        cases ho
        obtain ⟨p', e1, e2, np, o'⟩ := rl.sl _ _ hs
        have e2' : ip = some p' := e2
        rw [hp] at e2'; cases e2'
        refine ⟨_, j, d, rfl, rfl, hs, e1, o', fun a ha => ?_⟩
        have := np a ha
        by_cases h : φ a
        · exact .inl h
        · have this : hole H φ a = none := this
          rw [hole_out h] at this
          exact .inr this
      · cases ho
  have out : ∀ {F' H' : Hp} {σ' : L2.St} {sv' : SV} {o : Option D}, Rl ⟨K, hole H φ, fun a => H a ≠ none, F, fun _ => ip, mx⟩ F' H' σ' sv' → outS io sv' = some o → ∀ p, ip = some p → ∃ d', o = some d' ∧ OwnP K F' H' d' p ∧ ∀ a, Ft K H' d' p a → φ a ∨ H a = none := fun rl ho p hp => by
    obtain ⟨k, j, d', _, h2, _, _, h3, h4⟩ := atp rl ho p hp
    exact ⟨d', h2, h3, h4⟩
  unfold fnOf at q
  cases hb : body (initA io 0 ds ++ List.replicate (n - ds.length) .un) with
  | nx s =>
    rw [hb] at q
    intro σ' F' H' e rl
    cases ho : outS io s with
    | none => simp only [ho] at q; exact False.elim q
    | some o =>
      simp only [ho] at q
      split at q
      · exact False.elim q
      · rename_i hro
        exact q .non F' H' e rl.sub (keep rl) rl.kF rl.fxH (out rl ho) (by rw [if_neg hro]; rfl)
  | rt d s =>
    rw [hb] at q
    intro v σ' F' H' e rl rp
    cases ho : outS io s with
    | none => simp only [ho] at q; exact False.elim q
    | some o =>
      simp only [ho] at q
      split at q
      · exact False.elim q
      · rename_i hro
        exact q v F' H' e rl.sub (keep rl) rl.kF rl.fxH (out rl ho) (by rw [if_neg hro]; exact rp)
  | ro d s =>
    rw [hb] at q
    intro v σ' F' H' e rl rp
    cases ho : outS io s with
    | none => simp only [ho] at q; exact False.elim q
    | some o =>
      simp only [ho] at q
      split at q
      · rename_i hro
        obtain ⟨p, rfl, nf, o', nr⟩ := rp
        refine q _ F' H' e rl.sub (keep rl) rl.kF rl.fxH (out rl ho) ?_
        rw [if_pos hro]
        refine ⟨p, rfl, o', fun a ha => ?_, fun p' d' hp' hd' a ha ha' => ?_⟩
        · cases z : H a with
          | none => rfl
          | some u => exact absurd (show H a ≠ none by rw [z]; exact fun z => nomatch z) (nf a ha)
        · obtain ⟨k, j, d2, _, h2, h3, h4, _⟩ := atp rl ho p' hp'
          rw [hd'] at h2; cases h2
          exact nr a ha k ⟨_, _, p', h3, rfl, h4, ha'⟩
      · exact False.elim q
  | err x s =>
    rw [hb] at q
    intro cls dd σ' F' H' e rl er
    cases ho : outS io s with
    | none => simp only [ho] at q; exact False.elim q
    | some o =>
      simp only [ho] at q
      exact q cls dd F' H' e rl.sub (keep rl) rl.kF rl.fxH (out rl ho) er
  | bk s => rw [hb] at q; exact False.elim q
  | ct s => rw [hb] at q; exact False.elim q
  | bad => rw [hb] at q; exact False.elim q
/-- THE RULE for a def -/
theorem fn_okL {x qual : Str} {st : Stmt} {f : Addr} {oc : Value} {od an : Option Addr} {osl : Array (Option Value)} {dV kV doc pm cdv ct : Value} {N ps : List Str} {k n : Nat} {io : Option Nat} {ro : Bool} {body : MS} (lk : K.lookup f = some ⟨oc, od, .func (PySem.W.fnOf x qual (defArgs st) (defBody st) (defScope st) dV kV doc pm an cdv ct), osl⟩) (hcd : PySem.W.codeIn K cdv qual = true) (S : FnScope N ps (defScope st)) (hn : n = ps.length) (hN : ps.length ≤ N.length)
    (hb : ∀ (cdv : Value) (A : Around) (outer : List Env) (s : Shared) (H : Hp) (E : XK), Ctx (cxOf (L2N.CX P w) P w K mg base N qual (defScope st) f cdv A outer s H E) (WE0 E) k →
      SSs (cxOf (L2N.CX P w) P w K mg base N qual (defScope st) f cdv A outer s H E) (WE0 E) (defBody st) body) :
    FnG P w K mg base (k + 1) f (PySem.W.fnOf x qual (defArgs st) (defBody st) (defScope st) dV kV doc pm an cdv ct) ps (spV K mg n io ro (fnOf N.length io ro body)) := by
  subst hn
  have len : ∀ vs H Q E, spV K mg ps.length io ro (fnOf N.length io ro body) vs H Q E → vs.length = ps.length := fun vs H Q E h => h.1
  constructor
  · exact len
  intro A outer s H args us vs Q E hg hr e0 hbd r hsp
  have hl := len _ _ _ _ hsp
  have KX : K.In s.heap := e0.mod.kin.keeps fun b o e => (e0.bs b o e).1
  have lim : s.heap.NoLimit := e0.mod.nolimit.keeps fun b o e => (e0.bs b o e).1
  have kinds : ∀ y ∈ ps.zip us, (defScope st).names.lookup y.1 = some .local ∨ ((defScope st).names.lookup y.1 = some .cell ∧ ((cellsFrom (s.heap.objs.size + 1) (defScope st).names []).lookup y.1).isSome = true) := fun y hy => by
    rcases S.par y.1 (List.of_mem_zip hy).1 with q | q
    · exact .inl q
    · exact .inr ⟨q, PySem.W.cellsFrom_some _ _ _ (.inl q)⟩
  refine codeAny_call_function hr.depth (KX _ _ lk) rfl S.co S.gen rfl (PySem.W.codeRec_of KX hcd) (hbd _ _ _ _ ?_)
  refine wpAny_newFunctionEnv_cells S.kind kinds fun env he s1 x => ?_
  subst he
  refine ⟨lim.keeps x.toInCall.keep, codeAny_func ?_⟩
  have cx : Ctx (cxOf (L2N.CX P w) P w K mg base N qual (defScope st) f cdv A outer s H E) (WE0 E) k := ⟨L2N.takes_of rfl rfl rfl rfl, hr.deeper _, hg, passes_of rfl⟩
  have ht := hb cdv A outer s H E cx
  have I : Inv (cxOf (L2N.CX P w) P w K mg base N qual (defScope st) f cdv A outer s H E) [] (start N vs) H s1 := inv_start S hr.hd e0 hl r x
  have hq : tS K ⟨mg, none⟩ (WE0 E) body { nx := fun _ H' => Q .non H', rt := Q } (start N vs) H := by
    obtain ⟨_, h⟩ := hsp
    cases io with
    | none =>
      obtain ⟨F, ds, sub, rv, q⟩ := h
      have hv : vs.length ≤ N.length := by omega
      refine ⟨_, F, _, (by exact ⟨rfl, rfl⟩), rl_init (mx := ⟨mg, none⟩) (N := N) (io := none) (ip := none) (φ := fun _ => False) sub hv rv.length (fun i d v e1 e2 => ?_) (fun p hp => nomatch hp), fin_post rfl (fun p hp => nomatch hp) (fun _ => rfl) q⟩
      rw [if_neg (by exact fun z => nomatch z)]
      obtain ⟨v', e3, h3⟩ := rv.get i d e1
      rw [e2] at e3; cases e3
      exact h3
    | some j =>
      obtain ⟨F, ds1, d, ds2, vs1, p, vs2, sub, hj, rfl, r1, o, r2, q⟩ := h
      have l1 := r1.length
      have l2 := r2.length
      refine ⟨_, F, _, (by exact ⟨rfl, rfl⟩), rl_init (mx := ⟨mg, none⟩) (N := N) (io := some j) (ip := some p) (φ := Ft K H d p) (ds := ds1 ++ d :: ds2) sub (by omega) (by simp [l1, l2]) (fun i d' v e1 e2 => ?_) (fun p' hp' => by cases hp'; exact ⟨o.nn, .here⟩), fin_post rfl (fun _ _ => ⟨j, rfl⟩) (fun z => nomatch z) q⟩
      rcases Nat.lt_trichotomy i ds1.length with hi | hi | hi
      · rw [if_neg (by intro z; have := Option.some.inj z; omega)]
        rw [List.getElem?_append_left hi] at e1
        rw [List.getElem?_append_left (by omega)] at e2
        obtain ⟨v', e3, h3⟩ := r1.get i d' e1
        rw [e2] at e3; cases e3
        exact h3
      · have e : j = i := by omega
        subst e
        rw [if_pos rfl]
        rw [List.getElem?_append_right (by omega), hi, Nat.sub_self] at e1
        rw [List.getElem?_append_right (by omega), hi, l1, Nat.sub_self] at e2
        cases e1; cases e2
        exact ⟨p, rfl, rfl, o, rfl⟩
      · rw [if_neg (by intro z; have := Option.some.inj z; omega)]
        obtain ⟨t, ht⟩ : ∃ t, i - ds1.length = t + 1 := ⟨i - ds1.length - 1, by omega⟩
        rw [List.getElem?_append_right (by omega), ht] at e1
        rw [List.getElem?_append_right (by omega), ← l1, ht] at e2
        obtain ⟨v', e3, h3⟩ := r2.get t d' (by simpa using e1)
        have e2' : vs2[t]? = some v := by simpa using e2
        rw [e2'] at e3; cases e3
        exact h3
  refine wpAny_mono (ht.run [] s1 (start N vs) H _ I hq) (fun fl s' hs => ?_) fun e s' hs => hs
  have fin : ∀ {σ' : L2.St} {H' : Hp} {v : V} {u : Value}, Inv (cxOf (L2N.CX P w) P w K mg base N qual (defScope st) f cdv A outer s H E) [] σ' H' s' → RelV v u → Q v H' → CE outer P w H s Q u s' :=
    fun {σ' H' v u} J rv q => ⟨v, H', J.os, J.bare, J.base, J.hok, rv, q⟩
  cases fl with
  | ret u => obtain ⟨v, σ', H', J, rv, q⟩ := hs; exact fin J rv q
  | next => obtain ⟨σ', H', J, q⟩ := hs; exact fin (v := V.non) (u := Value.none) J rfl q
  | brk => obtain ⟨_, _, _, q⟩ := hs; exact False.elim q
  | cont => obtain ⟨_, _, _, q⟩ := hs; exact False.elim q
theorem fn_ok {x qual : Str} {st : Stmt} {f : Addr} {fd : FuncData} {N ps : List Str} {k n : Nat} {io : Option Nat} {ro : Bool} {body : MS} (F : Fun K x qual st f fd) (S : FnScope N ps (defScope st)) (hn : n = ps.length) (hN : ps.length ≤ N.length)
    (hb : ∀ (cdv : Value) (A : Around) (outer : List Env) (s : Shared) (H : Hp) (E : XK), Ctx (cxOf (L2N.CX P w) P w K mg base N qual (defScope st) f cdv A outer s H E) (WE0 E) k →
      SSs (cxOf (L2N.CX P w) P w K mg base N qual (defScope st) f cdv A outer s H E) (WE0 E) (defBody st) body) :
    FnG P w K mg base (k + 1) f fd ps (spV K mg n io ro (fnOf N.length io ro body)) := by
  obtain ⟨oc, od, kV, doc, pm, an, cdv, ct, osl, rfl, lk, hcd⟩ := F.ex
  exact fn_okL lk hcd S hn hN hb
end

/-! ### calls -/
/-- arguments, one of them handed over to be changed -/
def RelAI (g : G) (F' _H' : Hp) (σ : L2.St) (_ : SV) (a : List D × Nat × List D) (vs : List V) : Prop := ∃ vs1 v vs2, vs = vs1 ++ v :: vs2 ∧ RpL g.K F' a.1 vs1 ∧ σ[a.2.1]? = some (some v) ∧ RpL g.K F' a.2.2 vs2
abbrev SAI (X : Cx) (W : WX') (es : List Expr) (m : M (List D × Nat × List D)) : Prop := PA X es (tG X.K X.mx W RelAI m)
section
variable {X : Cx} {W : WX'} {e : Expr} {es : List Expr} {m : M D} {ms : M (List D)} {mi : M (List D × Nat × List D)} {pos p : Pos} {x : Str}
def miHere (i : Nat) (ms : M (List D)) : M (List D × Nat × List D) := fun sv => match sv[i]? with
  | some (.ow _) => (ms sv).bind fun ds s => .ok ([], i, ds) s
  | some (.io _ _) => (ms sv).bind fun ds s => .ok ([], i, ds) s
  | _ => .bad
def miCons (m : M D) (mi : M (List D × Nat × List D)) : M (List D × Nat × List D) := fun sv => (m sv).bind fun d s1 => (mi s1).bind fun a s2 => .ok (d :: a.1, a.2.1, a.2.2) s2
theorem sai_here {i : Nat} {y : Str} {py : Pos} (hv : PE X (.Name y py) (tVar i)) (hr : SA X W es ms) (hs : starEach (.Name y py :: es) X.env = (false, eval (.Name y py) X.env) :: starEach es X.env := by rfl) : SAI X W (.Name y py :: es) (miHere i ms) := pa_imp (pa_cons hv hr hs) fun σ H Q q => by
  obtain ⟨g, F, sv, hK, rl, q⟩ := q
  have two : ∀ {p : Addr}, σ[i]? = some (some (.ref p)) → PostG X.mx g F σ ((ms sv).bind fun ds s => .ok ([], i, ds) s) W RelAI Q → tCons (tVar i) (tG X.K X.mx W RelL ms) σ H Q := fun {p} e1 q => by
    refine ⟨.ref p, e1, g, F, sv, hK, rl, PostG.bind q fun ds s vs F1 H1 e2 rl1 rp1 q1 => ?_⟩
    exact q1 _ F1 H1 (Same.refl F1) rl1 ⟨[], _, vs, rfl, rfl, e1, rp1⟩
  unfold miHere at q
  split at q
  · rename_i d hd
    obtain ⟨p, e1, _⟩ := rl.at hd
    exact two e1 q
  · rename_i k d hd
    obtain ⟨p, e1, _⟩ := rl.at hd
    exact two e1 q
  · exact False.elim q
theorem sai_cons (ha : SE X W e m) (hr : SAI X W es mi) (hs : starEach (e :: es) X.env = (false, eval e X.env) :: starEach es X.env := by rfl) : SAI X W (e :: es) (miCons m mi) := pa_imp (pa_cons ha hr hs) fun σ H Q q => by
  obtain ⟨g, F, sv, hK, rl, q⟩ := q
  refine ⟨g, F, sv, hK, rl, PostG.bind q fun d s1 v F1 H1 e1 rl1 rp1 q1 => ?_⟩
  refine ⟨g, F1, s1, hK, rl1, PostG.bind q1 fun a s2 vs F2 H2 e2 rl2 rp2 q2 => ?_⟩
  obtain ⟨vs1, u, vs2, rfl, r1, r2, r3⟩ := rp2
  exact q2 _ F2 H2 (Same.refl F2) rl2 ⟨v :: vs1, u, vs2, rfl, ⟨v, vs1, rfl, Rp.mono e2 _ _ rp1, r1⟩, r2, r3⟩

/-- the call of a def by name -/
theorem pe_callG {k : Nat} {f : Addr} {fd : FuncData} {ps : List Str} {sp : Sp} {dvs : List V} {ds : List Value} {E : L2.St → XK} {t : TA} (F : FnG X.prog X.w X.K X.mg X.base k f fd ps sp) (hgd : X.A.guards = some []) (hr : Room k X.A) (hg : Gl X x) (hm : X.mg x = some (.ref f)) (hk : PySem.W.keepIn X.K (.ref f) = true) (hb : Binds X.K fd ps ds) (hd : Vals dvs ds) (hx : ∀ σ, PassesAt (L2N.CX X.prog X.w) X σ (E σ))
    (ha : PA X (e :: es) t) (hdb : (x == ("__debug__" : Str)) = false := by decide) (he : starEach (e :: es) X.env = (false, eval e X.env) :: starEach es X.env := by rfl) (hpl : (backTo pos (starEach es X.env)).any (·.1) = false := by rfl) :
    PE X (.Call (.Name x p) (e :: es) [] pos) (tCallSD sp dvs E t) := by
  constructor
  intro pins s σ H Q I h
  refine wpAny_Call_Name_kw (ld_glob I hg hm (PySem.W.callWith_K (h₀ := X.base) I.ok.mod.kin hk (thn (ha.run pos pins s σ H _ I h) fun us s1 ⟨vs, H1, I1, r, q⟩ => ⟨I1.kIn, ?_⟩) he hpl) hdb)
  have r2 : Vals (vs ++ dvs) (us ++ ds) := r.append hd
  have hl : (us ++ ds).length = ps.length := r2.length.symm.trans (F.len _ _ _ _ q)
  refine wpAny_call (codeAny_mono (F.run X.A X.stack s1 H1 ⟨us, []⟩ (us ++ ds) (vs ++ dvs) Q (E σ) hgd hr I1.env0 (hb s1 us I1.kIn hl) r2 q) fun o s' hq => ?_)
  cases o with
  | error er => exact hx σ pins H1 s1 er s' I1 hq
  | ok fl =>
    cases fl with
    | ret u => exact I1.after hq
    | next => exact False.elim hq
    | brk => exact False.elim hq
    | cont => exact False.elim hq
theorem pe_callG0 {k : Nat} {f : Addr} {fd : FuncData} {ps : List Str} {sp : Sp} {dvs : List V} {ds : List Value} {E : L2.St → XK} (F : FnG X.prog X.w X.K X.mg X.base k f fd ps sp) (hgd : X.A.guards = some []) (hr : Room k X.A) (hg : Gl X x) (hm : X.mg x = some (.ref f)) (hk : PySem.W.keepIn X.K (.ref f) = true) (hb : Binds X.K fd ps ds) (hd : Vals dvs ds) (hx : ∀ σ, PassesAt (L2N.CX X.prog X.w) X σ (E σ))
    (hdb : (x == ("__debug__" : Str)) = false := by decide) : PE X (.Call (.Name x p) [] [] pos) (tCallSD sp dvs E tNil) := by
  constructor
  intro pins s σ H Q I h
  have h : sp dvs H Q (E σ) := h
  refine wpAny_Call_Name_kw (ld_glob I hg hm (PySem.W.callWith_K0 I.kIn hk ?_) hdb)
  have hl : ([] ++ ds).length = ps.length := hd.length.symm.trans (F.len _ _ _ _ h)
  refine wpAny_call (codeAny_mono (F.run X.A X.stack s H ⟨[], []⟩ ([] ++ ds) dvs Q (E σ) hgd hr I.env0 (hb s [] I.kIn hl) hd h) fun o s' hq => ?_)
  cases o with
  | error er => exact hx σ pins H s er s' I hq
  | ok fl =>
    cases fl with
    | ret u => exact I.after hq
    | next => exact False.elim hq
    | brk => exact False.elim hq
    | cont => exact False.elim hq

/-- behind a call: the frame's state -/
theorem Rl.after {g : G} {F H F' H' : Hp} {σ : L2.St} {sv : SV} (r : Rl g F H σ sv) (s1 : Same F F') (s2 : Same F' H') (kp : ∀ a u, H a = some u → H' a = some u) (kf : ∀ a, H a ≠ none → F' a = F a) : Rl g F' H' σ sv := by
  have nn : ∀ a, H a ≠ none → H' a = H a := fun a h => by
    cases z : H a with
    | none => exact absurd z h
    | some u => exact kp a u z
  exact r.move s2 (fun a o e => kp _ _ (r.kH a o e)) (fun a h => kf a (r.fxH a h)) (fun a h => by rw [nn a (r.fxH a h)]; exact r.fxH a h) s1 (fun i a h => (kf a (r.own h).2.1).trans (r.own h).1) fun i a h => nn a (r.own h).2.1
theorem Rl.afterIo {g : G} {F H F' H' : Hp} {σ : L2.St} {sv : SV} (r : Rl g F H σ sv) {i : Nat} {p : Addr} {s s' : Sl} {d d' : D} (hs : sv[i]? = some s) (hd : slD s = some d) (hs' : reSl s d' = some s') (hp : σ[i]? = some (some (.ref p)))
    (s1 : Same F F') (s2 : Same F' H') (kp : ∀ a u, H a = some u → ¬ Ft g.K H d p a → H' a = some u) (kf : ∀ a, H a ≠ none → F' a = F a) (kn : ∀ a, H a ≠ none → H' a ≠ none) (ho : OwnP g.K F' H' d' p) (hf : ∀ a, Ft g.K H' d' p a → Ft g.K H d p a ∨ H a = none) : Rl g F' H' σ (sv.set i s') := by
  have ref : ∀ a, Ft g.K H d p a → Ref g.K H σ sv i a := fun a ha => ⟨s, d, p, hs, hd, hp, ha⟩
  have nn : ∀ a, ¬ Ft g.K H d p a → H a ≠ none → H' a = H a := fun a hap h => by
    cases z : H a with
    | none => exact absurd z h
    | some u => exact kp a u z hap
  refine r.alt hs hd hs' hp s2 (fun a o e => ?_) (fun a h => kf a (r.fxH a h)) (fun a h => kn a (r.fxH a h)) s1 (fun j a hj h => ⟨(kf a (r.own h).2.1).trans (r.own h).1, nn a (fun z => hj (r.dj j i a h (ref a z))) (r.own h).2.1⟩) ho fun a ha => (hf a ha).imp id fun hn => ⟨r.nofx hn, r.noRef hn⟩
  refine kp _ _ (r.kH a o e) fun z => ?_
  have := (r.own (ref a z)).2.2
  rw [e] at this; cases this

def frR (r : FR) (s : SV) : R D := match r with
  | .ok d none => .ok d s
  | .err x none => .err x s
  | _ => .bad
def mCall (n : Nat) (fn : Fn) (dd : List D) (ms : M (List D)) : M D := fun sv => (ms sv).bind fun ds s => if (ds ++ dd).length = n then frR (fn (ds ++ dd)) s else .bad
def frI (r : FR) (i : Nat) (s : SV) : R D := match r with
  | .ok d (some o) => match s[i]? with
    | some sl => match reSl sl o with
      | some sl' => .ok d (s.set i sl')
      | none => .bad
    | none => .bad
  | .err x (some o) => match s[i]? with
    | some sl => match reSl sl o with
      | some sl' => .err x (s.set i sl')
      | none => .bad
    | none => .bad
  | _ => .bad
def mCallI (n : Nat) (fn : Fn) (k : Nat) (dd : List D) (mi : M (List D × Nat × List D)) : M D := fun sv => (mi sv).bind fun a s => match s[a.2.1]? with
  | some sl => match slD sl with
    | some d => if a.1.length = k ∧ (a.1 ++ d :: (a.2.2 ++ dd)).length = n then frI (fn (a.1 ++ d :: (a.2.2 ++ dd))) a.2.1 s else .bad
    | none => .bad
  | none => .bad
/-- defaults: values that no heap is asked for -/
def DefOk (K : PySem.W.Frag) (dd : List D) (dvs : List V) : Prop := ∀ F, RpL K F dd dvs
theorem DefOk.nil {K : PySem.W.Frag} : DefOk K [] [] := fun _ => rfl
theorem post_call {g : G} {F H : Hp} {σ : L2.St} {s : SV} {fn : Fn} {ds : List D} {vs : List V} {n : Nat} {ro : Bool} {Rel : G → Hp → Hp → L2.St → SV → D → V → Prop} {Q : VK} (hrel : ∀ F' H' d v, Rl g F' H' σ s → (if ro = true then RelO' g F' H' σ s d v else Rp g.K F' d v) → Rel g F' H' σ s d v)
    (hl : vs.length = n) (rl : Rl g F H σ s) (rp : RpL g.K F ds vs) (q : PostG X.mx g F σ (frR (fn ds) s) W Rel Q) : spV g.K X.mg n none ro fn vs H Q (fun cls dd H' => W cls dd σ H') := by
  refine ⟨hl, F, ds, rl.sub, rp, ?_⟩
  unfold frR at q
  cases hf : fn ds with
  | ok d o =>
    rw [hf] at q
    cases o with
    | none =>
      intro v F' H' e1 e2 kp kf _ _ hr
      have kp' : ∀ a u, H a = some u → H' a = some u := fun a u e => kp a u e (fun z => z)
      have rl' := rl.after e1 e2 kp' kf
      refine q v F' H' e1 rl' (hrel F' H' d v rl' ?_)
      cases ro with
      | false => simpa using hr
      | true =>
        rw [if_pos rfl] at hr
        obtain ⟨p, rfl, o, hn, _⟩ := hr
        rw [if_pos rfl]
        refine ⟨p, rfl, fun a ha => rl.nofx (hn a ha), o, fun a ha i hi => rl.noRef (hn a ha) i (hi.from fun b hb => ?_)⟩
        have := (rl.own hb).2.1
        cases z : H b with
        | none => exact absurd z this
        | some u => exact kp' b u z
    | some _ => exact False.elim q
  | err x o =>
    rw [hf] at q
    cases o with
    | none =>
      intro cls dd F' H' e1 e2 kp kf _ _ er
      exact q cls dd F' H' e1 (rl.after e1 e2 (fun a u e => kp a u e (fun z => z)) kf) er
    | some _ => exact False.elim q
  | bad => rw [hf] at q; exact False.elim q
variable {k n : Nat} {f : Addr} {fd : FuncData} {ps : List Str} {fn : Fn} {dd : List D} {dvs : List V} {ds : List Value} {kk : Nat}
theorem se_call (c : Ctx X W kk) (hkk : k ≤ kk) (Fg : FnG X.prog X.w X.K X.mg X.base k f fd ps (spV X.K X.mg n none false fn)) (hg : Gl X x) (hm : X.mg x = some (.ref f)) (hk : PySem.W.keepIn X.K (.ref f) = true) (hb : Binds X.K fd ps ds) (hd : Vals dvs ds) (hdd : DefOk X.K dd dvs)
    (ha : SA X W (e :: es) ms) (hdb : (x == ("__debug__" : Str)) = false := by decide) (he : starEach (e :: es) X.env = (false, eval e X.env) :: starEach es X.env := by rfl) (hpl : (backTo pos (starEach es X.env)).any (·.1) = false := by rfl) :
    SE X W (.Call (.Name x p) (e :: es) [] pos) (mCall n fn dd ms) := pe_imp (pe_callG Fg c.hg (c.hr.mono hkk) hg hm hk hb hd (fun σ => L2N.passAt c.tk σ) ha hdb he hpl) fun σ H Q q => by
  obtain ⟨g, F, sv, hK, rl, q⟩ := q
  refine ⟨g, F, sv, hK, rl, PostG.bind q fun as s vs F1 H1 e1 rl1 rp1 q1 => ?_⟩
  split at q1
  · rename_i hz
    have rp : RpL g.K F1 (as ++ dd) (vs ++ dvs) := RpL.append rp1 (by rw [hK.1]; exact hdd F1)
    rw [← hK.1]
    exact post_call (fun F' H' d v _ hr => by show Rp g.K F' d v; simpa using hr) (rp.length.symm.trans hz) rl1 rp q1
  · exact False.elim q1
theorem so_call (c : Ctx X W kk) (hkk : k ≤ kk) (Fg : FnG X.prog X.w X.K X.mg X.base k f fd ps (spV X.K X.mg n none true fn)) (hg : Gl X x) (hm : X.mg x = some (.ref f)) (hk : PySem.W.keepIn X.K (.ref f) = true) (hb : Binds X.K fd ps ds) (hd : Vals dvs ds) (hdd : DefOk X.K dd dvs)
    (ha : SA X W (e :: es) ms) (hdb : (x == ("__debug__" : Str)) = false := by decide) (he : starEach (e :: es) X.env = (false, eval e X.env) :: starEach es X.env := by rfl) (hpl : (backTo pos (starEach es X.env)).any (·.1) = false := by rfl) :
    SO X W (.Call (.Name x p) (e :: es) [] pos) (mCall n fn dd ms) := pe_imp (pe_callG Fg c.hg (c.hr.mono hkk) hg hm hk hb hd (fun σ => L2N.passAt c.tk σ) ha hdb he hpl) fun σ H Q q => by
  obtain ⟨g, F, sv, hK, rl, q⟩ := q
  refine ⟨g, F, sv, hK, rl, PostG.bind q fun as s vs F1 H1 e1 rl1 rp1 q1 => ?_⟩
  split at q1
  · rename_i hz
    have rp : RpL g.K F1 (as ++ dd) (vs ++ dvs) := RpL.append rp1 (by rw [hK.1]; exact hdd F1)
    rw [← hK.1]
    refine post_call (fun F' H' d v rl' hr => ?_) (rp.length.symm.trans hz) rl1 rp q1
    rw [if_pos rfl] at hr
    exact hr
  · exact False.elim q1
theorem se_call0 (c : Ctx X W kk) (hkk : k ≤ kk) (Fg : FnG X.prog X.w X.K X.mg X.base k f fd ps (spV X.K X.mg n none false fn)) (hg : Gl X x) (hm : X.mg x = some (.ref f)) (hk : PySem.W.keepIn X.K (.ref f) = true) (hb : Binds X.K fd ps ds) (hd : Vals dvs ds) (hdd : DefOk X.K dd dvs)
    (hdb : (x == ("__debug__" : Str)) = false := by decide) : SE X W (.Call (.Name x p) [] [] pos) (mCall n fn dd mNil) := pe_imp (pe_callG0 Fg c.hg (c.hr.mono hkk) hg hm hk hb hd (fun σ => L2N.passAt c.tk σ) hdb) fun σ H Q q => by
  obtain ⟨g, F, sv, hK, rl, q⟩ := q
  have q : PostG X.mx g F σ (if ([] ++ dd).length = n then frR (fn ([] ++ dd)) sv else .bad) W RelE Q := q
  split at q
  · rename_i hz
    have rp : RpL g.K F ([] ++ dd) ([] ++ dvs) := by rw [hK.1]; exact hdd F
    show spV X.K X.mg n none false fn ([] ++ dvs) H Q _
    rw [← hK.1]
    exact post_call (fun F' H' d v _ hr => by show Rp g.K F' d v; simpa using hr) (rp.length.symm.trans hz) rl rp q
  · exact False.elim q
theorem so_call0 (c : Ctx X W kk) (hkk : k ≤ kk) (Fg : FnG X.prog X.w X.K X.mg X.base k f fd ps (spV X.K X.mg n none true fn)) (hg : Gl X x) (hm : X.mg x = some (.ref f)) (hk : PySem.W.keepIn X.K (.ref f) = true) (hb : Binds X.K fd ps ds) (hd : Vals dvs ds) (hdd : DefOk X.K dd dvs)
    (hdb : (x == ("__debug__" : Str)) = false := by decide) : SO X W (.Call (.Name x p) [] [] pos) (mCall n fn dd mNil) := pe_imp (pe_callG0 Fg c.hg (c.hr.mono hkk) hg hm hk hb hd (fun σ => L2N.passAt c.tk σ) hdb) fun σ H Q q => by
  obtain ⟨g, F, sv, hK, rl, q⟩ := q
  have q : PostG X.mx g F σ (if ([] ++ dd).length = n then frR (fn ([] ++ dd)) sv else .bad) W RelO' Q := q
  split at q
  · rename_i hz
    have rp : RpL g.K F ([] ++ dd) ([] ++ dvs) := by rw [hK.1]; exact hdd F
    show spV X.K X.mg n none true fn ([] ++ dvs) H Q _
    rw [← hK.1]
    refine post_call (fun F' H' d v rl' hr => ?_) (rp.length.symm.trans hz) rl rp q
    rw [if_pos rfl] at hr
    exact hr
  · exact False.elim q
/-- a call that hands over what slot i owns -/
theorem post_callI {g : G} {F H : Hp} {σ : L2.St} {s : SV} {i j : Nat} {sl : Sl} {d0 : D} {ds1 ds2 : List D} {vs1 vs2 : List V} {p : Addr} {ro : Bool} {Rel : G → Hp → Hp → L2.St → SV → D → V → Prop} {Q : VK}
    (hrel : ∀ F' H' s' d v, Rl g F' H' σ s' → (if ro = true then RelO' g F' H' σ s' d v else Rp g.K F' d v) → Rel g F' H' σ s' d v)
    (hl : (vs1 ++ V.ref p :: vs2).length = n) (hj : ds1.length = j) (rl : Rl g F H σ s) (h1 : s[i]? = some sl) (h2 : slD sl = some d0) (hp : σ[i]? = some (some (.ref p))) (o : OwnP g.K F H d0 p) (r1 : RpL g.K F ds1 vs1) (r2 : RpL g.K F ds2 vs2)
    (q : PostG X.mx g F σ (frI (fn (ds1 ++ d0 :: ds2)) i s) W Rel Q) : spV g.K X.mg n (some j) ro fn (vs1 ++ V.ref p :: vs2) H Q (fun cls dd H' => W cls dd σ H') := by
  refine ⟨hl, F, ds1, d0, ds2, vs1, p, vs2, rl.sub, hj, rfl, r1, o, r2, ?_⟩
  have hi : i < s.length := (List.getElem?_eq_some_iff.mp h1).1
  have ref : ∀ a, Ft g.K H d0 p a → Ref g.K H σ s i a := fun a ha => ⟨sl, d0, p, h1, h2, hp, ha⟩
  unfold frI at q
  cases hf : fn (ds1 ++ d0 :: ds2) with
  | ok d oo =>
    rw [hf] at q
    cases oo with
    | none => exact False.elim q
    | some o1 =>
      rw [h1] at q
      dsimp only at q
      obtain ⟨sl', h3⟩ := re_of (d' := o1) h2
      rw [h3] at q
      intro v F' H' e1 e2 kp kf kn ho hr
      obtain ⟨d', ed, o', hf'⟩ := ho p rfl
      cases ed
      have rl' := rl.afterIo h1 h2 h3 hp e1 e2 kp kf kn o' hf'
      refine q v F' H' e1 rl' (hrel F' H' _ d v rl' ?_)
      cases ro with
      | false => simpa using hr
      | true =>
        rw [if_pos rfl] at hr
        obtain ⟨pr, rfl, o, hn, hdj⟩ := hr
        rw [if_pos rfl]
        refine ⟨pr, rfl, fun a ha => rl.nofx (hn a ha), o, fun a ha t ht => ?_⟩
        by_cases hit : i = t
        · subst hit
          obtain ⟨u, e, q, u1, u2, u3, u4⟩ := ht
          rw [List.getElem?_set_self hi] at u1
          cases u1
          rw [hp] at u3; cases u3
          have ee : e = o1 := by
            cases sl with
            | ow d => cases h3; cases u2; rfl
            | io k d => cases h3; cases u2; rfl
            | _ => cases h2
          subst ee
          exact hdj p e rfl rfl a ha u4
        · have h4 : Ref g.K H' σ s t a := by
            obtain ⟨u, e, q, u1, u2, u3, u4⟩ := ht
            rw [List.getElem?_set_ne hit] at u1
            exact ⟨u, e, q, u1, u2, u3, u4⟩
          refine rl.noRef (hn a ha) t (h4.from fun b hb => ?_)
          have := (rl.own hb).2.1
          cases z : H b with
          | none => exact absurd z this
          | some u => exact kp b u z fun zz => hit (rl.dj i t b (ref b zz) hb)
  | err x oo =>
    rw [hf] at q
    cases oo with
    | none => exact False.elim q
    | some o1 =>
      rw [h1] at q
      dsimp only at q
      obtain ⟨sl', h3⟩ := re_of (d' := o1) h2
      rw [h3] at q
      intro cls dd F' H' e1 e2 kp kf kn ho er
      obtain ⟨d', ed, o', hf'⟩ := ho p rfl
      cases ed
      exact q cls dd F' H' e1 (rl.afterIo h1 h2 h3 hp e1 e2 kp kf kn o' hf') er
  | bad => rw [hf] at q; exact False.elim q
theorem se_callI {j : Nat} (c : Ctx X W kk) (hkk : k ≤ kk) (Fg : FnG X.prog X.w X.K X.mg X.base k f fd ps (spV X.K X.mg n (some j) false fn)) (hg : Gl X x) (hm : X.mg x = some (.ref f)) (hk : PySem.W.keepIn X.K (.ref f) = true) (hb : Binds X.K fd ps ds) (hd : Vals dvs ds) (hdd : DefOk X.K dd dvs)
    (ha : SAI X W (e :: es) mi) (hdb : (x == ("__debug__" : Str)) = false := by decide) (he : starEach (e :: es) X.env = (false, eval e X.env) :: starEach es X.env := by rfl) (hpl : (backTo pos (starEach es X.env)).any (·.1) = false := by rfl) :
    SE X W (.Call (.Name x p) (e :: es) [] pos) (mCallI n fn j dd mi) := pe_imp (pe_callG Fg c.hg (c.hr.mono hkk) hg hm hk hb hd (fun σ => L2N.passAt c.tk σ) ha hdb he hpl) fun σ H Q q => by
  obtain ⟨g, F, sv, hK, rl, q⟩ := q
  refine ⟨g, F, sv, hK, rl, PostG.bind q fun a s vs F1 H1 e1 rl1 rp1 q1 => ?_⟩
  obtain ⟨ds1, i, ds2⟩ := a
  obtain ⟨vs1, v, vs2, rfl, r1, hv, r2⟩ := rp1
  dsimp only at q1 hv r1 r2
  split at q1
  · rename_i sl h1
    split at q1
    · rename_i d0 h2
      split at q1
      · rename_i hz
        obtain ⟨p0, e2, o⟩ := rl1.ownAt h1 h2
        have ev : v = .ref p0 := by have := hv.symm.trans e2; simpa using this
        subst ev
        have r2' : RpL g.K F1 (ds2 ++ dd) (vs2 ++ dvs) := RpL.append r2 (by rw [hK.1]; exact hdd F1)
        show spV X.K X.mg n (some j) false fn ((vs1 ++ V.ref p0 :: vs2) ++ dvs) H1 Q _
        rw [List.append_assoc, List.cons_append, ← hK.1]
        refine post_callI (fun F' H' s' d v _ hr => by show Rp g.K F' d v; simpa using hr) ?_ hz.1 rl1 h1 h2 hv o r1 r2' q1
        have := hz.2
        simp only [List.length_append, List.length_cons, r1.length, r2.length, (hdd F1).length] at this ⊢
        omega
      · exact False.elim q1
    · exact False.elim q1
  · exact False.elim q1
theorem so_callI {j : Nat} (c : Ctx X W kk) (hkk : k ≤ kk) (Fg : FnG X.prog X.w X.K X.mg X.base k f fd ps (spV X.K X.mg n (some j) true fn)) (hg : Gl X x) (hm : X.mg x = some (.ref f)) (hk : PySem.W.keepIn X.K (.ref f) = true) (hb : Binds X.K fd ps ds) (hd : Vals dvs ds) (hdd : DefOk X.K dd dvs)
    (ha : SAI X W (e :: es) mi) (hdb : (x == ("__debug__" : Str)) = false := by decide) (he : starEach (e :: es) X.env = (false, eval e X.env) :: starEach es X.env := by rfl) (hpl : (backTo pos (starEach es X.env)).any (·.1) = false := by rfl) :
    SO X W (.Call (.Name x p) (e :: es) [] pos) (mCallI n fn j dd mi) := pe_imp (pe_callG Fg c.hg (c.hr.mono hkk) hg hm hk hb hd (fun σ => L2N.passAt c.tk σ) ha hdb he hpl) fun σ H Q q => by
  obtain ⟨g, F, sv, hK, rl, q⟩ := q
  refine ⟨g, F, sv, hK, rl, PostG.bind q fun a s vs F1 H1 e1 rl1 rp1 q1 => ?_⟩
  obtain ⟨ds1, i, ds2⟩ := a
  obtain ⟨vs1, v, vs2, rfl, r1, hv, r2⟩ := rp1
  dsimp only at q1 hv r1 r2
  split at q1
  · rename_i sl h1
    split at q1
    · rename_i d0 h2
      split at q1
      · rename_i hz
        obtain ⟨p0, e2, o⟩ := rl1.ownAt h1 h2
        have ev : v = .ref p0 := by have := hv.symm.trans e2; simpa using this
        subst ev
        have r2' : RpL g.K F1 (ds2 ++ dd) (vs2 ++ dvs) := RpL.append r2 (by rw [hK.1]; exact hdd F1)
        show spV X.K X.mg n (some j) true fn ((vs1 ++ V.ref p0 :: vs2) ++ dvs) H1 Q _
        rw [List.append_assoc, List.cons_append, ← hK.1]
        refine post_callI (fun F' H' s' d v rl' hr => ?_) ?_ hz.1 rl1 h1 h2 hv o r1 r2' q1
        · rw [if_pos rfl] at hr
          exact hr
        · have := hz.2
          simp only [List.length_append, List.length_cons, r1.length, r2.length, (hdd F1).length] at this ⊢
          omega
      · exact False.elim q1
    · exact False.elim q1
  · exact False.elim q1
end
end VM

set_option Elab.async false
set_option linter.all false
set_option autoImplicit false
set_option maxRecDepth 100000
set_option maxHeartbeats 400000
namespace VM
open PySem PySem.Spec PyProof.Rows L2
theorem takesN0 {X : Cx} : L2N.Takes X (fun _ _ _ _ => False) := fun _ _ ⟨_, _, _, _, _, _, _, _, _, _, _, _, _, _, _, _, z⟩ => False.elim z

/-! ### an owned object is lent for one expression -/
def PuR {α : Type} (sv : SV) : R α → Prop
  | .ok _ s => s = sv
  | .err _ s => s = sv
  | .bad => True
class Pu {α : Type} (m : M α) : Prop where
  h : ∀ sv, PuR sv (m sv)
theorem pu_ok {α : Type} {m : M α} [p : Pu m] {sv s : SV} {a : α} (h : m sv = .ok a s) : s = sv := by
  have := p.h sv
  rw [h] at this
  exact this
theorem pu_err {α : Type} {m : M α} [p : Pu m] {sv s : SV} {x : Exn} (h : m sv = .err x s) : s = sv := by
  have := p.h sv
  rw [h] at this
  exact this
theorem Pu.bind {α β : Type} {m : M α} [Pu m] {k : α → SV → R β} (hk : ∀ a sv, PuR sv (k a sv)) : Pu (fun sv => (m sv).bind k) := ⟨fun sv => by
  cases h : m sv with
  | ok a s =>
    have := pu_ok h
    subst this
    exact hk a s
  | err x s => exact pu_err h
  | bad => trivial⟩
instance pu_c {d : D} : Pu (mC d) := ⟨fun _ => rfl⟩
instance pu_rd {i : Nat} : Pu (mRd i) := ⟨fun sv => by
  unfold mRd
  split
  · rfl
  · trivial⟩
instance pu_2 {f : D → D → Option D} {ma mb : M D} [Pu ma] [Pu mb] : Pu (m2 f ma mb) := Pu.bind fun a sv => (Pu.bind (m := mb) (k := fun b s2 => match f a b with | some d => .ok d s2 | none => .bad) fun b sv => by cases f a b; trivial; rfl).h sv
instance pu_1 {f : D → Option D} {ma : M D} [Pu ma] : Pu (m1 f ma) := Pu.bind fun a sv => by cases f a; trivial; rfl
instance pu_B {m : M D} [Pu m] : Pu (mB m) := Pu.bind fun a sv => by cases a <;> first | rfl | trivial
instance pu_V {m : M Bool} [Pu m] : Pu (mV m) := Pu.bind fun a sv => rfl
instance pu_Not {m : M Bool} [Pu m] : Pu (mNot m) := Pu.bind fun a sv => rfl
instance pu_And {ma mb : M Bool} [Pu ma] [hb : Pu mb] : Pu (mAnd ma mb) := Pu.bind fun a sv => by
  cases a
  · exact rfl
  · exact hb.h sv
instance pu_Or {ma mb : M Bool} [Pu ma] [hb : Pu mb] : Pu (mOr ma mb) := Pu.bind fun a sv => by
  cases a
  · exact hb.h sv
  · exact rfl
instance pu_AndV {ma mb : M D} [Pu ma] [hb : Pu mb] : Pu (mAndV ma mb) := Pu.bind fun a sv => by
  cases a <;> try trivial
  rename_i b
  cases b
  · exact rfl
  · exact hb.h sv
instance pu_OrV {ma mb : M D} [Pu ma] [hb : Pu mb] : Pu (mOrV ma mb) := Pu.bind fun a sv => by
  cases a <;> try trivial
  rename_i b
  cases b
  · exact hb.h sv
  · exact rfl
instance pu_If {t : M Bool} {ma mb : M D} [Pu t] [ha : Pu ma] [hb : Pu mb] : Pu (mIf t ma mb) := Pu.bind fun c sv => by
  cases c
  · exact hb.h sv
  · exact ha.h sv
instance pu_oN : Pu moN := ⟨fun _ => rfl⟩
instance pu_oS {m : M D} [Pu m] : Pu (moS m) := Pu.bind fun a sv => by cases a <;> first | rfl | trivial
instance pu_Sl {m : M D} {ml mh : MO} [Pu m] [Pu ml] [Pu mh] : Pu (mSl m ml mh) := Pu.bind fun d sv => (Pu.bind (m := ml) (k := fun lo s2 => (mh s2).bind fun hi s3 => match dSl d lo hi with | some r => .ok r s3 | none => .bad)
  fun lo sv => (Pu.bind (m := mh) (k := fun hi s3 => match dSl d lo hi with | some r => .ok r s3 | none => .bad) fun hi sv => by cases dSl d lo hi; trivial; rfl).h sv).h sv
instance pu_nil : Pu mNil := ⟨fun _ => rfl⟩
instance pu_cons {m : M D} {ms : M (List D)} [Pu m] [Pu ms] : Pu (mCons m ms) := Pu.bind fun d sv => (Pu.bind (m := ms) (k := fun ds s2 => .ok (d :: ds) s2) fun ds sv => rfl).h sv
instance pu_Tup {ms : M (List D)} [Pu ms] : Pu (mTup ms) := Pu.bind fun ds sv => by split; exact rfl; trivial
instance pu_Lst {ms : M (List D)} [Pu ms] : Pu (mLst ms) := Pu.bind fun ds sv => by split; exact rfl; trivial
instance pu_Call1 {f : List D → Option D} {ms : M (List D)} [Pu ms] : Pu (mCall1 f ms) := Pu.bind fun ds sv => by cases f ds; trivial; rfl
instance pu_Call {n : Nat} {fn : Fn} {dd : List D} {ms : M (List D)} [Pu ms] : Pu (mCall n fn dd ms) := Pu.bind fun ds sv => by
  split
  · unfold frR
    split <;> first | rfl | trivial
  · trivial
instance pu_Items {m : M D} [Pu m] : Pu (mItems m) := Pu.bind fun d sv => by cases itemsD d; trivial; rfl

mutual
def lfree : D → Bool
  | .non => true
  | .bl _ => true
  | .int _ => true
  | .str _ => true
  | .tup xs => lfreeL xs
  | .lst _ => false
  | .fl _ => false
  | .dct _ _ => false
  | .obj _ _ _ => false
  | .deep _ => false
  | .own _ => false
def lfreeL : List D → Bool
  | [] => true
  | d :: ds => lfree d && lfreeL ds
end
mutual
theorem Rp.drop {K : PySem.W.Frag} {F F' : Hp} (h : ∀ a vs, (F a = some (.tup vs) → F' a = some (.tup vs)) ∧ ∀ o, F a = some (.frz o (.tup vs)) → F' a = some (.frz o (.tup vs))) : ∀ (d : D) (v : V), lfree d = true → Rp K F d v → Rp K F' d v
  | .non, _, _, r => r
  | .bl _, _, _, r => r
  | .int _, _, _, r => r
  | .str _, _, _, r => r
  | .tup ds, v, f, r => by
    obtain ⟨a, vs, rfl, h1, h2⟩ := r
    refine ⟨a, vs, rfl, ?_, RpL.dropL h ds vs f h2⟩
    rcases h1 with (h1 | ⟨o, h1⟩) | h1
    · exact .inl (.inl ((h a vs).1 h1))
    · exact .inl (.inr ⟨o, (h a vs).2 o h1⟩)
    · exact .inr h1
  | .lst _, _, f, _ => by cases f
  | .fl _, _, f, _ => by cases f
  | .dct _ _, _, f, _ => by cases f
  | .obj _ _ _, _, f, _ => by cases f
  | .deep _, _, f, _ => by cases f
  | .own _, _, f, _ => by cases f
theorem RpL.dropL {K : PySem.W.Frag} {F F' : Hp} (h : ∀ a vs, (F a = some (.tup vs) → F' a = some (.tup vs)) ∧ ∀ o, F a = some (.frz o (.tup vs)) → F' a = some (.frz o (.tup vs))) : ∀ (ds : List D) (vs : List V), lfreeL ds = true → RpL K F ds vs → RpL K F' ds vs
  | [], vs, _, r => r
  | d :: ds, vs, f, r => by
    obtain ⟨v, u, rfl, h1, h2⟩ := r
    simp only [lfreeL, Bool.and_eq_true] at f
    exact ⟨v, u, rfl, Rp.drop h d v f.1 h1, RpL.dropL h ds u f.2 h2⟩
end
/-- all owned objects but slot i's are out of sight, slot i's is lent -/
def hideS : SV → SV
  | [] => []
  | .un :: r => .un :: hideS r
  | .pl d :: r => .pl d :: hideS r
  | .ow _ :: r => .un :: hideS r
  | .io _ _ :: r => .un :: hideS r
  | .ex _ :: r => .un :: hideS r
def lend (i : Nat) (d : D) (sv : SV) : SV := (hideS sv).set i (.pl d)
theorem hideS_len : ∀ sv, (hideS sv).length = sv.length
  | [] => rfl
  | s :: r => by cases s <;> simp [hideS, hideS_len r]
theorem hideS_get : ∀ (sv : SV) (i : Nat) (s : Sl), (hideS sv)[i]? = some s → s = .un ∨ ∃ d, s = .pl d ∧ sv[i]? = some (.pl d)
  | [], i, s, h => by simp [hideS] at h
  | t :: r, 0, s, h => by cases t <;> simp [hideS] at h <;> subst h <;> simp
  | t :: r, i + 1, s, h => by
    have h' : (hideS r)[i]? = some s := by cases t <;> simpa [hideS] using h
    rcases hideS_get r i s h' with e | ⟨d, e1, e2⟩
    · exact .inl e
    · exact .inr ⟨d, e1, by simpa using e2⟩
def mWith {α : Type} (ok : α → Bool) (i : Nat) (m : M α) : M α := fun sv => match sv[i]? with
  | some sl => match slD sl with
    | some d => match m (lend i (fz d) sv) with
      | .ok r _ => if ok r = true then .ok r sv else .bad
      | _ => .bad
    | none => m sv
  | none => .bad
noncomputable def G.lent (g : G) (F H : Hp) (φ : Addr → Prop) : G := ⟨g.K, H, fun a => H a ≠ none, ovl F H φ, fun _ => none, g.mx⟩
theorem rl_lend {g : G} {F H : Hp} {σ : L2.St} {sv : SV} {i : Nat} {sl : Sl} {d d' : D} {p : Addr} {φ : Addr → Prop} (rl : Rl g F H σ sv) (h1 : sv[i]? = some sl) (h2 : slD sl = some d) (hp : σ[i]? = some (some (.ref p))) (nF : ∀ a, φ a → F a = none) (rp : Rp g.K (ovl F H φ) d' (.ref p)) :
    Rl (g.lent F H φ) (ovl F H φ) H σ (lend i d' sv) := by
  have hi : i < sv.length := (List.getElem?_eq_some_iff.mp h1).1
  refine ⟨fun a o e => ?_, Same.refl H, fun _ _ => rfl, fun _ h => h, fun a o e => (by show H a ≠ none; have e' : H a = some o := e; rw [e']; exact (fun z => nomatch z)), fun k q e => (nomatch e), (by simp [lend, hideS_len, rl.len]), fun j s e => ?_, fun j k q a b => ?_⟩
  · by_cases h : φ a
    · rw [ovl_in h] at e; exact e
    · rw [ovl_out h] at e; exact rl.sub a o e
  · unfold lend at e
    by_cases hj : i = j
    · subst hj
      rw [List.getElem?_set_self (by rw [hideS_len]; exact hi)] at e
      cases e
      exact ⟨_, hp, rp⟩
    · rw [List.getElem?_set_ne hj] at e
      rcases hideS_get sv j s e with rfl | ⟨d', rfl, e2⟩
      · trivial
      · obtain ⟨v, e3, h⟩ := rl.sl j _ e2
        exact ⟨v, e3, Rp.mono (same_ovl nF) _ _ h⟩
  · obtain ⟨s, d0, p0, e1, e2, _⟩ := a
    unfold lend at e1
    by_cases hj : i = j
    · subst hj
      rw [List.getElem?_set_self (by rw [hideS_len]; exact hi)] at e1
      cases e1
      cases e2
    · rw [List.getElem?_set_ne hj] at e1
      rcases hideS_get sv j s e1 with rfl | ⟨d', rfl, _⟩
      · cases e2
      · cases e2
theorem OwnP.ftc {K : PySem.W.Frag} {F H : Hp} {d : D} {p : Addr} (o : OwnP K F H d p) : ∀ {a : Addr}, Ft K H d p a → ∀ vs, H a ≠ some (.tup vs) ∧ ∀ ob, H a ≠ some (.frz ob (.tup vs)) := by
  have key : ∀ {d : D} {p : Addr} {u : HO} {ds : List D} {ws : List V}, H p = some u → Shp K d u ds ws → ∀ vs, H p ≠ some (.tup vs) ∧ ∀ ob, H p ≠ some (.frz ob (.tup vs)) := fun {d p u ds ws} h1 h2 vs => by
    rw [h1]
    cases h2 <;> exact ⟨(fun z => nomatch z), fun ob z => (nomatch z)⟩
  induction o with
  | flat hF hH hs hr =>
    intro a h
    have := h.flat (shp_deep hs)
    subst this
    exact key hH hs
  | deep hF hH hs hl hr hq hk hp hj ih =>
    intro a h
    cases h with
    | here => exact key hH hs
    | kid hH' hs' hd hv h =>
      rw [hH] at hH'; cases hH'
      obtain ⟨rfl, rfl⟩ := hs.uniq hs'
      exact ih _ _ _ hd hv h
theorem post_with {α β : Type} {K : PySem.W.Frag} {mg : MX} {W : WX'} {ok : α → Bool} {Rel : G → Hp → Hp → L2.St → SV → α → β → Prop} {i : Nat} {m : M α} [Pu m] {σ : L2.St} {H : Hp} {Q : β → Hp → Prop}
    (hrel : ∀ (g g1 : G) (F' F'' H' : Hp) (sv sv1 : SV) (a : α) (b : β), g1.K = g.K → ok a = true → (∀ a vs, (F' a = some (.tup vs) → F'' a = some (.tup vs)) ∧ ∀ o, F' a = some (.frz o (.tup vs)) → F'' a = some (.frz o (.tup vs))) → Rel g1 F' H' σ sv1 a b → Rel g F'' H' σ sv a b)
    (h : tG K mg W Rel (mWith ok i m) σ H Q) : tG K mg W Rel m σ H Q := by
  obtain ⟨g, F, sv, hK, rl, q⟩ := h
  unfold mWith at q
  split at q
  · rename_i sl h1
    split at q
    · rename_i d h2
      obtain ⟨p, hp, o⟩ := rl.ownAt h1 h2
      have nF : ∀ a, Ft g.K H d p a → F a = none := fun a ha => (o.ft ha).1
      refine ⟨g.lent F H (Ft g.K H d p), ovl F H (Ft g.K H d p), lend i (fz d) sv, hK, rl_lend rl h1 h2 hp nF o.rep, ?_⟩
      cases hm : m (lend i (fz d) sv) with
      | ok r s =>
        rw [hm] at q
        dsimp only at q
        split at q
        · rename_i hok
          have es := pu_ok hm
          subst es
          intro b F' H' e1 rl1 rel
          have keepF : ∀ a, ¬ Ft g.K H d p a → H a ≠ none → F' a = F a := fun a hap hn => (rl1.kF a hn).trans (ovl_out hap)
          have atp : ∀ a, Ft g.K H d p a → F' a = H a := fun a ha => (rl1.kF a (o.ft ha).2).trans (ovl_in ha)
          have sF : Same F (hole F' (Ft g.K H d p)) := fun a o e => by
            have hap : ¬ Ft g.K H d p a := fun z => by rw [nF a z] at e; cases e
            rw [hole_out hap, keepF a hap (by rw [rl.sub a o e]; exact fun z => nomatch z)]
            exact e
          have sH : Same (hole F' (Ft g.K H d p)) H' := fun a o e => rl1.sub a o (hole_some e).2
          refine q b (hole F' (Ft g.K H d p)) H' sF (rl.after sF sH (fun a o e => rl1.kH a o e) fun a hn => ?_) (hrel g (g.lent F H (Ft g.K H d p)) F' _ H' sv _ r b rfl hok (fun a vs' => ?_) rel)
          · by_cases hap : Ft g.K H d p a
            · rw [hole_in hap, nF a hap]
            · rw [hole_out hap, keepF a hap hn]
          · refine ⟨fun e => ?_, fun ob e => ?_⟩
            · rw [hole_out (fun z => (o.ftc z vs').1 (by rw [← atp a z]; exact e))]; exact e
            · rw [hole_out (fun z => (o.ftc z vs').2 ob (by rw [← atp a z]; exact e))]; exact e
        · exact False.elim q
      | err x s => rw [hm] at q; exact False.elim q
      | bad => rw [hm] at q; exact False.elim q
    · exact ⟨g, F, sv, hK, rl, q⟩
  · exact False.elim q
section
variable {X : Cx} {W : WX'} {e : Expr} {es : List Expr} {i : Nat}
theorem se_with {m : M D} [Pu m] (h : SE X W e m) : SE X W e (mWith lfree i m) := pe_imp h fun σ H Q q => post_with (fun g g1 F' F'' H' sv sv1 a b hK ok hd r => by
  show Rp g.K F'' a b
  rw [← hK]
  exact Rp.drop hd a b ok r) q
theorem st_with {m : M Bool} [Pu m] (h : ST X W e m) : ST X W e (mWith (fun _ => true) i m) := pt_imp h fun σ H Q q => post_with (fun g g1 F' F'' H' sv sv1 a b hK ok hd r => r) q
end

/-! ### list comprehensions -/
def wipeV (sv : SV) : List Nat → SV
  | [] => sv
  | v :: vs => (wipeV sv vs).set v .un
def restV (own : List Nat) (s0 : SV) (s : SV) : SV := match own with
  | [] => s
  | v :: vs => match s0[v]? with
    | some sl => (restV vs s0 s).set v sl
    | none => restV vs s0 s
def ownOk (own : List Nat) (s : SV) : Bool := own.all fun v => match s[v]? with
  | some .un => true
  | some (.pl _) => true
  | _ => false
def lcL (own : List Nat) (t : MT) (mc : M Bool) (me : M D) : List D → SV → List D → R (List D)
  | [], s, acc => .ok acc s
  | d :: ds, s, acc => match t d s with
    | none => .bad
    | some s1 => match mc s1 with
      | .ok false s2 => lcL own t mc me ds (wipeV s2 own) acc
      | .ok true s2 => match me s2 with
        | .ok y s3 => if acc.length < sizeLine then lcL own t mc me ds (wipeV s3 own) (acc ++ [y]) else .bad
        | _ => .bad
      | _ => .bad
theorem lcL_noerr {own : List Nat} {t : MT} {mc : M Bool} {me : M D} : ∀ (ds : List D) (s : SV) (acc : List D) (x : Exn) (s' : SV), lcL own t mc me ds s acc ≠ .err x s'
  | [], _, _, _, _, h => by cases h
  | d :: ds, s, acc, x, s', h => by
    unfold lcL at h
    cases ht : t d s with
    | none => rw [ht] at h; cases h
    | some s1 =>
      rw [ht] at h
      dsimp only at h
      cases hc : mc s1 with
      | err x2 s2 => rw [hc] at h; cases h
      | bad => rw [hc] at h; cases h
      | ok b s2 =>
        rw [hc] at h
        cases b with
        | false => exact lcL_noerr ds _ _ _ _ h
        | true =>
          dsimp only at h
          cases hm : me s2 with
          | err x2 s3 => rw [hm] at h; cases h
          | bad => rw [hm] at h; cases h
          | ok y s3 =>
            rw [hm] at h
            dsimp only at h
            split at h
            · exact lcL_noerr ds _ _ _ _ h
            · cases h
def mLc (own : List Nat) (mi : M (List D)) (t : MT) (mc : M Bool) (me : M D) : M D := fun sv => (mi sv).bind fun ds s => if ownOk own s = true then (lcL own t mc me ds (wipeV s own) []).bind fun acc s' => .ok (.lst acc) (restV own s s') else .bad
def mYes : M Bool := fun sv => .ok true sv
abbrev STs (X : Cx) (W : WX') (ifs : List Expr) (m : M Bool) : Prop := PTs X ifs (tT X.K X.mx W m)
theorem pts_imp {X : Cx} {ifs : List Expr} {t t' : TT} (h : PTs X ifs t) (k : ∀ σ H Q, t' σ H Q → t σ H Q) : PTs X ifs t' := ⟨fun pins s σ H Q I q => h.run pins s σ H Q I (k σ H Q q)⟩
theorem sts_nil {X : Cx} {W : WX'} : STs X W [] mYes := pts_imp pts_nil fun σ H Q q => by
  obtain ⟨g, F, sv, hK, rl, q⟩ := q
  exact q true F H (Same.refl F) rl rfl
theorem sts_one {X : Cx} {W : WX'} {c : Expr} {m : M Bool} (h : ST X W c m) : STs X W [c] m := pts_one h
abbrev WF : WX' := fun _ _ _ _ => False
theorem Ctx.blk {X : Cx} {W : WX'} {k : Nat} (c : Ctx X W k) (s : Shared) (H : Hp) (scope : Scope) (cenv : Env) (fp : List Addr) : Ctx (X.blk s H scope cenv fp) WF k := ⟨takesN0, c.hr, c.hg, PassesOwn.never⟩

section
variable {g : G} {F H : Hp} {σ : L2.St} {sv : SV}
theorem wipeV_len (sv : SV) : ∀ vs, (wipeV sv vs).length = sv.length
  | [] => rfl
  | v :: vs => by simp [wipeV, wipeV_len sv vs]
theorem wipe_get (σ : L2.St) (j : Nat) : ∀ vs, j ∉ vs → (wipe σ vs)[j]? = σ[j]?
  | [], _ => rfl
  | v :: vs, h => by
    unfold wipe
    rw [List.getElem?_set_ne (fun z => h (by simp [z])), wipe_get σ j vs (fun z => h (List.mem_cons_of_mem _ z))]
theorem wipeV_get (sv : SV) (j : Nat) : ∀ vs, j ∉ vs → (wipeV sv vs)[j]? = sv[j]?
  | [], _ => rfl
  | v :: vs, h => by
    unfold wipeV
    rw [List.getElem?_set_ne (fun z => h (by simp [z])), wipeV_get sv j vs (fun z => h (List.mem_cons_of_mem _ z))]
theorem wipeV_in (sv : SV) (j : Nat) (s : Sl) : ∀ vs, j ∈ vs → (wipeV sv vs)[j]? = some s → s = .un
  | v :: vs, h, e => by
    unfold wipeV at e
    by_cases hj : v = j
    · subst hj
      obtain ⟨hl, e2⟩ := List.getElem?_eq_some_iff.mp e
      rw [List.getElem?_set_self (by simpa using hl)] at e
      exact (Option.some.inj e).symm
    · rw [List.getElem?_set_ne hj] at e
      exact wipeV_in sv j s vs (by rcases List.mem_cons.mp h with z | z; exact absurd z.symm hj; exact z) e
theorem Rl.wiped (r : Rl g F H σ sv) (vs : List Nat) : Rl g F H (wipe σ vs) (wipeV sv vs) := r.sight (wipe_length _ _) (wipeV_len _ _) fun j s e => by
  by_cases hj : j ∈ vs
  · exact .inl (wipeV_in sv j s vs hj e)
  · rw [wipeV_get sv j vs hj] at e
    exact .inr ⟨e, wipe_get σ j vs hj⟩
theorem wipe_agree {is own : List Nat} {σ σ' : L2.St} (a : Agree is (wipe σ own) σ') (h : ∀ i ∈ is, i ∈ own) : wipe σ' own = wipe σ own := by
  apply List.ext_getElem?
  intro j
  by_cases hj : j ∈ own
  · -- both forgotten
    have key : ∀ (τ : L2.St) (vs : List Nat), j ∈ vs → (wipe τ vs)[j]? = if j < τ.length then some none else none := fun τ vs => by
      induction vs with
      | nil => intro z; cases z
      | cons v vs ih =>
        intro z
        unfold wipe
        by_cases hv : v = j
        · subst hv
          by_cases hl : v < τ.length
          · rw [List.getElem?_set_self (by rw [wipe_length]; exact hl), if_pos hl]
          · rw [if_neg hl, List.getElem?_eq_none (by rw [List.length_set, wipe_length]; omega)]
        · rw [List.getElem?_set_ne hv]
          exact ih (by rcases List.mem_cons.mp z with z | z; exact absurd z.symm hv; exact z)
    rw [key _ _ hj, key _ _ hj, a.1, wipe_length]
  · rw [wipe_get _ _ _ hj, a.2 j fun z => hj (h j z)]
theorem restV_len (own : List Nat) (s0 s : SV) : (restV own s0 s).length = s.length := by
  induction own with
  | nil => rfl
  | cons v vs ih =>
    unfold restV
    cases s0[v]? with
    | none => exact ih
    | some sl => simp [ih]
theorem restV_get (own : List Nat) (s0 s : SV) (j : Nat) (t : Sl) (h : (restV own s0 s)[j]? = some t) : (j ∉ own ∧ s[j]? = some t) ∨ (j ∈ own ∧ s0[j]? = some t) ∨ (s0[j]? = none ∧ s[j]? = some t) := by
  induction own with
  | nil => exact .inl ⟨by simp, h⟩
  | cons v vs ih =>
    unfold restV at h
    cases e : s0[v]? with
    | none =>
      rw [e] at h
      rcases ih h with ⟨h1, h2⟩ | ⟨h1, h2⟩ | ⟨h1, h2⟩
      · by_cases hv : j = v
        · subst hv
          exact .inr (.inr ⟨e, h2⟩)
        · exact .inl ⟨by simp [hv, h1], h2⟩
      · exact .inr (.inl ⟨List.mem_cons_of_mem _ h1, h2⟩)
      · exact .inr (.inr ⟨h1, h2⟩)
    | some sl =>
      rw [e] at h
      by_cases hv : v = j
      · subst hv
        obtain ⟨hl, _⟩ := List.getElem?_eq_some_iff.mp h
        rw [List.getElem?_set_self (by simpa using hl)] at h
        cases h
        exact .inr (.inl ⟨by simp, e⟩)
      · rw [List.getElem?_set_ne hv] at h
        rcases ih h with ⟨h1, h2⟩ | ⟨h1, h2⟩ | ⟨h1, h2⟩
        · exact .inl ⟨by simp [Ne.symm hv, h1], h2⟩
        · exact .inr (.inl ⟨List.mem_cons_of_mem _ h1, h2⟩)
        · exact .inr (.inr ⟨h1, h2⟩)
/-- an object that no slot has is kept through an expression -/
def G.keep (g : G) (p : Addr) (u : HO) : G := ⟨g.K, upd g.pH p u, fun a => g.fx a ∨ a = p, fun a => if a = p then none else g.F0 a, g.io, g.mx⟩
theorem Rl.keepG (r : Rl g F H σ sv) {p : Addr} {u : HO} (nf : ¬ g.fx p) (nF : F p = none) (hH : H p = some u) (nr : ∀ i, ¬ Ref g.K H σ sv i p) : Rl (g.keep p u) F H σ sv := by
  refine ⟨r.sub, fun a o e => ?_, fun a ha => ?_, fun a ha => ?_, fun a o e => ?_, fun k q e => ?_, r.len, fun i s e => ?_, r.dj⟩
  · have e : upd g.pH p u a = some o := e
    by_cases h : a = p
    · subst h; rw [upd_same] at e; rw [hH]; exact e
    · rw [upd_ne h] at e; exact r.kH a o e
  · show F a = if a = p then none else g.F0 a
    by_cases h : a = p
    · rw [if_pos h, h, nF]
    · rw [if_neg h]
      rcases ha with ha | ha
      · exact r.kF a ha
      · exact absurd ha h
  · rcases ha with ha | ha
    · exact r.fxH a ha
    · rw [ha, hH]; exact fun z => nomatch z
  · have e : upd g.pH p u a = some o := e
    show g.fx a ∨ a = p
    by_cases h : a = p
    · exact .inr h
    · rw [upd_ne h] at e; exact .inl (r.pf a o e)
  · obtain ⟨h1, h2⟩ := r.ion k q e
    have hq : q ≠ p := fun z => nf (z ▸ h2)
    exact ⟨(upd_ne hq).trans h1, .inl h2⟩
  · have q := r.sl i s e
    cases s with
    | un => trivial
    | ex x => exact q
    | pl d => exact q
    | ow d =>
      obtain ⟨q', e1, nf', o'⟩ := q
      refine ⟨q', e1, fun a ha z => ?_, o'⟩
      rcases z with z | z
      · exact nf' a ha z
      · subst z; exact nr i ⟨_, d, q', e, rfl, e1, ha⟩
    | io k d =>
      obtain ⟨q', e1, hk, np, o'⟩ := q
      refine ⟨q', e1, hk, fun a ha => ?_, o'⟩
      have hne : a ≠ p := fun z => by subst z; exact nr i ⟨_, d, q', e, rfl, e1, ha⟩
      exact (upd_ne hne).trans (np a ha)
/-- .. and may then be changed -/
theorem Rl.unkeep {p : Addr} {u u' : HO} (r : Rl (g.keep p u) F H σ sv) (nf : ¬ g.fx p) (nF0 : ∀ a, g.fx a → a ≠ p) (npH : g.pH p = none) : F p = none ∧ H p = some u ∧ Rl g F (upd H p u') σ sv ∧ ∀ i, ¬ Ref g.K (upd H p u') σ sv i p := by
  have hF : F p = none := (r.kF p (.inr rfl)).trans (if_pos rfl)
  have hH : H p = some u := r.kH p u upd_same
  have nr : ∀ i, ¬ Ref g.K H σ sv i p := fun i hi => by
    have := (r.own hi).2.2
    have h2 : upd g.pH p u p = none := this
    rw [upd_same] at h2
    cases h2
  have ne : ∀ i a, Ref g.K H σ sv i a → upd H p u' a = H a := fun i a h => upd_ne fun z => by subst z; exact nr i h
  have r1 : Rl g F H σ sv := by
    refine ⟨r.sub, fun a o e => ?_, fun a ha => ?_, fun a ha => r.fxH a (.inl ha), fun a o e => ?_, fun k q e => ?_, r.len, fun i s e => ?_, r.dj⟩
    · have hap : a ≠ p := fun z => by rw [z, npH] at e; cases e
      exact r.kH a o ((upd_ne hap).trans e)
    · exact (r.kF a (.inl ha)).trans (if_neg (nF0 a ha))
    · have hap : a ≠ p := fun z => by rw [z, npH] at e; cases e
      rcases r.pf a o ((upd_ne hap).trans e) with z | z
      · exact z
      · exact absurd z hap
    · obtain ⟨h1, h2⟩ := r.ion k q e
      rcases h2 with h2 | h2
      · exact ⟨(upd_ne (nF0 q h2)).symm.trans h1, h2⟩
      · have h1 : upd g.pH p u q = none := h1
        rw [h2, upd_same] at h1
        cases h1
    · have q := r.sl i s e
      cases s with
      | un => trivial
      | ex x => exact q
      | pl d => exact q
      | ow d =>
        obtain ⟨q', e1, nf', o'⟩ := q
        exact ⟨q', e1, fun a ha z => nf' a ha (.inl z), o'⟩
      | io k d =>
        obtain ⟨q', e1, hk, np, o'⟩ := q
        refine ⟨q', e1, hk, fun a ha => ?_, o'⟩
        have hne : a ≠ p := fun z => by subst z; exact nr i ⟨_, d, q', e, rfl, e1, ha⟩
        exact (upd_ne hne).symm.trans (np a ha)
  refine ⟨hF, hH, r1.move (fun a o e => ?_) (fun a o e => ?_) (fun _ _ => rfl) (fun a ha => ?_) (Same.refl F) (fun i a h => (r1.own h).1) ne, fun i hi => nr i (hi.from (ne i))⟩
  · rw [upd_ne (fun z => by rw [z, hF] at e; cases e)]; exact r.sub a o e
  · have hap : a ≠ p := fun z => by rw [z, npH] at e; cases e
    rw [upd_ne hap]; exact r1.kH a o e
  · rw [upd_ne (nF0 a ha)]; exact r1.fxH a ha
end
theorem h4w {K : PySem.W.Frag} {H : Hp} {σ4 σ : L2.St} {ow : List Nat} {s : SV} {p : Addr} {j : Nat} (h : ∀ i, ¬ Ref K H σ4 s i p) (ew : wipe σ4 ow = wipe σ ow) (hj : Ref K H (wipe σ ow) (wipeV s ow) j p) : False := by
  obtain ⟨t, d, q, e1, e2, e3, e4⟩ := hj
  by_cases hm : j ∈ ow
  · have := wipeV_in s j t ow hm e1
    subst this
    cases e2
  · rw [wipeV_get s j ow hm] at e1
    rw [← ew, wipe_get σ4 j ow hm] at e3
    exact h j ⟨t, d, q, e1, e2, e3, e4⟩
/-- a new, owned list beside the frame -/
structure Side (g : G) (F H : Hp) (σ : L2.St) (sv : SV) (p : Addr) (acc : List D) : Prop where
  nf : ¬ g.fx p
  nF : F p = none
  at_ : ∃ vs, H p = some (.lst vs) ∧ RpL g.K F acc vs
  nr : ∀ i, ¬ Ref g.K H σ sv i p
theorem Side.nP {g : G} {F H : Hp} {σ : L2.St} {sv : SV} {p : Addr} {acc : List D} (s : Side g F H σ sv p acc) (r : Rl g F H σ sv) : g.pH p = none := by
  cases h : g.pH p with
  | none => rfl
  | some o => exact absurd (r.pf p o h) s.nf

section
variable {X : Cx} {W : WX'} {elt tg iter : Expr} {ifs : List Expr} {scope : Scope} {own : List (Str × Nat)} {pos : Pos} {mi : M (List D)} {is : List Nat} {t : MT} {mc : M Bool} {me : M D}
theorem lc_turns {g : G} (hMx : g.mx = X.mx) {J : It} {ds : List D} {σ : L2.St} {F1 : Hp} {p : Addr} {Q : VK} {ow : List Nat} (his : ∀ i ∈ is, i ∈ ow) (ok : ItOk g.K F1 ds J) {fin : List D → SV → Prop}
    (hfin : ∀ F2 H2 s2 acc, Same F1 F2 → Rl g F2 H2 (wipe σ ow) s2 → Side g F2 H2 (wipe σ ow) s2 p acc → fin acc s2 → Q (.ref p) H2) {H1 : Hp} {s1 : SV} (rl1 : Rl g F1 H1 (wipe σ ow) s1) (sd1 : Side g F1 H1 (wipe σ ow) s1 p [])
    (q : match lcL ow t mc me ds s1 [] with | .ok acc s => fin acc s | _ => False) :
    ∃ Wi : Nat → Nat → Hp → Prop, (∃ m, Wi 0 m H1) ∧ ∀ i m H, Wi i m H → (J.stop i H ∧ Q (.ref p) H) ∨ (J.go i H ∧ ∃ Nx : Hp → Prop, (∀ H', Nx H' → ∃ m', m' < m ∧ Wi (i + 1) m' H') ∧ ∀ x H', J.yld i H x H' →
      tGt g.K is t x (wipe σ ow) H' fun σ2 H2 => wipe σ2 ow = wipe σ ow ∧ tT g.K X.mx WF mc σ2 H2 fun b H3 => if b = true then tE g.K X.mx WF me σ2 H3 fun y H4 => ∃ acc, H4 p = some (.lst acc) ∧ acc.length < sizeLine ∧ Nx (upd H4 p (.lst (acc ++ [y]))) else Nx H3) := by
  refine ⟨fun i m H => m = ds.length - i ∧ i ≤ ds.length ∧ ∃ F2 s2 acc, Same F1 F2 ∧ Rl g F2 H (wipe σ ow) s2 ∧ Side g F2 H (wipe σ ow) s2 p acc ∧ (match lcL ow t mc me (ds.drop i) s2 acc with | .ok acc s => fin acc s | _ => False),
    ⟨ds.length, by simp, Nat.zero_le _, F1, s1, [], Same.refl F1, rl1, sd1, q⟩, ?_⟩
  rintro i m H ⟨rfl, hi, F2, s2, acc, e2, rl2, sd2, q2⟩
  have sH : Same F1 H := e2.trans rl2.sub
  by_cases hlt : i < ds.length
  · have hd : ds[i]? = some ds[i] := List.getElem?_eq_getElem hlt
    rw [List.drop_eq_getElem_cons hlt] at q2
    unfold lcL at q2
    refine .inr ⟨ok.go i H hlt sH, fun H => ∃ F2 s2 acc, Same F1 F2 ∧ Rl g F2 H (wipe σ ow) s2 ∧ Side g F2 H (wipe σ ow) s2 p acc ∧ (match lcL ow t mc me (ds.drop (i + 1)) s2 acc with | .ok acc s => fin acc s | _ => False),
      fun H' hN => ⟨ds.length - (i + 1), by omega, rfl, hlt, hN⟩, fun x H' hy => ?_⟩
    obtain ⟨vs, hv, rv⟩ := sd2.at_
    have npH := sd2.nP rl2
    have nF0 : ∀ a, g.fx a → a ≠ p := fun a h z => sd2.nf (z ▸ h)
    have rk := rl2.keepG sd2.nf sd2.nF hv sd2.nr
    -- the item
    have item : ∃ F3, Same F2 F3 ∧ Rl (g.keep p (.lst vs)) F3 H' (wipe σ ow) s2 ∧ Rp g.K F3 ds[i] x := by
      rcases ok.yld i _ x H H' hd sH hy with ⟨rfl, hr⟩ | ⟨T, us, es, ed, rfl, hT, rfl, hr⟩
      · exact ⟨F2, Same.refl F2, rk, Rp.mono e2 _ _ hr⟩
      · have sF : Same F2 (upd F2 T (.tup us)) := same_upd (rl2.sub.free hT)
        refine ⟨_, sF, rk.lay hT, ?_⟩
        rw [ed]
        exact ⟨T, us, rfl, .inl (.inl upd_same), RpL.mono (e2.trans sF) _ _ hr⟩
    obtain ⟨F3, e3, rl3, rp3⟩ := item
    cases ht : t ds[i] s2 with
    | none => rw [ht] at q2; exact False.elim q2
    | some s3 =>
      rw [ht] at q2
      dsimp only at q2
      refine ⟨g.keep p (.lst vs), F3, s2, ds[i], s3, rfl, rl3, rp3, ht, fun σ4 rl4 ag => ?_⟩
      have ew : wipe σ4 ow = wipe σ ow := wipe_agree ag his
      refine ⟨ew, g.keep p (.lst vs), F3, s3, ⟨rfl, hMx⟩, rl4, ?_⟩
      cases hc : mc s3 with
      | err x' s => rw [hc] at q2; exact False.elim q2
      | bad => rw [hc] at q2; exact False.elim q2
      | ok b s =>
        rw [hc] at q2
        intro b' F5 H5 e5 rl5 eb
        cases eb
        cases b with
        | false =>
          have q2 : match lcL ow t mc me (ds.drop (i + 1)) (wipeV s ow) acc with | .ok acc s => fin acc s | _ => False := q2
          obtain ⟨h1, h2, h3, h4⟩ := rl5.unkeep (u' := .lst vs) sd2.nf nF0 npH
          have hu : upd H5 p (.lst vs) = H5 := by
            funext a
            by_cases ha : a = p
            · rw [ha, upd_same, h2]
            · exact upd_ne ha
          rw [hu] at h3 h4
          have h3w := h3.wiped ow
          rw [ew] at h3w
          show ∃ F2 s2 acc, _
          refine ⟨F5, wipeV s ow, acc, (e2.trans e3).trans e5, h3w, ⟨sd2.nf, h1, ⟨vs, h2, RpL.mono (e3.trans e5) _ _ rv⟩, fun j hj => ?_⟩, q2⟩
          exact h4w h4 ew hj
        | true =>
          have q2 : match (match me s with | .ok y s3 => if acc.length < sizeLine then lcL ow t mc me (ds.drop (i + 1)) (wipeV s3 ow) (acc ++ [y]) else .bad | _ => .bad) with | .ok acc s => fin acc s | _ => False := q2
          refine ⟨g.keep p (.lst vs), F5, s, ⟨rfl, hMx⟩, rl5, ?_⟩
          cases hme : me s with
          | err x' s' => rw [hme] at q2; exact False.elim q2
          | bad => rw [hme] at q2; exact False.elim q2
          | ok y s' =>
            rw [hme] at q2
            dsimp only at q2
            by_cases hz : acc.length < sizeLine
            · rw [if_pos hz] at q2
              intro v F6 H6 e6 rl6 rp6
              obtain ⟨h1, h2, h3, h4⟩ := rl6.unkeep (u' := .lst (vs ++ [v])) sd2.nf nF0 npH
              have h3w := h3.wiped ow
              rw [ew] at h3w
              refine ⟨vs, h2, by rw [← rv.length]; exact hz, F6, wipeV s' ow, acc ++ [y], ((e2.trans e3).trans e5).trans e6, h3w, ⟨sd2.nf, h1, ⟨_, upd_same, (RpL.mono ((e3.trans e5).trans e6) _ _ rv).append (RpL.one rp6)⟩, fun j hj => h4w h4 ew hj⟩, q2⟩
            · rw [if_neg hz] at q2
              exact False.elim q2
  · have e : i = ds.length := by omega
    subst e
    rw [List.drop_length] at q2
    exact .inl ⟨ok.stop H sH, hfin F2 H s2 acc e2 rl2 sd2 q2⟩
/-- the own names are seen again -/
theorem rl_restore {g : G} {F1 H1 F2 H2 : Hp} {σ : L2.St} {ow : List Nat} {s s2 : SV} (rl1 : Rl g F1 H1 σ s) (ho : ownOk ow s = true) (e : Same F1 F2) (rl2 : Rl g F2 H2 (wipe σ ow) s2) : Rl g F2 H2 σ (restV ow s s2) := by
  have hl : s2.length = s.length := by rw [rl2.len, wipe_length, rl1.len]
  have slot : ∀ j tt, (restV ow s s2)[j]? = some tt → (j ∉ ow ∧ s2[j]? = some tt) ∨ (s[j]? = some tt ∧ (tt = .un ∨ ∃ d, tt = .pl d)) := fun j tt h => by
    rcases restV_get ow s s2 j tt h with z | ⟨h1, h2⟩ | ⟨h1, h2⟩
    · exact .inl z
    · refine .inr ⟨h2, ?_⟩
      have := List.all_eq_true.mp ho j h1
      rw [h2] at this
      cases tt with
      | un => exact .inl rfl
      | pl d => exact .inr ⟨d, rfl⟩
      | _ => cases this
    · obtain ⟨z, _⟩ := List.getElem?_eq_some_iff.mp h2
      have := List.getElem?_eq_none_iff.mp h1
      omega
  have rr : ∀ j p, Ref g.K H2 σ (restV ow s s2) j p → Ref g.K H2 (wipe σ ow) s2 j p := fun j p ⟨tt, d, q, e1, e2, e3, e4⟩ => by
    rcases slot j tt e1 with ⟨h1, h2⟩ | ⟨_, rfl | ⟨d, rfl⟩⟩
    · exact ⟨tt, d, q, h2, e2, by rw [wipe_get σ j ow h1]; exact e3, e4⟩
    · cases e2
    · cases e2
  refine ⟨rl2.sub, rl2.kH, rl2.kF, rl2.fxH, rl2.pf, rl2.ion, by rw [restV_len, hl, rl1.len], fun j tt h => ?_, fun i j p a b => rl2.dj i j p (rr _ _ a) (rr _ _ b)⟩
  rcases slot j tt h with ⟨h1, h2⟩ | ⟨h1, rfl | ⟨d, rfl⟩⟩
  · have := rl2.sl j tt h2
    rw [wipe_get σ j ow h1] at this
    exact this
  · trivial
  · obtain ⟨v, e1, hv⟩ := rl1.sl j _ h1
    exact ⟨v, e1, Rp.mono e d v hv⟩
theorem blk_mx (hc : X.calm = true) (s : Shared) (H : Hp) (sc : Scope) (ce : Env) (fp : List Addr) : (X.blk s H sc ce fp).mx = X.mx := by
  unfold L2.Cx.mx
  show MX.mk X.mg (if X.calm = true then none else _) = _
  rw [if_pos hc, if_pos hc]
theorem lc_read {σ : L2.St} {H : Hp} {Q : VK} {ow : List Nat} (his : ∀ i ∈ is, i ∈ ow) (q : tO X.K X.mx W (mLc ow mi t mc me) σ H Q) : tLc (tG X.K X.mx W RelI mi) (tGt X.K is t) (tT X.K X.mx WF mc) (tE X.K X.mx WF me) ow σ H Q := by
  obtain ⟨g, F, sv, hK, rl, q⟩ := q
  refine ⟨g, F, sv, hK, rl, PostG.bind q fun ds s J F1 H1 e1 rl1 ok1 q1 p hp => ?_⟩
  by_cases ho : ownOk ow s = true
  · rw [if_pos ho] at q1
    rw [← hK.1]
    have rlo : Rl g F1 (upd H1 p (.lst [])) (wipe σ ow) (wipeV s ow) := (rl1.layO hp).wiped ow
    refine lc_turns (g := g) hK.2 (fin := fun acc s' => PostG X.mx g F1 σ (.ok (.lst acc) (restV ow s s')) W RelO' Q) his ok1 (fun F2 H2 s2 acc e2 rl2 sd hf => ?_) rlo ⟨rl1.nofx hp, rl1.sub.free hp, ⟨[], upd_same, rfl⟩, fun j hj => ?_⟩ ?_
    · have rl3 := rl_restore rl1 ho e2 rl2
      obtain ⟨vs, hv, rv⟩ := sd.at_
      have ef : ∀ a, Ft g.K H2 (.lst acc) p a → a = p := fun a ha => ha.flat fun e z => nomatch z
      refine hf _ F2 H2 e2 rl3 ⟨p, rfl, fun a ha => by rw [ef a ha]; exact sd.nf, .lst sd.nF hv rv, fun a ha j hj => ?_⟩
      rw [ef a ha] at hj
      obtain ⟨tt, d0, q0, a1, a2, a3, a4⟩ := hj
      rcases restV_get ow s s2 j tt a1 with ⟨b1, b2⟩ | ⟨b1, b2⟩ | ⟨b1, b2⟩
      · exact sd.nr j ⟨tt, d0, q0, b2, a2, by rw [wipe_get σ j ow b1]; exact a3, a4⟩
      · have := List.all_eq_true.mp ho j b1
        rw [b2] at this
        cases tt <;> first | (cases a2; done) | (cases this; done)
      · obtain ⟨z, _⟩ := List.getElem?_eq_some_iff.mp b2
        have := List.getElem?_eq_none_iff.mp b1
        have := rl2.len
        rw [wipe_length, ← rl1.len] at this
        omega
    · exact h4w (fun i hi => rl1.noRef hp i (hi.from fun b hb => upd_ne fun z => by subst z; exact rl1.noRef hp i hb)) rfl hj
    · revert q1
      cases hL : lcL ow t mc me ds (wipeV s ow) [] with
      | ok acc s' => exact fun q => q
      | err x s' => exact absurd hL (lcL_noerr ds _ _ _ _)
      | bad => exact fun q => q
  · rw [if_neg ho] at q1
    exact False.elim q1
theorem so_lc (hc : X.calm = true) (hN : X.N.Nodup) (hi : SI X W tg iter mi) (ok : BlkOk X.N X.env.scope scope own) (his : ∀ i ∈ is, i ∈ own.map (·.2))
    (hg : ∀ (s : Shared) (H : Hp) (C : Addr) (cl : List (Str × Addr)) (fp : List Addr), SG (X.blk s H scope (compEnvC scope cl C X.env) fp) tg is t)
    (ht : ∀ (s : Shared) (H : Hp) (C : Addr) (cl : List (Str × Addr)) (fp : List Addr), STs (X.blk s H scope (compEnvC scope cl C X.env) fp) WF ifs mc)
    (he : ∀ (s : Shared) (H : Hp) (C : Addr) (cl : List (Str × Addr)) (fp : List Addr), SE (X.blk s H scope (compEnvC scope cl C X.env) fp) WF elt me) (hs : ∀ x, foldedSetIterable iter X.env x = pure x := by intro _; rfl) :
    SO X W (.ListComp elt [⟨tg, iter, ifs, 0⟩] scope pos) (mLc (own.map (·.2)) mi t mc me) := pe_imp (pe_lc hc hN hi ok hg (tt := tT X.K X.mx WF mc) (te := tE X.K X.mx WF me) (fun s H C cl fp => by have z := ht s H C cl fp; unfold STs at z; rw [blk_mx hc] at z; exact z) (fun s H C cl fp => by have z := he s H C cl fp; unfold SE at z; rw [blk_mx hc] at z; exact z) hs) fun σ H Q q => by
  exact lc_read his q
theorem lc_set {i : Nat} {y : Str} {py : Pos} {spos : Pos} (h : PS X (.Assign [.Name y py] (.ListComp elt [⟨tg, iter, ifs, 0⟩] scope pos) spos) (tAsg (tLc (tG X.K X.mx W RelI mi) (tGt X.K is t) (tT X.K X.mx WF mc) (tE X.K X.mx WF me) (own.map (·.2))) (gName i)))
    (his : ∀ i ∈ is, i ∈ own.map (·.2)) : SS X W (.Assign [.Name y py] (.ListComp elt [⟨tg, iter, ifs, 0⟩] scope pos) spos) (mAsgO i (mLc (own.map (·.2)) mi t mc me)) := ps_imp h fun Dn σ H q => by
  obtain ⟨g, F, sv, hK, rl, q⟩ := q
  refine lc_read (X := X) (W := W) his ⟨g, F, sv, hK, rl, PostS.bind (H := H) q fun d s v F1 H1 e1 rl1 rp1 h1 => ?_⟩
  obtain ⟨p, rfl, nf, o, nr⟩ := rp1
  exact h1 _ F1 H1 (Same.refl F1) (rl1.setOw i nf o nr)
end
end VM

set_option Elab.async false
set_option linter.all false
set_option autoImplicit false
set_option maxRecDepth 100000
set_option maxHeartbeats 400000
namespace VM
open PySem PySem.Spec PyProof.Rows L2

/-! ### calls with keywords -/
section
variable {X : Cx} {W : WX'} {k n kk : Nat} {f : Addr} {fd : FuncData} {ps ks : List Str} {fn : Fn} {x : Str} {p pos kpos : Pos} {e : Expr} {es : List Expr} {kws : List Keyword} {m : M D} {ms mk : M (List D)} {g : List Value → List Value → List Value} {gV : List V → List V → List V} {nm : Option Str}
abbrev SK (X : Cx) (W : WX') (kws : List Keyword) (m : M (List D)) : Prop := PK X kws (tG X.K X.mx W RelL m)
theorem pk_imp {t t' : TA} (h : PK X kws t) (k : ∀ σ H Q, t' σ H Q → t σ H Q) : PK X kws t' := ⟨fun p pins s σ H Q I q => h.run p pins s σ H Q I (k σ H Q q)⟩
theorem sk_nil : SK X W [] mNil := pk_imp pk_nil fun σ H Q q => by
  obtain ⟨g, F, sv, hK, rl, q⟩ := q
  exact q [] F H (Same.refl F) rl rfl
theorem sk_cons (ha : SE X W e m) (hr : SK X W kws ms) : SK X W (⟨nm, e, kpos⟩ :: kws) (mCons m ms) := pk_imp (pk_cons ha hr) fun σ H Q q => by
  obtain ⟨g, F, sv, hK, rl, q⟩ := q
  refine ⟨g, F, sv, hK, rl, PostG.bind q fun d s1 x F1 H1 e1 rl1 rp1 h1 => ?_⟩
  refine ⟨g, F1, s1, hK, rl1, PostG.bind h1 fun ds s2 xs F2 H2 e2 rl2 rp2 h2 => ?_⟩
  exact h2 _ F2 H2 (Same.refl F2) rl2 ⟨x, xs, rfl, Rp.mono e2 _ _ rp1, rp2⟩
def tCallKG (sp : Sp) (gV : List V → List V → List V) (E : L2.St → XK) (t tk : TA) : TE := fun σ H Q => t σ H fun vs H1 => tk σ H1 fun zs H2 => sp (gV vs zs) H2 Q (E σ)
theorem run_kw {sp : Sp} {E : L2.St → XK} {pins : List (Addr × Obj)} {σ : L2.St} {H : Hp} {s : Shared} {Q : VK} {us ws : List Value} {vs zs : List V} (F : FnG X.prog X.w X.K X.mg X.base k f fd ps sp) (hgd : X.A.guards = some []) (hr : Room k X.A) (hb : KBinds X.K fd ps ks g gV) (hx : ∀ σ, PassesAt (L2N.CX X.prog X.w) X σ (E σ))
    (I : Inv X pins σ H s) (r : Vals vs us) (rz : Vals zs ws) (h : sp (gV vs zs) H Q (E σ)) : wpAny (model X.prog X.w) X.A (call (.ref f) us (ks.zip ws)) (EP X pins σ Q) X.xe s := by
  have r2 := hb.rel r rz
  have hl : (g us ws).length = ps.length := r2.length.symm.trans (F.len _ _ _ _ h)
  refine wpAny_call (codeAny_mono (F.run X.A X.stack s H ⟨us, ks.zip ws⟩ (g us ws) (gV vs zs) Q (E σ) hgd hr I.env0 (hb.to s us ws I.kIn hl) r2 h) fun o s' hq => ?_)
  cases o with
  | error er => exact hx σ pins H s er s' I hq
  | ok fl =>
    cases fl with
    | ret u => exact I.after hq
    | next => exact False.elim hq
    | brk => exact False.elim hq
    | cont => exact False.elim hq
theorem pe_kw0 {sp : Sp} {E : L2.St → XK} {tk : TA} (F : FnG X.prog X.w X.K X.mg X.base k f fd ps sp) (hgd : X.A.guards = some []) (hr : Room k X.A) (hg : Gl X x) (hm : X.mg x = some (.ref f)) (hk : PySem.W.keepIn X.K (.ref f) = true) (hb : KBinds X.K fd ps ks g gV) (hx : ∀ σ, PassesAt (L2N.CX X.prog X.w) X σ (E σ))
    (hkw : PK X kws tk) (hall : (backToKw pos (keywordEach kws X.env)).all (·.1.isSome) = true := by rfl) (hks : (backToKw pos (keywordEach kws X.env)).filterMap (·.1) = ks := by rfl) (hdb : (x == ("__debug__" : Str)) = false := by decide)
    (hpl : ((backTo pos (starEach [] X.env)).any (·.1) || (backToKw pos (keywordEach kws X.env)).any (·.1.isNone)) = false := by rfl) : PE X (.Call (.Name x p) [] kws pos) (tCallKG sp gV E tNil tk) := by
  constructor
  intro pins s σ H Q I h
  have h : tk σ H fun zs H2 => sp (gV [] zs) H2 Q (E σ) := h
  refine wpAny_Call_Name_kw (ld_glob I hg hm (PySem.W.callWith_KW0 (h₀ := X.base) I.ok.mod.kin hk hall (thn (hkw.run pos pins s σ H _ I h) fun ws s2 ⟨zs, H2, I2, rz, q2⟩ => ⟨I2.kIn, ?_⟩) hpl) hdb)
  rw [hks]
  exact run_kw (us := []) (vs := []) F hgd hr hb hx I2 .nil rz q2
theorem pe_kw {sp : Sp} {E : L2.St → XK} {t tk : TA} (F : FnG X.prog X.w X.K X.mg X.base k f fd ps sp) (hgd : X.A.guards = some []) (hr : Room k X.A) (hg : Gl X x) (hm : X.mg x = some (.ref f)) (hk : PySem.W.keepIn X.K (.ref f) = true) (hb : KBinds X.K fd ps ks g gV) (hx : ∀ σ, PassesAt (L2N.CX X.prog X.w) X σ (E σ))
    (ha : PA X (e :: es) t) (hkw : PK X kws tk) (hall : (backToKw pos (keywordEach kws X.env)).all (·.1.isSome) = true := by rfl) (hks : (backToKw pos (keywordEach kws X.env)).filterMap (·.1) = ks := by rfl) (hdb : (x == ("__debug__" : Str)) = false := by decide)
    (he : starEach (e :: es) X.env = (false, eval e X.env) :: starEach es X.env := by rfl) (hpl : ((backTo pos (starEach (e :: es) X.env)).any (·.1) || (backToKw pos (keywordEach kws X.env)).any (·.1.isNone)) = false := by rfl) :
    PE X (.Call (.Name x p) (e :: es) kws pos) (tCallKG sp gV E t tk) := by
  constructor
  intro pins s σ H Q I h
  refine wpAny_Call_Name_kw (ld_glob I hg hm (PySem.W.callWith_KW (h₀ := X.base) I.ok.mod.kin hk hall (thn (ha.run pos pins s σ H _ I h) fun us s1 ⟨vs, H1, I1, r, q⟩ => ?_) hpl he) hdb)
  refine thn (hkw.run pos pins s1 σ H1 _ I1 q) fun ws s2 ⟨zs, H2, I2, rz, q2⟩ => ⟨I2.kIn, ?_⟩
  rw [hks]
  exact run_kw F hgd hr hb hx I2 r rz q2
/-- the order of the parameters, on data -/
structure KOrd (gD : List D → List D → List D) (gV : List V → List V → List V) : Prop where
  rel : ∀ {K : PySem.W.Frag} {F : Hp} {as bs : List D} {vs us : List V}, RpL K F as vs → RpL K F bs us → RpL K F (gD as bs) (gV vs us)
def mCallK (n : Nat) (fn : Fn) (gD : List D → List D → List D) (ms mk : M (List D)) : M D := fun sv => (ms sv).bind fun as s1 => (mk s1).bind fun bs s2 => if (gD as bs).length = n then frR (fn (gD as bs)) s2 else .bad
variable {gD : List D → List D → List D}
theorem se_kw0 (c : Ctx X W kk) (hkk : k ≤ kk) (Fg : FnG X.prog X.w X.K X.mg X.base k f fd ps (spV X.K X.mg n none false fn)) (hg : Gl X x) (hm : X.mg x = some (.ref f)) (hk : PySem.W.keepIn X.K (.ref f) = true) (hb : KBinds X.K fd ps ks g gV) (ho : KOrd gD gV)
    (hkw : SK X W kws mk) (hall : (backToKw pos (keywordEach kws X.env)).all (·.1.isSome) = true := by rfl) (hks : (backToKw pos (keywordEach kws X.env)).filterMap (·.1) = ks := by rfl) (hdb : (x == ("__debug__" : Str)) = false := by decide)
    (hpl : ((backTo pos (starEach [] X.env)).any (·.1) || (backToKw pos (keywordEach kws X.env)).any (·.1.isNone)) = false := by rfl) : SE X W (.Call (.Name x p) [] kws pos) (mCallK n fn gD mNil mk) :=
  pe_imp (pe_kw0 Fg c.hg (c.hr.mono hkk) hg hm hk hb (fun σ => L2N.passAt c.tk σ) hkw hall hks hdb hpl) fun σ H Q q => by
    obtain ⟨g0, F, sv, hK, rl, q⟩ := q
    have q : PostG X.mx g0 F σ ((mk sv).bind fun bs s2 => if (gD [] bs).length = n then frR (fn (gD [] bs)) s2 else .bad) W RelE Q := q
    refine ⟨g0, F, sv, hK, rl, PostG.bind q fun bs s2 us F2 H2 e2 rl2 rp2 q2 => ?_⟩
    split at q2
    · rename_i hz
      have rp : RpL g0.K F2 (gD [] bs) (gV [] us) := ho.rel (by exact rfl) rp2
      rw [← hK.1]
      exact post_call (ro := false) (fun F' H' d v _ hr => by show Rp g0.K F' d v; simpa using hr) (rp.length.symm.trans hz) rl2 rp q2
    · exact False.elim q2
theorem se_kw (c : Ctx X W kk) (hkk : k ≤ kk) (Fg : FnG X.prog X.w X.K X.mg X.base k f fd ps (spV X.K X.mg n none false fn)) (hg : Gl X x) (hm : X.mg x = some (.ref f)) (hk : PySem.W.keepIn X.K (.ref f) = true) (hb : KBinds X.K fd ps ks g gV) (ho : KOrd gD gV)
    (ha : SA X W (e :: es) ms) (hkw : SK X W kws mk) (hall : (backToKw pos (keywordEach kws X.env)).all (·.1.isSome) = true := by rfl) (hks : (backToKw pos (keywordEach kws X.env)).filterMap (·.1) = ks := by rfl) (hdb : (x == ("__debug__" : Str)) = false := by decide)
    (he : starEach (e :: es) X.env = (false, eval e X.env) :: starEach es X.env := by rfl) (hpl : ((backTo pos (starEach (e :: es) X.env)).any (·.1) || (backToKw pos (keywordEach kws X.env)).any (·.1.isNone)) = false := by rfl) :
    SE X W (.Call (.Name x p) (e :: es) kws pos) (mCallK n fn gD ms mk) :=
  pe_imp (pe_kw Fg c.hg (c.hr.mono hkk) hg hm hk hb (fun σ => L2N.passAt c.tk σ) ha hkw hall hks hdb he hpl) fun σ H Q q => by
    obtain ⟨g0, F, sv, hK, rl, q⟩ := q
    refine ⟨g0, F, sv, hK, rl, PostG.bind q fun as s1 vs F1 H1 e1 rl1 rp1 q1 => ?_⟩
    refine ⟨g0, F1, s1, hK, rl1, PostG.bind q1 fun bs s2 us F2 H2 e2 rl2 rp2 q2 => ?_⟩
    split at q2
    · rename_i hz
      have rp : RpL g0.K F2 (gD as bs) (gV vs us) := ho.rel (RpL.mono e2 _ _ rp1) rp2
      rw [← hK.1]
      exact post_call (ro := false) (fun F' H' d v _ hr => by show Rp g0.K F' d v; simpa using hr) (rp.length.symm.trans hz) rl2 rp q2
    · exact False.elim q2
end

/-! ### texts' methods -/
section
variable {X : Cx} {W : WX'} {e : Expr} {m : M D} {apos pos : Pos}
def dUpper : D → Option D
  | .str z => if z.length ≤ 5592405 then some (.str (Txt.upper z)) else none
  | _ => none
theorem se_upper (h : PE X (.Call (.Attribute e "upper" apos) [] [] pos) (tBM0 X.K "str" (fun x xs H Q => ∃ a, x = .str a ∧ xs = [] ∧ a.length ≤ 5592405 ∧ Q (.str (Txt.upper a)) H) (tE X.K X.mx W m))) : SE X W (.Call (.Attribute e "upper" apos) [] [] pos) (m1 dUpper m) := pe_imp h fun σ H Q q => by
  obtain ⟨g, F, sv, hK, rl, q⟩ := q
  refine ⟨g, F, sv, hK, rl, PostG.bind q fun d s1 v F1 H1 e1 rl1 rp1 h1 => ?_⟩
  cases d with
  | str z =>
    cases (show v = V.str z from rp1)
    have h1 : PostG X.mx g F1 σ (match dUpper (.str z) with | some d => .ok d s1 | none => .bad) W RelE Q := h1
    unfold dUpper at h1
    dsimp only at h1
    split at h1
    · rename_i hz
      split at hz
      · cases hz
        exact ⟨rfl, z, rfl, rfl, by assumption, h1 _ F1 H1 (Same.refl F1) rl1 rfl⟩
      · cases hz
    · exact False.elim h1
  | _ => exact False.elim h1
end

/-! ### the end -/
/-- the law's promise: a list of ints in, True out -/
def spLaw (K : PySem.W.Frag) : Sp := fun vs H Q _ => ∃ (a : Addr) (ns : List Int), vs = [V.ref a] ∧ SqL K H a (ns.map V.int) ∧ ns.length ≤ 63 ∧ ∀ H', Q (.bl true) H'
theorem ints_rel {K : PySem.W.Frag} {F : Hp} : ∀ ns : List Int, RpL K F (ns.map D.int) (ns.map V.int)
  | [] => rfl
  | n :: ns => ⟨_, _, rfl, rfl, ints_rel ns⟩
/-- from what the law's def computes -/
theorem law_of {P : Program} {w : World} {K : PySem.W.Frag} {mg : Str → Option Value} {base : Heap} {k : Nat} {f : Addr} {fd : FuncData} {ps : List Str} {fn : Fn} (hp : ps.length = 1) (F : FnG P w K mg base k f fd ps (spV K mg 1 none false fn))
    (h : ∀ ns : List Int, ns.length ≤ 63 → fn [.fl (ns.map .int)] = .ok (.bl true) none) : FnG P w K mg base k f fd ps (spLaw K) := by
  constructor
  · rintro vs H Q E ⟨a, ns, rfl, _⟩
    exact hp.symm
  · intro A outer s H args us vs Q E hg hr e0 hb r hsp
    refine F.run A outer s H args us vs Q E hg hr e0 hb r ?_
    obtain ⟨a, ns, rfl, hS, hl, q⟩ := hsp
    refine ⟨rfl, H, [.fl (ns.map .int)], Same.refl H, ⟨_, [], rfl, ⟨a, _, rfl, hS, ints_rel ns⟩, rfl⟩, ?_⟩
    rw [h ns hl]
    intro v F' H' _ _ _ _ _ _ hv
    have hv' : v = V.bl true := by simpa [Rp] using hv
    subst hv'
    exact q H'
theorem law_callG {P : Program} {w : World} {K : PySem.W.Frag} {mg mb : Str → Option Value} {k : Nat} {fa a : Addr} {fd : FuncData} {x : Str} {sp : Sp} {s1 : Shared} {vs : List Value} {ns : List Int}
    (KX : K.In s1.heap) (hns : s1.heap.Ns mainGlobals mg) (hb : s1.heap.Ns builtinsNs mb) (hbb : ∀ x : Str, x ≠ "__name__" → mb x = bootBuiltins x) (hlim : s1.heap.NoLimit) (hg : s1.gens = #[])
    (ha : s1.heap.get? a = some { cls := .type "list", data := .seq vs.toArray }) (hi : IntsAre vs ns) (hl : ns.length ≤ sizeLine) (hr : Room k callerA)
    (F : ∀ base : Heap, K.In base → base.Ns mainGlobals mg → FnG P w K mg base k fa fd [x] sp) (hbind : ∀ (s : Shared) (u : Value), BindsTo s fd ⟨[u], []⟩ [(x, u)])
    (hsp : ∀ H : Hp, Only H → SqL K H a (ns.map V.int) → sp [.ref a] H (fun v _ => v = .bl true) fun _ _ _ => False) :
    codeAny (model P w) callerA (.call (.ref fa) ⟨[.ref a], []⟩) (fun r s' => r = .ok (.ret (.bool true)) ∧ OldK s1.heap s'.heap ∧ s'.os = s1.os ∧ AllBare s'.gens) s1 := by
  have rv := vals_ints hi
  have lenV := hi.length
  have core : ∀ H : Hp, Only H → SqL K H a (ns.map V.int) → HOk P w H s1.heap → (∀ b, H b ≠ none → b = a) → (H a ≠ none → K.lookup a = none) →
      codeAny (model P w) callerA (.call (.ref fa) ⟨[.ref a], []⟩) (fun r s' => r = .ok (.ret (.bool true)) ∧ OldK s1.heap s'.heap ∧ s'.os = s1.os ∧ AllBare s'.gens) s1 := by
    intro H hO hS hok hA hK
    have hereA : ∀ {b : Addr} {u : HO}, H b = some u → b = a := fun {b u} q => hA b (by rw [q]; exact (fun z => nomatch z))
    have noA : ∀ {b : Addr} {o : Obj} {es : Array DictEntry} {ep : Nat}, s1.heap.get? b = some o → o.data = .dict es ep → H b = none := fun {b o es ep} e d => by
      cases q : H b with
      | none => rfl
      | some u =>
        have := hereA q
        subst this
        rw [ha] at e
        cases e
        have d' : Data.seq vs.toArray _ = Data.dict es ep := d
        cases d'
    have nsK : ∀ {b : Addr} {m : Str → Option Value}, s1.heap.Ns b m → (hidT s1.heap H).Ns b m := fun {b m} ⟨o, es, ep, e, d, r⟩ => ⟨o, es, ep, hidT_get e (noA e d), d, r⟩
    have hKb : K.In (hidT s1.heap H) := fun b o e => hidT_get (KX b o e) (by
      cases q : H b with
      | none => rfl
      | some u =>
        have := hereA q
        subst this
        rw [hK (by rw [q]; exact (fun z => nomatch z))] at e
        cases e)
    have hM : Mod K mg (hidT s1.heap H) := ⟨hKb, nsK hns, ⟨mb, nsK hb, hbb⟩, let ⟨mc, h1, h2⟩ := hlim; ⟨mc, nsK h1, h2⟩⟩
    have e0 : Env0 P w K mg (hidT s1.heap H) callerA [] s1 H := ⟨rfl, hM, fun b o e => of_hidT e, Nat.le_of_eq (hidT_size _ _), trivial, fun b hb => absurd (show b ∈ ([] : List Addr) from hb) (by simp), hok, .of_eq hg⟩
    refine codeAny_mono ((F _ hKb (nsK hns)).run callerA [] s1 H ⟨[.ref a], []⟩ [.ref a] [.ref a] _ _ rfl hr e0 (hbind s1 (.ref a)) (.cons rfl .nil) (hsp H hO hS)) fun r s' h => ?_
    cases r with
    | error e => obtain ⟨_, _, _, _, _, _, _, _, _, _, _, _, z⟩ := h; exact z.elim
    | ok fl =>
      cases fl with
      | next => exact False.elim h
      | brk => exact False.elim h
      | cont => exact False.elim h
      | ret u =>
        obtain ⟨v, H', os, bare, un, hok', r', q⟩ := h
        have q' : v = .bl true := q
        subst q'
        have eu : u = Value.bool true := r'
        subst eu
        refine ⟨rfl, OldK.of_keep fun b o e => ?_, os, bare⟩
        cases q : H b with
        | none => exact un.keep b o e q (fun z => absurd (show b ∈ ([] : List Addr) from z) (by simp)) (by simp)
        | some u =>
          rcases hO b with z | ⟨ob, xs, z⟩
          · rw [q] at z; cases z
          · obtain ⟨e1, _⟩ := hok b _ z
            obtain ⟨e2, _⟩ := hok' b _ (un.frzs b ob _ z)
            rw [e] at e1; cases e1
            exact e2
  cases hk : K.lookup a with
  | some o =>
    have e := KX a o hk
    rw [ha] at e
    cases e
    exact core (fun _ => none) (fun _ => .inl rfl) (.inr ⟨_, vs.toArray, _, hk, rfl, rfl, rfl, by rw [List.size_toArray, lenV]; exact hl, by simpa using rv⟩) (fun b u z => by have z' : (none : Option HO) = some u := z; cases z') (fun b z => absurd rfl z) fun z => absurd rfl z
  | none =>
    refine core (fun b => if b = a then some (.frz { cls := .type "list", data := .seq vs.toArray } (.lst (ns.map V.int))) else none) (fun b => ?_) (.inl (.inr ⟨_, if_pos rfl⟩)) (fun b u z => ?_) (fun b z => ?_) fun _ => hk
    · by_cases hb : b = a
      · exact .inr ⟨_, _, if_pos hb⟩
      · exact .inl (if_neg hb)
    · by_cases hb : b = a
      · have z' := (if_pos hb).symm.trans z
        cases z'
        subst hb
        exact ⟨ha, by rw [List.length_map]; exact hl, vs, _, rv, ha⟩
      · have z' := (if_neg hb).symm.trans z
        cases z'
    · by_cases hb : b = a
      · exact hb
      · exact absurd (if_neg hb) z
theorem walk_ofG {l : PySem.W.OpenLaw} {k : Nat} {q : Program} {loose : List Str} {XP : (Str → Option Value) → Heap → Prop} {YP : World → Heap → Prop} {d : DefRec} {K : Params → PySem.W.Frag} {x : Str}
    (hn : l.most = some 63) (hdf : d.params.defaults = []) (hr : Room k callerA) (hY : ∀ (w : World) (h : Heap), YP w h → (K w.params).In h)
    (F : ∀ (w : World) (mg : Str → Option Value) (fa : Addr) (h : Heap), (K w.params).In h → h.Ns mainGlobals mg → mg d.name = some (.ref fa) →
      ∃ fd : FuncData, (∀ (s : Shared) (u : Value), BindsTo s fd ⟨[u], []⟩ [(x, u)]) ∧ ∀ base : Heap, (K w.params).In base → base.Ns mainGlobals mg → FnG l.prog w (K w.params) mg base k fa fd [x] (spLaw (K w.params))) :
    PySem.W.WalkO q loose XP YP l.row.toRowW d [] (fun f vs => PySem.call f vs) := by
  refine Att.attach_call hn hdf fun w s₀ s₁ mg mb fa o pm cd doc a vs ns G Y ho hd hcd hmg hobj hints hlen hg => ?_
  have KX := hY w _ Y
  obtain ⟨fd, hb, hF⟩ := F w mg fa _ KX G.T.g hmg
  exact law_callG KX G.T.g G.T.b G.T.builtins G.T.nolimit hg hobj hints (Nat.le_trans hlen (by decide)) hr hF hb fun H hO hS => ⟨a, ns, rfl, hS, hlen, fun _ => rfl⟩
end VM

set_option Elab.async false
set_option linter.all false
set_option autoImplicit false
set_option maxRecDepth 100000
set_option maxHeartbeats 400000
namespace VM
open PySem PySem.Spec PyProof.Rows L2

/-! ### further rules -/
section
variable {X : Cx} {W : WX'} {a b e : Expr} {pos : Pos} {ma mb m : M D}
/-- * : ints; a list and an int -/
def dMul : D → D → Option D
  | .int i, .int j => cMul i j
  | .lst xs, .int k => dRep (.lst xs) (.int k)
  | _, _ => none
theorem o2_mulA {K : PySem.W.Frag} : O2 K (fun x y H Q => (rI CMul fun i j => .int (i * j)) x y H Q ∨ rRep x y H Q) dMul := by
  intro g F H σ sv a b d x y Q hK rl e ha hb q
  cases a <;> cases b <;> try (cases e; done)
  · rename_i i j
    exact .inl (o2_mulI g F H σ sv (.int i) (.int j) d x y Q hK rl e ha hb q)
  · rename_i xs k
    simp only [dMul, dRep] at e
    split at e
    · rename_i hz
      cases e
      subst hK
      obtain ⟨p, vs, rfl, h4, h5⟩ := ha
      refine .inr ⟨p, _, vs, rfl, hb, rl.sub _ _ h4, hz.1, hz.2.1, by rw [← h5.length]; exact hz.2.2, fun l hl => ?_⟩
      have sF : Same F (upd F l (.lst (List.replicate k.toNat vs).flatten)) := same_upd (rl.sub.free hl)
      exact q _ _ _ sF (rl.lay hl) ⟨l, _, rfl, upd_same, RpL.mono sF _ _ (rep_rel h5 _)⟩
    · cases e
theorem se_mulA (ha : SE X W a ma) (hb : SE X W b mb) : SE X W (.BinOp a .Mult b pos) (m2 dMul ma mb) := se_op (OpR.or op_mul op_rep) o2_mulA ha hb
/-- xs + ys, a new list that is the frame's own -/
def dCat : D → D → Option D
  | .lst xs, .lst ys => if xs.length + ys.length ≤ sizeLine then some (.lst (xs ++ ys)) else none
  | _, _ => none
theorem so_cat (ha : SE X W a ma) (hb : SE X W b mb) : SO X W (.BinOp a .Add b pos) (m2 dCat ma mb) := pe_imp (pe_op op_cat ha hb) fun σ H Q q => by
  obtain ⟨g, F, sv, hK, rl, q⟩ := q
  refine ⟨g, F, sv, hK, rl, PostG.bind q fun d s1 x F1 H1 e1 rl1 rp1 h1 => ?_⟩
  refine ⟨g, F1, s1, hK, rl1, PostG.bind h1 fun d2 s2 y F2 H2 e2 rl2 rp2 h2 => ?_⟩
  have rp1' := Rp.mono e2 _ _ rp1
  split at h2
  · rename_i r hr
    unfold dCat at hr
    split at hr
    · split at hr
      · rename_i hz
        cases hr
        obtain ⟨p, vs, rfl, h4, h5⟩ := rp1'
        obtain ⟨p2, us, rfl, h6, h7⟩ := rp2
        refine ⟨p, p2, vs, us, rfl, rfl, rl2.sub _ _ h4, rl2.sub _ _ h6, by rw [← h5.length, ← h7.length]; exact hz, fun l hl => ?_⟩
        exact h2 _ _ _ (Same.refl F2) (rl2.layO hl) (rl2.newO hl .lst (h5.append h7))
      · cases hr
    · cases hr
  · exact False.elim h2
/-- a text of the module's own top -/
theorem se_glob {x : Str} {z : Str} {t : Tok} (hg : Gl X x) (hm : X.mg x = some (.str z t)) (hd : (x == ("__debug__" : Str)) = false := by decide) : SE X W (.Name x pos) (mC (.str z)) := se_const (pe_glob (v := .str z) hg hm ⟨_, rfl⟩ hd) fun _ => rfl
theorem se_globI {x : Str} {z : Int} {t : Tok} (hg : Gl X x) (hm : X.mg x = some (.int z t)) (hd : (x == ("__debug__" : Str)) = false := by decide) : SE X W (.Name x pos) (mC (.int z)) := se_const (pe_glob (v := .int z) hg hm ⟨_, rfl⟩ hd) fun _ => rfl
end
end VM

set_option Elab.async false
set_option linter.all false
set_option autoImplicit false
set_option maxRecDepth 100000
set_option maxHeartbeats 400000
namespace VM
open PySem PySem.Spec PyProof.Rows L2

/-! ### keywords that stand in the order of the def -/
def kj {α : Type} (n k : Nat) (us ws : List α) : List α := if us.length = n ∧ ws.length = k then us ++ ws else []
theorem kj_ord (n k : Nat) : KOrd (kj n k) (kj n k) := ⟨fun {K F as bs vs us} h1 h2 => by
  unfold kj
  rw [h1.length, h2.length]
  split
  · exact h1.append h2
  · rfl⟩
theorem kj_binds {K : PySem.W.Frag} {x qual : Str} {st : Stmt} {f : Addr} {fd : FuncData} {ps ks : List Str} {n k : Nat} (hp : ps.length = n + k ∧ 0 < ps.length) (F : Fun K x qual st f fd)
    (h : ∀ (kV doc pm : Value) (an : Option Addr) (cdv ct : Value) (us ws : List Value), us.length = n → ws.length = k → bindArgs (PySem.W.fnOf x qual (defArgs st) (defBody st) (defScope st) .none kV doc pm an cdv ct) ⟨us, ks.zip ws⟩ = pure (ps.zip (us ++ ws))) : KBinds K fd ps ks (kj n k) (kj n k) := by
  obtain ⟨oc, od, kV, doc, pm, an, cdv, ct, osl, rfl, lk, hcd⟩ := F.ex
  constructor
  · intro s us ws _ hl
    unfold kj at hl ⊢
    split at hl
    · rename_i hz
      rw [if_pos hz]
      exact .of_eq (h kV doc pm an cdv ct us ws hz.1 hz.2)
    · have : ps.length = 0 := hl.symm
      omega
  · intro vs us zs ws h1 h2
    unfold kj
    rw [h1.length, h2.length]
    split
    · exact Vals.append h1 h2
    · exact .nil
end VM

set_option Elab.async false
set_option linter.all false
set_option autoImplicit false
set_option maxRecDepth 100000
set_option maxHeartbeats 400000
namespace VM
open PySem PySem.Spec PyProof.Rows L2
/-! ### all(xs), any(xs), sum(xs) over a list -/
def blsD : List D → Option (List Bool)
  | [] => some []
  | .bl b :: r => (blsD r).map (b :: ·)
  | _ => none
def intsD : List D → Option (List Int)
  | [] => some []
  | .int b :: r => (intsD r).map (b :: ·)
  | _ => none
theorem bls_rel {K : PySem.W.Frag} {F : Hp} : ∀ {xs : List D} {bs : List Bool} {vs : List V}, blsD xs = some bs → RpL K F xs vs → vs = bs.map V.bl
  | [], bs, vs, h, r => by cases h; cases r; rfl
  | .bl b :: xs, bs, vs, h, r => by
    simp only [blsD, Option.map_eq_some_iff] at h
    obtain ⟨cs, h1, rfl⟩ := h
    obtain ⟨v, us, rfl, h2, h3⟩ := r
    cases h2
    rw [bls_rel h1 h3]
    rfl
theorem ints_relD {K : PySem.W.Frag} {F : Hp} : ∀ {xs : List D} {bs : List Int} {vs : List V}, intsD xs = some bs → RpL K F xs vs → vs = bs.map V.int
  | [], bs, vs, h, r => by cases h; cases r; rfl
  | .int b :: xs, bs, vs, h, r => by
    simp only [intsD, Option.map_eq_some_iff] at h
    obtain ⟨cs, h1, rfl⟩ := h
    obtain ⟨v, us, rfl, h2, h3⟩ := r
    cases h2
    rw [ints_relD h1 h3]
    rfl
def dAll : List D → Option D
  | [.lst xs] => (blsD xs).map fun bs => .bl (bs.all id)
  | _ => none
def dAny : List D → Option D
  | [.lst xs] => (blsD xs).map fun bs => .bl (bs.any id)
  | _ => none
def dSum : List D → Option D
  | [.lst xs] => (intsD xs).map fun bs => .int bs.sum
  | _ => none
theorem oc_all {K : PySem.W.Frag} : OC K (rAll K) dAll := oc_pure fun F H ds d vs Q s e hv q => by
  unfold dAll at e
  split at e
  · obtain ⟨v, rfl, a, us, rfl, h1, h2⟩ := RpL.one_inv hv
    simp only [Option.map_eq_some_iff] at e
    obtain ⟨bs, e1, rfl⟩ := e
    exact ⟨a, bs, rfl, by rw [← bls_rel e1 h2]; exact .inl (.inl (s _ _ h1)), q _ rfl⟩
  · cases e
theorem oc_any {K : PySem.W.Frag} : OC K (rAny K) dAny := oc_pure fun F H ds d vs Q s e hv q => by
  unfold dAny at e
  split at e
  · obtain ⟨v, rfl, a, us, rfl, h1, h2⟩ := RpL.one_inv hv
    simp only [Option.map_eq_some_iff] at e
    obtain ⟨bs, e1, rfl⟩ := e
    exact ⟨a, bs, rfl, by rw [← bls_rel e1 h2]; exact .inl (.inl (s _ _ h1)), q _ rfl⟩
  · cases e
theorem oc_sum {K : PySem.W.Frag} : OC K (rSum K) dSum := oc_pure fun F H ds d vs Q s e hv q => by
  unfold dSum at e
  split at e
  · obtain ⟨v, rfl, a, us, rfl, h1, h2⟩ := RpL.one_inv hv
    simp only [Option.map_eq_some_iff] at e
    obtain ⟨bs, e1, rfl⟩ := e
    exact ⟨a, bs, rfl, by rw [← ints_relD e1 h2]; exact .inl (.inl (s _ _ h1)), q _ rfl⟩
  · cases e
theorem boot_all' : bootBuiltins "all" = some (.builtin "all") := by decide +kernel
theorem boot_any' : bootBuiltins "any" = some (.builtin "any") := by decide +kernel
theorem boot_sum' : bootBuiltins "sum" = some (.builtin "sum") := by decide +kernel
section
variable {X : Cx} {W : WX'} {e : Expr} {es : List Expr} {ms : M (List D)} {p pos : Pos}
theorem se_all (hc : X.calm = true) (hg : Gl X "all") (hm : X.mg "all" = none) (ha : SA X W (e :: es) ms)
    (h1 : starEach (e :: es) X.env = (false, eval e X.env) :: starEach es X.env := by rfl) (h2 : (backTo pos (starEach es X.env)).any (·.1) = false := by rfl) : SE X W (.Call (.Name "all" p) (e :: es) [] pos) (mCall1 dAll ms) :=
  se_callB (cr_all hc) oc_all hg hm boot_all' ha (by decide) (by decide) h1 h2
theorem se_any (hc : X.calm = true) (hg : Gl X "any") (hm : X.mg "any" = none) (ha : SA X W (e :: es) ms)
    (h1 : starEach (e :: es) X.env = (false, eval e X.env) :: starEach es X.env := by rfl) (h2 : (backTo pos (starEach es X.env)).any (·.1) = false := by rfl) : SE X W (.Call (.Name "any" p) (e :: es) [] pos) (mCall1 dAny ms) :=
  se_callB (cr_any hc) oc_any hg hm boot_any' ha (by decide) (by decide) h1 h2
theorem se_sum (hc : X.calm = true) (hg : Gl X "sum") (hm : X.mg "sum" = none) (ha : SA X W (e :: es) ms)
    (h1 : starEach (e :: es) X.env = (false, eval e X.env) :: starEach es X.env := by rfl) (h2 : (backTo pos (starEach es X.env)).any (·.1) = false := by rfl) : SE X W (.Call (.Name "sum" p) (e :: es) [] pos) (mCall1 dSum ms) :=
  se_callB (cr_sum hc) oc_sum hg hm boot_sum' ha (by decide) (by decide) h1 h2
end
end VM

set_option Elab.async false
set_option linter.all false
set_option autoImplicit false
set_option maxRecDepth 100000
set_option maxHeartbeats 400000
namespace VM
open PySem PySem.Spec PyProof.Rows L2

/-! ### evaluation by simp -/
theorem rng1_a {n : Nat} (h : n ≤ 1000000) : -(2 ^ 62) ≤ (n : Int) ∧ (n : Int) < 2 ^ 62 := by constructor <;> omega
theorem rng1_if {j : Int} {n : Nat} (e : j.toNat = n) (h : -(2 ^ 62) ≤ j ∧ j < 2 ^ 62) (s : SV) : (if -(2 ^ 62) ≤ j ∧ j < 2 ^ 62 then R.ok (rngs 0 j.toNat) s else .bad) = R.ok (rngs 0 n) s := by
  subst e
  exact if_pos h
theorem rng1_of' {ms : M (List D)} {sv s : SV} {j : Int} {n : Nat}  (e : j.toNat = n) (h : -(2 ^ 62) ≤ j ∧ j < 2 ^ 62) (e1 : ms sv = .ok [.int j] s) : mRng1 ms sv = .ok (rngs 0 n) s := by
  unfold mRng1
  rw [e1]
  exact rng1_if e h s
theorem rng1_of {ms : M (List D)} {sv s : SV} {n : Nat} (e : ms sv = .ok [.int (n : Int)] s) (h : n ≤ 1000000) : mRng1 ms sv = .ok (rngs 0 n) s := rng1_of' (Int.toNat_natCast n) (rng1_a h) e
section
variable (sv : SV) (i j n : Nat) (d : D) (m ma mb : M D) (t u : M Bool) (ms : M (List D)) (a b : MS)
@[simp] theorem ev_ok {α β : Type} (x : α) (s : SV) (k : α → SV → R β) : (R.ok x s).bind k = k x s := (rfl)
@[simp] theorem ev_err {α β : Type} (x : Exn) (s : SV) (k : α → SV → R β) : (R.err x s : R α).bind k = .err x s := (rfl)
@[simp] theorem ev_bad {α β : Type} (k : α → SV → R β) : (R.bad : R α).bind k = .bad := (rfl)
@[simp] theorem ev_C : mC d sv = .ok d sv := (rfl)
@[simp] theorem ev_Rd : mRd i sv = match sv[i]? with
  | some (.pl d) => .ok d sv
  | _ => .bad := (rfl)
@[simp] theorem fz_lst (xs : List D) : fz (.lst xs) = .lst xs := (rfl)
@[simp] theorem fz_dct (ks : List Key) (xs : List D) : fz (.dct ks xs) = .dct ks xs := (rfl)
@[simp] theorem fz_obj (c : Str) (ns : List Str) (xs : List D) : fz (.obj c ns xs) = .obj c ns xs := (rfl)
@[simp] theorem fz_dlst (xs : List D) : fz (.deep (.lst xs)) = .lst (fzL xs) := (rfl)
@[simp] theorem fz_ddct (ks : List Key) (xs : List D) : fz (.deep (.dct ks xs)) = .dct ks (fzL xs) := (rfl)
@[simp] theorem fz_dobj (c : Str) (ns : List Str) (xs : List D) : fz (.deep (.obj c ns xs)) = .obj c ns (fzL xs) := (rfl)
@[simp] theorem ev_Mv : mMv i sv = match sv[i]? with
  | some (.pl d) => .ok d sv
  | some (.ow d) => .ok (fz d) (sv.set i (.pl (fz d)))
  | _ => .bad := (rfl)
@[simp] theorem ev_Tk : mTk i sv = match sv[i]? with
  | some (.ow d) => .ok d (sv.set i .un)
  | _ => .bad := (rfl)
@[simp] theorem ev_2 (f : D → D → Option D) : m2 f ma mb sv = (ma sv).bind fun a s1 => (mb s1).bind fun b s2 => match f a b with
  | some d => .ok d s2
  | none => .bad := (rfl)
@[simp] theorem ev_1 (f : D → Option D) : m1 f m sv = (m sv).bind fun a s1 => match f a with
  | some d => .ok d s1
  | none => .bad := (rfl)
@[simp] theorem ev_B : mB m sv = (m sv).bind fun d s => match d with
  | .bl b => .ok b s
  | _ => .bad := (rfl)
@[simp] theorem ev_Not : mNot t sv = (t sv).bind fun b s => .ok (!b) s := (rfl)
@[simp] theorem ev_And : mAnd t u sv = (t sv).bind fun b s => if b = true then u s else .ok false s := (rfl)
@[simp] theorem ev_Or : mOr t u sv = (t sv).bind fun b s => if b = true then .ok true s else u s := (rfl)
@[simp] theorem ev_oN : moN sv = .ok none sv := (rfl)
@[simp] theorem ev_oS : moS m sv = (m sv).bind fun d s => match d with
  | .int i => .ok (some i) s
  | _ => .bad := by
  unfold moS
  rfl
@[simp] theorem ev_Sl (ml mh : MO) : mSl m ml mh sv = (m sv).bind fun d s1 => (ml s1).bind fun lo s2 => (mh s2).bind fun hi s3 => match dSl d lo hi with
  | some r => .ok r s3
  | none => .bad := (rfl)
@[simp] theorem ev_nil : mNil sv = .ok [] sv := (rfl)
@[simp] theorem ev_cons : mCons m ms sv = (m sv).bind fun d s1 => (ms s1).bind fun ds s2 => .ok (d :: ds) s2 := (rfl)
@[simp] theorem ev_Tup : mTup ms sv = (ms sv).bind fun ds s => if ds.length ≤ sizeLine then .ok (.tup ds) s else .bad := (rfl)
@[simp] theorem ev_Lst : mLst ms sv = (ms sv).bind fun ds s => if ds.length ≤ sizeLine then .ok (.lst ds) s else .bad := (rfl)
@[simp] theorem ev_Call1 (f : List D → Option D) : mCall1 f ms sv = (ms sv).bind fun ds s => match f ds with
  | some d => .ok d s
  | none => .bad := (rfl)
@[simp] theorem ev_Call (fn : Fn) (dd : List D) : mCall n fn dd ms sv = (ms sv).bind fun ds s => if (ds ++ dd).length = n then frR (fn (ds ++ dd)) s else .bad := (rfl)
@[simp] theorem ev_CallK (fn : Fn) (g : List D → List D → List D) (mk : M (List D)) : mCallK n fn g ms mk sv = (ms sv).bind fun as s1 => (mk s1).bind fun bs s2 => if (g as bs).length = n then frR (fn (g as bs)) s2 else .bad := (rfl)
@[simp] theorem ev_frok : frR (.ok d none) sv = .ok d sv := (rfl)
@[simp] theorem ev_frbad : frR .bad sv = .bad := (rfl)
@[simp] theorem ev_Seq : mSeq a b sv = match a sv with
  | .nx s => b s
  | o => o := (rfl)
@[simp] theorem ev_Skip : mSkip sv = .nx sv := (rfl)
@[simp] theorem ev_Bind {α : Type} (m : M α) (k : α → SV → O) : mBind m k sv = match m sv with
  | .ok a s => k a s
  | .err x s => .err x s
  | .bad => .bad := by
  unfold mBind
  cases m sv <;> rfl
@[simp] theorem ev_Drop : mDrop m sv = mBind m (fun _ s => .nx s) sv := (rfl)
@[simp] theorem ev_Ret : mRet m sv = mBind m (fun d s => .rt d s) sv := (rfl)
@[simp] theorem ev_RetO : mRetO m sv = mBind m (fun d s => .ro d s) sv := (rfl)
@[simp] theorem ev_IfS : mIfS t a b sv = mBind t (fun c s => if c = true then a s else b s) sv := (rfl)
@[simp] theorem ev_Asg : mAsg i m sv = mBind m (fun d s => .nx (s.set i (.pl d))) sv := (rfl)
@[simp] theorem ev_AsgO : mAsgO i m sv = mBind m (fun d s => .nx (s.set i (.ow d))) sv := (rfl)
@[simp] theorem ev_ownL : ownL sv i = match sv[i]? with
  | some (.ow (.lst xs)) => some (.ow (.lst xs), xs)
  | some (.io k (.lst xs)) => some (.io k (.lst xs), xs)
  | _ => none := by
  unfold ownL
  cases h : sv[i]? with
  | none => rfl
  | some s => cases s <;> first | rfl | (rename_i d; cases d <;> rfl)
@[simp] theorem ev_putL (xs : List D) : putL sv i xs = match sv[i]? with
  | some (.ow _) => .nx (sv.set i (.ow (.lst xs)))
  | some (.io k _) => .nx (sv.set i (.io k (.lst xs)))
  | _ => .bad := by
  unfold putL
  cases h : sv[i]? with
  | none => rfl
  | some s => cases s <;> rfl
@[simp] theorem ev_App : mApp i m sv = match ownL sv i with
  | none => .bad
  | some _ => mBind m (fun d s => match ownL s i with
    | some (_, xs) => if xs.length < sizeLine then putL s i (xs ++ [d]) else .bad
    | none => .bad) sv := (rfl)
@[simp] theorem ev_Put (mk : M D) : mPut i m mk sv = mBind m (fun d s1 => match ownL s1 i with
  | none => .bad
  | some _ => mBind mk (fun k s2 => match k, ownL s2 i with
    | .int z, some (_, xs) => match ixN xs.length z with
      | some j => putL s2 i (xs.set j d)
      | none => .bad
    | _, _ => .bad) s1) sv := (rfl)
@[simp] theorem ev_Pop : mPop i sv = match ownL sv i with
  | some (_, xs) => match xs[xs.length - 1]? with
    | some d => match putL sv i xs.dropLast with
      | .nx s' => .ok d s'
      | _ => .bad
    | none => .bad
  | none => .bad := (rfl)
theorem ev_For (mi : M (List D)) (g : MT) : mFor mi g b sv = mBind mi (fun ds s => forL g b ds s) sv := (rfl)
@[simp] theorem ev_Items : mItems m sv = (m sv).bind fun d s => match itemsD d with
  | some ds => .ok ds s
  | none => .bad := by
  unfold mItems
  rfl
@[simp] theorem ev_Enum : mEnum ms sv = (ms sv).bind fun ds s => match ds with
  | [.tup xs] => .ok (enumD 0 xs) s
  | [.lst xs] => .ok (enumD 0 xs) s
  | [.fl xs] => .ok (enumD 0 xs) s
  | _ => .bad := (rfl)
@[simp] theorem ev_tN : mtN i d sv = some (sv.set i (.pl d)) := (rfl)
@[simp] theorem ev_tnil : mtNil [] sv = some sv := (rfl)
@[simp] theorem ev_tcons (t : MT) (u : List D → SV → Option SV) (ds : List D) : mtCons t u (d :: ds) sv = match t d sv with
  | some s => u ds s
  | none => none := by
  unfold mtCons
  cases h : t d sv <;> (dsimp only; rw [h]; rfl)
@[simp] theorem ev_tTup (u : List D → SV → Option SV) (ds : List D) : mtTup n u (.tup ds) sv = if ds.length = n then u ds sv else none := (rfl)
@[simp] theorem ev_With {α : Type} (ok : α → Bool) (m : M α) : mWith ok i m sv = match sv[i]? with
  | some (.ow d) => (match m (lend i (fz d) sv) with
    | .ok r _ => if ok r = true then .ok r sv else .bad
    | _ => .bad)
  | some (.io _ d) => (match m (lend i (fz d) sv) with
    | .ok r _ => if ok r = true then .ok r sv else .bad
    | _ => .bad)
  | some _ => m sv
  | none => .bad := by
  unfold mWith
  cases h : sv[i]? with
  | none => rfl
  | some s => cases s <;> rfl
@[simp] theorem ev_lend : lend i d sv = (hideS sv).set i (.pl d) := (rfl)
@[simp] theorem ev_IfE : mIf t ma mb sv = (t sv).bind fun b s => if b = true then ma s else mb s := (rfl)
end
@[simp] theorem ev_hn : hideS [] = [] := (rfl)
@[simp] theorem ev_hp (d : D) (r : SV) : hideS (.pl d :: r) = .pl d :: hideS r := (rfl)
@[simp] theorem ev_hu (r : SV) : hideS (.un :: r) = .un :: hideS r := (rfl)
@[simp] theorem ev_ho (d : D) (r : SV) : hideS (.ow d :: r) = .un :: hideS r := (rfl)
@[simp] theorem ev_hi (k : Nat) (d : D) (r : SV) : hideS (.io k d :: r) = .un :: hideS r := (rfl)
@[simp] theorem ev_lcn (own : List Nat) (t : MT) (mc : M Bool) (me : M D) (s : SV) (acc : List D) : lcL own t mc me [] s acc = .ok acc s := (rfl)
@[simp] theorem ev_yes (sv : SV) : mYes sv = .ok true sv := (rfl)
@[simp] theorem ev_it1 (xs : List D) : itemsD (.tup xs) = some xs := (rfl)
@[simp] theorem ev_it2 (xs : List D) : itemsD (.lst xs) = some xs := (rfl)
@[simp] theorem ev_it3 (xs : List D) : itemsD (.fl xs) = some xs := (rfl)
@[simp] theorem ev_i0 (k : Nat) (io : Option Nat) : initA io k [] = [] := (rfl)
@[simp] theorem ev_i1 (k : Nat) (d : D) (ds : List D) : initA none k (d :: ds) = .pl d :: initA none (k + 1) ds := (rfl)
/-- a def without an in-out place -/
def endN (ro : Bool) : O → FR
  | .nx _ => if ro = true then .bad else .ok .non none
  | .rt d _ => if ro = true then .bad else .ok d none
  | .ro d _ => if ro = true then .ok d none else .bad
  | .err x _ => .err x none
  | _ => .bad
theorem fnOf_none (n : Nat) (ro : Bool) (body : MS) (ds : List D) : fnOf n none ro body ds = endN ro (body (initA none 0 ds ++ List.replicate (n - ds.length) .un)) := by
  unfold fnOf endN outS
  cases body (initA none 0 ds ++ List.replicate (n - ds.length) .un) <;> rfl
@[simp] theorem end_nx (s : SV) : endN false (.nx s) = .ok .non none := (rfl)
@[simp] theorem end_rt (d : D) (s : SV) : endN false (.rt d s) = .ok d none := (rfl)
@[simp] theorem end_ro (d : D) (s : SV) : endN true (.ro d s) = .ok d none := (rfl)

theorem for_of {mi : M (List D)} {t : MT} {b : MS} {sv s : SV} {ds : List D} {o : O} (e : mi sv = .ok ds s) (h : forL t b ds s = o) : mFor mi t b sv = o := by
  unfold mFor mBind
  rw [e]
  exact h
/-! ### loops -/
theorem forL_rel {t : MT} {b : MS} (P : Nat → SV → Prop) : ∀ (ds : List D) (k : Nat) (sv : SV), P k sv → (∀ i d s, ds[i]? = some d → P (k + i) s → ∃ s1 s2, t d s = some s1 ∧ b s1 = .nx s2 ∧ P (k + i + 1) s2) → ∃ s, forL t b ds sv = .nx s ∧ P (k + ds.length) s
  | [], k, sv, h0, _ => ⟨sv, rfl, h0⟩
  | d :: ds, k, sv, h0, hs => by
    obtain ⟨s1, s2, e1, e2, h2⟩ := hs 0 d sv rfl h0
    obtain ⟨s, e3, h3⟩ := forL_rel P ds (k + 1) s2 h2 fun i d' s' hd hp => by
      have e : k + 1 + i = k + (i + 1) := by omega
      rw [e] at hp ⊢
      exact hs (i + 1) d' s' hd hp
    refine ⟨s, ?_, ?_⟩
    · unfold forL
      rw [e1]
      dsimp only
      rw [e2]
      exact e3
    · rw [List.length_cons]
      have e : k + (ds.length + 1) = k + 1 + ds.length := by omega
      rw [e]
      exact h3
theorem for_ok {t : MT} {b : MS} {ds : List D} {sv : SV} (P : Nat → SV → Prop) (h0 : P 0 sv) (hs : ∀ i d s, ds[i]? = some d → P i s → ∃ s1 s2, t d s = some s1 ∧ b s1 = .nx s2 ∧ P (i + 1) s2) : ∃ s, forL t b ds sv = .nx s ∧ P ds.length s := by
  obtain ⟨s, h1, h2⟩ := forL_rel P ds 0 sv h0 fun i d s hd hp => by
    rw [Nat.zero_add] at hp ⊢
    exact hs i d s hd hp
  rw [Nat.zero_add] at h2
  exact ⟨s, h1, h2⟩
/-- a statement that goes on, and what holds then -/
structure Nxt (o : O) (P : SV → Prop) : Prop where
  eq : ∃ s, o = .nx s ∧ P s
@[simp] theorem nxt_nx (s : SV) (P : SV → Prop) : Nxt (.nx s) P = P s := propext ⟨fun h => by
  obtain ⟨s', e, hp⟩ := h.eq
  cases e
  exact hp, fun h => ⟨s, rfl, h⟩⟩
theorem Nxt.not {o : O} {P : SV → Prop} (h : Nxt o P) (k : ∀ s, o ≠ .nx s) : False := by
  obtain ⟨s, e, _⟩ := h.eq
  exact k s e
def Turn (t : MT) (b : MS) (d : D) (s : SV) (P : SV → Prop) : Prop := match t d s with
  | some s1 => Nxt (b s1) P
  | none => False
@[simp] theorem turn_n (i : Nat) (b : MS) (d : D) (s : SV) (P : SV → Prop) : Turn (mtN i) b d s P = Nxt (b (s.set i (.pl d))) P := rfl
theorem for_turns {t : MT} {b : MS} {ds : List D} {sv : SV} (P : Nat → SV → Prop) (h0 : P 0 sv) (hs : ∀ i d s, ds[i]? = some d → P i s → Turn t b d s (P (i + 1))) : ∃ s, forL t b ds sv = .nx s ∧ P ds.length s := for_ok P h0 fun i d s hd hp => by
  have q := hs i d s hd hp
  unfold Turn at q
  cases e1 : t d s with
  | none => rw [e1] at q; exact q.elim
  | some s1 =>
    rw [e1] at q
    dsimp only at q
    obtain ⟨s2, e2, q⟩ := q.eq
    exact ⟨s1, s2, rfl, e2, q⟩
/-- a def's answer -/
structure Ans (r : FR) (P : D → Prop) : Prop where
  eq : ∃ d, r = .ok d none ∧ P d
@[simp] theorem ans_ok (d : D) (P : D → Prop) : Ans (.ok d none) P = P d := propext ⟨fun h => by
  obtain ⟨s', e, hp⟩ := h.eq
  cases e
  exact hp, fun h => ⟨d, rfl, h⟩⟩
theorem nxt_of {o : O} {P : SV → Prop} {s : SV} (e : o = .nx s) (h : P s) : Nxt o P := ⟨s, e, h⟩
theorem nxt_mono {o : O} {P Q : SV → Prop} (h : Nxt o P) (k : ∀ s, P s → Q s) : Nxt o Q := by
  obtain ⟨s, e, hp⟩ := h.eq
  exact nxt_of e (k s hp)
theorem nxt_seq {a b : MS} {sv : SV} {Q : SV → Prop} (P : SV → Prop) (h : Nxt (a sv) P) (k : ∀ s, P s → Nxt (b s) Q) : Nxt (mSeq a b sv) Q := by
  obtain ⟨s, e, hp⟩ := h.eq
  rw [ev_Seq, e]
  exact k s hp
theorem nxt_if {t : M Bool} {a b : MS} {sv : SV} {Q : SV → Prop} {c : Bool} (h : t sv = .ok c sv) (h1 : c = true → Nxt (a sv) Q) (h2 : c = false → Nxt (b sv) Q) : Nxt (mIfS t a b sv) Q := by
  rw [ev_IfS, ev_Bind, h]
  cases c with
  | true => exact h1 rfl
  | false => exact h2 rfl
theorem nxt_for {mi : M (List D)} {t : MT} {b : MS} {sv s : SV} {ds : List D} {Q : SV → Prop} (P : Nat → SV → Prop) (e : mi sv = .ok ds s) (h0 : P 0 s) (hs : ∀ i d s, ds[i]? = some d → P i s → Turn t b d s (P (i + 1))) (hq : ∀ s, P ds.length s → Q s) : Nxt (mFor mi t b sv) Q := by
  obtain ⟨s', e1, hp⟩ := for_turns P h0 hs
  exact nxt_of (for_of e e1) (hq s' hp)
theorem fin_seq {ro : Bool} {a b : MS} {sv : SV} {Q : D → Prop} (P : SV → Prop) (h : Nxt (a sv) P) (k : ∀ s, P s → Ans (endN ro (b s)) Q) : Ans (endN ro (mSeq a b sv)) Q := by
  obtain ⟨s, e, hp⟩ := h.eq
  rw [ev_Seq, e]
  exact k s hp
theorem fin_if {ro : Bool} {t : M Bool} {a b : MS} {sv : SV} {Q : D → Prop} {c : Bool} (h : t sv = .ok c sv) (h1 : c = true → Ans (endN ro (a sv)) Q) (h2 : c = false → Ans (endN ro (b sv)) Q) : Ans (endN ro (mIfS t a b sv)) Q := by
  rw [ev_IfS, ev_Bind, h]
  cases c with
  | true => exact h1 rfl
  | false => exact h2 rfl
theorem Ans.mono {r : FR} {P Q : D → Prop} (h : Ans r P) (k : ∀ d, P d → Q d) : Ans r Q := by
  obtain ⟨d, e, hp⟩ := h.eq
  exact ⟨d, e, k d hp⟩
theorem rngs_get {n i : Nat} {d : D} (h : (rngs 0 n)[i]? = some d) : i < n ∧ d = .int i := by
  unfold rngs at h
  rw [List.getElem?_map] at h
  obtain ⟨j, h1, h2⟩ := Option.map_eq_some_iff.mp h
  obtain ⟨h3, h4⟩ := List.getElem?_eq_some_iff.mp h1
  simp at h3 h4
  subst h4
  exact ⟨h3, by rw [← h2]; simp⟩
theorem rngs_len (lo : Int) (n : Nat) : (rngs lo n).length = n := by simp [rngs]
theorem ixN_nat {n i : Nat} (h : i < n) : ixN n (i : Int) = some i := by
  unfold ixN
  rw [if_pos (by omega), if_pos (by omega)]
  simp
theorem atI_natL {α : Type} {xs : List α} {i : Nat} (h : i < xs.length) : atI xs (i : Int) = some xs[i] := by
  unfold atI
  rw [ixN_nat h]
  simp [h]
/-! ### texts as lists of numbers -/
theorem str_app (a b : Str) : (a ++ b).cps.toList = a.cps.toList ++ b.cps.toList := by
  show (a.cps ++ b.cps).toList = _
  simp
theorem str_len (a : Str) : a.length = a.cps.toList.length := by
  show a.cps.size = _
  simp
theorem ix_strL {z : Str} {i : Nat} (h : i < z.cps.toList.length) (hz : z.length ≤ sizeLine) : dIx (.str z) (.int (i : Int)) = some (.str ⟨#[z.cps.toList[i]]⟩) := by
  unfold dIx
  dsimp only
  rw [if_pos hz, atI_natL h]
  rfl
theorem one_list (c : Nat) : (⟨#[c]⟩ : Str).cps.toList = [c] := rfl
theorem cut_to (z : Str) (k : Nat) : (cutS z none (some (k : Int))).cps.toList = z.cps.toList.take k := by
  unfold cutS
  rw [HT.sIx_none, HT.sIx_nat]
  simp [str_len, List.take_eq_take_iff]
theorem cut_from (z : Str) (k : Nat) : (cutS z (some (k : Int)) none).cps.toList = z.cps.toList.drop k := by
  unfold cutS
  rw [HT.sIx_none, HT.sIx_nat, str_len]
  simp
  rw [List.take_of_length_le (by simp)]
  rcases Nat.le_total k z.cps.toList.length with h | h
  · simp at h; rw [Nat.min_eq_left h]
  · simp at h
    rw [Nat.min_eq_right h, List.drop_of_length_le (by simp), List.drop_of_length_le (by simpa using h)]
theorem cut_list {α : Type} (xs : List α) (a b : Nat) : cutD xs (some (a : Int)) (some (b : Int)) = (xs.drop a).take (b - a) := by
  unfold cutD
  rw [HT.sIx_nat, HT.sIx_nat]
  rcases Nat.le_total a xs.length with h | h
  · rw [Nat.min_eq_left h]
    rcases Nat.le_total b xs.length with h' | h'
    · rw [Nat.min_eq_left h']
    · rw [Nat.min_eq_right h', List.take_of_length_le (by simp), List.take_of_length_le (by simp; omega)]
  · rw [Nat.min_eq_right h, List.drop_of_length_le (by omega), List.drop_of_length_le h]
    simp
theorem in_strs (w : Str) (ws : List Str) : ∃ b, dIn (.str w) (.lst (ws.map .str)) = some (.bl b) := by
  unfold dIn
  have h : inSeq (.str w) (ws.map .str) = some (inF (.str w) (ws.map .str)) := by
    unfold inSeq
    rw [if_pos ⟨rfl, by simp [flatD]⟩]
  refine ⟨inF (.str w) (ws.map .str), ?_⟩
  show ((inSeq (.str w) (ws.map .str)).or _).map D.bl = _
  rw [h]
  rfl
end VM

set_option Elab.async false
set_option linter.all false
set_option autoImplicit false
set_option maxRecDepth 100000
set_option maxHeartbeats 1000000
namespace VM
open PySem PySem.Spec PyProof.Rows L2
open PySem.W (Frag nsIn findIn subIn typeIn keepIn clsIn specialIn takesIn mroIn kitOne kitAny exmOne hasDictIn)

/-! ### exceptions: the classes of the text -/
def oexB (K : Frag) (C : Addr) : Bool := (match K.lookup C with
  | some ⟨.type "type", _, .cls cd, sl⟩ => (match cd.mro, sl.toList with
    | .ref C' :: bm, [_, _, _, _, some (.builtin n), _] => C' == C && n == "ValueError.__new__" && !cd.hasDel && cd.hasDict && PySem.HandSPX.refsVE bm
    | _, _ => false)
  | _ => false) && (decide (findIn K (.ref C) "__setattr__" = some (some (.builtin "object.__setattr__"))) && (decide (subIn K (.ref C) (.type "BaseException") = some true) && (decide (typeIn K (.ref C) = some (.type "type")) && keepIn K (.ref C))))
theorem oexB_ok {K : Frag} {C : Addr} (h : oexB K C = true) : OexC K C := by
  unfold oexB at h
  simp only [Bool.and_eq_true, decide_eq_true_eq] at h
  obtain ⟨h0, h1, h2, h3, h4⟩ := h
  refine ⟨?_, h1, h2, h3, h4⟩
  split at h0
  · rename_i dd cd sl ho
    split at h0
    · rename_i C' bm k0 k1 k2 k3 n k5 hm hs
      simp only [Bool.and_eq_true, beq_iff_eq, Bool.not_eq_true'] at h0
      obtain ⟨⟨⟨⟨rfl, rfl⟩, hdel⟩, hdd⟩, hr⟩ := h0
      obtain ⟨nm, bs, mro, ns, qn, hd, sn, sub, ab, col, del⟩ := cd
      dsimp only at hm hdel hdd
      subst hm hdel hdd
      have hsl : sl = #[k0, k1, k2, k3, some (.builtin "ValueError.__new__"), k5] := by
        obtain ⟨l⟩ := sl
        simp only at hs
        rw [hs]
      subst hsl
      exact ⟨nm, qn, ns, bs, bm, sn, sub, ab, col, dd, k0, k1, k2, k3, k5, ho, hr⟩
    · cases h0
  · cases h0
/-- what isinstance asks of the class of an exception -/
structure IsxC (K : Frag) (C : Addr) : Prop where
  cl : (clsIn K C).isSome = true
  ha : findIn K (.ref C) "__class__" = some (some (.builtin "object.__class__"))
  hn : specialIn K (.builtin "object.__class__") "__get__" = some (some (.builtin "getset_descriptor.__get__"))
  ht : takesIn K (.builtin "object.__class__") = some true
  hm : mroIn K C (.type "object") = some true
def isxB (K : Frag) (C : Addr) : Bool := (clsIn K C).isSome && (decide (findIn K (.ref C) "__class__" = some (some (.builtin "object.__class__"))) && (decide (specialIn K (.builtin "object.__class__") "__get__" = some (some (.builtin "getset_descriptor.__get__"))) && (decide (takesIn K (.builtin "object.__class__") = some true) && decide (mroIn K C (.type "object") = some true))))
theorem isxB_ok {K : Frag} {C : Addr} (h : isxB K C = true) : IsxC K C := by
  unfold isxB at h
  simp only [Bool.and_eq_true, decide_eq_true_eq] at h
  obtain ⟨h0, h1, h2, h3, h4⟩ := h
  exact ⟨h0, h1, h2, h3, h4⟩
/-- all classes stand right below one of them -/
def isSub (top c d : Str) : Bool := c == d || d == top
structure ErrT (K : Frag) (mg : Str → Option Value) (top : Str) (ns fs : List Str) : Prop where
  g : ∀ c ∈ ns, mg c = some (.ref (adIn K c))
  o : ∀ c ∈ ns, OexC K (adIn K c)
  x : ∀ c ∈ ns, XfC K (adIn K c)
  i : ∀ c ∈ ns, IsxC K (adIn K c)
  nf : ∀ c ∈ ns, ∀ f ∈ fs, findIn K (.ref (adIn K c)) f = some none
  sub : ∀ c ∈ ns, ∀ d ∈ ns, kitOne K (.ref (adIn K c)) (.ref (adIn K d)) = some (isSub top c d)
  exm : ∀ c ∈ ns, ∀ d ∈ ns, exmOne K (.ref (adIn K c)) (.ref (adIn K d)) = some (isSub top c d)
  ve : ∀ c ∈ ns, kitOne K (.ref (adIn K c)) (.type "ValueError") = some true
def errB (K : Frag) (top : Str) (ns fs : List Str) : Bool := ns.all fun c =>
  decide (nsIn K mainGlobals c = some (some (.ref (adIn K c)))) && (oexB K (adIn K c) && (xfB K (adIn K c) && (isxB K (adIn K c) && ((fs.all fun f => decide (findIn K (.ref (adIn K c)) f = some none)) &&
    ((ns.all fun d => decide (kitOne K (.ref (adIn K c)) (.ref (adIn K d)) = some (isSub top c d)) && decide (exmOne K (.ref (adIn K c)) (.ref (adIn K d)) = some (isSub top c d))) && decide (kitOne K (.ref (adIn K c)) (.type "ValueError") = some true))))))
theorem errB_ok {K : Frag} {mg : Str → Option Value} {h : Heap} {top : Str} {ns fs : List Str} (X : K.In h) (G : h.Ns mainGlobals mg) (e : errB K top ns fs = true) : ErrT K mg top ns fs := by
  unfold errB at e
  have e' := fun c (hc : c ∈ ns) => List.all_eq_true.mp e c hc
  simp only [Bool.and_eq_true, decide_eq_true_eq, List.all_eq_true] at e'
  exact ⟨fun c hc => PySem.W.mg_of X G (e' c hc).1, fun c hc => oexB_ok (e' c hc).2.1, fun c hc => xfB_ok (e' c hc).2.2.1, fun c hc => isxB_ok (e' c hc).2.2.2.1, fun c hc => (e' c hc).2.2.2.2.1,
    fun c hc d hd => ((e' c hc).2.2.2.2.2.1 d hd).1, fun c hc d hd => ((e' c hc).2.2.2.2.2.1 d hd).2, fun c hc => (e' c hc).2.2.2.2.2.2⟩

/-! ### one is made -/
theorem pmk_oexN {X : Cx} {CX : CXT} {x : Str} {e : Expr} {es : List Expr} {ta : TA} {p pos : Pos} {C fI : Addr} {k : Nat} {fd : FuncData} {ps : List Str} {sp : Sp} (T : OexC X.K C) (iC : findIn X.K (.ref C) "__init__" = some (some (.ref fI))) (tI : typeIn X.K (.ref fI) = some (.type "function"))
    (Fi : FnOk X.prog X.w X.K X.mg X.base CX k fI fd ps sp) (hr : Room (k + 1) X.A) (hb : Binds X.K fd ps []) (hx : Passes CX X (fun _ _ _ => False)) (hg : Gl X x) (hm : X.mg x = some (.ref C)) (ha : PA X (e :: es) ta)
    (hdb : (x == ("__debug__" : Str)) = false := by decide) (he : starEach (e :: es) X.env = (false, eval e X.env) :: starEach es X.env := by rfl) (hpl : (backTo pos (starEach es X.env)).any (·.1) = false := by rfl) :
    L2N.PMk X (.Call (.Name x p) (e :: es) [] pos) (tMkO C sp [] ta) := by
  intro pins s σ H Q I h
  obtain ⟨c1, c2, c3, c4, c5, c6, c7, c8, c9, c10, c11, c12, c13, c14, c15, hC, hbm⟩ := T.cls
  refine wpAny_Call_Name_kw (ld_glob I hg hm ?_ hdb)
  refine PySem.W.callWith_K (h₀ := X.base) I.ok.mod.kin T.kC (thn (ha.run pos pins s σ H _ I h) fun us s1 ⟨vs, H1, I1, r1, hz, q1⟩ => ⟨I1.kIn, ?_⟩) he hpl
  show wpAny _ _ (call (.ref C) us) _ _ _
  obtain ⟨hh, gs, dr, tk, os⟩ := s1
  let n := hh.objs.size
  have up : hh.objs.size ≤ n + 1 := Nat.le_succ _
  have free1 : H1 (n + 1) = none := I1.hok.fresh up
  have qa := q1 (n + 1) free1
  rw [List.append_nil] at qa
  have keep2 : ∀ b o, hh.get? b = some o → ((hh.push (PySem.W.kdv_tup us)).push (PySem.HandSPX.excO C n)).get? b = some o := fun b o z => Heap.get?_push_of_some _ (Heap.get?_push_of_some _ z)
  have made : ((hh.push (PySem.W.kdv_tup us)).push (PySem.HandSPX.excO C hh.objs.size)).get? (hh.objs.size + 1) = some (PySem.HandSPX.excO C hh.objs.size) := by heap_get
  have I2 : Inv X pins σ (upd H1 (n + 1) (exo (n + 1) C none)) ⟨(hh.push (PySem.W.kdv_tup us)).push (PySem.HandSPX.excO C n), gs, dr, tk, os⟩ :=
    I1.laid (t' := tk) (a := n + 1) (o := exo (n + 1) C none) (h' := (hh.push (PySem.W.kdv_tup us)).push (PySem.HandSPX.excO C n)) keep2 up (exo_ok made)
  have rv2 : Vals (V.ref (n + 1) :: vs) (Value.ref (n + 1) :: us) := .cons rfl r1
  have len2 : (Value.ref (n + 1) :: us ++ []).length = ps.length := by
    have z := rv2.length
    rw [Fi.len _ _ _ _ qa] at z
    rw [List.append_nil]
    exact z.symm
  have small : us.length ≤ sizeLine := by
    rw [← Paired.length r1, sizeLine_eq]
    omega
  have bind2 := hb _ (Value.ref (n + 1) :: us) I2.kIn len2
  rw [List.append_nil] at bind2
  refine wpAny_call (PySem.HandSPX.call_own F.excBase_ValueError (fun Y => PySem.HandSPX.refsVE_contains Y c5 hbm) (I1.kIn _ _ hC) (PySem.W.looks_findIn I1.kIn iC) (fun self => PySem.W.bind_fn I1.kIn self tI) small
    (codeAny_mono (Fi.run _ X.stack _ _ ⟨Value.ref (n + 1) :: us, []⟩ (Value.ref (n + 1) :: us) _ _ (fun _ _ _ => False) (hr.make C us []) (I2.env0.make C us []) bind2 rv2 qa) fun r s' out => ?_))
  cases r with
  | error er => exact hx pins σ _ _ er s' I2 out
  | ok fl =>
    cases fl with
    | next => exact False.elim out
    | brk => exact False.elim out
    | cont => exact False.elim out
    | ret u =>
      obtain ⟨v, H2, os2, bare2, un2, hok2, rv, ev, d, fs, ea, ed, hd1, q2⟩ := out
      subst ev
      obtain ⟨h2, g2, d2, t2, os'⟩ := s'
      obtain ⟨t0, G0, J, kG, ge, hoe, na⟩ := mk_end0 (d2 := d2) (t2 := t2) I1 up keep2 un2 hok2 os2 bare2 ea ed hd1
      exact ⟨rv, n + 1, _, _, ⟨G0, g2, d2, t2, os'⟩, _, .ref C, some d, rfl, J, kG, ge, hoe, ⟨rfl, rfl, fun vs hv => by cases hv; rfl⟩, rfl, rfl, na, rfl, bare2, raises_own T.exC T.tyC, q2⟩

/-! ### __init__ with one field, with two -/
def spIni1 (C : Addr) (f : Str) : Sp := fun vs H Q _ => ∃ a y, vs = [V.ref a, y] ∧ H a = some (exo a C none) ∧ ∀ dx, H dx = none → dx ≠ a → Q .non (upd (upd H dx (exd dx [(f, y)])) a (exo a C (some dx)))
def spIni2 (C : Addr) (f f2 : Str) : Sp := fun vs H Q _ => ∃ a y z, vs = [V.ref a, y, z] ∧ H a = some (exo a C none) ∧ ∀ dx, H dx = none → dx ≠ a → Q .non (upd (upd (upd H dx (exd dx [(f, y)])) a (exo a C (some dx))) dx (exd dx [(f2, z), (f, y)]))
section
variable {P : Program} {w : World} {K : Frag} {mg : Str → Option Value} {base : Heap} {q : Str} {st : Stmt} {f C : Addr} {fd : FuncData} {fl f2 p p2 : Str}
theorem ini1_ok (F : Fun K "__init__" q st f fd) (S : FnScope ["self", p] ["self", p] (defScope st)) (T : OexC K C) (hn : findIn K (.ref C) fl = some none)
    (hb : ∀ (cdv : Value) (A : Around) (outer : List Env) (s : Shared) (H : Hp) (E : XK), PSs (cxOf CX0 P w K mg base ["self", p] q (defScope st) f cdv A outer s H E).nox (defBody st) (tOst K fl (tVar 0) (tVar 1))) :
    FnOk P w K mg base CX0 1 f fd ["self", p] (spIni1 C fl) := by
  refine F.ok S (fun vs H Q E h => ?_) fun cdv A outer s H vs Q E hr h => ⟨_, hb cdv A outer s H E, ?_⟩
  · obtain ⟨a, y, rfl, _⟩ := h
    rfl
  · obtain ⟨a, y, rfl, ha, h⟩ := h
    exact ⟨y, rfl, .ref a, rfl, a, C, rfl, T, hn, .inl ⟨ha, fun dx h1 h2 => h dx h1 h2⟩⟩
theorem ini2_ok (F : Fun K "__init__" q st f fd) (S : FnScope ["self", p, p2] ["self", p, p2] (defScope st)) (T : OexC K C) (hn : findIn K (.ref C) fl = some none) (hn2 : findIn K (.ref C) f2 = some none)
    (hb : ∀ (cdv : Value) (A : Around) (outer : List Env) (s : Shared) (H : Hp) (E : XK), PSs (cxOf CX0 P w K mg base ["self", p, p2] q (defScope st) f cdv A outer s H E).nox (defBody st) (tSeq (tOst K fl (tVar 0) (tVar 1)) (tOst K f2 (tVar 0) (tVar 2)))) :
    FnOk P w K mg base CX0 1 f fd ["self", p, p2] (spIni2 C fl f2) := by
  refine F.ok S (fun vs H Q E h => ?_) fun cdv A outer s H vs Q E hr h => ⟨_, hb cdv A outer s H E, ?_⟩
  · obtain ⟨a, y, z, rfl, _⟩ := h
    rfl
  · obtain ⟨a, y, z, rfl, ha, h⟩ := h
    refine ⟨y, rfl, .ref a, rfl, a, C, rfl, T, hn, .inl ⟨ha, fun dx h1 h2 => ?_⟩⟩
    refine ⟨z, rfl, .ref a, rfl, a, C, rfl, T, hn2, .inr ⟨dx, [(fl, y)], upd_same, ?_, by show 1 ≤ 900; decide, h dx h1 h2⟩⟩
    rw [upd_ne h2, upd_same]
end
theorem heap_end {H1 : Hp} {a C dx : Addr} {fs gs : List (Str × V)} (na : H1 a = none) (hd : dx ≠ a) : upd (del (upd (upd (upd H1 a (exo a C none)) dx (exd dx fs)) a (exo a C (some dx))) a) dx (.xd gs) = upd H1 dx (.xd gs) := by
  funext b
  by_cases h1 : b = dx
  · rw [h1, upd_same, upd_same]
  · rw [upd_ne h1, upd_ne h1]
    by_cases h2 : b = a
    · rw [h2, del_same, na]
    · rw [del_ne h2, upd_ne h2, upd_ne h1, upd_ne h2]
theorem heap_end2 {H1 : Hp} {a C dx : Addr} {fs f2 gs : List (Str × V)} (na : H1 a = none) (hd : dx ≠ a) : upd (del (upd (upd (upd (upd H1 a (exo a C none)) dx (exd dx fs)) a (exo a C (some dx))) dx (exd dx f2)) a) dx (.xd gs) = upd H1 dx (.xd gs) := by
  funext b
  by_cases h1 : b = dx
  · rw [h1, upd_same, upd_same]
  · rw [upd_ne h1, upd_ne h1]
    by_cases h2 : b = a
    · rw [h2, del_same, na]
    · rw [del_ne h2, upd_ne h1, upd_ne h2, upd_ne h1, upd_ne h2]

/-! ### raise -/
def mRaise (c : Str) (fs : List Str) (ms : M (List D)) : MS := mBind ms fun ds s => if ds.length = fs.length then .err ⟨c, (fs.zip ds).reverse⟩ s else .bad
section
variable {X : Cx} {W : WX'} {kk : Nat} {x : Str} {e : Expr} {es : List Expr} {ms : M (List D)} {p pos pos2 : Pos} {fI : Addr} {fd : FuncData} {top : Str} {ns fs : List Str} {f f2 p1 p2 : Str}
theorem ss_raise1 (c : Ctx X W kk) (h2 : 2 ≤ kk) (hc : X.calm = true) (T : ErrT X.K X.mg top ns fs) (hx : x ∈ ns) (iC : findIn X.K (.ref (adIn X.K x)) "__init__" = some (some (.ref fI))) (tI : typeIn X.K (.ref fI) = some (.type "function"))
    (Fi : FnOk X.prog X.w X.K X.mg X.base CX0 1 fI fd ["self", p1] (spIni1 (adIn X.K x) f)) (hb : Binds X.K fd ["self", p1] []) (hg : Gl X x) (ha : SA X W (e :: es) ms)
    (hdb : (x == ("__debug__" : Str)) = false := by decide) (he : starEach (e :: es) X.env = (false, eval e X.env) :: starEach es X.env := by rfl) (hpl : (backTo pos (starEach es X.env)).any (·.1) = false := by rfl) :
    SS X W (.Raise (some (.Call (.Name x p) (e :: es) [] pos)) none pos2) (mRaise x [f] ms) :=
  ps_imp (L2N.ps_raise hc c.tk (pmk_oexN (T.o x hx) iC tI Fi (c.hr.mono h2) hb pass0 hg (T.g x hx) ha hdb he hpl)) fun Dn σ H q => by
    obtain ⟨g, F, sv, hK, rl, q⟩ := q
    refine ⟨g, F, sv, hK, rl, PostS.bind (H := H) q fun ds s vs F1 H1 e1 rl1 rp1 q1 => ?_⟩
    split at q1
    · rename_i hz
      obtain ⟨d, rfl⟩ : ∃ d, ds = [d] := by
        match ds, hz with
        | [d], _ => exact ⟨d, rfl⟩
      obtain ⟨v, rfl, rv⟩ := rp1.one_inv
      refine ⟨by show 1 ≤ 1000; decide, fun a na => ⟨a, v, rfl, upd_same, fun dx h1 h2 => ?_⟩⟩
      have n1 : H1 dx = none := by rw [upd_ne h2] at h1; exact h1
      refine ⟨rfl, dx, [(f, v)], upd_same, by rw [upd_ne h2, upd_same], n1, ?_⟩
      rw [heap_end na h2]
      have sF : Same F1 (upd F1 dx (.xd [(f, v)])) := same_upd (rl1.sub.free n1)
      exact q1 _ _ _ _ _ sF (rl1.lay n1) ⟨_, T.g x hx, rfl, .inr ⟨dx, [v], rfl, upd_same, RpL.one (Rp.mono sF _ _ rv)⟩⟩
    · exact False.elim q1
theorem ss_raise2 (c : Ctx X W kk) (h2 : 2 ≤ kk) (hc : X.calm = true) (T : ErrT X.K X.mg top ns fs) (hx : x ∈ ns) (iC : findIn X.K (.ref (adIn X.K x)) "__init__" = some (some (.ref fI))) (tI : typeIn X.K (.ref fI) = some (.type "function"))
    (Fi : FnOk X.prog X.w X.K X.mg X.base CX0 1 fI fd ["self", p1, p2] (spIni2 (adIn X.K x) f f2)) (hb : Binds X.K fd ["self", p1, p2] []) (hg : Gl X x) (ha : SA X W (e :: es) ms)
    (hdb : (x == ("__debug__" : Str)) = false := by decide) (he : starEach (e :: es) X.env = (false, eval e X.env) :: starEach es X.env := by rfl) (hpl : (backTo pos (starEach es X.env)).any (·.1) = false := by rfl) :
    SS X W (.Raise (some (.Call (.Name x p) (e :: es) [] pos)) none pos2) (mRaise x [f, f2] ms) :=
  ps_imp (L2N.ps_raise hc c.tk (pmk_oexN (T.o x hx) iC tI Fi (c.hr.mono h2) hb pass0 hg (T.g x hx) ha hdb he hpl)) fun Dn σ H q => by
    obtain ⟨g, F, sv, hK, rl, q⟩ := q
    refine ⟨g, F, sv, hK, rl, PostS.bind (H := H) q fun ds s vs F1 H1 e1 rl1 rp1 q1 => ?_⟩
    split at q1
    · rename_i hz
      obtain ⟨d, d2, rfl⟩ : ∃ d d2, ds = [d, d2] := by
        match ds, hz with
        | [d, d2], _ => exact ⟨d, d2, rfl⟩
      obtain ⟨v, v2, rfl, rv, rv2⟩ := rp1.two_inv
      refine ⟨by show 2 ≤ 1000; decide, fun a na => ⟨a, v, v2, rfl, upd_same, fun dx h1 h2 => ?_⟩⟩
      have n1 : H1 dx = none := by rw [upd_ne h2] at h1; exact h1
      refine ⟨rfl, dx, [(f2, v2), (f, v)], by rw [upd_ne (Ne.symm h2), upd_same], upd_same, n1, ?_⟩
      rw [heap_end2 na h2]
      have sF : Same F1 (upd F1 dx (.xd [(f2, v2), (f, v)])) := same_upd (rl1.sub.free n1)
      exact q1 _ _ _ _ _ sF (rl1.lay n1) ⟨_, T.g x hx, rfl, .inr ⟨dx, [v2, v], rfl, upd_same, ⟨v2, [v], rfl, Rp.mono sF _ _ rv2, RpL.one (Rp.mono sF _ _ rv)⟩⟩⟩
    · exact False.elim q1
end
end VM
namespace VM
open PySem PySem.Spec PyProof.Rows L2
theorem adIn_of {K : PySem.W.Frag} {c : Str} {C : Addr} (h : PySem.W.nsIn K mainGlobals c = some (some (.ref C))) : adIn K c = C := by
  unfold adIn
  rw [h]
end VM

set_option Elab.async false
set_option linter.all false
set_option autoImplicit false
set_option maxRecDepth 100000
set_option maxHeartbeats 1000000
namespace VM
open PySem PySem.Spec PyProof.Rows L2
open PySem.W (Frag nsIn findIn subIn typeIn keepIn clsIn specialIn takesIn mroIn kitOne kitAny exmOne hasDictIn)

/-! ### a frame with the exception in hand -/
def noExS : Sl → Bool
  | .ex _ => false
  | _ => true
def noEx (sv : SV) : Bool := sv.all noExS
section
variable {g : G} {F H : Hp} {σ : L2.St} {sv : SV}
theorem Rl.mxTo (r : Rl g F H σ sv) (h : noEx sv = true) (m : MX) : Rl { g with mx := m } F H σ sv := by
  refine ⟨r.sub, r.kH, r.kF, r.fxH, r.pf, r.ion, r.len, fun i s e => ?_, r.dj⟩
  have q := r.sl i s e
  cases s with
  | ex x =>
    have z := List.all_eq_true.mp h _ (List.mem_of_getElem? e)
    cases z
  | un => exact q
  | pl d => exact q
  | ow d => exact q
  | io k d => exact q
theorem Rl.noEx_of (r : Rl g F H σ sv) (h : g.mx.hx = none) : noEx sv = true := List.all_eq_true.mpr fun s hs => by
  obtain ⟨i, hi, e⟩ := List.getElem_of_mem hs
  have q := r.sl i s (by rw [List.getElem?_eq_getElem hi, e])
  cases s with
  | ex x =>
    obtain ⟨a, oe, d, cls, _, z, _⟩ := q
    rw [h] at z
    cases z
  | un => rfl
  | pl d => rfl
  | ow d => rfl
  | io k d => rfl
theorem Rl.setGen (r : Rl g F H σ sv) (i : Nat) {ov : Option V} {s' : Sl} (no : (∀ d, s' ≠ .ow d) ∧ ∀ k d, s' ≠ .io k d) (h : SlOk g F H (some ov) s') : Rl g F H (σ.set i ov) (sv.set i s') := by
  exact r.setSl i h fun d p e => by
    cases s' with
    | ow d => exact absurd rfl (no.1 d)
    | io k d => exact absurd rfl (no.2 k d)
    | _ => cases e
end

/-! ### where an exception is handled -/
structure CtxH (X : Cx) (W : WX') (k : Nat) : Prop where
  tk : L2N.Takes X W
  hr : L2H.RoomH k X.A
  hg : X.A.guards = some []
  po : PassesOwn (model X.prog X.w) X.A X.env X.xe
  hot : L2H.HotC X
theorem CtxH.u {X : Cx} {W : WX'} {k : Nat} (c : CtxH X W k) : X.A.units + 64 < cLine := by have := c.hr.un; omega
theorem CtxH.u5 {X : Cx} {W : WX'} {k : Nat} (c : CtxH X W k) : X.A.units + 65 < cLine := by have := c.hr.un; omega
theorem ctx_suite {X : Cx} {W : WX'} {k : Nat} (c : Ctx X W k) {a : Addr} {oe : Obj} {cls : Value} {d : Option Addr} {pn : List (Addr × Obj)} (hz : L2N.Zn cls d oe) (hf : ∃ vs, oe.data = .fields vs) : CtxH (X.suite a ((a, oe) :: pn)) WF k :=
  ⟨takesN0, L2H.roomH_mark c.hr _, c.hg, PassesOwn.never, ⟨(a, oe), ⟨rfl, let ⟨vs, h⟩ := hf; ⟨vs, h, hz.2.2 vs h⟩⟩, List.mem_cons_self⟩⟩
theorem ctx_tr {X : Cx} {W W' : WX'} {k : Nat} (c : Ctx X W k) {pn : List (Addr × Obj)} {xe : Value → Shared → Prop} (t : L2N.Takes (X.tr pn xe) W') (p : PassesOwn (model X.prog X.w) X.A X.env xe) : Ctx (X.tr pn xe) W' k := ⟨t, c.hr, c.hg, p⟩
theorem tr_mx {X : Cx} (hc : X.calm = true) (pn : List (Addr × Obj)) (xe : Value → Shared → Prop) : (X.tr pn xe).mx = X.mx := by
  unfold L2.Cx.mx
  show MX.mk X.mg (if X.calm = true then none else _) = _
  rw [if_pos hc, if_pos hc]
theorem mx_calm {X : Cx} (hc : X.calm = true) : X.mx.hx = none := by
  unfold L2.Cx.mx
  exact if_pos hc
theorem suite_mx {X : Cx} (a : Addr) (oe : Obj) (pn : List (Addr × Obj)) : (X.suite a ((a, oe) :: pn)).mx = ⟨X.mg, some (a, oe)⟩ := rfl

/-! ### try .. except x as n -/
def endEx (i : Nat) : O → O
  | .nx s => if noEx (s.set i .un) = true then .nx (s.set i .un) else .bad
  | .rt d s => if noEx (s.set i .un) = true then .rt d (s.set i .un) else .bad
  | .ro d s => if noEx (s.set i .un) = true then .ro d (s.set i .un) else .bad
  | .bk s => if noEx (s.set i .un) = true then .bk (s.set i .un) else .bad
  | .ct s => if noEx (s.set i .un) = true then .ct (s.set i .un) else .bad
  | .err _ _ => .bad
  | .bad => .bad
def mTry (top : Str) (ns : List Str) (x : Str) (i : Nat) (mb ms : MS) : MS := fun sv => match mb sv with
  | .err e s => if e.c ∈ ns then (if isSub top e.c x = true then endEx i (ms (s.set i (.ex e))) else .err e s) else .bad
  | o => o
/-- .. without a name -/
def endO : O → O
  | .nx s => if noEx s = true then .nx s else .bad
  | .rt d s => if noEx s = true then .rt d s else .bad
  | .ro d s => if noEx s = true then .ro d s else .bad
  | .bk s => if noEx s = true then .bk s else .bad
  | .ct s => if noEx s = true then .ct s else .bad
  | .err _ _ => .bad
  | .bad => .bad
def mTryO (top : Str) (ns : List Str) (x : Str) (mb ms : MS) : MS := fun sv => match mb sv with
  | .err e s => if e.c ∈ ns then (if isSub top e.c x = true then endO (ms s) else .err e s) else .bad
  | o => o
section
variable {X : Cx} {W : WX'} {kk i : Nat} {x n : Str} {body suite : List Stmt} {b₀ : Stmt} {np pos pos' : Pos} {top : Str} {ns fs : List Str} {mb ms : MS}
theorem ErrT.cls {K K' : Frag} {mg : Str → Option Value} (T : ErrT K mg top ns fs) {F : Hp} {e : Exn} {cls : Value} {d : Option Addr} (h : ErrOk K' mg F e cls d) (he : e.c ∈ ns) : cls = .ref (adIn K e.c) := by
  obtain ⟨C, h1, h2, _⟩ := h
  rw [T.g e.c he] at h1
  cases h1
  exact h2
theorem ss_try_as (c : Ctx X W kk) (hst : X.stack = X.env :: X.outer) (hfr : X.env.frame = some X.env.locals) (hc : X.calm = true) (hN : X.N.Nodup) (hi : X.N[i]? = some n) (hln : X.env.kindOf n = some .local) (T : ErrT X.K X.mg top ns fs) (hx : x ∈ ns) (hg : Gl X x) (hdb : (x == ("__debug__" : Str)) = false)
    (hb : ∀ (W' : WX') (pn : List (Addr × Obj)) (xe : Value → Shared → Prop), Ctx (X.tr pn xe) W' kk → SSs (X.tr pn xe) W' body mb)
    (hs : ∀ (a : Addr) (oe : Obj) (pn : List (Addr × Obj)), CtxH (X.suite a ((a, oe) :: pn)) WF kk → SSs (X.suite a ((a, oe) :: pn)) WF (b₀ :: suite) ms) :
    SS X W (.Try body [.ExceptHandler (some (.Name x np)) (some n) (b₀ :: suite) pos'] [] [] pos) (mTry top ns x i mb ms) := by
  have h := L2N.ps_try_as (pos := pos) (pos' := pos') (np := np) (tb := fun W' => tS X.K X.mx W' mb) (ts := fun a cls d => fun D σ H => ∀ oe, Zc cls d oe → (∃ vs, oe.data = .fields vs) → tS X.K ⟨X.mg, some (a, oe)⟩ WF ms D σ H)
    hst hfr hN hi hln (c := .ref (adIn X.K x)) ⟨hg, hdb, .inl (T.g x hx)⟩ c.tk
    (fun W' pn xe t p => by
      have z := hb W' pn xe (ctx_tr c t p)
      unfold SSs at z
      rw [tr_mx hc] at z
      exact z)
    (fun a oe cls d pn hz hf => pss_imp (hs a oe pn (ctx_suite c hz hf)) fun D σ H q => q oe hz.zc hf)
  refine ps_imp h fun Dn σ H q => ?_
  obtain ⟨g, F, sv, hK, rl, q⟩ := q
  refine ⟨g, F, sv, hK, rl, ?_⟩
  unfold mTry at q
  cases hm : mb sv with
  | nx s => rw [hm] at q; exact q
  | rt d s => rw [hm] at q; exact q
  | ro d s => rw [hm] at q; exact q
  | bk s => rw [hm] at q; exact q
  | ct s => rw [hm] at q; exact q
  | bad => rw [hm] at q; exact q
  | err e s =>
    rw [hm] at q
    dsimp only at q
    intro cls dd σ1 F1 H1 e1 rl1 er
    split at q
    · rename_i he
      have ec := T.cls er he
      subst ec
      refine ⟨isSub top e.c x, T.exm e.c he x hx, fun hb a na oe hz hf => ?_, fun hb => ?_⟩
      · rw [if_pos hb] at q
        have hn : noEx s = true := rl1.noEx_of (by rw [hK.2]; exact mx_calm hc)
        have rl2 : Rl { g with mx := ⟨X.mg, some (a, oe)⟩ } F1 H1 (σ1.set i (some (.ref a))) (s.set i (.ex e)) := (rl1.mxTo hn ⟨X.mg, some (a, oe)⟩).setGen i ⟨(fun _ z => nomatch z), (fun _ _ z => nomatch z)⟩
          ⟨a, oe, dd, _, rfl, rfl, hz, hf, by show ErrOk g.K X.mg F1 e _ dd; exact er⟩
        refine ⟨{ g with mx := ⟨X.mg, some (a, oe)⟩ }, F1, _, ⟨hK.1, rfl⟩, rl2, ?_⟩
        have back : ∀ {σ2 : L2.St} {F2 H2 : Hp} {s2 : SV}, noEx (s2.set i .un) = true → Rl { g with mx := ⟨X.mg, some (a, oe)⟩ } F2 H2 σ2 s2 → Rl g F2 H2 (σ2.set i none) (s2.set i .un) ∧ Rl g F2 H2 σ2 (s2.set i .un) := fun {σ2 F2 H2 s2} hne r => by
          refine ⟨?_, ?_⟩
          · exact (r.setGen i (s' := .un) ⟨(fun _ z => nomatch z), (fun _ _ z => nomatch z)⟩ trivial).mxTo hne g.mx
          · exact (r.forget i).mxTo hne g.mx
        cases ho : ms (s.set i (.ex e)) with
        | nx s2 =>
          rw [ho] at q
          simp only [endEx] at q
          split at q
          · rename_i hne
            exact fun σ2 F2 H2 e2 r2 => q _ F2 H2 (e1.trans e2) (back hne r2).1
          · exact False.elim q
        | bk s2 =>
          rw [ho] at q
          simp only [endEx] at q
          split at q
          · rename_i hne
            exact fun σ2 F2 H2 e2 r2 => q _ F2 H2 (e1.trans e2) (back hne r2).1
          · exact False.elim q
        | ct s2 =>
          rw [ho] at q
          simp only [endEx] at q
          split at q
          · rename_i hne
            exact fun σ2 F2 H2 e2 r2 => q _ F2 H2 (e1.trans e2) (back hne r2).1
          · exact False.elim q
        | rt d s2 =>
          rw [ho] at q
          simp only [endEx] at q
          split at q
          · rename_i hne
            exact fun v σ2 F2 H2 e2 r2 rp => q v _ F2 H2 (e1.trans e2) (back hne r2).2 rp
          · exact False.elim q
        | ro d s2 =>
          rw [ho] at q
          simp only [endEx] at q
          split at q
          · rename_i hne
            refine fun v σ2 F2 H2 e2 r2 rp => q v σ2 F2 H2 (e1.trans e2) (back hne r2).2 ?_
            obtain ⟨p, h1, h2, h3, h4⟩ := rp
            refine ⟨p, h1, h2, h3, fun a' ha' j hj => h4 a' ha' j ?_⟩
            obtain ⟨t, d0, q0, u1, u2, u3, u4⟩ := hj
            by_cases hij : i = j
            · subst hij
              obtain ⟨hl, _⟩ := List.getElem?_eq_some_iff.mp u1
              rw [List.getElem?_set_self (by simpa using hl)] at u1
              cases u1
              cases u2
            · rw [List.getElem?_set_ne hij] at u1
              exact ⟨t, d0, q0, u1, u2, u3, u4⟩
          · exact False.elim q
        | err e2 s2 => rw [ho] at q; exact False.elim q
        | bad => rw [ho] at q; exact False.elim q
      · rw [if_neg (by rw [hb]; exact Bool.false_ne_true)] at q
        exact q _ _ _ _ _ e1 rl1 er
    · exact False.elim q
theorem ss_try_o (c : Ctx X W kk) (hst : X.stack = X.env :: X.outer) (hfr : X.env.frame = some X.env.locals) (hc : X.calm = true) (T : ErrT X.K X.mg top ns fs) (hx : x ∈ ns) (hg : Gl X x) (hdb : (x == ("__debug__" : Str)) = false)
    (hb : ∀ (W' : WX') (pn : List (Addr × Obj)) (xe : Value → Shared → Prop), Ctx (X.tr pn xe) W' kk → SSs (X.tr pn xe) W' body mb)
    (hs : ∀ (a : Addr) (oe : Obj) (pn : List (Addr × Obj)), CtxH (X.suite a ((a, oe) :: pn)) WF kk → SSs (X.suite a ((a, oe) :: pn)) WF (b₀ :: suite) ms) :
    SS X W (.Try body [.ExceptHandler (some (.Name x np)) none (b₀ :: suite) pos'] [] [] pos) (mTryO top ns x mb ms) := by
  have h := L2N.ps_try_many (pos := pos) (tb := fun W' => tS X.K X.mx W' mb) (l := [((.ref (adIn X.K x) : Value), fun a cls d => fun D σ H => ∀ oe, Zc cls d oe → (∃ vs, oe.data = .fields vs) → tS X.K ⟨X.mg, some (a, oe)⟩ WF ms D σ H)])
    hst hfr c.tk
    (fun W' pn xe t p => by
      have z := hb W' pn xe (ctx_tr c t p)
      unfold SSs at z
      rw [tr_mx hc] at z
      exact z)
    (.cons (pos' := pos') (np := np) (b₀ := b₀) (suite := suite) ⟨hg, hdb, .inl (T.g x hx)⟩ (fun a oe cls d pn hz hf => pss_imp (hs a oe pn (ctx_suite c hz hf)) fun D σ H q => q oe hz.zc hf) .nil)
  refine ps_imp h fun Dn σ H q => ?_
  obtain ⟨g, F, sv, hK, rl, q⟩ := q
  refine ⟨g, F, sv, hK, rl, ?_⟩
  unfold mTryO at q
  cases hm : mb sv with
  | nx s => rw [hm] at q; exact q
  | rt d s => rw [hm] at q; exact q
  | ro d s => rw [hm] at q; exact q
  | bk s => rw [hm] at q; exact q
  | ct s => rw [hm] at q; exact q
  | bad => rw [hm] at q; exact q
  | err e s =>
    rw [hm] at q
    dsimp only at q
    intro cls dd σ1 F1 H1 e1 rl1 er
    split at q
    · rename_i he
      have ec := T.cls er he
      subst ec
      refine ⟨isSub top e.c x, T.exm e.c he x hx, fun hb a na oe hz hf => ?_, fun hb => ?_⟩
      · rw [if_pos hb] at q
        have hn : noEx s = true := rl1.noEx_of (by rw [hK.2]; exact mx_calm hc)
        refine ⟨{ g with mx := ⟨X.mg, some (a, oe)⟩ }, F1, _, ⟨hK.1, rfl⟩, rl1.mxTo hn ⟨X.mg, some (a, oe)⟩, ?_⟩
        have back : ∀ {σ2 : L2.St} {F2 H2 : Hp} {s2 : SV}, noEx s2 = true → Rl { g with mx := ⟨X.mg, some (a, oe)⟩ } F2 H2 σ2 s2 → Rl g F2 H2 σ2 s2 := fun {σ2 F2 H2 s2} hne r => r.mxTo hne g.mx
        cases ho : ms s with
        | nx s2 =>
          rw [ho] at q
          simp only [endO] at q
          split at q
          · rename_i hne
            exact fun σ2 F2 H2 e2 r2 => q _ F2 H2 (e1.trans e2) (back hne r2)
          · exact False.elim q
        | bk s2 =>
          rw [ho] at q
          simp only [endO] at q
          split at q
          · rename_i hne
            exact fun σ2 F2 H2 e2 r2 => q _ F2 H2 (e1.trans e2) (back hne r2)
          · exact False.elim q
        | ct s2 =>
          rw [ho] at q
          simp only [endO] at q
          split at q
          · rename_i hne
            exact fun σ2 F2 H2 e2 r2 => q _ F2 H2 (e1.trans e2) (back hne r2)
          · exact False.elim q
        | rt d s2 =>
          rw [ho] at q
          simp only [endO] at q
          split at q
          · rename_i hne
            exact fun v σ2 F2 H2 e2 r2 rp => q v _ F2 H2 (e1.trans e2) (back hne r2) rp
          · exact False.elim q
        | ro d s2 =>
          rw [ho] at q
          simp only [endO] at q
          split at q
          · rename_i hne
            exact fun v σ2 F2 H2 e2 r2 rp => q v _ F2 H2 (e1.trans e2) (back hne r2) rp
          · exact False.elim q
        | err e2 s2 => rw [ho] at q; exact False.elim q
        | bad => rw [ho] at q; exact False.elim q
      · rw [if_neg (by rw [hb]; exact Bool.false_ne_true)] at q
        exact q _ _ _ _ _ e1 rl1 er
    · exact False.elim q
end
end VM

set_option Elab.async false
set_option linter.all false
set_option autoImplicit false
set_option maxRecDepth 100000
set_option maxHeartbeats 1000000
namespace VM
open PySem PySem.Spec PyProof.Rows L2
open PySem.W (Frag nsIn findIn subIn typeIn keepIn clsIn specialIn takesIn mroIn kitOne kitAny exmOne hasDictIn)

/-! ### the exception's fields, its class -/
def mExF (ns : List Str) (i : Nat) (f : Str) : M D := fun sv => match sv[i]? with
  | some (.ex x) => if x.c ∈ ns then (match x.fs.lookup f with
    | some d => .ok d sv
    | none => .bad) else .bad
  | _ => .bad
def mExIs (ns : List Str) (i : Nat) (t : Str → Bool) : M D := fun sv => match sv[i]? with
  | some (.ex x) => if x.c ∈ ns then .ok (.bl (t x.c)) sv else .bad
  | _ => .bad
theorem zip_lookup {K : Frag} {F : Hp} {f : Str} : ∀ {fs : List (Str × D)} {vs : List V} {d : D}, RpL K F (fs.map (·.2)) vs → fs.lookup f = some d → ∃ v, ((fs.map (·.1)).zip vs).lookup f = some v ∧ Rp K F d v
  | [], _, _, _, e => by cases e
  | (g, e0) :: fs, vs, d, h, e => by
    obtain ⟨v, r, rfl, h1, h2⟩ := h
    simp only [List.map_cons, List.zip_cons_cons, List.lookup_cons] at e ⊢
    cases hg : f == g with
    | true =>
      rw [hg] at e
      cases e
      exact ⟨v, rfl, h1⟩
    | false =>
      rw [hg] at e
      exact zip_lookup h2 e
def tNm (K : Frag) (cs : List Str) : TA := fun σ H Q => Q (cs.map fun c => V.ref (adIn K c)) H
/-- the exception's own class and its dict -/
structure HasD (K : Frag) (H : Hp) (oe : Obj) (D : Addr) : Prop where
  cls : oe.cls = .ref D
  fl : ∃ vs, oe.data = .fields vs
  xf : XfC K D
  ix : IsxC K D
  dd : oe.dict = none ∨ ∃ dd fs, oe.dict = some dd ∧ H dd = some (.xd fs)
def rIsX (K : Frag) (a : Addr) (oe : Obj) : List V → Hp → VK → Prop := fun xs H Q => ∃ (c : V) (cv : Value) (b : Bool) (D : Addr), xs = [.ref a, c] ∧ (∀ u, RelV c u → u = cv) ∧ HasD K H oe D ∧ kitOne K (.ref D) cv = some b ∧ Q (.bl b) H
def rIsXT (K : Frag) (a : Addr) (oe : Obj) : List V → Hp → VK → Prop := fun xs H Q => ∃ (tp : Addr) (cs : List V) (us : List Value) (b : Bool) (D : Addr), xs = [.ref a, .ref tp] ∧ H tp = some (.tup cs) ∧ Paired ClsV cs us ∧ HasD K H oe D ∧ kitAny K (.ref D) us = some b ∧ Q (.bl b) H
section
variable {X : Cx} {a : Addr} {oe : Obj} {pn : List (Addr × Obj)}
theorem inst_of {pins : List (Addr × Obj)} {σ : L2.St} {H : Hp} {s : Shared} {D : Addr} (I : Inv (X.suite a ((a, oe) :: pn)) pins σ H s) (h : HasD X.K H oe D) : ∃ od, PySem.W.InstAt s.heap a oe D od := by
  obtain ⟨hget, _⟩ := I.pin (a, oe) (List.mem_append_left _ List.mem_cons_self)
  obtain ⟨oc, od, oda, osl⟩ := oe
  obtain ⟨h1, ⟨vs, h2⟩, _, _, h5⟩ := h
  dsimp only at h1 h2 h5
  subst h1 h2
  rcases h5 with rfl | ⟨dd, fs, rfl, h6⟩
  · exact ⟨none, hget, rfl, rfl, trivial⟩
  · obtain ⟨mA, hns, hr⟩ := (show ObjOk X.prog X.w H s.heap dd (.xd fs) from I.hok dd _ h6)
    obtain ⟨od, ho, hl⟩ := lookIn_ns hns
    exact ⟨some od, hget, rfl, rfl, ho⟩
theorem call_isX : CallR (X.suite a ((a, oe) :: pn)) (.builtin "isinstance") (rIsX X.K a oe) := by
  intro pins s σ H xs us Q I r h
  obtain ⟨c, cv, b, D, rfl, hcv, hd, e, q⟩ := h
  obtain ⟨u1, u2, rfl, r1, r2⟩ := vals2 r
  have e2 := hcv _ r2
  subst e2
  cases (show u1 = Value.ref a from r1)
  obtain ⟨od, J⟩ := inst_of I hd
  exact PySem.W.kia_one (PySem.W.kitx_exc hd.ix.cl hd.xf.ga hd.xf.gg hd.xf.exC hd.ix.ha hd.ix.hn hd.ix.ht hd.ix.hm) I.kIn J e (fun z => nomatch z) fun tk => ⟨.bl b, H, I.tok tk, rfl, q⟩
theorem call_isXT : CallR (X.suite a ((a, oe) :: pn)) (.builtin "isinstance") (rIsXT X.K a oe) := by
  intro pins s σ H xs us Q I r h
  obtain ⟨tp, cs, ws, b, D, rfl, hT, k, hd, e, q⟩ := h
  obtain ⟨u1, u2, rfl, r1, r2⟩ := vals2 r
  cases (show u2 = Value.ref tp from r2)
  cases (show u1 = Value.ref a from r1)
  obtain ⟨od, J⟩ := inst_of I hd
  obtain ⟨_, its, rv, o, h1, h2, n, h3⟩ := (show ObjOk X.prog X.w H s.heap tp (.tup cs) from I.hok tp _ hT)
  have e3 := ClsV.all k rv
  subst e3
  obtain ⟨c0, c1, c2, c3⟩ := o
  simp only at h2 h3
  subst h2 h3
  exact PySem.W.kia_tup (PySem.W.kitx_exc hd.ix.cl hd.xf.ga hd.xf.gg hd.xf.exC hd.ix.ha hd.ix.hn hd.ix.ht hd.ix.hm) I.kIn J h1 e (fun z => nomatch z) fun tk => ⟨.bl b, H, I.tok tk, rfl, q⟩
end
section
variable {X : Cx} {W : WX'} {a : Addr} {oe : Obj} {pn : List (Addr × Obj)} {top : Str} {ns fs : List Str} {i : Nat} {n f y : Str} {p p2 p3 pos : Pos} {es : List Expr} {cs : List Str}
/-- what slot i tells -/
theorem ex_at (T : ErrT X.K X.mg top ns fs) {g : G} {F H : Hp} {σ : L2.St} {sv : SV} (hK : g.K = X.K ∧ g.mx = (X.suite a ((a, oe) :: pn)).mx) (rl : Rl g F H σ sv) {x : Exn} (h : sv[i]? = some (.ex x)) (hx : x.c ∈ ns) :
    σ[i]? = some (some (.ref a)) ∧ HasD X.K H oe (adIn X.K x.c) ∧ ∃ cls d, Zc cls d oe ∧ (∃ vs, oe.data = .fields vs) ∧ ErrOk X.K X.mg F x cls d := by
  obtain ⟨a', oe', d, cls, e1, e2, e3, e4, e5⟩ := rl.sl i _ h
  rw [hK.2] at e2 e5
  rw [hK.1] at e5
  have e2' : some (a, oe) = some (a', oe') := e2
  cases e2'
  have ec := T.cls e5 hx
  subst ec
  refine ⟨e1, ⟨e3.1, e4, T.x _ hx, T.i _ hx, ?_⟩, _, d, e3, e4, e5⟩
  obtain ⟨C, _, _, h3⟩ := e5
  rcases h3 with ⟨_, h3⟩ | ⟨dd, vs, h4, h5, _⟩
  · exact .inl (e3.2.trans h3)
  · exact .inr ⟨dd, _, e3.2.trans h4, rl.sub _ _ h5⟩
theorem se_exF (T : ErrT X.K X.mg top ns fs) (hf : f ∈ fs) (hv : PE (X.suite a ((a, oe) :: pn)) (.Name n p) (tVar i)) (hb : attributeBase (.Name n p) f X.env (eval (.Name n p) X.env) = eval (.Name n p) X.env := by rfl) :
    SE (X.suite a ((a, oe) :: pn)) W (.Attribute (.Name n p) f pos) (mExF ns i f) := by
  refine ⟨fun pins s σ H Q I q => ?_⟩
  obtain ⟨g, F, sv, hK, rl, q⟩ := q
  unfold mExF at q
  split at q
  · rename_i x hx
    split at q
    · rename_i hc
      split at q
      · rename_i d hd
        obtain ⟨e1, hD, cls, dd, hz, hfl, er⟩ := ex_at T hK rl hx hc
        have ec := T.cls er hc
        subst ec
        refine (pe_xf (T.x _ hc) (T.nf _ hc f hf) hz hfl hv hb).run pins s σ H Q I ?_
        obtain ⟨C, _, _, h3⟩ := er
        rcases h3 with ⟨h3, _⟩ | ⟨da, vs, h4, h5, h6⟩
        · rw [h3] at hd
          cases hd
        · obtain ⟨v, l, rv⟩ := zip_lookup h6 hd
          refine ⟨.ref a, e1, rfl, rfl, da, _, v, h4, rl.sub _ _ h5, l, q v F H (Same.refl F) rl ?_⟩
          show Rp g.K F d v
          rw [hK.1]
          exact rv
      · exact False.elim q
    · exact False.elim q
  · exact False.elim q
theorem kitAny_sub {K : Frag} {mg : Str → Option Value} (T : ErrT K mg top ns fs) {c : Str} (hc : c ∈ ns) : ∀ {cs : List Str}, (∀ d ∈ cs, d ∈ ns) → kitAny K (.ref (adIn K c)) (cs.map fun d => .ref (adIn K d)) = some (cs.any (isSub top c))
  | [], _ => rfl
  | d :: cs, h => by
    have h1 := T.sub c hc d (h d List.mem_cons_self)
    have h2 := kitAny_sub T hc (cs := cs) fun x hx => h x (List.mem_cons_of_mem _ hx)
    simp only [List.map_cons, List.any_cons]
    unfold PySem.W.kitAny
    rw [h1]
    cases isSub top c d with
    | true => rfl
    | false => exact h2
theorem nl_nil : PA X [] (tNm X.K []) := ⟨fun p pins s σ H Q I q => pa_nil.run p pins s σ H Q I q⟩
theorem nl_cons (T : ErrT X.K X.mg top ns fs) (hc : y ∈ ns) (hg : Gl X y) (hd : (y == ("__debug__" : Str)) = false) (hr : PA X es (tNm X.K cs)) (hs : starEach (.Name y p :: es) X.env = (false, eval (.Name y p) X.env) :: starEach es X.env := by rfl) : PA X (.Name y p :: es) (tNm X.K (y :: cs)) :=
  ⟨fun pp pins s σ H Q I q => (pa_cons (pe_glob (v := .ref (adIn X.K y)) hg (T.g y hc) rfl hd) hr hs).run pp pins s σ H Q I q⟩
theorem se_isX (T : ErrT X.K X.mg top ns fs) (hy : y ∈ ns) (hg : Gl X "isinstance") (hm : X.mg "isinstance" = none) (hgy : Gl X y) (hdy : (y == ("__debug__" : Str)) = false) (hv : PE (X.suite a ((a, oe) :: pn)) (.Name n p2) (tVar i))
    (h1 : starEach [.Name n p2, .Name y p3] X.env = (false, eval (.Name n p2) X.env) :: starEach [.Name y p3] X.env := by rfl) (h2 : (backTo pos (starEach [.Name y p3] X.env)).any (·.1) = false := by rfl) :
    SE (X.suite a ((a, oe) :: pn)) W (.Call (.Name "isinstance" p) [.Name n p2, .Name y p3] [] pos) (mExIs ns i fun c => isSub top c y) :=
  pe_imp (pe_callB call_isX hg hm boot_isinstance' (pa_cons hv (pa_cons (pe_glob (v := .ref (adIn X.K y)) hgy (T.g y hy) rfl hdy) pa_nil) h1) (by decide) (by decide) h1 h2) fun σ H Q q => by
    obtain ⟨g, F, sv, hK, rl, q⟩ := q
    unfold mExIs at q
    split at q
    · rename_i x hx
      split at q
      · rename_i hc
        obtain ⟨e1, hD, _⟩ := ex_at T hK rl hx hc
        exact ⟨.ref a, e1, _, .ref (adIn X.K y), isSub top x.c y, _, rfl, fun u r => r, hD, T.sub _ hc y hy, q _ F H (Same.refl F) rl rfl⟩
      · exact False.elim q
    · exact False.elim q
theorem se_isXV (T : ErrT X.K X.mg top ns fs) (hg : Gl X "isinstance") (hm : X.mg "isinstance" = none) (hgy : Gl X "ValueError") (hmy : X.mg "ValueError" = none) (hv : PE (X.suite a ((a, oe) :: pn)) (.Name n p2) (tVar i))
    (h1 : starEach [.Name n p2, .Name "ValueError" p3] X.env = (false, eval (.Name n p2) X.env) :: starEach [.Name "ValueError" p3] X.env := by rfl) (h2 : (backTo pos (starEach [.Name "ValueError" p3] X.env)).any (·.1) = false := by rfl) :
    SE (X.suite a ((a, oe) :: pn)) W (.Call (.Name "isinstance" p) [.Name n p2, .Name "ValueError" p3] [] pos) (mExIs ns i fun _ => true) :=
  pe_imp (pe_callB call_isX hg hm boot_isinstance' (pa_cons hv (pa_cons (pe_bltn (v := .ty "ValueError") hgy hmy PyProof.Rows.Boot.«ValueError» rfl (by decide) (by decide)) pa_nil) h1) (by decide) (by decide) h1 h2) fun σ H Q q => by
    obtain ⟨g, F, sv, hK, rl, q⟩ := q
    unfold mExIs at q
    split at q
    · rename_i x hx
      split at q
      · rename_i hc
        obtain ⟨e1, hD, _⟩ := ex_at T hK rl hx hc
        exact ⟨.ref a, e1, _, .type "ValueError", true, _, rfl, fun u r => r, hD, T.ve _ hc, q _ F H (Same.refl F) rl rfl⟩
      · exact False.elim q
    · exact False.elim q
theorem paired_names {K : Frag} : ∀ cs : List Str, Paired ClsV (cs.map fun c => V.ref (adIn K c)) (cs.map fun c => Value.ref (adIn K c))
  | [] => .nil
  | c :: cs => .cons (.own _) (paired_names cs)
theorem se_isXT {x1} (T : ErrT X.K X.mg top ns fs) (hcs : ∀ d ∈ cs, d ∈ ns) (hl : cs.length ≤ sizeLine) (hg : Gl X "isinstance") (hm : X.mg "isinstance" = none) (hn : PA (X.suite a ((a, oe) :: pn)) es (tNm X.K cs)) (hv : PE (X.suite a ((a, oe) :: pn)) (.Name n p2) (tVar i))
    (h1 : starEach [.Name n p2, .Tuple es x1 p3] X.env = (false, eval (.Name n p2) X.env) :: starEach [.Tuple es x1 p3] X.env := by rfl) (h2 : (backTo pos (starEach [.Tuple es x1 p3] X.env)).any (·.1) = false := by rfl) :
    SE (X.suite a ((a, oe) :: pn)) W (.Call (.Name "isinstance" p) [.Name n p2, .Tuple es x1 p3] [] pos) (mExIs ns i fun c => cs.any (isSub top c)) :=
  pe_imp (pe_callB call_isXT hg hm boot_isinstance' (pa_cons hv (pa_cons (pe_tup hn) pa_nil) h1) (by decide) (by decide) h1 h2) fun σ H Q q => by
    obtain ⟨g, F, sv, hK, rl, q⟩ := q
    unfold mExIs at q
    split at q
    · rename_i x hx
      split at q
      · rename_i hc
        obtain ⟨e1, hD, _⟩ := ex_at T hK rl hx hc
        refine ⟨.ref a, e1, by simpa using hl, fun tp htp => ?_⟩
        have sH : Same H (upd H tp (.tup (cs.map fun c => V.ref (adIn X.K c)))) := same_upd htp
        refine ⟨tp, _, _, _, _, rfl, upd_same, paired_names cs, ⟨hD.cls, hD.fl, hD.xf, hD.ix, ?_⟩, kitAny_sub T hc hcs, ?_⟩
        · rcases hD.dd with h | ⟨dd, gs, h3, h4⟩
          · exact .inl h
          · exact .inr ⟨dd, gs, h3, sH _ _ h4⟩
        · exact q _ _ _ (same_upd (rl.sub.free htp)) (rl.lay htp) rfl
      · exact False.elim q
    · exact False.elim q
end
end VM

set_option Elab.async false
set_option linter.all false
set_option autoImplicit false
set_option maxRecDepth 100000
set_option maxHeartbeats 1000000
namespace VM
open PySem PySem.Spec PyProof.Rows L2
open L2H (RoomH Hot1 PinOk HotC cxH inv_startH)

/-! ### defs that are called where an exception is handled -/
structure FnGH (P : Program) (w : World) (K : PySem.W.Frag) (mg : Str → Option Value) (base : Heap) (k : Nat) (f : Addr) (fd : FuncData) (ps : List Str) (sp : Sp) : Prop where
  len : ∀ vs H Q E, sp vs H Q E → vs.length = ps.length
  run : ∀ (A : Around) (outer : List Env) (s : Shared) (H : Hp) (args : Args) (us : List Value) (vs : List V) (Q : VK) (E : XK) (p : Addr × Obj), A.guards = some [] → RoomH k A → Hot1 A p → PinOk outer H s p → Env0 P w K mg base A outer s H → BindsTo s fd args (ps.zip us) → Vals vs us → sp vs H Q E →
    codeAny (model P w) A (.call (.ref f) args) (CR (L2N.CX P w) outer P w H s Q E) s
section
variable {P : Program} {w : World} {K : PySem.W.Frag} {mg : Str → Option Value} {base : Heap}
/-- the rule for such a def (none of its arguments is changed) -/
theorem fn_okH {x qual : Str} {st : Stmt} {f : Addr} {fd : FuncData} {N ps : List Str} {k n : Nat} {ro : Bool} {body : MS} (F : Fun K x qual st f fd) (S : FnScope N ps (defScope st)) (hn : n = ps.length) (hN : ps.length ≤ N.length)
    (hb : ∀ (cdv : Value) (A : Around) (outer : List Env) (s : Shared) (H : Hp) (E : XK) (p : Addr × Obj), CtxH (cxH (L2N.CX P w) P w K mg base N qual (defScope st) f cdv A outer s H E p) (WE0 E) k →
      SSs (cxH (L2N.CX P w) P w K mg base N qual (defScope st) f cdv A outer s H E p) (WE0 E) (defBody st) body) :
    FnGH P w K mg base (k + 1) f fd ps (spV K mg n none ro (fnOf N.length none ro body)) := by
  obtain ⟨oc, od, kV, doc, pm, an, cdv, ct, osl, rfl, lk, hcd⟩ := F.ex
  subst hn
  refine ⟨fun vs H Q E h => h.1, fun A outer s H args us vs Q E p hg hr hot hpin e0 hbd r hsp => ?_⟩
  have hl : vs.length = ps.length := hsp.1
  have KX : K.In s.heap := e0.mod.kin.keeps fun b o e => (e0.bs b o e).1
  have lim : s.heap.NoLimit := e0.mod.nolimit.keeps fun b o e => (e0.bs b o e).1
  have kinds : ∀ y ∈ ps.zip us, (defScope st).names.lookup y.1 = some .local ∨ ((defScope st).names.lookup y.1 = some .cell ∧ ((cellsFrom (s.heap.objs.size + 1) (defScope st).names []).lookup y.1).isSome = true) := fun y hy => by
    rcases S.par y.1 (List.of_mem_zip hy).1 with q | q
    · exact .inl q
    · exact .inr ⟨q, PySem.W.cellsFrom_some _ _ _ (.inl q)⟩
  refine codeAny_call_function hr.depth (KX _ _ lk) rfl S.co S.gen rfl (PySem.W.codeRec_of KX hcd) (hbd _ _ _ _ ?_)
  refine wpAny_newFunctionEnv_cells S.kind kinds fun env he s1 x => ?_
  subst he
  refine ⟨lim.keeps x.toInCall.keep, codeAny_func ?_⟩
  have cx : CtxH (cxH (L2N.CX P w) P w K mg base N qual (defScope st) f cdv A outer s H E p) (WE0 E) k := ⟨L2N.takes_of rfl rfl rfl rfl, hr.deeper _, hg, passes_of rfl, ⟨p, ⟨hot.1, hot.2⟩, List.mem_cons_self⟩⟩
  have ht := hb cdv A outer s H E p cx
  have I : Inv (cxH (L2N.CX P w) P w K mg base N qual (defScope st) f cdv A outer s H E p) [] (start N vs) H s1 := inv_startH S hpin e0 hl r x
  have hq : tS K ⟨mg, some p⟩ (WE0 E) body { nx := fun _ H' => Q .non H', rt := Q } (start N vs) H := by
    obtain ⟨_, F, ds, sub, rv, q⟩ := hsp
    have hv : vs.length ≤ N.length := by omega
    refine ⟨_, F, _, (by exact ⟨rfl, rfl⟩), rl_init (mx := ⟨mg, some p⟩) (N := N) (io := none) (ip := none) (φ := fun _ => False) sub hv rv.length (fun i d v e1 e2 => ?_) (fun p hp => nomatch hp), fin_post rfl (fun p hp => nomatch hp) (fun _ => rfl) q⟩
    rw [if_neg (by exact fun z => nomatch z)]
    obtain ⟨v', e3, h3⟩ := rv.get i d e1
    rw [e2] at e3; cases e3
    exact h3
  refine wpAny_mono (ht.run [] s1 (start N vs) H _ I hq) (fun fl s' hs => ?_) fun e s' hs => hs
  have fin : ∀ {σ' : L2.St} {H' : Hp} {v : V} {u : Value}, Inv (cxH (L2N.CX P w) P w K mg base N qual (defScope st) f cdv A outer s H E p) [] σ' H' s' → RelV v u → Q v H' → CE outer P w H s Q u s' :=
    fun {σ' H' v u} J rv q => ⟨v, H', J.os, J.bare, J.base, J.hok, rv, q⟩
  cases fl with
  | ret u => obtain ⟨v, σ', H', J, rv, q⟩ := hs; exact fin J rv q
  | next => obtain ⟨σ', H', J, q⟩ := hs; exact fin (v := V.non) (u := Value.none) J rfl q
  | brk => obtain ⟨_, _, _, q⟩ := hs; exact False.elim q
  | cont => obtain ⟨_, _, _, q⟩ := hs; exact False.elim q
end
section
variable {X : Cx} {W : WX'} {e : Expr} {es : List Expr} {ms : M (List D)} {x : Str} {p pos : Pos} {k n kk : Nat} {f : Addr} {fd : FuncData} {ps : List Str} {fn : Fn} {dd : List D} {dvs : List V} {ds : List Value}
theorem pe_callH {sp : Sp} {E : L2.St → XK} {t : TA} (F : FnGH X.prog X.w X.K X.mg X.base k f fd ps sp) (hgd : X.A.guards = some []) (hr : RoomH k X.A) (hot : HotC X) (hg : Gl X x) (hm : X.mg x = some (.ref f)) (hk : PySem.W.keepIn X.K (.ref f) = true) (hb : Binds X.K fd ps ds) (hd : Vals dvs ds) (hx : ∀ σ, PassesAt (L2N.CX X.prog X.w) X σ (E σ))
    (ha : PA X (e :: es) t) (hdb : (x == ("__debug__" : Str)) = false := by decide) (he : starEach (e :: es) X.env = (false, eval e X.env) :: starEach es X.env := by rfl) (hpl : (backTo pos (starEach es X.env)).any (·.1) = false := by rfl) :
    PE X (.Call (.Name x p) (e :: es) [] pos) (tCallSD sp dvs E t) := by
  constructor
  intro pins s σ H Q I h
  obtain ⟨pn, ht, hp⟩ := hot
  refine wpAny_Call_Name_kw (ld_glob I hg hm (PySem.W.callWith_K (h₀ := X.base) I.ok.mod.kin hk (thn (ha.run pos pins s σ H _ I h) fun us s1 ⟨vs, H1, I1, r, q⟩ => ⟨I1.kIn, ?_⟩) he hpl) hdb)
  have r2 : Vals (vs ++ dvs) (us ++ ds) := r.append hd
  have hl : (us ++ ds).length = ps.length := r2.length.symm.trans (F.len _ _ _ _ q)
  have P1 := I1.pin pn (List.mem_append_left _ hp)
  have hpin : PinOk X.stack H1 s1 pn := ⟨P1.1, P1.2.1, fun hm => (List.mem_cons.mp (I1.stkSub pn.1 hm)).elim P1.2.2.1 P1.2.2.2.1, P1.2.2.2.2⟩
  refine wpAny_call (codeAny_mono (F.run X.A X.stack s1 H1 ⟨us, []⟩ (us ++ ds) (vs ++ dvs) Q (E σ) pn hgd hr ht hpin I1.env0 (hb s1 us I1.kIn hl) r2 q) fun o s' hq => ?_)
  cases o with
  | error er => exact hx σ pins H1 s1 er s' I1 hq
  | ok fl =>
    cases fl with
    | ret u => exact I1.after hq
    | next => exact False.elim hq
    | brk => exact False.elim hq
    | cont => exact False.elim hq
theorem se_callH (c : CtxH X W kk) (hkk : k ≤ kk) (Fg : FnGH X.prog X.w X.K X.mg X.base k f fd ps (spV X.K X.mg n none false fn)) (hg : Gl X x) (hm : X.mg x = some (.ref f)) (hk : PySem.W.keepIn X.K (.ref f) = true) (hb : Binds X.K fd ps ds) (hd : Vals dvs ds) (hdd : DefOk X.K dd dvs)
    (ha : SA X W (e :: es) ms) (hdb : (x == ("__debug__" : Str)) = false := by decide) (he : starEach (e :: es) X.env = (false, eval e X.env) :: starEach es X.env := by rfl) (hpl : (backTo pos (starEach es X.env)).any (·.1) = false := by rfl) :
    SE X W (.Call (.Name x p) (e :: es) [] pos) (mCall n fn dd ms) := pe_imp (pe_callH Fg c.hg (c.hr.mono hkk) c.hot hg hm hk hb hd (fun σ => L2N.passAt c.tk σ) ha hdb he hpl) fun σ H Q q => by
  obtain ⟨g, F, sv, hK, rl, q⟩ := q
  refine ⟨g, F, sv, hK, rl, PostG.bind q fun as s vs F1 H1 e1 rl1 rp1 q1 => ?_⟩
  split at q1
  · rename_i hz
    have rp : RpL g.K F1 (as ++ dd) (vs ++ dvs) := RpL.append rp1 (by rw [hK.1]; exact hdd F1)
    rw [← hK.1]
    exact post_call (fun F' H' d v _ hr => by show Rp g.K F' d v; simpa using hr) (rp.length.symm.trans hz) rl1 rp q1
  · exact False.elim q1
end
end VM

set_option Elab.async false
set_option linter.all false
set_option autoImplicit false
set_option maxRecDepth 100000
set_option maxHeartbeats 1000000
namespace VM
open PySem PySem.Spec PyProof.Rows L2

/-! ### keywords in another order -/
def kjp {α : Type} (n : Nat) (pm : List Nat) (us ws : List α) : List α := if us.length = n ∧ ws.length = pm.length then us ++ pm.filterMap (fun i => ws[i]?) else []
theorem RpL.pick {K : PySem.W.Frag} {F : Hp} {ds : List D} {vs : List V} (h : RpL K F ds vs) : ∀ pm : List Nat, RpL K F (pm.filterMap fun i => ds[i]?) (pm.filterMap fun i => vs[i]?)
  | [] => rfl
  | i :: pm => by
    have ih := RpL.pick h pm
    simp only [List.filterMap_cons]
    cases e : ds[i]? with
    | none =>
      have e2 : vs[i]? = none := by rw [List.getElem?_eq_none_iff] at e ⊢; rw [← h.length]; exact e
      rw [e2]
      exact ih
    | some d =>
      obtain ⟨v, e2, hv⟩ := h.get i d e
      rw [e2]
      exact ⟨v, _, rfl, hv, ih⟩
theorem kjp_ord (n : Nat) (pm : List Nat) : KOrd (kjp n pm) (kjp n pm) := ⟨fun {K F as bs vs us} h1 h2 => by
  unfold kjp
  rw [h1.length, h2.length]
  split
  · exact h1.append (RpL.pick h2 pm)
  · rfl⟩
theorem Vals.pick {vs : List V} {us : List Value} (h : Vals vs us) : ∀ pm : List Nat, Vals (pm.filterMap fun i => vs[i]?) (pm.filterMap fun i => us[i]?)
  | [] => .nil
  | i :: pm => by
    have ih := Vals.pick h pm
    simp only [List.filterMap_cons]
    cases e : vs[i]? with
    | none =>
      have e2 : us[i]? = none := by rw [List.getElem?_eq_none_iff] at e ⊢; rw [← h.length]; exact e
      rw [e2]
      exact ih
    | some d =>
      obtain ⟨v, e2, hv⟩ := h.get e
      rw [e2]
      exact .cons hv ih
theorem kjp_binds {K : PySem.W.Frag} {x qual : Str} {st : Stmt} {f : Addr} {fd : FuncData} {ps ks : List Str} {n : Nat} {pm : List Nat} (hp : 0 < ps.length) (F : Fun K x qual st f fd)
    (h : ∀ (kV doc pm' : Value) (an : Option Addr) (cdv ct : Value) (us ws : List Value), us.length = n → ws.length = pm.length → bindArgs (PySem.W.fnOf x qual (defArgs st) (defBody st) (defScope st) .none kV doc pm' an cdv ct) ⟨us, ks.zip ws⟩ = pure (ps.zip (us ++ pm.filterMap fun i => ws[i]?))) : KBinds K fd ps ks (kjp n pm) (kjp n pm) := by
  obtain ⟨oc, od, kV, doc, pm', an, cdv, ct, osl, rfl, lk, hcd⟩ := F.ex
  constructor
  · intro s us ws _ hl
    unfold kjp at hl ⊢
    split at hl
    · rename_i hz
      rw [if_pos hz]
      exact .of_eq (h kV doc pm' an cdv ct us ws hz.1 hz.2)
    · have : ps.length = 0 := hl.symm
      omega
  · intro vs us zs ws h1 h2
    unfold kjp
    rw [h1.length, h2.length]
    split
    · exact Vals.append h1 (Vals.pick h2 pm)
    · exact .nil

/-! ### xs.extend(ys), s.count(t) -/
section
variable {X : Cx} {W : WX'} {e a : Expr} {pos apos p1 cpos : Pos} {m ma mb : M D}
def mExt (i : Nat) (m : M D) : MS := fun sv => match ownL sv i with
  | none => .bad
  | some _ => mBind m (fun d s => match ownL s i, d with
    | some (_, xs), .lst ys => if xs.length + ys.length ≤ sizeLine then putL s i (xs ++ ys) else .bad
    | _, _ => .bad) sv
theorem ss_ext {i : Nat} {x : Str} (h : ∀ te, PE X e te → PE X (.Call (.Attribute (.Name x p1) "extend" apos) [e] [] cpos) (tBM X.K "list" rExtend (tVar i) (tCons te tNil))) (he : SE X W e m)
    (hs : swapsWith (.Call (.Attribute (.Name x p1) "extend" apos) [e] [] cpos) none pos.line X.env = pure false := by rfl) : SS X W (.Expr (.Call (.Attribute (.Name x p1) "extend" apos) [e] [] cpos) pos) (mExt i m) :=
  ps_imp (ps_expr (h _ he) hs) fun Dn σ H q => by
    obtain ⟨g, F, sv, hK, rl, q⟩ := q
    unfold mExt at q
    split at q
    · exact False.elim q
    · rename_i z h0
      obtain ⟨s0, xs0⟩ := z
      obtain ⟨p, vs, e1, nF, e2, e3⟩ := rl.lst h0
      refine ⟨.ref p, e1, .inl ⟨rfl, vs, .inl (.inl e2)⟩, g, F, sv, hK, rl, PostS.bind (H := H) q fun d s v F1 H1 f1 rl1 rp1 h1 => ?_⟩
      split at h1
      · rename_i s1 xs1 ys h2
        split at h1
        · rename_i hz
          obtain ⟨p', vs', e1', nF', e2', e3'⟩ := rl1.lst h2
          rw [e1] at e1'; cases e1'
          obtain ⟨b, us, rfl, r1, r2⟩ := rp1
          exact ⟨p, b, vs', us, rfl, rfl, e2', rl1.sub _ _ r1, by rw [← e3'.length, ← r2.length]; exact hz, putL_post rl1 h2 e1 nF' (e3'.append r2) h1⟩
        · exact False.elim h1
      · exact False.elim h1
/-- a text's method with a text -/
def mS2 (f : Str → Str → Option D) (ma mb : M D) : M D := fun sv => (ma sv).bind fun d s1 => match d with
  | .str z => (mb s1).bind fun d2 s2 => (match d2 with
    | .str y => (match f z y with
      | some r => .ok r s2
      | none => .bad)
    | _ => .bad)
  | _ => .bad
theorem se_count (h : PE X (.Call (.Attribute a "count" apos) [e] [] pos) (tM1 (fun x xs H Q => ∃ a b, x = .str a ∧ xs = [.str b] ∧ Q (.int (Txt.count a b)) H) (tE X.K X.mx W ma) (tE X.K X.mx W mb))) : SE X W (.Call (.Attribute a "count" apos) [e] [] pos) (mS2 (fun x y => some (.int (Txt.count x y))) ma mb) := pe_imp h fun σ H Q q => by
  obtain ⟨g, F, sv, hK, rl, q⟩ := q
  refine ⟨g, F, sv, hK, rl, PostG.bind q fun d s1 v F1 H1 e1 rl1 rp1 h1 => ?_⟩
  cases d with
  | str z =>
    cases (show v = V.str z from rp1)
    refine ⟨⟨_, rfl⟩, g, F1, s1, hK, rl1, PostG.bind h1 fun d2 s2 v2 F2 H2 e2 rl2 rp2 h2 => ?_⟩
    cases d2 with
    | str y =>
      cases (show v2 = V.str y from rp2)
      exact ⟨z, y, rfl, rfl, h2 _ F2 H2 (Same.refl F2) rl2 rfl⟩
    | _ => exact False.elim h2
  | _ => exact False.elim h1
end

/-! ### a tuple of texts of the module's own top -/
def KTup (K : PySem.W.Frag) (a : Addr) (ss : List Str) : Prop := ∃ (o : Obj) (its : Array Value) (n : Nat), K.lookup a = some o ∧ o.cls = .type "tuple" ∧ o.data = .seq its n ∧ its.size ≤ sizeLine ∧ Vals (ss.map V.str) its.toList
theorem se_globT {X : Cx} {W : WX'} {x : Str} {a : Addr} {ss : List Str} {pos : Pos} (hg : Gl X x) (hm : X.mg x = some (.ref a)) (hk : KTup X.K a ss) (hd : (x == ("__debug__" : Str)) = false := by decide) : SE X W (.Name x pos) (mC (.tup (ss.map .str))) :=
  se_const (pe_glob (v := .ref a) hg hm rfl hd) fun F => ⟨a, ss.map V.str, rfl, .inr hk, strs_rel ss⟩

/-! ### list(range(n)) -/
def mListRg (m : M D) : M D := fun sv => (m sv).bind fun d s => match d with
  | .int n => if 0 ≤ n ∧ n ≤ 16777216 then .ok (.lst (rngs 0 n.toNat)) s else .bad
  | _ => .bad
theorem rg_rel {K : PySem.W.Frag} {F : Hp} {n : Int} (h : 0 ≤ n) : RpL K F (rngs 0 n.toNat) (rgV 0 n) := by
  have e : rgV 0 n = (List.range n.toNat).map fun (i : Nat) => V.int (0 + (i : Int)) := by
    unfold rgV
    rw [Int.sub_zero]
  rw [e]
  unfold rngs
  generalize List.range n.toNat = l
  induction l with
  | nil => rfl
  | cons a l ih => exact ⟨_, _, rfl, rfl, ih⟩
theorem so_listRg {X : Cx} {W : WX'} {a : Expr} {m : M D} {p p2 pos pos2 : Pos} (hc : X.calm = true) (hg : Gl X "list") (hm : X.mg "list" = none) (hg2 : Gl X "range") (hm2 : X.mg "range" = none) (ha : SE X W a m)
    (n1 : starEach [a] X.env = (false, eval a X.env) :: starEach [] X.env := by rfl) (n2 : starEach [.Call (.Name "range" p2) [a] [] pos2] X.env = (false, eval (.Call (.Name "range" p2) [a] [] pos2) X.env) :: starEach [] X.env := by rfl) :
    SO X W (.Call (.Name "list" p) [.Call (.Name "range" p2) [a] [] pos2] [] pos) (mListRg m) := pe_imp (pe_listRg hc hg hm (prg_1 hg2 hm2 ha n1) n2) fun σ H Q q => by
  obtain ⟨g, F, sv, hK, rl, q⟩ := q
  refine ⟨g, F, sv, hK, rl, PostG.bind q fun d s1 v F1 H1 e1 rl1 rp1 h1 => ?_⟩
  cases d with
  | int n =>
    refine ⟨n, rp1, ?_⟩
    dsimp only at h1
    split at h1
    · rename_i hz
      refine ⟨RgOk.of_le (Int.le_refl 0) hz.2 (by decide) hz.1, fun l hl => ?_⟩
      exact h1 _ F1 _ (Same.refl F1) (rl1.layO hl) (rl1.newO hl .lst (rg_rel hz.1))
    · exact False.elim h1
  | _ => exact False.elim h1
end VM

set_option Elab.async false
set_option linter.all false
set_option autoImplicit false
set_option maxRecDepth 100000
set_option maxHeartbeats 1000000
namespace VM
open PySem PySem.Spec PyProof.Rows L2

/-! ### defs with default values -/
abbrev FunDf (K : PySem.W.Frag) (x qual : Str) (st : Stmt) (dvs : List V) (f : Addr) (fd : FuncData) : Prop := FunD K x qual (defArgs st) (defBody st) (defScope st) dvs [] f fd
section
variable {P : Program} {w : World} {K : PySem.W.Frag} {mg : Str → Option Value} {base : Heap}
theorem fn_okD {x qual : Str} {st : Stmt} {dvs : List V} {f : Addr} {fd : FuncData} {N ps : List Str} {k n : Nat} {io : Option Nat} {ro : Bool} {body : MS} (F : FunDf K x qual st dvs f fd) (S : FnScope N ps (defScope st)) (hn : n = ps.length) (hN : ps.length ≤ N.length)
    (hb : ∀ (cdv : Value) (A : Around) (outer : List Env) (s : Shared) (H : Hp) (E : XK), Ctx (cxOf (L2N.CX P w) P w K mg base N qual (defScope st) f cdv A outer s H E) (WE0 E) k →
      SSs (cxOf (L2N.CX P w) P w K mg base N qual (defScope st) f cdv A outer s H E) (WE0 E) (defBody st) body) :
    FnG P w K mg base (k + 1) f fd ps (spV K mg n io ro (fnOf N.length io ro body)) := by
  obtain ⟨oc, od, dV, kV, doc, pm, an, cdv, ct, osl, rfl, lk, hcd, _, _⟩ := F.ex
  exact fn_okL lk hcd S hn hN hb
theorem funD_mk {x qual : Str} {st : Stmt} {dvs : List V} {f T : Addr} {o : Obj} {its : List Value} {n : Nat} {oc : Value} {od an : Option Addr} {osl : Array (Option Value)} {kV doc pm cdv ct : Value}
    (l : K.lookup f = some ⟨oc, od, .func (PySem.W.fnOf x qual (defArgs st) (defBody st) (defScope st) (.ref T) kV doc pm an cdv ct), osl⟩) (c : PySem.W.codeIn K cdv qual = true) (k : PySem.W.keepIn K (.ref f) = true) (hT : K.lookup T = some o) (ho : o.data = .seq its.toArray n) (hv : Vals dvs its) (hd : dvs ≠ []) :
    FunDf K x qual st dvs f (PySem.W.fnOf x qual (defArgs st) (defBody st) (defScope st) (.ref T) kV doc pm an cdv ct) := ⟨⟨oc, od, .ref T, kV, doc, pm, an, cdv, ct, osl, rfl, l, c, .inr ⟨hd, T, o, its, n, rfl, hT, ho, hv⟩, .inl rfl⟩, k⟩
variable {x qual : Str} {st : Stmt} {dvs : List V} {f : Addr} {fd : FuncData} {ps : List Str}
/-- every parameter is written -/
theorem bindsD_all (F : FunDf K x qual st dvs f fd) (hd : dvs ≠ [])
    (h : ∀ (T : Addr) (kV doc pm : Value) (an : Option Addr) (cdv ct : Value) (us its : List Value), us.length = ps.length → its.length = dvs.length →
      ∃ k, bindArgs (PySem.W.fnOf x qual (defArgs st) (defBody st) (defScope st) (.ref T) kV doc pm an cdv ct) ⟨us, []⟩ = seqItems? (.ref T) >>= k ∧ k (some its.toArray) = pure (ps.zip us)) : Binds K fd ps [] := by
  obtain ⟨ds, h1, h2⟩ := F.binds1 (ps := ps) ps.length dvs.length hd (by omega) fun T kV doc pm an cdv ct us its e1 e2 => by
    obtain ⟨k, g1, g2⟩ := h T kV doc pm an cdv ct us its e1 e2
    exact ⟨k, g1, by rw [← e2, List.drop_length, List.append_nil]; exact g2⟩
  rw [List.drop_length] at h1
  have : ds = [] := List.length_eq_zero_iff.mp h1.length.symm
  rw [this] at h2
  exact h2
/-- the last default is taken -/
structure BindD (K : PySem.W.Frag) (fd : FuncData) (ps : List Str) (dvs : List V) : Prop where
  ex : ∃ ds, Vals dvs ds ∧ Binds K fd ps ds
theorem bindsD_one (F : FunDf K x qual st dvs f fd) (n : Nat) (hd : dvs ≠ []) (hn : n + dvs.length = ps.length)
    (h : ∀ (T : Addr) (kV doc pm : Value) (an : Option Addr) (cdv ct : Value) (us its : List Value), us.length = n → its.length = dvs.length →
      ∃ k, bindArgs (PySem.W.fnOf x qual (defArgs st) (defBody st) (defScope st) (.ref T) kV doc pm an cdv ct) ⟨us, []⟩ = seqItems? (.ref T) >>= k ∧ k (some its.toArray) = pure (ps.zip (us ++ its))) : BindD K fd ps dvs := by
  have := F.binds1 (ps := ps) n 0 hd (by omega) fun T kV doc pm an cdv ct us its e1 e2 => by
    obtain ⟨k, g1, g2⟩ := h T kV doc pm an cdv ct us its e1 e2
    exact ⟨k, g1, by rw [List.drop_zero]; exact g2⟩
  rw [List.drop_zero] at this
  exact ⟨this⟩
theorem BindD.vals {K : PySem.W.Frag} {fd : FuncData} (h : BindD K fd ps dvs) : Vals dvs h.ex.choose := h.ex.choose_spec.1
theorem BindD.binds {K : PySem.W.Frag} {fd : FuncData} (h : BindD K fd ps dvs) : Binds K fd ps h.ex.choose := h.ex.choose_spec.2
theorem kjp_bindsD {ks : List Str} {n : Nat} {pm : List Nat} (hp : 0 < ps.length) (F : FunDf K x qual st dvs f fd) (hd : dvs ≠ [])
    (h : ∀ (T : Addr) (kV doc pm' : Value) (an : Option Addr) (cdv ct : Value) (us ws its : List Value), us.length = n → ws.length = pm.length → its.length = dvs.length →
      ∃ k, bindArgs (PySem.W.fnOf x qual (defArgs st) (defBody st) (defScope st) (.ref T) kV doc pm' an cdv ct) ⟨us, ks.zip ws⟩ = seqItems? (.ref T) >>= k ∧ k (some its.toArray) = pure (ps.zip (us ++ pm.filterMap fun i => ws[i]?))) : KBinds K fd ps ks (kjp n pm) (kjp n pm) := by
  obtain ⟨oc, od, dV, kV, doc, pm', an, cdv, ct, osl, rfl, lk, hcd, hD, _⟩ := F.ex
  rcases hD with ⟨e, _⟩ | ⟨_, T, o, its, m, rfl, lT, oT, rT⟩
  · exact absurd e hd
  constructor
  · intro s us ws X hl
    unfold kjp at hl ⊢
    split at hl
    · rename_i hz
      rw [if_pos hz]
      obtain ⟨k, e1, e2⟩ := h T kV doc pm' an cdv ct us ws its hz.1 hz.2 rT.length.symm
      refine BindsTo.of_looks fun M => ?_
      rw [e1]
      exact looks_items X lT oT (.of_pure e2)
    · have : ps.length = 0 := hl.symm
      omega
  · intro vs us zs ws h1 h2
    unfold kjp
    rw [h1.length, h2.length]
    split
    · exact Vals.append h1 (Vals.pick h2 pm)
    · exact .nil
end
theorem defOk_int {K : PySem.W.Frag} (i : Int) : DefOk K [.int i] [.int i] := fun F => ⟨_, _, rfl, rfl, rfl⟩

/-! ### xs.extend(t), t a list or a tuple -/
open PyProof PySem.AutoSeq1 in
theorem ext_tupG (l : Addr) (items : Array Value) (n : Nat) (b : Addr) (items2 : Array Value) (n2 : Nat) (dd : Option Addr) (ss : Array (Option Value)) (hs0 : ¬(!items.isEmpty && Builtin.List.listTooLong (items.size + items2.size)) = true) (hs1 : items.size ≤ sizeLine) (hs2 : items.size + items2.size ≤ sizeLine + 1) :
    Meets (Builtin.«list.extend» ⟨[.ref l, .ref b], []⟩) (fun _ R s => s.heap.get? l = some { cls := .type "list", dict := none, data := .seq items n, slots := #[] } ∧ s.heap.get? b = some { cls := .type "tuple", dict := dd, data := .seq items2 n2, slots := ss } ∧ R (.ok (.ret Value.none)) { s with heap := s.heap.update l (Obj.mapSeq fun x => x ++ items2), toks := s.toks }) :=
  .of_wp fun prog w A R s h => by
    obtain ⟨hp, g, d, tk, os⟩ := s; obtain ⟨hl, hb, h⟩ := h; have f1 := AutoSeq1.idx_int; have f2 := AutoSeq1.sub_tuple_tuple; have f3 := AutoSeq1.sub_list_list; have f4 := AutoSeq1.sub_tuple_list; have f5 := AutoSeq1.sub_list_tuple
    have hz' : (items ++ items2).size ≤ sizeLine + 1 := by rw [Array.size_append]; exact hs2
    wp_walk using (wpAny_updateSeq hl rfl (hz := hs1) (_hz' := hz')), wpAny_loadPart' hl, wpAny_loadPart' hb; exact ⟨_, rfl, h⟩
def rExtT (K : PySem.W.Frag) : V → List V → Hp → VK → Prop := fun x vs H Q => ∃ l b xs zs, x = .ref l ∧ vs = [.ref b] ∧ H l = some (.lst xs) ∧ SqT K H b zs ∧ xs.length + zs.length ≤ sizeLine ∧ Q .non (upd H l (.lst (xs ++ zs)))
theorem mt_extT {X : Cx} : MtM X "list.extend" (rExtT X.K) := by
  intro pins s σ H x vs v us Q I rx rv h
  obtain ⟨l, b, xs, zs, rfl, rfl, hH, hB, hz, q⟩ := h
  cases rx
  obtain ⟨u, rfl, ru⟩ := rv.one
  cases ru
  obtain ⟨z, its, n, r, hl, e⟩ := I.lstM hH
  obtain ⟨its2, r2, ⟨o, e2, c2, n2, d2⟩, hl2⟩ := I.tuple hB
  obtain ⟨oc, od, odt, osl⟩ := o
  cases c2
  cases d2
  have l2 := r2.length
  have hsz : its.toArray.size + its2.toArray.size ≤ sizeLine := by rw [List.size_toArray, List.size_toArray]; omega
  have hlong : ¬ (!its.toArray.isEmpty && Builtin.List.listTooLong (its.toArray.size + its2.toArray.size)) = true := by
    rw [notLongL hsz, Bool.and_false]
    exact Bool.false_ne_true
  refine call_meets PySem.F.slot_list_extend ⟨_, e, rfl⟩ PySem.F.entry_list_extend (PySem.F.args_list_extend_2 _ _)
    (ext_tupG l its.toArray n b its2.toArray n2 _ _ hlong (by rw [List.size_toArray]; omega) (by omega)) ⟨e, e2, ?_⟩
  refine ⟨.non, _, I.lset (its' := its ++ its2) hH e (by simp) (r.append r2) ?_, rfl, q⟩
  rw [List.length_append]
  omega
abbrev rExtA (K : PySem.W.Frag) : V → List V → Hp → VK → Prop := fun x vs H Q => rExtend x vs H Q ∨ rExtT K x vs H Q
theorem mt_extA {X : Cx} : MtM X "list.extend" (rExtA X.K) := by
  intro pins s σ H x vs v us Q I rx rv h
  rcases h with h | h
  · exact mt_extend pins s σ H x vs v us Q I rx rv h
  · exact mt_extT pins s σ H x vs v us Q I rx rv h
section
variable {X : Cx} {W : WX'} {e a : Expr} {pos apos p1 cpos : Pos} {m : M D}
def mExt2 (i : Nat) (m : M D) : MS := fun sv => match ownL sv i with
  | none => .bad
  | some _ => mBind m (fun d s => match ownL s i, d with
    | some (_, xs), .lst ys => if xs.length + ys.length ≤ sizeLine then putL s i (xs ++ ys) else .bad
    | some (_, xs), .tup ys => if xs.length + ys.length ≤ sizeLine then putL s i (xs ++ ys) else .bad
    | _, _ => .bad) sv
theorem ss_ext2 {i : Nat} {x : Str} (h : ∀ te, PE X e te → PE X (.Call (.Attribute (.Name x p1) "extend" apos) [e] [] cpos) (tBM X.K "list" (rExtA X.K) (tVar i) (tCons te tNil))) (he : SE X W e m)
    (hs : swapsWith (.Call (.Attribute (.Name x p1) "extend" apos) [e] [] cpos) none pos.line X.env = pure false := by rfl) : SS X W (.Expr (.Call (.Attribute (.Name x p1) "extend" apos) [e] [] cpos) pos) (mExt2 i m) :=
  ps_imp (ps_expr (h _ he) hs) fun Dn σ H q => by
    obtain ⟨g, F, sv, hK, rl, q⟩ := q
    unfold mExt2 at q
    split at q
    · exact False.elim q
    · rename_i z h0
      obtain ⟨s0, xs0⟩ := z
      obtain ⟨p, vs, e1, nF, e2, e3⟩ := rl.lst h0
      refine ⟨.ref p, e1, .inl ⟨rfl, vs, .inl (.inl e2)⟩, g, F, sv, hK, rl, PostS.bind (H := H) q fun d s v F1 H1 f1 rl1 rp1 h1 => ?_⟩
      split at h1
      · rename_i s1 xs1 ys h2
        split at h1
        · rename_i hz
          obtain ⟨p', vs', e1', nF', e2', e3'⟩ := rl1.lst h2
          rw [e1] at e1'; cases e1'
          obtain ⟨b, us, rfl, r1, r2⟩ := rp1
          exact .inl ⟨p, b, vs', us, rfl, rfl, e2', rl1.sub _ _ r1, by rw [← e3'.length, ← r2.length]; exact hz, putL_post rl1 h2 e1 nF' (e3'.append r2) h1⟩
        · exact False.elim h1
      · rename_i s1 xs1 ys h2
        split at h1
        · rename_i hz
          obtain ⟨p', vs', e1', nF', e2', e3'⟩ := rl1.lst h2
          rw [e1] at e1'; cases e1'
          obtain ⟨b, us, rfl, r1, r2⟩ := rp1
          exact .inr ⟨p, b, vs', us, rfl, rfl, e2', by rw [← hK.1]; exact sqT_mono rl1.sub r1, by rw [← e3'.length, ← r2.length]; exact hz, putL_post rl1 h2 e1 nF' (e3'.append r2) h1⟩
        · exact False.elim h1
      · exact False.elim h1
end
end VM

set_option Elab.async false
set_option linter.all false
set_option autoImplicit false
set_option maxRecDepth 100000
set_option maxHeartbeats 400000
namespace VM
open PySem PySem.Spec PyProof.Rows L2

/-! ### owned things within owned things -/
section
variable {K : PySem.W.Frag} {F H : Hp}
/-- a list gets one more item of its own -/
theorem OwnP.snoc {acc : List D} {vs : List V} {p q : Addr} {y : D} (o : OwnP K F H (.deep (.lst acc)) p) (hH : H p = some (.lst vs)) (oy : OwnP K F H y q) (dj : ∀ a, Ft K H y q a → ¬ Ft K H (.deep (.lst acc)) p a) :
    OwnP K F (upd H p (.lst (vs ++ [.ref q]))) (.deep (.lst (acc ++ [.own y]))) p ∧ (∀ a, Ft K (upd H p (.lst (vs ++ [.ref q]))) (.deep (.lst (acc ++ [.own y]))) p a → Ft K H (.deep (.lst acc)) p a ∨ Ft K H y q a) := by
  cases o with
  | flat _ _ hs _ => cases hs
  | @deep _ _ o1 ds ws hF hH' hs hl hr hq hk hp hj =>
    cases hs
    rw [hH] at hH'; cases hH'
    -- the kids, old and new
    have kid : ∀ (i : Nat) (e : D) (r : Addr), (acc ++ [D.own y])[i]? = some (.own e) → (vs ++ [V.ref q])[i]? = some (.ref r) → (i < acc.length ∧ acc[i]? = some (.own e) ∧ vs[i]? = some (.ref r)) ∨ (i = acc.length ∧ e = y ∧ r = q) := fun i e r h1 h2 => by
      rcases Nat.lt_trichotomy i acc.length with h | h | h
      · rw [List.getElem?_append_left h] at h1
        rw [List.getElem?_append_left (by omega)] at h2
        exact .inl ⟨h, h1, h2⟩
      · rw [List.getElem?_append_right (by omega), h, Nat.sub_self] at h1
        rw [List.getElem?_append_right (by omega), h, hl, Nat.sub_self] at h2
        cases h1; cases h2
        exact .inr ⟨h, rfl, rfl⟩
      · rw [List.getElem?_eq_none (by simp; omega)] at h1; cases h1
    have eo : ∀ (i : Nat) (e : D) (r : Addr), acc[i]? = some (.own e) → vs[i]? = some (.ref r) → ∀ b, Ft K H e r b → upd H p (.lst (vs ++ [.ref q])) b = H b := fun i e r h1 h2 b hb => upd_ne fun z => by subst z; exact hp i e r h1 h2 hb
    have ey : ∀ b, Ft K H y q b → upd H p (.lst (vs ++ [.ref q])) b = H b := fun b hb => upd_ne fun z => by subst z; exact dj _ hb .here
    have ft : ∀ (i : Nat) (e : D) (r a : Addr), (acc ++ [D.own y])[i]? = some (.own e) → (vs ++ [V.ref q])[i]? = some (.ref r) → Ft K (upd H p (.lst (vs ++ [.ref q]))) e r a → Ft K H e r a := fun i e r a h1 h2 hf => by
      rcases kid i e r h1 h2 with ⟨_, h3, h4⟩ | ⟨_, rfl, rfl⟩
      · exact hf.from (eo i e r h3 h4)
      · exact hf.from ey
    constructor
    · refine .deep hF upd_same .lst (by simp [hl]) (fun i e v h1 h2 ho => ?_) (fun i e h1 => ?_) (fun i e r h1 h2 => ?_) (fun i e r h1 h2 hf => ?_) fun i j e e' r r' a ne h1 h2 h3 h4 hf hf' => ?_
      · rcases Nat.lt_trichotomy i acc.length with h | h | h
        · rw [List.getElem?_append_left h] at h1
          rw [List.getElem?_append_left (by omega)] at h2
          exact hr i e v h1 h2 ho
        · rw [List.getElem?_append_right (by omega), h, Nat.sub_self] at h1
          cases h1; cases ho
        · rw [List.getElem?_eq_none (by simp; omega)] at h1; cases h1
      · rcases Nat.lt_trichotomy i acc.length with h | h | h
        · rw [List.getElem?_append_left h] at h1
          obtain ⟨r, h2⟩ := hq i e h1
          exact ⟨r, by rw [List.getElem?_append_left (by omega)]; exact h2⟩
        · exact ⟨q, by rw [List.getElem?_append_right (by omega), h, hl, Nat.sub_self]; rfl⟩
        · rw [List.getElem?_eq_none (by simp; omega)] at h1; cases h1
      · rcases kid i e r h1 h2 with ⟨_, h3, h4⟩ | ⟨_, rfl, rfl⟩
        · exact (hk i e r h3 h4).mono (Same.refl F) (fun a ha => ((hk i e r h3 h4).ft ha).1) (eo i e r h3 h4)
        · exact oy.mono (Same.refl F) (fun a ha => (oy.ft ha).1) ey
      · have g1 := ft i e r _ h1 h2 hf
        rcases kid i e r h1 h2 with ⟨_, h3, h4⟩ | ⟨_, rfl, rfl⟩
        · exact hp i e r h3 h4 g1
        · exact dj _ g1 .here
      · have g1 := ft i e r _ h1 h2 hf
        have g2 := ft j e' r' _ h3 h4 hf'
        rcases kid i e r h1 h2 with ⟨_, h5, h6⟩ | ⟨i1, rfl, rfl⟩
        · rcases kid j e' r' h3 h4 with ⟨_, h7, h8⟩ | ⟨_, rfl, rfl⟩
          · exact hj i j e e' r r' a ne h5 h6 h7 h8 g1 g2
          · exact dj _ g2 (.kid hH .lst h5 h6 g1)
        · rcases kid j e' r' h3 h4 with ⟨_, h7, h8⟩ | ⟨j1, rfl, rfl⟩
          · exact dj _ g1 (.kid hH .lst h7 h8 g2)
          · omega
    · intro a hf
      cases hf with
      | here => exact .inl .here
      | kid hH2 hs2 hd hv hf =>
        rw [upd_same] at hH2; cases hH2
        cases hs2
        have g1 := ft _ _ _ _ hd hv hf
        rcases kid _ _ _ hd hv with ⟨_, h3, h4⟩ | ⟨_, rfl, rfl⟩
        · exact .inl (.kid hH .lst h3 h4 g1)
        · exact .inr g1
/-- a kid changes within -/
theorem OwnP.at {d d' e e' : D} {o : HO} {ds : List D} {vs : List V} {p q b : Addr} {i : Nat} {u : HO} (ow : OwnP K F H (.deep d) p) (hH : H p = some o) (hs : Shp K d o ds vs) (hs' : Shp K d' o (ds.set i (.own e')) vs) (hd : ds[i]? = some (.own e)) (hv : vs[i]? = some (.ref q))
    (hb : Ft K H e q b) (oe : OwnP K F (upd H b u) e' q) (hf : ∀ a, Ft K (upd H b u) e' q a → Ft K H e q a) :
    OwnP K F (upd H b u) (.deep d') p ∧ ∀ a, Ft K (upd H b u) (.deep d') p a → Ft K H (.deep d) p a := by
  cases ow with
  | flat _ _ hs _ => cases hs
  | @deep _ _ o1 ds1 ws hF hH' hs1 hl hr hq hk hp hj =>
    rw [hH] at hH'; cases hH'
    obtain ⟨rfl, rfl⟩ := hs.uniq hs1
    have hi : i < ds.length := (List.getElem?_eq_some_iff.mp hd).1
    have hbp : p ≠ b := fun z => by subst z; exact hp i e q hd hv hb
    have kid : ∀ (j : Nat) (x : D) (r : Addr), (ds.set i (.own e'))[j]? = some (.own x) → vs[j]? = some (.ref r) → (j ≠ i ∧ ds[j]? = some (.own x)) ∨ (j = i ∧ x = e' ∧ r = q) := fun j x r h1 h2 => by
      by_cases h : i = j
      · subst h
        rw [List.getElem?_set_self hi] at h1
        rw [hv] at h2
        cases h1; cases h2
        exact .inr ⟨rfl, rfl, rfl⟩
      · rw [List.getElem?_set_ne h] at h1
        exact .inl ⟨Ne.symm h, h1⟩
    have eo : ∀ (j : Nat) (x : D) (r : Addr), j ≠ i → ds[j]? = some (.own x) → vs[j]? = some (.ref r) → ∀ a, Ft K H x r a → upd H b u a = H a := fun j x r hj' h1 h2 a ha => upd_ne fun z => by subst z; exact hj j i x e r q _ hj' h1 h2 hd hv ha hb
    have ft : ∀ (j : Nat) (x : D) (r a : Addr), (ds.set i (.own e'))[j]? = some (.own x) → vs[j]? = some (.ref r) → Ft K (upd H b u) x r a → ∃ y, ds[j]? = some (.own y) ∧ Ft K H y r a := fun j x r a h1 h2 h3 => by
      rcases kid j x r h1 h2 with ⟨hj', h4⟩ | ⟨rfl, rfl, rfl⟩
      · exact ⟨x, h4, h3.from (eo j x r hj' h4 h2)⟩
      · exact ⟨e, hd, hf a h3⟩
    constructor
    · refine .deep hF ((upd_ne hbp).trans hH) hs' (by rw [List.length_set]; exact hl) (fun j x v h1 h2 ho => ?_) (fun j x h1 => ?_) (fun j x r h1 h2 => ?_) (fun j x r h1 h2 h3 => ?_) fun j k x y r r' a ne h1 h2 h3 h4 f1 f2 => ?_
      · by_cases h : i = j
        · subst h
          rw [List.getElem?_set_self hi] at h1
          cases h1; cases ho
        · rw [List.getElem?_set_ne h] at h1
          exact hr j x v h1 h2 ho
      · by_cases h : i = j
        · subst h; exact ⟨q, hv⟩
        · rw [List.getElem?_set_ne h] at h1
          exact hq j x h1
      · rcases kid j x r h1 h2 with ⟨hj', h4⟩ | ⟨rfl, rfl, rfl⟩
        · exact (hk j x r h4 h2).mono (Same.refl F) (fun a ha => ((hk j x r h4 h2).ft ha).1) (eo j x r hj' h4 h2)
        · exact oe
      · obtain ⟨y, h4, h5⟩ := ft j x r _ h1 h2 h3
        exact hp j y r h4 h2 h5
      · obtain ⟨x', h5, h6⟩ := ft j x r a h1 h2 f1
        obtain ⟨y', h7, h8⟩ := ft k y r' a h3 h4 f2
        exact hj j k x' y' r r' a ne h5 h2 h7 h4 h6 h8
    · intro a h3
      cases h3 with
      | here => exact .here
      | kid hH2 hs2 hd2 hv2 h3 =>
        rw [upd_ne hbp, hH] at hH2; cases hH2
        obtain ⟨e1, e2⟩ := hs'.uniq hs2
        subst e1; subst e2
        obtain ⟨y, h4, h5⟩ := ft _ _ _ a hd2 hv2 h3
        exact .kid hH hs h4 hv2 h5
end
/-- places that are kept through an expression -/
noncomputable def G.keepS (g : G) (H : Hp) (φ : Addr → Prop) : G := ⟨g.K, ovl g.pH H φ, fun a => g.fx a ∨ φ a, hole g.F0 φ, g.io, g.mx⟩
section
variable {g : G} {F H H0 : Hp} {σ : L2.St} {sv : SV} {φ : Addr → Prop}
theorem Rl.keepS (r : Rl g F H σ sv) (nf : ∀ a, φ a → ¬ g.fx a) (nF : ∀ a, φ a → F a = none) (hH : ∀ a, φ a → H a ≠ none) (nr : ∀ a, φ a → ∀ i, ¬ Ref g.K H σ sv i a) : Rl (g.keepS H φ) F H σ sv := by
  refine ⟨r.sub, fun a o e => ?_, fun a ha => ?_, fun a ha => ?_, fun a o e => ?_, fun k q e => ?_, r.len, fun i s e => ?_, r.dj⟩
  · have e : ovl g.pH H φ a = some o := e
    by_cases h : φ a
    · rw [ovl_in h] at e; exact e
    · rw [ovl_out h] at e; exact r.kH a o e
  · show F a = hole g.F0 φ a
    by_cases h : φ a
    · rw [hole_in h, nF a h]
    · rw [hole_out h]
      rcases ha with ha | ha
      · exact r.kF a ha
      · exact absurd ha h
  · rcases ha with ha | ha
    · exact r.fxH a ha
    · exact hH a ha
  · have e : ovl g.pH H φ a = some o := e
    show g.fx a ∨ φ a
    by_cases h : φ a
    · exact .inr h
    · rw [ovl_out h] at e; exact .inl (r.pf a o e)
  · obtain ⟨h1, h2⟩ := r.ion k q e
    exact ⟨(ovl_out fun z => nf q z h2).trans h1, .inl h2⟩
  · have q := r.sl i s e
    cases s with
    | un => trivial
    | ex x => exact q
    | pl d => exact q
    | ow d =>
      obtain ⟨q', e1, nf', o'⟩ := q
      refine ⟨q', e1, fun a ha z => ?_, o'⟩
      rcases z with z | z
      · exact nf' a ha z
      · exact nr a z i ⟨_, d, q', e, rfl, e1, ha⟩
    | io k d =>
      obtain ⟨q', e1, hk, np, o'⟩ := q
      refine ⟨q', e1, hk, fun a ha => ?_, o'⟩
      exact (ovl_out fun z => nr a z i ⟨_, d, q', e, rfl, e1, ha⟩).trans (np a ha)
theorem Rl.unkeepS (r : Rl (g.keepS H0 φ) F H σ sv) (nf : ∀ a, φ a → ¬ g.fx a) (h0 : ∀ a, φ a → H0 a ≠ none) (npH : ∀ a, φ a → g.pH a = none) : (∀ a, φ a → F a = none ∧ H a = H0 a) ∧ Rl g F H σ sv ∧ ∀ a, φ a → ∀ i, ¬ Ref g.K H σ sv i a := by
  have hF : ∀ a, φ a → F a = none := fun a ha => (r.kF a (.inr ha)).trans (hole_in ha)
  have hH : ∀ a, φ a → H a = H0 a := fun a ha => by
    cases z : H0 a with
    | none => exact absurd z (h0 a ha)
    | some u => exact r.kH a u ((ovl_in ha).trans z)
  have nr : ∀ a, φ a → ∀ i, ¬ Ref g.K H σ sv i a := fun a ha i hi => by
    have := (r.own hi).2.2
    have h2 : ovl g.pH H0 φ a = none := this
    rw [ovl_in ha] at h2
    exact h0 a ha h2
  refine ⟨fun a ha => ⟨hF a ha, hH a ha⟩, ?_, nr⟩
  refine ⟨r.sub, fun a o e => ?_, fun a ha => ?_, fun a ha => r.fxH a (.inl ha), fun a o e => ?_, fun k q e => ?_, r.len, fun i s e => ?_, r.dj⟩
  · have hap : ¬ φ a := fun z => by rw [npH a z] at e; cases e
    exact r.kH a o ((ovl_out hap).trans e)
  · exact (r.kF a (.inl ha)).trans (hole_out fun z => nf a z ha)
  · have hap : ¬ φ a := fun z => by rw [npH a z] at e; cases e
    rcases r.pf a o ((ovl_out hap).trans e) with z | z
    · exact z
    · exact absurd z hap
  · obtain ⟨h1, h2⟩ := r.ion k q e
    rcases h2 with h2 | h2
    · exact ⟨(ovl_out fun z => nf q z h2).symm.trans h1, h2⟩
    · have h1 : ovl g.pH H0 φ q = none := h1
      rw [ovl_in h2] at h1
      exact absurd h1 (h0 q h2)
  · have q := r.sl i s e
    cases s with
    | un => trivial
    | ex x => exact q
    | pl d => exact q
    | ow d =>
      obtain ⟨q', e1, nf', o'⟩ := q
      exact ⟨q', e1, fun a ha z => nf' a ha (.inl z), o'⟩
    | io k d =>
      obtain ⟨q', e1, hk, np, o'⟩ := q
      refine ⟨q', e1, hk, fun a ha => ?_, o'⟩
      have hne : ¬ φ a := fun z => nr a z i ⟨_, d, q', e, rfl, e1, ha⟩
      exact (ovl_out hne).symm.trans (np a ha)
theorem Rl.noP (r : Rl g F H σ sv) (nf : ∀ a, φ a → ¬ g.fx a) : ∀ a, φ a → g.pH a = none := fun a ha => by
  cases h : g.pH a with
  | none => rfl
  | some o => exact absurd (r.pf a o h) (nf a ha)
end

/-! ### xs[k].append(e), where slot i owns xs and what it holds -/
def mAppIx (i : Nat) (mk m : M D) : MS := fun sv => match sv[i]? with
  | some (.ow (.deep (.lst ds))) => (match mk (sv.set i .un) with
    | .ok (.int z) s1 => (match ixN ds.length z with
      | some j => (match ds[j]? with
        | some (.own (.lst xs)) => (match m s1 with
          | .ok d s2 => if xs.length < sizeLine then .nx (s2.set i (.ow (.deep (.lst (ds.set j (.own (.lst (xs ++ [d])))))))) else .bad
          | _ => .bad)
        | _ => .bad)
      | none => .bad)
    | _ => .bad)
  | _ => .bad
section
variable {X : Cx} {W : WX'} {k e : Expr} {pos : Pos} {mk m : M D}
theorem ss_appIx {i : Nat} {x : Str} {p1 spos apos cpos : Pos} (h : ∀ tk te, PE X k tk → PE X e te → PE X (.Call (.Attribute (.Subscript (.Name x p1) k spos) "append" apos) [e] [] cpos) (tBM X.K "list" rAppend (tOp (rIxL X.K) (tVar i) tk) (tCons te tNil))) (hk : SE X W k mk) (he : SE X W e m)
    (hs : swapsWith (.Call (.Attribute (.Subscript (.Name x p1) k spos) "append" apos) [e] [] cpos) none pos.line X.env = pure false := by rfl) : SS X W (.Expr (.Call (.Attribute (.Subscript (.Name x p1) k spos) "append" apos) [e] [] cpos) pos) (mAppIx i mk m) :=
  ps_imp (ps_expr (h _ _ hk he) hs) fun Dn σ H q => by
    obtain ⟨g, F, sv, hK, rl, q⟩ := q
    unfold mAppIx at q
    split at q
    · rename_i ds hsl
      obtain ⟨p, e1, nf, ow⟩ := rl.sl i _ hsl
      have hi : i < sv.length := (List.getElem?_eq_some_iff.mp hsl).1
      have npH := rl.noP nf
      have nF : ∀ a, Ft g.K H (.deep (.lst ds)) p a → F a = none := fun a ha => (ow.ft ha).1
      have nH : ∀ a, Ft g.K H (.deep (.lst ds)) p a → H a ≠ none := fun a ha => (ow.ft ha).2
      obtain ⟨_, _, _, rl0, nr0⟩ := rl.take hsl
      have rk : Rl (g.keepS H (Ft g.K H (.deep (.lst ds)) p)) F H σ (sv.set i .un) := by
        refine (rl.forget i).keepS nf nF nH fun a ha j hj => ?_
        obtain ⟨s, d', p', f2, f3, f4, hf⟩ := hj
        by_cases hij : i = j
        · subst hij
          rw [List.getElem?_set_self hi] at f2
          cases f2; cases f3
        · rw [List.getElem?_set_ne hij] at f2
          exact hij (rl.dj i j a ⟨_, _, p, hsl, rfl, e1, ha⟩ ⟨s, d', p', f2, f3, f4, hf⟩)
      obtain ⟨vs, hH, hl, hr⟩ : ∃ vs, H p = some (.lst vs) ∧ ds.length = vs.length ∧ ∀ (i : Nat) (e : D), ds[i]? = some (.own e) → ∃ q, vs[i]? = some (.ref q) ∧ OwnP g.K F H e q := by
        cases ow with
        | flat _ _ hs _ => cases hs
        | deep hF hH hs hl hr hq hk hp hj =>
          cases hs
          exact ⟨_, hH, hl, fun i e h1 => by obtain ⟨q, h2⟩ := hq i e h1; exact ⟨q, h2, hk i e q h1 h2⟩⟩
      refine ⟨.ref p, e1, g.keepS H (Ft g.K H (.deep (.lst ds)) p), F, sv.set i .un, hK, rk, ?_⟩
      split at q
      · rename_i z s1 hm1
        rw [hm1]
        split at q
        · rename_i j hj
          split at q
          · rename_i xs hxs
            obtain ⟨r, hv, oxs⟩ := hr j _ hxs
            obtain ⟨_, us, hr1, rxs⟩ := oxs.lst_inv
            intro v F1 H1 f1 rl1 rp1
            cases rp1
            have kp1 : ∀ a, Ft g.K H (.deep (.lst ds)) p a → H1 a = H a := fun a ha => ((rl1.unkeepS nf nH npH).1 a ha).2
            have fr : Ft g.K H (.deep (.lst ds)) p r := .kid hH .lst hxs hv .here
            have hat : atI vs z = some (.ref r) := by
              unfold atI
              rw [← hl, hj]
              exact hv
            refine ⟨p, vs, z, .ref r, rfl, rfl, .inl (.inl ((kp1 p .here).trans hH)), hat, .inl ⟨rfl, us, .inl (.inl ((kp1 r fr).trans hr1))⟩, g.keepS H (Ft g.K H (.deep (.lst ds)) p), F1, s1, hK, rl1, ?_⟩
            split at q
            · rename_i d s2 hm2
              rw [hm2]
              split at q
              · rename_i hz
                intro v F2 H2 f2 rl2 rp2
                obtain ⟨kp, rl3, nr3⟩ := rl2.unkeepS nf nH npH
                have kp2 : ∀ a, Ft g.K H (.deep (.lst ds)) p a → H2 a = H a := fun a ha => (kp a ha).2
                have f12 := f1.trans f2
                refine ⟨r, us, v, rfl, rfl, (kp2 r fr).trans hr1, by rw [← rxs.length]; exact hz, ?_⟩
                have ow2 : OwnP g.K F2 H2 (.deep (.lst ds)) p := ow.mono f12 (fun a ha => (kp a ha).1) kp2
                have hxs2 : OwnP g.K F2 (upd H2 r (.lst (us ++ [v]))) (.lst (xs ++ [d])) r := .lst (kp r fr).1 upd_same ((RpL.mono f12 _ _ rxs).append (RpL.one rp2))
                obtain ⟨ow3, hf3⟩ := ow2.at (e' := .lst (xs ++ [d])) (d' := .lst (ds.set j (.own (.lst (xs ++ [d]))))) ((kp2 p .here).trans hH) .lst .lst hxs hv .here hxs2 fun a ha => by rw [ha.flat fun e z => nomatch z]; exact .here
                have rl4 : Rl g F2 H2 σ (s2.set i (.ow (.deep (.lst ds)))) := by
                  have := rl3.setSl (ov := some (.ref p)) (s' := .ow (.deep (.lst ds))) i ⟨p, rfl, fun a ha => nf a (ha.from kp2), ow2⟩ fun d0 p0 z1 z2 a ha jj _ => by
                    cases z1; cases z2
                    exact nr3 a (ha.from kp2) jj
                  rw [set_self e1] at this
                  exact this
                have hi2 : i < s2.length := by
                  rw [rl3.len]
                  exact (List.getElem?_eq_some_iff.mp e1).1
                have hsl2 : (s2.set i (Sl.ow (.deep (.lst ds))))[i]? = some (.ow (.deep (.lst ds))) := List.getElem?_set_self hi2
                have rl5 := rl4.put hsl2 rfl (show reSl (.ow (.deep (.lst ds))) (.deep (.lst (ds.set j (.own (.lst (xs ++ [d])))))) = some _ from rfl) e1 (.kid ((kp2 p .here).trans hH) .lst hxs hv .here) ow3 fun a ha => .inl (hf3 a ha)
                rw [List.set_set] at rl5
                exact q σ F2 _ f12 rl5
              · exact False.elim q
            · exact False.elim q
          · exact False.elim q
        · exact False.elim q
      · exact False.elim q
    · exact False.elim q
end

/-! ### [e for x in xs], where each item is new and the list's own -/
def lcLO (own : List Nat) (t : MT) (mc : M Bool) (me : M D) : List D → SV → List D → R (List D)
  | [], s, acc => .ok acc s
  | d :: ds, s, acc => match t d s with
    | none => .bad
    | some s1 => match mc s1 with
      | .ok false s2 => lcLO own t mc me ds (wipeV s2 own) acc
      | .ok true s2 => match me s2 with
        | .ok y s3 => if acc.length < sizeLine then lcLO own t mc me ds (wipeV s3 own) (acc ++ [.own y]) else .bad
        | _ => .bad
      | _ => .bad
theorem lcLO_noerr {own : List Nat} {t : MT} {mc : M Bool} {me : M D} : ∀ (ds : List D) (s : SV) (acc : List D) (x : Exn) (s' : SV), lcLO own t mc me ds s acc ≠ .err x s'
  | [], _, _, _, _, h => by cases h
  | d :: ds, s, acc, x, s', h => by
    unfold lcLO at h
    cases ht : t d s with
    | none => rw [ht] at h; cases h
    | some s1 =>
      rw [ht] at h
      dsimp only at h
      cases hc : mc s1 with
      | err _ _ => rw [hc] at h; cases h
      | bad => rw [hc] at h; cases h
      | ok b s2 =>
        rw [hc] at h
        cases b with
        | false => exact lcLO_noerr ds _ _ _ _ h
        | true =>
          dsimp only at h
          cases hm : me s2 with
          | err _ _ => rw [hm] at h; cases h
          | bad => rw [hm] at h; cases h
          | ok y s3 =>
            rw [hm] at h
            dsimp only at h
            split at h
            · exact lcLO_noerr ds _ _ _ _ h
            · cases h
def mLcO (own : List Nat) (mi : M (List D)) (t : MT) (mc : M Bool) (me : M D) : M D := fun sv => (mi sv).bind fun ds s => if ownOk own s = true then (lcLO own t mc me ds (wipeV s own) []).bind fun acc s' => .ok (.deep (.lst acc)) (restV own s s') else .bad
/-- a new, owned list beside the frame, with what it owns -/
structure SideO (g : G) (F H : Hp) (σ : L2.St) (sv : SV) (p : Addr) (acc : List D) : Prop where
  ow : OwnP g.K F H (.deep (.lst acc)) p
  nf : ∀ a, Ft g.K H (.deep (.lst acc)) p a → ¬ g.fx a
  at_ : ∃ vs, H p = some (.lst vs) ∧ acc.length = vs.length
  nr : ∀ a, Ft g.K H (.deep (.lst acc)) p a → ∀ i, ¬ Ref g.K H σ sv i a
theorem OwnP.nilO {K : PySem.W.Frag} {F H : Hp} {p : Addr} (hF : F p = none) (hH : H p = some (.lst [])) : OwnP K F H (.deep (.lst [])) p :=
  .deep hF hH .lst rfl (fun i e v h => by simp at h) (fun i e h => by simp at h) (fun i e q h => by simp at h) (fun i e q h => by simp at h) fun i j e e' q q' a _ h => by simp at h
theorem Ft.nilO {K : PySem.W.Frag} {H : Hp} {p a : Addr} (h : Ft K H (.deep (.lst [])) p a) : a = p := by
  cases h with
  | here => rfl
  | kid hH hs hd hv h => cases hs; simp at hd

section
variable {X : Cx} {W : WX'} {elt tg iter : Expr} {ifs : List Expr} {scope : Scope} {own : List (Str × Nat)} {pos : Pos} {mi : M (List D)} {is : List Nat} {t : MT} {mc : M Bool} {me : M D}
theorem lc_turnsO {g : G} (hMx : g.mx = X.mx) {J : It} {ds : List D} {σ : L2.St} {F1 : Hp} {p : Addr} {Q : VK} {ow : List Nat} (his : ∀ i ∈ is, i ∈ ow) (ok : ItOk g.K F1 ds J) {fin : List D → SV → Prop}
    (hfin : ∀ F2 H2 s2 acc, Same F1 F2 → Rl g F2 H2 (wipe σ ow) s2 → SideO g F2 H2 (wipe σ ow) s2 p acc → fin acc s2 → Q (.ref p) H2) {H1 : Hp} {s1 : SV} (rl1 : Rl g F1 H1 (wipe σ ow) s1) (sd1 : SideO g F1 H1 (wipe σ ow) s1 p [])
    (q : match lcLO ow t mc me ds s1 [] with | .ok acc s => fin acc s | _ => False) :
    ∃ Wi : Nat → Nat → Hp → Prop, (∃ m, Wi 0 m H1) ∧ ∀ i m H, Wi i m H → (J.stop i H ∧ Q (.ref p) H) ∨ (J.go i H ∧ ∃ Nx : Hp → Prop, (∀ H', Nx H' → ∃ m', m' < m ∧ Wi (i + 1) m' H') ∧ ∀ x H', J.yld i H x H' →
      tGt g.K is t x (wipe σ ow) H' fun σ2 H2 => wipe σ2 ow = wipe σ ow ∧ tT g.K X.mx WF mc σ2 H2 fun b H3 => if b = true then tO g.K X.mx WF me σ2 H3 fun y H4 => ∃ acc, H4 p = some (.lst acc) ∧ acc.length < sizeLine ∧ Nx (upd H4 p (.lst (acc ++ [y]))) else Nx H3) := by
  refine ⟨fun i m H => m = ds.length - i ∧ i ≤ ds.length ∧ ∃ F2 s2 acc, Same F1 F2 ∧ Rl g F2 H (wipe σ ow) s2 ∧ SideO g F2 H (wipe σ ow) s2 p acc ∧ (match lcLO ow t mc me (ds.drop i) s2 acc with | .ok acc s => fin acc s | _ => False),
    ⟨ds.length, by simp, Nat.zero_le _, F1, s1, [], Same.refl F1, rl1, sd1, q⟩, ?_⟩
  rintro i m H ⟨rfl, hi, F2, s2, acc, e2, rl2, sd2, q2⟩
  have sH : Same F1 H := e2.trans rl2.sub
  by_cases hlt : i < ds.length
  · have hd : ds[i]? = some ds[i] := List.getElem?_eq_getElem hlt
    rw [List.drop_eq_getElem_cons hlt] at q2
    unfold lcLO at q2
    refine .inr ⟨ok.go i H hlt sH, fun H => ∃ F2 s2 acc, Same F1 F2 ∧ Rl g F2 H (wipe σ ow) s2 ∧ SideO g F2 H (wipe σ ow) s2 p acc ∧ (match lcLO ow t mc me (ds.drop (i + 1)) s2 acc with | .ok acc s => fin acc s | _ => False),
      fun H' hN => ⟨ds.length - (i + 1), by omega, rfl, hlt, hN⟩, fun x H' hy => ?_⟩
    obtain ⟨vs, hv, hlen⟩ := sd2.at_
    have nf := sd2.nf
    have nF : ∀ a, Ft g.K H (.deep (.lst acc)) p a → F2 a = none := fun a ha => (sd2.ow.ft ha).1
    have nH : ∀ a, Ft g.K H (.deep (.lst acc)) p a → H a ≠ none := fun a ha => (sd2.ow.ft ha).2
    have npH := rl2.noP nf
    have rk := rl2.keepS nf nF nH sd2.nr
    generalize hφ : Ft g.K H (.deep (.lst acc)) p = φ at *
    -- the item
    have item : ∃ F3, Same F2 F3 ∧ Rl (g.keepS H φ) F3 H' (wipe σ ow) s2 ∧ Rp g.K F3 ds[i] x := by
      rcases ok.yld i _ x H H' hd sH hy with ⟨rfl, hr⟩ | ⟨T, us, es, ed, rfl, hT, rfl, hr⟩
      · exact ⟨F2, Same.refl F2, rk, Rp.mono e2 _ _ hr⟩
      · have sF : Same F2 (upd F2 T (.tup us)) := same_upd (rl2.sub.free hT)
        refine ⟨_, sF, rk.lay hT, ?_⟩
        rw [ed]
        exact ⟨T, us, rfl, .inl (.inl upd_same), RpL.mono (e2.trans sF) _ _ hr⟩
    obtain ⟨F3, e3, rl3, rp3⟩ := item
    have hp : φ p := by rw [← hφ]; exact .here
    cases ht : t ds[i] s2 with
    | none => rw [ht] at q2; exact False.elim q2
    | some s3 =>
      rw [ht] at q2
      dsimp only at q2
      refine ⟨g.keepS H φ, F3, s2, ds[i], s3, rfl, rl3, rp3, ht, fun σ4 rl4 ag => ?_⟩
      have ew : wipe σ4 ow = wipe σ ow := wipe_agree ag his
      refine ⟨ew, g.keepS H φ, F3, s3, ⟨rfl, hMx⟩, rl4, ?_⟩
      cases hc : mc s3 with
      | err x' s => rw [hc] at q2; exact False.elim q2
      | bad => rw [hc] at q2; exact False.elim q2
      | ok b s =>
        rw [hc] at q2
        intro b' F5 H5 e5 rl5 eb
        cases eb
        cases b with
        | false =>
          have q2 : match lcLO ow t mc me (ds.drop (i + 1)) (wipeV s ow) acc with | .ok acc s => fin acc s | _ => False := q2
          obtain ⟨kp, h3, h4⟩ := rl5.unkeepS nf nH npH
          have kpH : ∀ a, Ft g.K H (.deep (.lst acc)) p a → H5 a = H a := fun a ha => (kp a (by rw [← hφ]; exact ha)).2
          have fto : ∀ a, Ft g.K H5 (.deep (.lst acc)) p a → φ a := fun a ha => by rw [← hφ]; exact ha.from kpH
          have h3w := h3.wiped ow
          rw [ew] at h3w
          show ∃ F2 s2 acc, _
          refine ⟨F5, wipeV s ow, acc, (e2.trans e3).trans e5, h3w, ⟨sd2.ow.mono (e3.trans e5) (fun a ha => (kp a (by rw [← hφ]; exact ha)).1) kpH, fun a ha => nf a (fto a ha), ⟨vs, (kp p hp).2.trans hv, hlen⟩, fun a ha j hj => h4w (h4 a (fto a ha)) ew hj⟩, q2⟩
        | true =>
          have q2 : match (match me s with | .ok y s3 => if acc.length < sizeLine then lcLO ow t mc me (ds.drop (i + 1)) (wipeV s3 ow) (acc ++ [D.own y]) else .bad | _ => .bad) with | .ok acc s => fin acc s | _ => False := q2
          refine ⟨g.keepS H φ, F5, s, ⟨rfl, hMx⟩, rl5, ?_⟩
          cases hme : me s with
          | err x' s' => rw [hme] at q2; exact False.elim q2
          | bad => rw [hme] at q2; exact False.elim q2
          | ok y s' =>
            rw [hme] at q2
            dsimp only at q2
            by_cases hz : acc.length < sizeLine
            · rw [if_pos hz] at q2
              intro v F6 H6 e6 rl6 rp6
              obtain ⟨r, rfl, nfy, owy, nry⟩ := rp6
              obtain ⟨kp, h3, h4⟩ := rl6.unkeepS nf nH npH
              have kpH : ∀ a, Ft g.K H (.deep (.lst acc)) p a → H6 a = H a := fun a ha => (kp a (by rw [← hφ]; exact ha)).2
              have fto : ∀ a, Ft g.K H6 (.deep (.lst acc)) p a → φ a := fun a ha => by rw [← hφ]; exact ha.from kpH
              have ow6 : OwnP g.K F6 H6 (.deep (.lst acc)) p := sd2.ow.mono ((e3.trans e5).trans e6) (fun a ha => (kp a (by rw [← hφ]; exact ha)).1) kpH
              have hH6 : H6 p = some (.lst vs) := (kp p hp).2.trans hv
              have hdj : ∀ a, Ft g.K H6 y r a → ¬ Ft g.K H6 (.deep (.lst acc)) p a := fun a ha hb => nfy a ha (.inr (fto a hb))
              obtain ⟨ow7, hf7⟩ := ow6.snoc hH6 owy hdj
              have ne : ∀ j a, Ref g.K H6 σ4 s' j a → upd H6 p (.lst (vs ++ [.ref r])) a = H6 a := fun j a ha => upd_ne fun z => by subst z; exact h4 _ hp j ha
              have hF6p : F6 p = none := (kp p hp).1
              have hgp : g.pH p = none := npH p hp
              have rl7 : Rl g F6 (upd H6 p (.lst (vs ++ [.ref r]))) σ4 s' := by
                refine h3.move (fun a o e => ?_) (fun a o e => ?_) (fun _ _ => rfl) (fun a ha => ?_) (Same.refl F6) (fun j a h => (h3.own h).1) ne
                · rw [upd_ne (fun z => by rw [z, hF6p] at e; cases e)]; exact h3.sub a o e
                · rw [upd_ne (fun z => by rw [z, hgp] at e; cases e)]; exact h3.kH a o e
                · rw [upd_ne (fun z => by subst z; exact nf _ hp ha)]; exact h3.fxH a ha
              have h3w := rl7.wiped ow
              rw [ew] at h3w
              refine ⟨vs, hH6, by rw [← hlen]; exact hz, F6, wipeV s' ow, acc ++ [D.own y], ((e2.trans e3).trans e5).trans e6, h3w, ⟨ow7, fun a ha => ?_, ⟨_, upd_same, by simp [hlen]⟩, fun a ha j hj => ?_⟩, q2⟩
              · rcases hf7 a ha with h8 | h8
                · exact nf a (fto a h8)
                · exact fun z => nfy a h8 (.inl z)
              · refine h4w (fun jj hjj => ?_) ew hj
                have hjj := hjj.from (ne jj)
                rcases hf7 a ha with h8 | h8
                · exact h4 a (fto a h8) jj hjj
                · exact nry a h8 jj hjj
            · rw [if_neg hz] at q2
              exact False.elim q2
  · have e : i = ds.length := by omega
    subst e
    rw [List.drop_length] at q2
    exact .inl ⟨ok.stop H sH, hfin F2 H s2 acc e2 rl2 sd2 q2⟩
theorem lc_readO {σ : L2.St} {H : Hp} {Q : VK} {ow : List Nat} (his : ∀ i ∈ is, i ∈ ow) (q : tO X.K X.mx W (mLcO ow mi t mc me) σ H Q) : tLc (tG X.K X.mx W RelI mi) (tGt X.K is t) (tT X.K X.mx WF mc) (tO X.K X.mx WF me) ow σ H Q := by
  obtain ⟨g, F, sv, hK, rl, q⟩ := q
  refine ⟨g, F, sv, hK, rl, PostG.bind q fun ds s J F1 H1 e1 rl1 ok1 q1 p hp => ?_⟩
  by_cases ho : ownOk ow s = true
  · rw [if_pos ho] at q1
    rw [← hK.1]
    have rlo : Rl g F1 (upd H1 p (.lst [])) (wipe σ ow) (wipeV s ow) := (rl1.layO hp).wiped ow
    have ne : ∀ j b, Ref g.K H1 σ s j b → upd H1 p (.lst []) b = H1 b := fun j b hb => upd_ne fun z => by subst z; exact rl1.noRef hp j hb
    refine lc_turnsO (g := g) hK.2 (fin := fun acc s' => PostG X.mx g F1 σ (.ok (.deep (.lst acc)) (restV ow s s')) W RelO' Q) his ok1 (fun F2 H2 s2 acc e2 rl2 sd hf => ?_) rlo ⟨.nilO (rl1.sub.free hp) upd_same, fun a ha => by rw [ha.nilO]; exact rl1.nofx hp, ⟨[], upd_same, rfl⟩, fun a ha j hj => ?_⟩ ?_
    · have rl3 := rl_restore rl1 ho e2 rl2
      refine hf _ F2 H2 e2 rl3 ⟨p, rfl, sd.nf, sd.ow, fun a ha j hj => ?_⟩
      obtain ⟨tt, d0, q0, a1, a2, a3, a4⟩ := hj
      rcases restV_get ow s s2 j tt a1 with ⟨b1, b2⟩ | ⟨b1, b2⟩ | ⟨b1, b2⟩
      · exact sd.nr a ha j ⟨tt, d0, q0, b2, a2, by rw [wipe_get σ j ow b1]; exact a3, a4⟩
      · have := List.all_eq_true.mp ho j b1
        rw [b2] at this
        cases tt <;> first | (cases a2; done) | (cases this; done)
      · obtain ⟨z, _⟩ := List.getElem?_eq_some_iff.mp b2
        have := List.getElem?_eq_none_iff.mp b1
        have := rl2.len
        rw [wipe_length, ← rl1.len] at this
        omega
    · have hap := ha.nilO
      subst hap
      exact h4w (fun i hi => rl1.noRef hp i (hi.from (ne i))) rfl hj
    · revert q1
      cases hL : lcLO ow t mc me ds (wipeV s ow) [] with
      | ok acc s' => exact fun q => q
      | err x s' => exact absurd hL (lcLO_noerr ds _ _ _ _)
      | bad => exact fun q => q
  · rw [if_neg ho] at q1
    exact False.elim q1
theorem so_lcO (hc : X.calm = true) (hN : X.N.Nodup) (hi : SI X W tg iter mi) (ok : BlkOk X.N X.env.scope scope own) (his : ∀ i ∈ is, i ∈ own.map (·.2))
    (hg : ∀ (s : Shared) (H : Hp) (C : Addr) (cl : List (Str × Addr)) (fp : List Addr), SG (X.blk s H scope (compEnvC scope cl C X.env) fp) tg is t)
    (ht : ∀ (s : Shared) (H : Hp) (C : Addr) (cl : List (Str × Addr)) (fp : List Addr), STs (X.blk s H scope (compEnvC scope cl C X.env) fp) WF ifs mc)
    (he : ∀ (s : Shared) (H : Hp) (C : Addr) (cl : List (Str × Addr)) (fp : List Addr), SO (X.blk s H scope (compEnvC scope cl C X.env) fp) WF elt me) (hs : ∀ x, foldedSetIterable iter X.env x = pure x := by intro _; rfl) :
    SO X W (.ListComp elt [⟨tg, iter, ifs, 0⟩] scope pos) (mLcO (own.map (·.2)) mi t mc me) := pe_imp (pe_lc hc hN hi ok hg (tt := tT X.K X.mx WF mc) (te := tO X.K X.mx WF me) (fun s H C cl fp => by have z := ht s H C cl fp; unfold STs at z; rw [blk_mx hc] at z; exact z) (fun s H C cl fp => by have z := he s H C cl fp; unfold SO at z; rw [blk_mx hc] at z; exact z) hs) fun σ H Q q => by
  exact lc_readO his q
theorem lc_setO {i : Nat} {y : Str} {py : Pos} {spos : Pos} (h : PS X (.Assign [.Name y py] (.ListComp elt [⟨tg, iter, ifs, 0⟩] scope pos) spos) (tAsg (tLc (tG X.K X.mx W RelI mi) (tGt X.K is t) (tT X.K X.mx WF mc) (tO X.K X.mx WF me) (own.map (·.2))) (gName i)))
    (his : ∀ i ∈ is, i ∈ own.map (·.2)) : SS X W (.Assign [.Name y py] (.ListComp elt [⟨tg, iter, ifs, 0⟩] scope pos) spos) (mAsgO i (mLcO (own.map (·.2)) mi t mc me)) := ps_imp h fun Dn σ H q => by
  obtain ⟨g, F, sv, hK, rl, q⟩ := q
  refine lc_readO (X := X) (W := W) his ⟨g, F, sv, hK, rl, PostS.bind (H := H) q fun d s v F1 H1 e1 rl1 rp1 h1 => ?_⟩
  obtain ⟨p, rfl, nf, o, nr⟩ := rp1
  exact h1 _ F1 H1 (Same.refl F1) (rl1.setOw i nf o nr)
end
/-- these hold nothing of their own -/
theorem fl_bind {α : Type} {m : M α} {k : α → SV → R D} (h : ∀ a s d s', k a s = .ok d s' → ∀ e, d ≠ .deep e) : Fl (fun sv => (m sv).bind k) := ⟨fun sv d s hh e => by
  have hh : (m sv).bind k = .ok d s := hh
  cases hm : m sv with
  | ok a s1 => rw [hm] at hh; exact h a s1 d s hh e
  | err x s1 => rw [hm] at hh; cases hh
  | bad => rw [hm] at hh; cases hh⟩
theorem fl_call1 {f : List D → Option D} {ms : M (List D)} (hf : ∀ ds d, f ds = some d → ∀ e, d ≠ .deep e) : Fl (mCall1 f ms) := fl_bind fun ds s d s' h e => by
  cases hk : f ds with
  | none => rw [hk] at h; cases h
  | some r => rw [hk] at h; cases h; exact hf ds _ hk e
instance fl_sorted {ms : M (List D)} : Fl (mCall1 dSorted ms) := fl_call1 fun ds d h e => by
  unfold dSorted at h
  split at h
  · split at h
    · split at h
      · cases h; exact fun z => nomatch z
      · cases h
    · cases h
  · cases h
instance fl_list {ms : M (List D)} : Fl (mCall1 dList ms) := fl_call1 fun ds d h e => by
  unfold dList at h
  split at h <;> first | (cases h; exact fun z => nomatch z) | cases h
instance fl_cat {ma mb : M D} : Fl (m2 dCat ma mb) := fl_m2 fun a b d h e => by
  unfold dCat at h
  split at h
  · split at h
    · cases h; exact fun z => nomatch z
    · cases h
  · cases h
instance fl_lc {own : List Nat} {mi : M (List D)} {t : MT} {mc : M Bool} {me : M D} : Fl (mLc own mi t mc me) := fl_bind fun ds s d s' h e => by
  split at h
  · cases hm : lcL own t mc me ds (wipeV s own) [] with
    | ok acc s1 => rw [hm] at h; cases h; exact fun z => nomatch z
    | err x s1 => rw [hm] at h; cases h
    | bad => rw [hm] at h; cases h
  · cases h
instance fl_lrg {m : M D} : Fl (mListRg m) := ⟨fun sv d s h e => by
  unfold mListRg at h
  cases hm : m sv with
  | ok a s1 =>
    rw [hm] at h
    dsimp only [R.bind] at h
    split at h
    · split at h
      · cases h; exact fun z => nomatch z
      · cases h
    · cases h
  | err x s1 => rw [hm] at h; cases h
  | bad => rw [hm] at h; cases h⟩
end VM

set_option Elab.async false
set_option linter.all false
set_option autoImplicit false
set_option maxRecDepth 100000
set_option maxHeartbeats 400000
namespace VM
open PySem PySem.Spec PyProof.Rows L2

/-! ### str(n), sep.join(words), xs.index(x) -/
def dStr : List D → Option D
  | [.int i] => if i.natAbs.log2 < 1920 then some (.str (toString i)) else none
  | _ => none
theorem oc_str {K : PySem.W.Frag} : OC K (fun xs H Q => ∃ i : Int, xs = [V.int i] ∧ i.natAbs.log2 < 1920 ∧ Q (.str (toString i)) H) dStr := oc_pure fun F H ds d vs Q s e hv q => by
  unfold dStr at e
  split at e
  · split at e
    · cases e
      obtain ⟨v, rfl, h1⟩ := hv.one_inv
      cases h1
      exact ⟨_, rfl, by assumption, q _ rfl⟩
    · cases e
  · cases e
section
variable {X : Cx} {W : WX'} {o e : Expr} {es : List Expr} {pos apos p : Pos} {m ma mb : M D} {ms : M (List D)}
theorem boot_str' : bootBuiltins "str" = some (.type "str") := by decide +kernel
theorem se_strc (hg : Gl X "str") (hm : X.mg "str" = none) (ha : SA X W (e :: es) ms)
    (h1 : starEach (e :: es) X.env = (false, eval e X.env) :: starEach es X.env := by rfl) (h2 : (backTo pos (starEach es X.env)).any (·.1) = false := by rfl) : SE X W (.Call (.Name "str" p) (e :: es) [] pos) (mCall1 dStr ms) :=
  se_callTy call_str_int oc_str hg hm boot_str' ha (by decide) (by decide) h1 h2
def strsD : List D → Option (List Str)
  | [] => some []
  | .str z :: ds => (strsD ds).map (z :: ·)
  | _ => none
theorem strsD_rel {K : PySem.W.Frag} {F : Hp} : ∀ {ds : List D} {ys : List Str} {vs : List V}, strsD ds = some ys → RpL K F ds vs → vs = ys.map V.str
  | [], ys, vs, e, h => by cases e; cases h; rfl
  | d :: ds, ys, vs, e, h => by
    obtain ⟨v, r, rfl, h1, h2⟩ := h
    cases d with
    | str z =>
      simp only [strsD, Option.map_eq_some_iff] at e
      obtain ⟨zs, e1, rfl⟩ := e
      cases h1
      rw [strsD_rel e1 h2]
      rfl
    | _ => simp [strsD] at e
def joinL (a : Str) (ds : List D) : Option D := match strsD ds with
  | some ys => if (ys.map (·.length)).sum + ys.length * a.length ≤ 16777216 then some (.str (Txt.join a ys)) else none
  | none => none
def dJoin (a : Str) : D → Option D
  | .lst ds => joinL a ds
  | .fl ds => joinL a ds
  | .tup ds => joinL a ds
  | _ => none
/-- a text's method with anything -/
def mS1 (f : Str → D → Option D) (ma mb : M D) : M D := fun sv => (ma sv).bind fun d s1 => match d with
  | .str z => (mb s1).bind fun d2 s2 => (match f z d2 with
    | some r => .ok r s2
    | none => .bad)
  | _ => .bad
theorem join_rel {K : PySem.W.Frag} {F H : Hp} {a : Str} {d r : D} {v : V} (s : Same F H) (e : dJoin a d = some r) (h : Rp K F d v) : ∃ p, ∃ ys : List Str, v = .ref p ∧ (SqL K H p (ys.map V.str) ∨ SqT K H p (ys.map V.str)) ∧ (ys.map (·.length)).sum + ys.length * a.length ≤ 16777216 ∧ r = .str (Txt.join a ys) := by
  have key : ∀ {ds : List D} {vs : List V}, joinL a ds = some r → RpL K F ds vs → ∃ ys : List Str, vs = ys.map V.str ∧ (ys.map (·.length)).sum + ys.length * a.length ≤ 16777216 ∧ r = .str (Txt.join a ys) := fun {ds vs} e h => by
    unfold joinL at e
    split at e
    · rename_i ys hy
      split at e
      · rename_i hz
        cases e
        exact ⟨ys, strsD_rel hy h, hz, rfl⟩
      · cases e
    · cases e
  unfold dJoin at e
  split at e
  · obtain ⟨p, vs, rfl, h1, h2⟩ := h
    obtain ⟨ys, rfl, h3, h4⟩ := key e h2
    exact ⟨p, ys, rfl, .inl (.inl (.inl (s _ _ h1))), h3, h4⟩
  · obtain ⟨p, vs, rfl, h1, h2⟩ := h
    obtain ⟨ys, rfl, h3, h4⟩ := key e h2
    exact ⟨p, ys, rfl, .inl (s.seq h1), h3, h4⟩
  · obtain ⟨p, vs, rfl, h1, h2⟩ := h
    obtain ⟨ys, rfl, h3, h4⟩ := key e h2
    exact ⟨p, ys, rfl, .inr (sqT_mono s h1), h3, h4⟩
  · cases e
theorem se_join (h : PE X (.Call (.Attribute o "join" apos) [e] [] pos) (tM1 (fun x xs H Q => ∃ a p, ∃ ys : List Str, x = .str a ∧ xs = [.ref p] ∧ (SqL X.K H p (ys.map V.str) ∨ SqT X.K H p (ys.map V.str)) ∧ (ys.map (·.length)).sum + ys.length * a.length ≤ 16777216 ∧ Q (.str (Txt.join a ys)) H) (tE X.K X.mx W ma) (tE X.K X.mx W mb))) :
    SE X W (.Call (.Attribute o "join" apos) [e] [] pos) (mS1 dJoin ma mb) := pe_imp h fun σ H Q q => by
  obtain ⟨g, F, sv, hK, rl, q⟩ := q
  refine ⟨g, F, sv, hK, rl, PostG.bind q fun d s1 v F1 H1 e1 rl1 rp1 h1 => ?_⟩
  cases d with
  | str z =>
    cases (show v = V.str z from rp1)
    refine ⟨⟨_, rfl⟩, g, F1, s1, hK, rl1, PostG.bind h1 fun d2 s2 v2 F2 H2 e2 rl2 rp2 h2 => ?_⟩
    split at h2
    · rename_i r hr
      rw [← hK.1]
      obtain ⟨p, ys, rfl, h3, h4, rfl⟩ := join_rel rl2.sub hr rp2
      exact ⟨z, p, ys, rfl, rfl, h3, h4, h2 _ F2 H2 (Same.refl F2) rl2 rfl⟩
    · exact False.elim h2
  | _ => exact False.elim h1
/-- the place of the first like it -/
def idxP (q : PyData) : List PyData → Nat → Option Nat
  | [], _ => none
  | z :: zs, j => if PyData.eqv z q then some j else idxP q zs (j + 1)
theorem idxP_some {q : PyData} : ∀ {zs : List PyData} {n j : Nat}, idxP q zs n = some j → ∃ k, j = n + k ∧ (∃ z, zs[k]? = some z ∧ PyData.eqv z q = true) ∧ ∀ (m : Nat) (z' : PyData), m < k → zs[m]? = some z' → PyData.eqv z' q = false
  | [], n, j, e => by cases e
  | z :: zs, n, j, e => by
    unfold idxP at e
    split at e
    · rename_i h
      cases e
      exact ⟨0, rfl, ⟨z, rfl, h⟩, fun m z' hm => absurd hm (Nat.not_lt_zero _)⟩
    · rename_i h
      obtain ⟨k, rfl, ⟨z1, h1, h2⟩, h3⟩ := idxP_some e
      refine ⟨k + 1, by omega, ⟨z1, h1, h2⟩, fun m z' hm h4 => ?_⟩
      cases m with
      | zero => cases h4; simpa using h
      | succ m => exact h3 m z' (by omega) h4
def dIndex : D → D → Option D
  | .lst xs, x => match py x, pyL xs with
    | some q, some qs => if SeqAt.shaped (.list qs) = true ∧ SeqAt.shaped q = true then (idxP q qs 0).map fun j => D.int (j : Nat) else none
    | _, _ => none
  | _, _ => none
def mIdx (ma mb : M D) : M D := fun sv => (ma sv).bind fun d s1 => match d with
  | .lst xs => (mb s1).bind fun d2 s2 => (match dIndex (.lst xs) d2 with
    | some r => .ok r s2
    | none => .bad)
  | _ => .bad
theorem se_index (h : PE X (.Call (.Attribute o "index" apos) [e] [] pos) (tBM X.K "list" (rIndexD X.K) (tE X.K X.mx W ma) (tCons (tE X.K X.mx W mb) tNil))) :
    SE X W (.Call (.Attribute o "index" apos) [e] [] pos) (mIdx ma mb) := pe_imp h fun σ H Q q => by
  obtain ⟨g, F, sv, hK, rl, q⟩ := q
  refine ⟨g, F, sv, hK, rl, PostG.bind q fun d s1 v F1 H1 e1 rl1 rp1 h1 => ?_⟩
  cases d with
  | lst xs =>
    obtain ⟨p, vs, rfl, h5, h6⟩ := rp1
    refine ⟨.inl ⟨rfl, vs, .inl (.inl (rl1.sub _ _ h5))⟩, g, F1, s1, hK, rl1, PostG.bind h1 fun d2 s2 v2 F2 H2 e2 rl2 rp2 h2 => ?_⟩
    split at h2
    · rename_i r hr
      unfold dIndex at hr
      dsimp only at hr
      cases hq : py d2 with
      | none => rw [hq] at hr; simp at hr
      | some q1 =>
        cases hqs : pyL xs with
        | none => rw [hq, hqs] at hr; simp at hr
        | some qs =>
          rw [hq, hqs] at hr
          dsimp only at hr
          split at hr
          · rename_i hs
            obtain ⟨j, hj, rfl⟩ := Option.map_eq_some_iff.mp hr
            obtain ⟨k, rfl, ⟨z, hz, hz2⟩, hz3⟩ := idxP_some hj
            rw [Nat.zero_add] at h2
            rw [← hK.1]
            refine ⟨p, v2, q1, qs, k, z, rfl, rfl, ?_, dp_of rl2.sub d2 v2 q1 rp2 hq, hs.1, hs.2, hz, hz2, hz3, h2 _ F2 H2 (Same.refl F2) rl2 rfl⟩
            exact .lst (.inl (.inl (rl2.sub _ _ (e2 _ _ h5)))) (dpL_of rl2.sub xs vs qs (RpL.mono e2 _ _ h6) hqs)
          · simp at hr
    · exact False.elim h2
  | _ => exact False.elim h1
end

instance pu_fz {m : M D} [Pu m] : Pu (mFz m) := Pu.bind fun d sv => rfl
instance pu_S1 {f : Str → D → Option D} {ma mb : M D} [Pu ma] [Pu mb] : Pu (mS1 f ma mb) := Pu.bind fun d sv => by
  cases d <;> try trivial
  rename_i z
  exact (Pu.bind (m := mb) (k := fun d2 s2 => match f z d2 with | some r => .ok r s2 | none => .bad) fun b sv => by cases f z b; trivial; rfl).h sv
instance pu_idx {ma mb : M D} [Pu ma] [Pu mb] : Pu (mIdx ma mb) := Pu.bind fun d sv => by
  cases d <;> try trivial
  rename_i xs
  exact (Pu.bind (m := mb) (k := fun d2 s2 => match dIndex (.lst xs) d2 with | some r => .ok r s2 | none => .bad) fun b sv => by cases dIndex (.lst xs) b; trivial; rfl).h sv
/-! ### xs[e] where e asks another list of one's own -/
section
variable {X : Cx} {W : WX'} {k : Expr} {pos p1 : Pos} {mk : M D}
def mIxO (i : Nat) (mk : M D) : M D := fun sv => match ownL sv i with
  | none => .bad
  | some _ => (mk sv).bind fun kd s => match ownL s i, kd with
    | some (_, xs), .int z => (match (ixN xs.length z).bind fun j => xs[j]? with
      | some d => .ok d s
      | none => .bad)
    | _, _ => .bad
theorem se_ixO {i : Nat} {x : Str} (h : ∀ tk, PE X k tk → PE X (.Subscript (.Name x p1) k pos) (tOp (rIxL X.K) (tVar i) tk)) (hk : SE X W k mk) : SE X W (.Subscript (.Name x p1) k pos) (mIxO i mk) := pe_imp (h _ hk) fun σ H Q q => by
  obtain ⟨g, F, sv, hK, rl, q⟩ := q
  unfold mIxO at q
  split at q
  · exact False.elim q
  · rename_i z h0
    obtain ⟨s0, xs0⟩ := z
    obtain ⟨p, vs, e1, nF, e2, e3⟩ := rl.lst h0
    refine ⟨.ref p, e1, g, F, sv, hK, rl, PostG.bind q fun d s v F1 H1 f1 rl1 rp1 h1 => ?_⟩
    split at h1
    · rename_i s1 xs1 z h2
      split at h1
      · rename_i d hd
        obtain ⟨p', vs', e1', nF', e2', e3'⟩ := rl1.lst h2
        rw [e1] at e1'; cases e1'
        cases rp1
        obtain ⟨j, hj, hd⟩ := Option.bind_eq_some_iff.mp hd
        obtain ⟨u, hu, ru⟩ := e3'.get _ _ hd
        refine ⟨p, vs', z, u, rfl, rfl, .inl (.inl e2'), ?_, h1 _ F1 H1 (Same.refl F1) rl1 ru⟩
        show (ixN vs'.length z).bind _ = _
        rw [← e3'.length, hj]
        exact hu
      · exact False.elim h1
    · exact False.elim h1
end

/-! ### a def that calls itself, so many times at most -/
theorem fn_rec {P : Program} {w : World} {K : PySem.W.Frag} {mg : Str → Option Value} {base : Heap} {f : Addr} {fd : FuncData} {ps : List Str} {m b : Nat} {io : Option Nat} {ro : Bool} {fn : Nat → Fn} (hm : m = ps.length) (h0 : ∀ ds, fn 0 ds = .bad)
    (hs : ∀ n, FnG P w K mg base (b + n) f fd ps (spV K mg m io ro (fn n)) → FnG P w K mg base (b + n + 1) f fd ps (spV K mg m io ro (fn (n + 1)))) : ∀ n, FnG P w K mg base (b + n) f fd ps (spV K mg m io ro (fn n))
  | 0 => ⟨fun vs H Q E h => h.1.trans hm, fun A outer s H args us vs Q E hg hr e0 hbd r hsp => by
    obtain ⟨_, q⟩ := hsp
    cases io with
    | none =>
      obtain ⟨F, ds, _, _, q⟩ := q
      rw [h0] at q
      exact False.elim q
    | some k =>
      obtain ⟨F, ds1, d, ds2, vs1, p, vs2, _, _, _, _, _, _, q⟩ := q
      rw [h0] at q
      exact False.elim q⟩
  | n + 1 => hs n (fn_rec hm h0 hs n)
end VM

set_option Elab.async false
set_option linter.all false
set_option autoImplicit false
set_option maxRecDepth 100000
set_option maxHeartbeats 400000
namespace VM
open PySem PySem.Spec PyProof.Rows L2

/-! ### evaluation in steps -/
/-- a sign that what `x` names stays as it stands while the rest is worked out -/
structure Ph {α : Type} (x : α) : Type where
  mk ::
def kO (o : O) (k : MS) (_ : Ph k := ⟨⟩) : O := match o with
  | .nx s => k s
  | o => o
def bO {α : Type} (r : R α) (k : α → SV → O) (_ : Ph k := ⟨⟩) : O := match r with
  | .ok a s => k a s
  | .err x s => .err x s
  | .bad => .bad
def cO (c : Bool) (a b : MS) (s : SV) (_ : Ph (a, b, s) := ⟨⟩) : O := if c = true then a s else b s
def oR (o : Option D) (s : SV) : R D := match o with
  | some d => .ok d s
  | none => .bad
def aR (c : Bool) (r : R Bool) (s : SV) : R Bool := if c = true then r else .ok false s
def rR (c : Bool) (r : R Bool) (s : SV) : R Bool := if c = true then .ok true s else r
def aV (c : Bool) (r : R D) (s : SV) : R D := if c = true then r else .ok (.bl false) s
def rV (c : Bool) (r : R D) (s : SV) : R D := if c = true then .ok (.bl true) s else r
def iR (c : Bool) (r r' : R D) : R D := if c = true then r else r'
def wR {α : Type} (ok : α → Bool) (r : R α) (s : SV) : R α := match r with
  | .ok a _ => if ok a = true then .ok a s else .bad
  | _ => .bad
def R.bd {α β : Type} (r : R α) (f : α → SV → R β) (_ : Ph f := ⟨⟩) : R β := r.bind f
def fR (n : Nat) (fn : Fn) (ds : List D) (s : SV) (_ : Ph s := ⟨⟩) : R D := if ds.length = n then frR (fn ds) s else .bad
def gIf (p : Prop) [Decidable p] (o : O) : O := if p then o else .bad
def gR {α : Type} (p : Prop) [Decidable p] (o : R α) : R α := if p then o else .bad
section
variable (sv s : SV) (i j n : Nat) (d e : D) (m ma mb : M D) (t u : M Bool) (ms mk : M (List D)) (a b k k2 : MS) (o : O)
theorem q_seq : mSeq a b s = kO (a s) b := (rfl)
theorem q_skip : mSkip s = .nx s := (rfl)
theorem q_knx : kO (.nx s) k = k s := (rfl)
theorem q_krt : kO (.rt d s) k = .rt d s := (rfl)
theorem q_kro : kO (.ro d s) k = .ro d s := (rfl)
theorem q_kbk : kO (.bk s) k = .bk s := (rfl)
theorem q_kct : kO (.ct s) k = .ct s := (rfl)
theorem q_ker (x : Exn) : kO (.err x s) k = .err x s := (rfl)
theorem q_kk : kO (kO o k) k2 = kO o (mSeq k k2) := by cases o <;> rfl
theorem q_bind {α : Type} (m : M α) (f : α → SV → O) : mBind m f s = bO (m s) f := by
  unfold mBind bO
  cases m s <;> rfl
theorem q_bok {α : Type} (x : α) (f : α → SV → O) : bO (.ok x s) f = f x s := (rfl)
theorem q_ber {α : Type} (x : Exn) (f : α → SV → O) : bO (.err x s) f = .err x s := (rfl)
theorem q_drop : mDrop m s = bO (m s) (fun _ s => .nx s) := q_bind s m _
theorem q_ret : mRet m s = bO (m s) (fun d s => .rt d s) := q_bind s m _
theorem q_reto : mRetO m s = bO (m s) (fun d s => .ro d s) := q_bind s m _
theorem q_ifs : mIfS t a b s = bO (t s) (fun c s => cO c a b s) := q_bind s t _
theorem q_ct : cO true a b s = a s := (rfl)
theorem q_cf : cO false a b s = b s := (rfl)
theorem q_asg : mAsg i m s = bO (m s) (fun d s => .nx (s.set i (.pl d))) := q_bind s m _
theorem q_asgo : mAsgO i m s = bO (m s) (fun d s => .nx (s.set i (.ow d))) := q_bind s m _
theorem q_asgt (g : MT) : mAsgT g m s = bO (m s) (fun d s => match g d s with
  | some s' => .nx s'
  | none => .bad) := q_bind s m _
theorem q_rok {α β : Type} (x : α) (f : α → SV → R β) : (R.ok x s).bd f = f x s := (rfl)
theorem q_rer {α β : Type} (x : Exn) (f : α → SV → R β) : (R.err x s : R α).bd f = .err x s := (rfl)
theorem q_c : mC d s = .ok d s := (rfl)
theorem q_rd : mRd i s = match s[i]? with
  | some (.pl d) => .ok d s
  | _ => .bad := (rfl)
theorem q_mv : mMv i s = match s[i]? with
  | some (.pl d) => .ok d s
  | some (.ow d) => .ok (fz d) (s.set i (.pl (fz d)))
  | _ => .bad := (rfl)
theorem q_tk : mTk i s = match s[i]? with
  | some (.ow d) => .ok d (s.set i .un)
  | _ => .bad := (rfl)
theorem q_fz : mFz m s = (m s).bd fun d s => .ok (fz d) s := (rfl)
theorem q_2 (f : D → D → Option D) : m2 f ma mb s = (ma s).bd fun a s1 => (mb s1).bd fun b s2 => oR (f a b) s2 := (rfl)
theorem q_1 (f : D → Option D) : m1 f m s = (m s).bd fun a s1 => oR (f a) s1 := (rfl)
theorem q_os : oR (some d) s = .ok d s := (rfl)
theorem q_b : mB m s = (m s).bd fun d s => match d with
  | .bl b => .ok b s
  | _ => .bad := (rfl)
theorem q_not : mNot t s = (t s).bd fun b s => .ok (!b) s := (rfl)
theorem q_and : mAnd t u s = (t s).bd fun b s => aR b (u s) s := (rfl)
theorem q_or : mOr t u s = (t s).bd fun b s => rR b (u s) s := (rfl)
theorem q_at (r : R Bool) : aR true r s = r := (rfl)
theorem q_af (r : R Bool) : aR false r s = .ok false s := (rfl)
theorem q_ao (c c' : Bool) : aR c (.ok c' s) s = .ok (c && c') s := by cases c <;> rfl
theorem q_rt (r : R Bool) : rR true r s = .ok true s := (rfl)
theorem q_rf (r : R Bool) : rR false r s = r := (rfl)
theorem q_ro (c c' : Bool) : rR c (.ok c' s) s = .ok (c || c') s := by cases c <;> rfl
theorem q_andv : mAndV ma mb s = (ma s).bd fun d s => match d with
  | .bl c => aV c (mb s) s
  | _ => .bad := (rfl)
theorem q_orv : mOrV ma mb s = (ma s).bd fun d s => match d with
  | .bl c => rV c (mb s) s
  | _ => .bad := (rfl)
theorem q_avt (r : R D) : aV true r s = r := (rfl)
theorem q_avf (r : R D) : aV false r s = .ok (.bl false) s := (rfl)
theorem q_avo (c c' : Bool) : aV c (.ok (.bl c') s) s = .ok (.bl (c && c')) s := by cases c <;> rfl
theorem q_rvt (r : R D) : rV true r s = .ok (.bl true) s := (rfl)
theorem q_rvf (r : R D) : rV false r s = r := (rfl)
theorem q_rvo (c c' : Bool) : rV c (.ok (.bl c') s) s = .ok (.bl (c || c')) s := by cases c <;> rfl
theorem q_ife : mIf t ma mb s = (t s).bd fun b s => iR b (ma s) (mb s) := (rfl)
theorem q_it (r r' : R D) : iR true r r' = r := (rfl)
theorem q_if (r r' : R D) : iR false r r' = r' := (rfl)
theorem q_io (c : Bool) : iR c (.ok d s) (.ok e s) = .ok (if c = true then d else e) s := by cases c <;> rfl
theorem q_on : moN s = .ok none s := (rfl)
theorem q_oS : moS m s = (m s).bd fun d s => match d with
  | .int i => .ok (some i) s
  | _ => .bad := by
  unfold moS
  rfl
theorem q_sl (ml mh : MO) : mSl m ml mh s = (m s).bd fun d s1 => (ml s1).bd fun lo s2 => (mh s2).bd fun hi s3 => oR (dSl d lo hi) s3 := (rfl)
theorem q_nil : mNil s = .ok [] s := (rfl)
theorem q_cons : mCons m ms s = (m s).bd fun d s1 => (ms s1).bd fun ds s2 => .ok (d :: ds) s2 := (rfl)
theorem q_tup : mTup ms s = (ms s).bd fun ds s => gR (ds.length ≤ sizeLine) (.ok (.tup ds) s) := (rfl)
theorem q_lst : mLst ms s = (ms s).bd fun ds s => gR (ds.length ≤ sizeLine) (.ok (.lst ds) s) := (rfl)
theorem q_call1 (f : List D → Option D) : mCall1 f ms s = (ms s).bd fun ds s => oR (f ds) s := (rfl)
theorem q_call (fn : Fn) : mCall n fn [] ms s = (ms s).bd fun ds s => fR n fn ds s := by
  unfold mCall fR
  simp only [List.append_nil]
  rfl
theorem q_f0 (fn : Fn) : fR 0 fn [] s = frR (fn []) s := (rfl)
theorem q_f1 (fn : Fn) (x1 : D) : fR 1 fn [x1] s = frR (fn [x1]) s := (rfl)
theorem q_f2 (fn : Fn) (x1 x2 : D) : fR 2 fn [x1, x2] s = frR (fn [x1, x2]) s := (rfl)
theorem q_f3 (fn : Fn) (x1 x2 x3 : D) : fR 3 fn [x1, x2, x3] s = frR (fn [x1, x2, x3]) s := (rfl)
theorem q_f4 (fn : Fn) (x1 x2 x3 x4 : D) : fR 4 fn [x1, x2, x3, x4] s = frR (fn [x1, x2, x3, x4]) s := (rfl)
theorem q_f5 (fn : Fn) (x1 x2 x3 x4 x5 : D) : fR 5 fn [x1, x2, x3, x4, x5] s = frR (fn [x1, x2, x3, x4, x5]) s := (rfl)
theorem q_f6 (fn : Fn) (x1 x2 x3 x4 x5 x6 : D) : fR 6 fn [x1, x2, x3, x4, x5, x6] s = frR (fn [x1, x2, x3, x4, x5, x6]) s := (rfl)
theorem q_f7 (fn : Fn) (x1 x2 x3 x4 x5 x6 x7 : D) : fR 7 fn [x1, x2, x3, x4, x5, x6, x7] s = frR (fn [x1, x2, x3, x4, x5, x6, x7]) s := (rfl)
theorem q_callk (fn : Fn) (g : List D → List D → List D) : mCallK n fn g ms mk s = (ms s).bd fun as s1 => (mk s1).bd fun bs s2 => fR n fn (g as bs) s2 := (rfl)
theorem q_frok : frR (.ok d none) s = .ok d s := (rfl)
theorem q_frer (x : Exn) : frR (.err x none) s = .err x s := (rfl)
theorem q_calli (fn : Fn) (mi : M (List D × Nat × List D)) (kk : Nat) : mCallI n fn kk [] mi s = (mi s).bd fun a s => match s[a.2.1]? with
  | some sl => (match slD sl with
    | some d => gR (a.1.length = kk ∧ (a.1 ++ d :: a.2.2).length = n) (frI (fn (a.1 ++ d :: a.2.2)) a.2.1 s)
    | none => .bad)
  | none => .bad := by
  unfold mCallI gR
  simp only [List.append_nil]
  rfl
theorem q_mihere : miHere i ms s = match s[i]? with
  | some (.ow _) => (ms s).bd fun ds s => .ok ([], i, ds) s
  | some (.io _ _) => (ms s).bd fun ds s => .ok ([], i, ds) s
  | _ => .bad := (rfl)
theorem q_micons (mi : M (List D × Nat × List D)) : miCons m mi s = (m s).bd fun d s1 => (mi s1).bd fun a s2 => .ok (d :: a.1, a.2.1, a.2.2) s2 := (rfl)
theorem q_fri (x : D) : frI (.ok d (some x)) i s = match s[i]? with
  | some sl => (match reSl sl x with
    | some sl' => .ok d (s.set i sl')
    | none => .bad)
  | none => .bad := (rfl)
theorem q_sdo : slD (.ow d) = some d := (rfl)
theorem q_sdi : slD (.io i d) = some d := (rfl)
theorem q_rso : reSl (.ow d) e = some (.ow e) := (rfl)
theorem q_rsi : reSl (.io i d) e = some (.io i e) := (rfl)
theorem q_app : mApp i m s = match ownL s i with
  | none => .bad
  | some _ => bO (m s) (fun d s => match ownL s i with
    | some (_, xs) => gIf (xs.length < sizeLine) (putL s i (xs ++ [d]))
    | none => .bad) := by
  unfold mApp gIf
  simp only [q_bind]
  all_goals rfl
theorem q_ext : mExt i m s = match ownL s i with
  | none => .bad
  | some _ => bO (m s) (fun d s => match ownL s i, d with
    | some (_, xs), .lst ys => gIf (xs.length + ys.length ≤ sizeLine) (putL s i (xs ++ ys))
    | _, _ => .bad) := by
  unfold mExt gIf
  simp only [q_bind]
  all_goals rfl
theorem q_ext2 : mExt2 i m s = match ownL s i with
  | none => .bad
  | some _ => bO (m s) (fun d s => match ownL s i, d with
    | some (_, xs), .lst ys => gIf (xs.length + ys.length ≤ sizeLine) (putL s i (xs ++ ys))
    | some (_, xs), .tup ys => gIf (xs.length + ys.length ≤ sizeLine) (putL s i (xs ++ ys))
    | _, _ => .bad) := by
  unfold mExt2 gIf
  simp only [q_bind]
  all_goals rfl
theorem q_put : mPut i m ma s = bO (m s) (fun d s1 => match ownL s1 i with
  | none => .bad
  | some _ => bO (ma s1) (fun k s2 => match k, ownL s2 i with
    | .int z, some (_, xs) => (match ixN xs.length z with
      | some j => putL s2 i (xs.set j d)
      | none => .bad)
    | _, _ => .bad)) := by
  unfold mPut
  rw [q_bind]
  refine congrArg (bO (m s)) (funext fun d => funext fun s1 => ?_)
  cases ownL s1 i with
  | none => rfl
  | some z => dsimp only; rw [q_bind]; all_goals rfl
theorem q_pop : mPop i s = match ownL s i with
  | some (_, xs) => (match xs[xs.length - 1]? with
    | some d => (match putL s i xs.dropLast with
      | .nx s' => .ok d s'
      | _ => .bad)
    | none => .bad)
  | none => .bad := (rfl)
theorem q_with {α : Type} (ok : α → Bool) (m : M α) : mWith ok i m s = match s[i]? with
  | some (.ow d) => wR ok (m (lend i (fz d) s)) s
  | some (.io _ d) => wR ok (m (lend i (fz d) s)) s
  | some _ => m s
  | none => .bad := by
  unfold mWith
  cases h : s[i]? with
  | none => rfl
  | some s => cases s <;> rfl
theorem q_wok {α : Type} (ok : α → Bool) (x : α) (s' : SV) : wR ok (.ok x s') s = gR (ok x = true) (.ok x s) := (rfl)
theorem q_for (mi : M (List D)) (g : MT) : mFor mi g b s = bO (mi s) (fun ds s => forL g b ds s) := q_bind s mi _
theorem q_enum : mEnum ms s = (ms s).bd fun ds s => match ds with
  | [.tup xs] => .ok (enumD 0 xs) s
  | [.lst xs] => .ok (enumD 0 xs) s
  | [.fl xs] => .ok (enumD 0 xs) s
  | _ => .bad := (rfl)
theorem q_items : mItems m s = (m s).bd fun d s => match itemsD d with
  | some ds => .ok ds s
  | none => .bad := by
  unfold mItems
  rfl
theorem q_raise (c : Str) (fs : List Str) : mRaise c fs ms s = bO (ms s) (fun ds s => gIf (ds.length = fs.length) (.err ⟨c, (fs.zip ds).reverse⟩ s)) := q_bind s ms _
end
theorem q_g {p : Prop} [Decidable p] {o : O} (h : p) : gIf p o = o := if_pos h
theorem q_gt {o : O} : gIf True o = o := if_pos trivial
theorem q_grt {α : Type} {o : R α} : gR True o = o := if_pos trivial
theorem q_lt {n : Nat} (h : n < 16777216) : (n < sizeLine) = True := eq_true (by rw [sizeLine_eq]; exact h)
theorem q_le {n : Nat} (h : n ≤ 16777216) : (n ≤ sizeLine) = True := eq_true (by rw [sizeLine_eq]; exact h)
theorem rng_a {z : Int} (h0 : 0 ≤ z) (h1 : z ≤ 1000000000) : -(2 ^ 62) ≤ z ∧ z < 2 ^ 62 := by constructor <;> omega
structure RgB (z : Int) : Prop where
  h0 : -1000000000 ≤ z
  h1 : z ≤ 1000000000
def rg1 (j : Int) (s : SV) : R (List D) := if -(2 ^ 62) ≤ j ∧ j < 2 ^ 62 then .ok (rngs 0 j.toNat) s else .bad
def rg2 (i j : Int) (s : SV) : R (List D) := if -(2 ^ 62) ≤ i ∧ i < 2 ^ 62 ∧ -(2 ^ 62) ≤ j ∧ j < 2 ^ 62 then .ok (rngs i (j - i).toNat) s else .bad
theorem q_rng1 (ms : M (List D)) (s : SV) : mRng1 ms s = (ms s).bd fun ds s => match ds with
  | [.int j] => rg1 j s
  | _ => .bad := (rfl)
theorem q_rng2 (ms : M (List D)) (s : SV) : mRng2 ms s = (ms s).bd fun ds s => match ds with
  | [.int i, .int j] => rg2 i j s
  | _ => .bad := (rfl)
def lrg (d : D) (s : SV) : R D := match d with
  | .int n => if 0 ≤ n ∧ n ≤ 16777216 then .ok (.lst (rngs 0 n.toNat)) s else .bad
  | _ => .bad
theorem q_lrg (m : M D) (s : SV) : mListRg m s = (m s).bd lrg := rfl
theorem q_lrgi {n : Nat} {s : SV} (h : n ≤ 16777216) : lrg (.int (n : Int)) s = .ok (.lst (rngs 0 n)) s := by
  unfold lrg
  dsimp only
  rw [if_pos (by omega), Int.toNat_natCast]
theorem q_rg1 {j : Int} {s : SV} (h0 : -1000000000 ≤ j) (h1 : j ≤ 1000000000) : rg1 j s = .ok (rngs 0 j.toNat) s := if_pos (by constructor <;> omega)
theorem q_rg2 {i j : Int} {s : SV} (h0 : -1000000000 ≤ i) (h1 : i ≤ 1000000000) (h2 : -1000000000 ≤ j) (h3 : j ≤ 1000000000) : rg2 i j s = .ok (rngs i (j - i).toNat) s := if_pos (by refine ⟨?_, ?_, ?_, ?_⟩ <;> omega)

/-! ### operations -/
section
variable (xs ys : List D) (i j : Int) (a b : Str) (c e : Bool)
theorem q_add : dAdd (.int i) (.int j) = some (.int (i + j)) := (rfl)
theorem q_adds (h : a.length + b.length ≤ 16777216) : dAdd (.str a) (.str b) = some (.str (a ++ b)) := if_pos (by rw [sizeLine_eq]; exact h)
theorem q_addl (h : xs.length + ys.length ≤ 16777216) : dAdd (.lst xs) (.lst ys) = some (.lst (xs ++ ys)) := if_pos (by rw [sizeLine_eq]; exact h)
theorem q_addt (h : xs.length + ys.length ≤ 16777216) : dAdd (.tup xs) (.tup ys) = some (.tup (xs ++ ys)) := if_pos (by rw [sizeLine_eq]; exact h)
theorem q_cat (h : xs.length + ys.length ≤ 16777216) : dCat (.lst xs) (.lst ys) = some (.lst (xs ++ ys)) := if_pos (by rw [sizeLine_eq]; exact h)
theorem q_sub : dI2 cSub (.int i) (.int j) = some (.int (i - j)) := (rfl)
theorem q_mulr (h : -18446744073709551616 < j) (h' : j < 18446744073709551616) : dI2 cMul (.int i) (.int j) = some (.int (i * j)) := if_pos (.inr ⟨h, h'⟩)
theorem q_mull (h : -18446744073709551616 < i) (h' : i < 18446744073709551616) : dI2 cMul (.int i) (.int j) = some (.int (i * j)) := if_pos (.inl ⟨h, h'⟩)
theorem q_div (h : 0 < j) (h' : j < 1073741824) : dI2 cDiv (.int i) (.int j) = some (.int (i / j)) := if_pos ⟨h, h'⟩
theorem q_mod (h : 0 < j) : dI2 cMod (.int i) (.int j) = some (.int (i % j)) := if_pos h
theorem q_p18 : dI2 cPow (.int 10) (.int 18) = some (.int 1000000000000000000) := (rfl)
theorem q_p12 : dI2 cPow (.int 10) (.int 12) = some (.int 1000000000000) := (rfl)
theorem q_cmplt : dCmp ciLt csLt (.int i) (.int j) = some (.bl (decide (i < j))) := (rfl)
theorem q_cmple : dCI ciLe (.int i) (.int j) = some (.bl (decide (i ≤ j))) := (rfl)
theorem q_cmpgt : dCI ciGt (.int i) (.int j) = some (.bl (decide (j < i))) := (rfl)
theorem q_cmpge : dCI ciGe (.int i) (.int j) = some (.bl (decide (j ≤ i))) := (rfl)
theorem q_eqi : dEq (.int i) (.int j) = some (.bl (decide (i = j))) := (rfl)
theorem q_eqs : dEq (.str a) (.str b) = some (.bl (decide (a = b))) := (rfl)
theorem q_eqb : dEq (.bl c) (.bl e) = some (.bl (decide (c = e))) := (rfl)
theorem q_nei : dNe (.int i) (.int j) = some (.bl (!decide (i = j))) := (rfl)
theorem q_nes : dNe (.str a) (.str b) = some (.bl (!decide (a = b))) := (rfl)
theorem q_isn (d : D) : dIs d .non = some (.bl (isNon d)) := by cases d <;> rfl
theorem q_isnn (d : D) : dIsNot d .non = some (.bl (!isNon d)) := by cases d <;> rfl
theorem q_isb : dIs (.bl c) (.bl e) = some (.bl (decide (c = e))) := (rfl)
theorem q_isnb : dIsNot (.bl c) (.bl e) = some (.bl (!decide (c = e))) := (rfl)
theorem q_neg : dNeg (.int i) = some (.int (-i)) := (rfl)
theorem q_dnot : dNot (.bl c) = some (.bl (!c)) := (rfl)
theorem q_lenl : dLen [.lst xs] = some (.int xs.length) := (rfl)
theorem q_lent : dLen [.tup xs] = some (.int xs.length) := (rfl)
theorem q_lenf : dLen [.fl xs] = some (.int xs.length) := (rfl)
theorem q_lens (h : a.length ≤ 16777216) : dLen [.str a] = some (.int a.length) := if_pos (by rw [sizeLine_eq]; exact h)
theorem q_int : dInt [.int i] = some (.int i) := (rfl)
theorem q_intb : dInt [.bl c] = some (.int (if c = true then 1 else 0)) := (rfl)
theorem q_tupl : dTuple [.lst xs] = some (.tup xs) := (rfl)
theorem q_tupt : dTuple [.tup xs] = some (.tup xs) := (rfl)
theorem q_lstl : dList [.lst xs] = some (.lst xs) := (rfl)
theorem q_lstt : dList [.tup xs] = some (.lst xs) := (rfl)
theorem q_min : dMin2 [.int i, .int j] = some (.int (min i j)) := by
  show some (D.int (if j < i then j else i)) = _
  congr 2
  split <;> omega
theorem q_max : dMax2 [.int i, .int j] = some (.int (max i j)) := by
  show some (D.int (if j > i then j else i)) = _
  congr 2
  split <;> omega
theorem q_ixn {n : Nat} (h : 0 ≤ i) (h' : i < n) : ixN n i = some i.toNat := by
  unfold ixN
  rw [if_pos h, if_pos h']
theorem q_ixm {n : Nat} (h : i < 0) (h' : -(n : Int) ≤ i) : ixN n i = some (i + n).toNat := by
  unfold ixN
  rw [if_neg (by omega), if_pos h']
theorem atI_pos {α : Type} (zs : List α) {i : Int} (h : 0 ≤ i) : atI zs i = zs[i.toNat]? := by
  unfold atI ixN
  rw [if_pos h]
  by_cases hl : i < zs.length
  · rw [if_pos hl]; rfl
  · rw [if_neg hl, List.getElem?_eq_none (by omega)]; rfl
theorem q_ixl (h : 0 ≤ i) : dIx (.lst xs) (.int i) = xs[i.toNat]? := atI_pos xs h
theorem q_ixt (h : 0 ≤ i) : dIx (.tup xs) (.int i) = xs[i.toNat]? := atI_pos xs h
theorem q_ixf (h : 0 ≤ i) : dIx (.fl xs) (.int i) = xs[i.toNat]? := atI_pos xs h
theorem q_rep (h : 0 ≤ i) (h' : i ≤ 16777216) (d : D) : dRep (.lst [d]) (.int i) = some (.lst (List.replicate i.toNat d)) := by
  unfold dRep
  dsimp only
  rw [if_pos (by refine ⟨by omega, by omega, ?_⟩; rw [sizeLine_eq]; simp; omega)]
  congr 2
  simp
theorem q_isi_tt : isi "tuple" (.tup xs) = some (.bl true) := by
  show (kitB "tuple" "tuple").map D.bl = _
  rw [show kitB "tuple" "tuple" = some true by decide +kernel]
  rfl
theorem q_isi_ts : isi "tuple" (.str a) = some (.bl false) := by
  show (kitB "str" "tuple").map D.bl = _
  rw [show kitB "str" "tuple" = some false by decide +kernel]
  rfl
theorem q_isi_ti : isi "tuple" (.int i) = some (.bl false) := by
  show (kitB "int" "tuple").map D.bl = _
  rw [show kitB "int" "tuple" = some false by decide +kernel]
  rfl
theorem q_isi_ss : isi "str" (.str a) = some (.bl true) := by
  show (kitB "str" "str").map D.bl = _
  rw [show kitB "str" "str" = some true by decide +kernel]
  rfl
theorem q_isi_st : isi "str" (.tup xs) = some (.bl false) := by
  show (kitB "tuple" "str").map D.bl = _
  rw [show kitB "tuple" "str" = some false by decide +kernel]
  rfl
theorem q_isi_ii : isi "int" (.int i) = some (.bl true) := by
  show (kitB "int" "int").map D.bl = _
  rw [show kitB "int" "int" = some true by decide +kernel]
  rfl
theorem q_isi_it : isi "int" (.tup xs) = some (.bl false) := by
  show (kitB "tuple" "int").map D.bl = _
  rw [show kitB "tuple" "int" = some false by decide +kernel]
  rfl
theorem q_isi_is : isi "int" (.str a) = some (.bl false) := by
  show (kitB "str" "int").map D.bl = _
  rw [show kitB "str" "int" = some false by decide +kernel]
  rfl
theorem q_isi_bi : isi "bool" (.int i) = some (.bl false) := by
  show (kitB "int" "bool").map D.bl = _
  rw [show kitB "int" "bool" = some false by decide +kernel]
  rfl
theorem q_lfi : lfree (.int i) = true := (rfl)
theorem q_lfb : lfree (.bl c) = true := (rfl)
theorem q_lfs : lfree (.str a) = true := (rfl)
theorem q_lfn : lfree .non = true := (rfl)
theorem q_itt : itemsD (.tup xs) = some xs := (rfl)
theorem q_itl : itemsD (.lst xs) = some xs := (rfl)
theorem q_itf : itemsD (.fl xs) = some xs := (rfl)
theorem q_slt (lo hi : Option Int) : dSl (.tup xs) lo hi = some (.tup (cutD xs lo hi)) := (rfl)
theorem q_sll (lo hi : Option Int) : dSl (.lst xs) lo hi = some (.lst (cutD xs lo hi)) := (rfl)
theorem q_sls (lo hi : Option Int) (h : a.length ≤ 16777216) : dSl (.str a) lo hi = some (.str (cutS a lo hi)) := if_pos (by rw [sizeLine_eq]; exact h)
end

/-! ### what a statement comes to -/
structure Wp (o : O) (Q : O → Prop) (_ : Ph Q := ⟨⟩) : Prop where
  h : Q o
/-- the def's end -/
def RtQ (ro : Bool) (P : D → Prop) (E : Exn → Prop) : O → Prop
  | .nx _ => ro = false ∧ P .non
  | .rt d _ => ro = false ∧ P d
  | .ro d _ => ro = true ∧ P d
  | .err x _ => E x
  | _ => False
/-- a turn's end -/
def LpQ (N B : SV → Prop) (Q : O → Prop) : O → Prop
  | .nx s => N s
  | .ct s => N s
  | .bk s => B s
  | o => Q o
def NxQ (N : SV → Prop) (Q : O → Prop) : O → Prop
  | .nx s => N s
  | o => Q o
section
variable {N B : SV → Prop} {Q : O → Prop} {P : D → Prop} {E : Exn → Prop} {s : SV} {d : D} {x : Exn}
theorem w_lnx : Wp (.nx s) (LpQ N B Q) = N s := propext ⟨fun h => h.h, fun h => ⟨h⟩⟩
theorem w_lct : Wp (.ct s) (LpQ N B Q) = N s := propext ⟨fun h => h.h, fun h => ⟨h⟩⟩
theorem w_lbk : Wp (.bk s) (LpQ N B Q) = B s := propext ⟨fun h => h.h, fun h => ⟨h⟩⟩
theorem w_lrt : Wp (.rt d s) (LpQ N B Q) = Wp (.rt d s) Q := propext ⟨fun h => ⟨h.h⟩, fun h => ⟨h.h⟩⟩
theorem w_lro : Wp (.ro d s) (LpQ N B Q) = Wp (.ro d s) Q := propext ⟨fun h => ⟨h.h⟩, fun h => ⟨h.h⟩⟩
theorem w_ler : Wp (.err x s) (LpQ N B Q) = Wp (.err x s) Q := propext ⟨fun h => ⟨h.h⟩, fun h => ⟨h.h⟩⟩
theorem w_nnx : Wp (.nx s) (NxQ N Q) = N s := propext ⟨fun h => h.h, fun h => ⟨h⟩⟩
theorem w_nrt : Wp (.rt d s) (NxQ N Q) = Wp (.rt d s) Q := propext ⟨fun h => ⟨h.h⟩, fun h => ⟨h.h⟩⟩
theorem w_nro : Wp (.ro d s) (NxQ N Q) = Wp (.ro d s) Q := propext ⟨fun h => ⟨h.h⟩, fun h => ⟨h.h⟩⟩
theorem w_ner : Wp (.err x s) (NxQ N Q) = Wp (.err x s) Q := propext ⟨fun h => ⟨h.h⟩, fun h => ⟨h.h⟩⟩
theorem w_rnx : Wp (.nx s) (RtQ false P E) = P .non := propext ⟨fun h => h.h.2, fun h => ⟨rfl, h⟩⟩
theorem w_rrt : Wp (.rt d s) (RtQ false P E) = P d := propext ⟨fun h => h.h.2, fun h => ⟨rfl, h⟩⟩
theorem w_rro : Wp (.ro d s) (RtQ true P E) = P d := propext ⟨fun h => h.h.2, fun h => ⟨rfl, h⟩⟩
theorem w_rer {ro : Bool} : Wp (.err x s) (RtQ ro P E) = E x := propext ⟨fun h => h.h, fun h => ⟨h⟩⟩
end
/-- a def computes -/
structure Cmp (r : FR) (P : D → Prop) (E : Exn → Prop) : Prop where
  h : (∃ d, r = .ok d none ∧ P d) ∨ ∃ x, r = .err x none ∧ E x
theorem cmp_of {n : Nat} {ro : Bool} {body : MS} {ds : List D} {P : D → Prop} {E : Exn → Prop} (h : Wp (body (initA none 0 ds ++ List.replicate (n - ds.length) .un)) (RtQ ro P E)) : Cmp (fnOf n none ro body ds) P E := by
  obtain ⟨h⟩ := h
  unfold fnOf
  cases hb : body (initA none 0 ds ++ List.replicate (n - ds.length) .un) with
  | nx s => rw [hb] at h; obtain ⟨rfl, h⟩ := h; exact ⟨.inl ⟨_, rfl, h⟩⟩
  | rt d s => rw [hb] at h; obtain ⟨rfl, h⟩ := h; exact ⟨.inl ⟨_, rfl, h⟩⟩
  | ro d s => rw [hb] at h; obtain ⟨rfl, h⟩ := h; exact ⟨.inl ⟨_, rfl, h⟩⟩
  | err x s => rw [hb] at h; exact ⟨.inr ⟨_, rfl, h⟩⟩
  | bk s => rw [hb] at h; exact h.elim
  | ct s => rw [hb] at h; exact h.elim
  | bad => rw [hb] at h; exact h.elim
theorem Cmp.ok {r : FR} {P : D → Prop} (h : Cmp r P fun _ => False) : ∃ d, r = .ok d none ∧ P d := by
  rcases h.h with h | ⟨x, _, h⟩
  · exact h
  · exact h.elim
theorem Cmp.eq {r : FR} {d : D} (h : Cmp r (fun e => e = d) fun _ => False) : r = .ok d none := by
  obtain ⟨e, h1, rfl⟩ := h.ok
  exact h1
theorem Cmp.er {r : FR} {x : Exn} (h : Cmp r (fun _ => False) fun y => y = x) : r = .err x none := by
  rcases h.h with ⟨_, _, h⟩ | ⟨y, h1, rfl⟩
  · exact h.elim
  · exact h1
section
variable {a b k : MS} {s : SV} {o : O} {Q : O → Prop} {c : Bool}
theorem w_if (h1 : c = true → Wp (a s) Q) (h2 : c = false → Wp (b s) Q) : Wp (cO c a b s) Q := by
  cases c with
  | true => exact h1 rfl
  | false => exact h2 rfl
theorem w_kif (h1 : c = true → Wp (kO (a s) k) Q) (h2 : c = false → Wp (kO (b s) k) Q) : Wp (kO (cO c a b s) k) Q := by
  cases c with
  | true => exact h1 rfl
  | false => exact h2 rfl
/-- what lies ahead, then the rest -/
theorem w_k (P : SV → Prop) (h : Wp o (NxQ P Q)) (hk : ∀ s, P s → Wp (k s) Q) : Wp (kO o k) Q := by
  obtain ⟨h⟩ := h
  cases o with
  | nx s => exact hk s h
  | rt d s => exact ⟨h⟩
  | ro d s => exact ⟨h⟩
  | bk s => exact ⟨h⟩
  | ct s => exact ⟨h⟩
  | err x s => exact ⟨h⟩
  | bad => exact ⟨h⟩
def Tn (t : MT) (b : MS) (d : D) (s : SV) (Q : O → Prop) : Prop := match t d s with
  | some s1 => Wp (b s1) Q
  | none => False
theorem w_tn {i : Nat} {d : D} : Tn (mtN i) b d s Q = Wp (b (s.set i (.pl d))) Q := rfl
theorem w_tt {i j : Nat} {x y : D} : Tn (mtTup 2 (mtCons (mtN i) (mtCons (mtN j) mtNil))) b (.tup [x, y]) s Q = Wp (b ((s.set i (.pl x)).set j (.pl y))) Q := rfl
theorem w_tt3 {i j l : Nat} {x y z : D} : Tn (mtTup 3 (mtCons (mtN i) (mtCons (mtN j) (mtCons (mtN l) mtNil)))) b (.tup [x, y, z]) s Q = Wp (b (((s.set i (.pl x)).set j (.pl y)).set l (.pl z))) Q := rfl
theorem forL_w {t : MT} {Y : Type} {S : Y → SV} {I : Nat → Y → Prop} {n : Nat} : ∀ (ds : List D) (i : Nat) (y : Y), I i y → n = i + ds.length → (∀ j d y, ds[j]? = some d → I (i + j) y → Tn t b d (S y) (LpQ (fun s' => ∃ y', s' = S y' ∧ I (i + j + 1) y') (fun s' => Wp (k s') Q) Q)) →
    (∀ y, I n y → Wp (k (S y)) Q) → Wp (kO (forL t b ds (S y)) k) Q
  | [], i, y, h0, hn, _, hq => hq y (by rw [hn]; exact h0)
  | d :: ds, i, y, h0, hn, hs, hq => by
    have h := hs 0 d y rfl h0
    unfold Tn at h
    unfold forL
    cases ht : t d (S y) with
    | none => rw [ht] at h; exact h.elim
    | some s1 =>
      rw [ht] at h
      dsimp only at h ⊢
      obtain ⟨h⟩ := h
      have go : ∀ y', I (i + 1) y' → Wp (kO (forL t b ds (S y')) k) Q := fun y' h' => forL_w ds (i + 1) y' h' (by simp at hn; omega) (fun j d' y2 hd h2 => by
        have e : i + 1 + j = i + (j + 1) := by omega
        rw [e] at h2 ⊢
        exact hs (j + 1) d' y2 hd h2) hq
      cases hb : b s1 with
      | nx s2 => rw [hb] at h; obtain ⟨y', rfl, h⟩ := h; exact go y' h
      | ct s2 => rw [hb] at h; obtain ⟨y', rfl, h⟩ := h; exact go y' h
      | bk s2 => rw [hb] at h; exact h
      | rt d s2 => rw [hb] at h; exact ⟨h⟩
      | ro d s2 => rw [hb] at h; exact ⟨h⟩
      | err x s2 => rw [hb] at h; exact ⟨h⟩
      | bad => rw [hb] at h; exact ⟨h⟩
/-- a for: S tells the frame by what is carried, I what holds ahead of turn i -/
theorem w_for {t : MT} {Y : Type} {s0 : SV} (S : Y → SV) (I : Nat → Y → Prop) (y : Y) {ds : List D} (e0 : s0 = S y) (h0 : I 0 y) (hs : ∀ j d y, ds[j]? = some d → I j y → Tn t b d (S y) (LpQ (fun s' => ∃ y', s' = S y' ∧ I (j + 1) y') (fun s' => Wp (k s') Q) Q))
    (hq : ∀ y, I ds.length y → Wp (k (S y)) Q) : Wp (kO (forL t b ds s0) k) Q := e0 ▸
  forL_w (n := ds.length) ds 0 y h0 (by omega) (fun j d y hd h => by rw [Nat.zero_add] at h ⊢; exact hs j d y hd h) hq
theorem w_end (h : Wp (kO o mSkip) Q) : Wp o Q := by
  cases o <;> exact h
end
theorem rngs_at {lo : Int} {n j : Nat} {d : D} (h : (rngs lo n)[j]? = some d) : j < n ∧ d = .int (lo + j) := by
  unfold rngs at h
  rw [List.getElem?_map] at h
  obtain ⟨k, h1, h2⟩ := Option.map_eq_some_iff.mp h
  obtain ⟨h3, h4⟩ := List.getElem?_eq_some_iff.mp h1
  simp at h3 h4
  subst h4
  exact ⟨h3, h2.symm⟩
theorem rngs_length (lo : Int) (n : Nat) : (rngs lo n).length = n := by simp [rngs]

/-! ### comprehensions -/
theorem lcL_fm {α : Type} {own : List Nat} {t : MT} {mc : M Bool} {me : M D} {w : SV} {enc f : α → D} {p : α → Bool} : ∀ (xs : List α) (acc : List D), acc.length + xs.length ≤ 16777216 →
    (∀ x ∈ xs, ∃ s1, t (enc x) w = some s1 ∧ mc s1 = .ok (p x) s1 ∧ (p x = true → me s1 = .ok (f x) s1) ∧ wipeV s1 own = w) → lcL own t mc me (xs.map enc) w acc = .ok (acc ++ (xs.filter p).map f) w
  | [], acc, _, _ => by simp [lcL]
  | x :: xs, acc, hl, h => by
    obtain ⟨s1, h1, h2, h3, h4⟩ := h x List.mem_cons_self
    rw [List.map_cons]
    unfold lcL
    rw [h1]
    dsimp only
    rw [h2]
    have hl' : acc.length + (xs.length + 1) ≤ 16777216 := hl
    cases hp : p x with
    | false =>
      dsimp only
      rw [h4, lcL_fm xs acc (by omega) fun y hy => h y (List.mem_cons_of_mem _ hy)]
      simp [hp]
    | true =>
      dsimp only
      rw [h3 hp]
      dsimp only
      rw [if_pos (by rw [sizeLine_eq]; omega), h4, lcL_fm xs _ (by simp; omega) fun y hy => h y (List.mem_cons_of_mem _ hy)]
      simp [hp]
theorem restV_self {own : List Nat} {s : SV} : restV own s (wipeV s own) = s := by
  apply List.ext_getElem?
  intro j
  by_cases hj : j < s.length
  · have hl : j < (restV own s (wipeV s own)).length := by rw [restV_len, wipeV_len]; exact hj
    have e : (restV own s (wipeV s own))[j]? = some (restV own s (wipeV s own))[j] := List.getElem?_eq_getElem hl
    rcases restV_get own s (wipeV s own) j _ e with ⟨h1, h2⟩ | ⟨h1, h2⟩ | ⟨h1, h2⟩
    · rw [e, ← h2, wipeV_get s j own h1]
    · rw [e, h2]
    · exact absurd (List.getElem?_eq_none_iff.mp h1) (by omega)
  · rw [List.getElem?_eq_none (by rw [restV_len, wipeV_len]; omega), List.getElem?_eq_none (by omega)]
/-- [f x for x in xs if p x] -/
theorem lc_of {α : Type} {own : List Nat} {mi : M (List D)} {t : MT} {mc : M Bool} {me : M D} {s : SV} (xs : List α) (enc f : α → D) (p : α → Bool) (hi : mi s = .ok (xs.map enc) s) (ho : ownOk own s = true) (hl : xs.length ≤ 16777216)
    (h : ∀ x ∈ xs, ∃ s1, t (enc x) (wipeV s own) = some s1 ∧ mc s1 = .ok (p x) s1 ∧ (p x = true → me s1 = .ok (f x) s1) ∧ wipeV s1 own = wipeV s own) : mLc own mi t mc me s = .ok (D.lst ((xs.filter p).map f)) s := by
  unfold mLc
  rw [hi]
  show (if ownOk own s = true then (lcL own t mc me (xs.map enc) (wipeV s own) []).bd fun acc s' => R.ok (D.lst acc) (restV own s s') else .bad) = _
  rw [if_pos ho, lcL_fm xs [] (by simpa using hl) h]
  show R.ok (D.lst ([] ++ (xs.filter p).map f)) (restV own s (wipeV s own)) = _
  rw [restV_self, List.nil_append]
/-- [f x for x in xs] -/
theorem lc_map {α : Type} {own : List Nat} {mi : M (List D)} {t : MT} {me : M D} {s : SV} (xs : List α) (enc f : α → D) (hi : mi s = .ok (xs.map enc) s) (ho : ownOk own s = true) (hl : xs.length ≤ 16777216)
    (h : ∀ x ∈ xs, ∃ s1, t (enc x) (wipeV s own) = some s1 ∧ me s1 = .ok (f x) s1 ∧ wipeV s1 own = wipeV s own) : mLc own mi t mYes me s = .ok (D.lst (xs.map f)) s := by
  have := lc_of (mc := mYes) xs enc f (fun _ => true) hi ho hl fun x hx => by
    obtain ⟨s1, h1, h2, h3⟩ := h x hx
    exact ⟨s1, h1, rfl, fun _ => h2, h3⟩
  rw [this]
  congr 3
  exact List.filter_eq_self.mpr fun _ _ => rfl

/-! ### slices -/
theorem q_cut {α : Type} (xs : List α) {a b : Int} (ha : 0 ≤ a) (hb : 0 ≤ b) : cutD xs (some a) (some b) = (xs.drop a.toNat).take (b.toNat - a.toNat) := by
  have h := cut_list xs a.toNat b.toNat
  rwa [Int.toNat_of_nonneg ha, Int.toNat_of_nonneg hb] at h
theorem q_cutf {α : Type} (xs : List α) {a : Int} (ha : 0 ≤ a) : cutD xs (some a) none = xs.drop a.toNat := by
  obtain ⟨n, rfl⟩ : ∃ n : Nat, a = n := ⟨a.toNat, (Int.toNat_of_nonneg ha).symm⟩
  unfold cutD
  rw [HT.sIx_nat, HT.sIx_none, Int.toNat_natCast]
  rcases Nat.le_total n xs.length with h | h
  · rw [Nat.min_eq_left h, List.take_of_length_le (by simp)]
  · rw [Nat.min_eq_right h, List.drop_of_length_le h, List.drop_of_length_le (Nat.le_refl _)]
    simp
theorem q_cutt {α : Type} (xs : List α) {b : Int} (hb : 0 ≤ b) : cutD xs none (some b) = xs.take b.toNat := by
  obtain ⟨n, rfl⟩ : ∃ n : Nat, b = n := ⟨b.toNat, (Int.toNat_of_nonneg hb).symm⟩
  unfold cutD
  rw [HT.sIx_nat, HT.sIx_none, Int.toNat_natCast]
  rcases Nat.le_total n xs.length with h | h
  · rw [Nat.min_eq_left h]; simp
  · rw [Nat.min_eq_right h, List.take_of_length_le (by simp), List.take_of_length_le h]
    simp

/-! ### try, the exception in hand -/
def trO (top : Str) (ns : List Str) (x : Str) (i : Nat) (ms : MS) : O → O
  | .err e s => if e.c ∈ ns then (if isSub top e.c x = true then endEx i (ms (s.set i (.ex e))) else .err e s) else .bad
  | o => o
def trOo (top : Str) (ns : List Str) (x : Str) (ms : MS) : O → O
  | .err e s => if e.c ∈ ns then (if isSub top e.c x = true then endO (ms s) else .err e s) else .bad
  | o => o
section
variable {top x : Str} {ns : List Str} {i : Nat} {mb ms : MS} {s : SV} {e : Exn} {d : D}
theorem q_try : mTry top ns x i mb ms s = trO top ns x i ms (mb s) := by
  unfold mTry trO
  cases mb s <;> rfl
theorem q_tryo : mTryO top ns x mb ms s = trOo top ns x ms (mb s) := by
  unfold mTryO trOo
  cases mb s <;> rfl
theorem q_tnx : trO top ns x i ms (.nx s) = .nx s := (rfl)
theorem q_trt : trO top ns x i ms (.rt d s) = .rt d s := (rfl)
theorem q_tonx : trOo top ns x ms (.nx s) = .nx s := (rfl)
theorem q_tort : trOo top ns x ms (.rt d s) = .rt d s := (rfl)
theorem q_ter (h : e.c ∈ ns) (h2 : isSub top e.c x = true) : trO top ns x i ms (.err e s) = endEx i (ms (s.set i (.ex e))) := by
  unfold trO
  dsimp only
  rw [if_pos h, if_pos h2]
theorem q_toer (h : e.c ∈ ns) (h2 : isSub top e.c x = true) : trOo top ns x ms (.err e s) = endO (ms s) := by
  unfold trOo
  dsimp only
  rw [if_pos h, if_pos h2]
theorem q_tpass (h : e.c ∈ ns) (h2 : isSub top e.c x = false) : trO top ns x i ms (.err e s) = .err e s := by
  unfold trO
  dsimp only
  rw [if_pos h, if_neg (by rw [h2]; exact Bool.false_ne_true)]
theorem q_ert (h : noEx (s.set i .un) = true) : endEx i (.rt d s) = .rt d (s.set i .un) := if_pos h
theorem q_enx (h : noEx (s.set i .un) = true) : endEx i (.nx s) = .nx (s.set i .un) := if_pos h
theorem q_eort (h : noEx s = true) : endO (.rt d s) = .rt d s := if_pos h
theorem q_eonx (h : noEx s = true) : endO (.nx s) = .nx s := if_pos h
theorem q_exis {t : Str → Bool} (h : s[i]? = some (.ex e)) (hc : e.c ∈ ns) : mExIs ns i t s = .ok (.bl (t e.c)) s := by
  unfold mExIs
  rw [h]
  exact if_pos hc
theorem q_exf {f : Str} (h : s[i]? = some (.ex e)) (hc : e.c ∈ ns) (hd : e.fs.lookup f = some d) : mExF ns i f s = .ok d s := by
  unfold mExF
  rw [h]
  dsimp only
  rw [if_pos hc, hd]
end
/-! ### while -/
section
variable {b k : MS} {t : M Bool} {Q : O → Prop}
theorem w_while {Y : Type} {s0 : SV} (S : Y → SV) (I : Y → Prop) (m : Y → Nat) (y : Y) (e0 : s0 = S y) (hI : I y)
    (hs : ∀ y, I y → ∃ c, t (S y) = .ok c (S y) ∧ (c = true → Wp (b (S y)) (LpQ (fun s' => ∃ y', s' = S y' ∧ I y' ∧ m y' < m y) (fun s' => Wp (k s') Q) Q)) ∧ (c = false → Wp (k (S y)) Q)) : Wp (kO (mWhile t b s0) k) Q := by
  subst e0
  -- the run's end
  have key : ∀ (n : Nat) (y : Y), m y ≤ n → I y → (∀ y, I y → ∃ c, t (S y) = .ok c (S y) ∧ (c = true → Wp (b (S y)) (LpQ (fun s' => ∃ y', s' = S y' ∧ I y' ∧ m y' < m y) (fun s' => Wp (k s') Q) Q)) ∧ (c = false → Wp (k (S y)) Q)) →
      ∃ N o, whileN t b N (S y) = some o ∧ Wp (kO o k) Q := by
    intro n
    induction n with
    | zero =>
      intro y hn hI hs
      obtain ⟨c, hc, h1, h2⟩ := hs y hI
      cases c with
      | false => exact ⟨1, .nx (S y), by unfold whileN; rw [hc], h2 rfl⟩
      | true =>
        obtain ⟨h⟩ := h1 rfl
        cases hb : b (S y) with
        | nx s => rw [hb] at h; obtain ⟨y', _, _, h⟩ := h; omega
        | ct s => rw [hb] at h; obtain ⟨y', _, _, h⟩ := h; omega
        | bk s => rw [hb] at h; exact ⟨1, .nx s, by unfold whileN; rw [hc]; dsimp only; rw [hb], h⟩
        | rt d s => rw [hb] at h; exact ⟨1, .rt d s, by unfold whileN; rw [hc]; dsimp only; rw [hb], ⟨h⟩⟩
        | ro d s => rw [hb] at h; exact ⟨1, .ro d s, by unfold whileN; rw [hc]; dsimp only; rw [hb], ⟨h⟩⟩
        | err d s => rw [hb] at h; exact ⟨1, .err d s, by unfold whileN; rw [hc]; dsimp only; rw [hb], ⟨h⟩⟩
        | bad => rw [hb] at h; exact ⟨1, .bad, by unfold whileN; rw [hc]; dsimp only; rw [hb], ⟨h⟩⟩
    | succ n ih =>
      intro y hn hI hs
      obtain ⟨c, hc, h1, h2⟩ := hs y hI
      cases c with
      | false => exact ⟨1, .nx (S y), by unfold whileN; rw [hc], h2 rfl⟩
      | true =>
        obtain ⟨h⟩ := h1 rfl
        cases hb : b (S y) with
        | nx s =>
          rw [hb] at h
          obtain ⟨y', rfl, h3, h⟩ := h
          obtain ⟨N, o, e, w⟩ := ih y' (by omega) h3 hs
          exact ⟨N + 1, o, by unfold whileN; rw [hc]; dsimp only; rw [hb]; exact e, w⟩
        | ct s =>
          rw [hb] at h
          obtain ⟨y', rfl, h3, h⟩ := h
          obtain ⟨N, o, e, w⟩ := ih y' (by omega) h3 hs
          exact ⟨N + 1, o, by unfold whileN; rw [hc]; dsimp only; rw [hb]; exact e, w⟩
        | bk s => rw [hb] at h; exact ⟨1, .nx s, by unfold whileN; rw [hc]; dsimp only; rw [hb], h⟩
        | rt d s => rw [hb] at h; exact ⟨1, .rt d s, by unfold whileN; rw [hc]; dsimp only; rw [hb], ⟨h⟩⟩
        | ro d s => rw [hb] at h; exact ⟨1, .ro d s, by unfold whileN; rw [hc]; dsimp only; rw [hb], ⟨h⟩⟩
        | err d s => rw [hb] at h; exact ⟨1, .err d s, by unfold whileN; rw [hc]; dsimp only; rw [hb], ⟨h⟩⟩
        | bad => rw [hb] at h; exact ⟨1, .bad, by unfold whileN; rw [hc]; dsimp only; rw [hb], ⟨h⟩⟩
  obtain ⟨N, o, e, w⟩ := key (m y) y (Nat.le_refl _) hI hs
  rw [mWhile_of e]
  exact w
end
end VM

set_option Elab.async false
set_option linter.all false
set_option autoImplicit false
set_option maxRecDepth 100000
set_option maxHeartbeats 400000
namespace VM
open PySem PySem.Spec PyProof.Rows L2
theorem pow18 : cPow 10 18 = some (.int 1000000000000000000) := rfl
theorem cMulL {i : Int} (j : Int) (h : -(2 ^ 64) < i) (h' : i < 2 ^ 64) : cMul i j = some (.int (i * j)) := by unfold cMul; rw [if_pos (.inl ⟨h, h'⟩)]
theorem cMulR (i : Int) {j : Int} (h : -(2 ^ 64) < j) (h' : j < 2 ^ 64) : cMul i j = some (.int (i * j)) := by unfold cMul; rw [if_pos (.inr ⟨h, h'⟩)]
theorem cModL (i : Int) {j : Int} (h : 0 < j) : cMod i j = some (.int (i % j)) := by unfold cMod; rw [if_pos h]
/-- what a size must be -/
def SizeOk (z : Int) : Prop := 0 < z ∧ z < 1000
abbrev sgns : Str := "abcdefghijklmnopqrstuvwxyzABCDEFGHIJKLMNOPQRSTUVWXYZ0123456789"
abbrev alnum : List Nat := sgns.cps.toList
theorem alnum_len : alnum.length = 62 := by decide +kernel
/-- a word of at most n signs, the first of them in fs -/
structure Wl (fs : List Nat) (n : Nat) (w : Str) : Prop where
  hd : ∃ c r, w.cps.toList = c :: r ∧ c ∈ fs
  al : ∀ c ∈ w.cps.toList, c ∈ alnum
  ln : w.length ≤ n
theorem Wl.mono {fs : List Nat} {n m : Nat} {w : Str} (h : Wl fs n w) (k : n ≤ m) : Wl fs m w := ⟨h.hd, h.al, Nat.le_trans h.ln k⟩
theorem Wl.add {fs : List Nat} {n : Nat} {w : Str} {c : Nat} (h : Wl fs n w) (hc : c ∈ alnum) : Wl fs (n + 1) (w ++ (⟨#[c]⟩ : Str)) := by
  obtain ⟨⟨a, r, e, ha⟩, h2, h3⟩ := h
  refine ⟨⟨a, r ++ [c], by rw [str_app, e, one_list]; rfl, ha⟩, fun x hx => ?_, ?_⟩
  · rw [str_app, one_list] at hx
    rcases List.mem_append.mp hx with h | h
    · exact h2 x h
    · simp at h; subst h; exact hc
  · rw [str_len, str_app, List.length_append, ← str_len, one_list]
    simpa using h3
theorem Wl.cut {fs : List Nat} {n : Nat} {w : Str} (h : Wl fs n w) {k : Nat} (hk : 0 < k) : Wl fs k (cutS w none (some (k : Int))) := by
  obtain ⟨⟨a, r, e, ha⟩, h2, h3⟩ := h
  refine ⟨⟨a, r.take (k - 1), ?_, ha⟩, fun x hx => ?_, ?_⟩
  · rw [cut_to, e]
    obtain ⟨j, rfl⟩ : ∃ j, k = j + 1 := ⟨k - 1, by omega⟩
    simp
  · rw [cut_to] at hx
    exact h2 x (List.mem_of_mem_take hx)
  · rw [str_len, cut_to]
    simp; omega
theorem Wl.join {fs : List Nat} {n m : Nat} {w v : Str} (h : Wl fs n w) (hv : ∀ c ∈ v.cps.toList, c ∈ alnum) (hl : v.length ≤ m) : Wl fs (n + m) (w ++ v) := by
  obtain ⟨⟨a, r, e, ha⟩, h2, h3⟩ := h
  refine ⟨⟨a, r ++ v.cps.toList, by rw [str_app, e]; rfl, ha⟩, fun x hx => ?_, ?_⟩
  · rw [str_app] at hx
    rcases List.mem_append.mp hx with h | h
    · exact h2 x h
    · exact hv x h
  · rw [str_len, str_app, List.length_append, ← str_len, ← str_len]
    omega
theorem tail_al {fs : List Nat} {n : Nat} {w : Str} (h : Wl fs n w) (k : Nat) : (∀ c ∈ (cutS w (some (k : Int)) none).cps.toList, c ∈ alnum) ∧ (cutS w (some (k : Int)) none).length = w.length - k := by
  refine ⟨fun c hc => ?_, ?_⟩
  · rw [cut_from] at hc
    exact h.al c (List.mem_of_mem_drop hc)
  · rw [str_len, cut_from, str_len]
    simp
/-- the digits of one word -/
structure Ds (ds : List Int) : Prop where
  ln : ds.length = 15
  b1 : ∃ n : Nat, ds[1]? = some (n : Int) ∧ n < 26
  b2 : ∃ n : Nat, ds[2]? = some (n : Int) ∧ n < 12
  b3 : ∃ n : Nat, ds[3]? = some (n : Int) ∧ n < 12
  b0 : ∃ n : Nat, ds[0]? = some (n : Int) ∧ n < 6
  bj : ∀ j, j < 11 → ∃ n : Nat, ds[4 + j]? = some (n : Int) ∧ n < 62
theorem at_of {ds : List Int} {i : Nat} {n : Int} (h : ds[i]? = some n) : atI (ds.map D.int) (i : Int) = some (.int n) := by
  obtain ⟨h1, h2⟩ := List.getElem?_eq_some_iff.mp h
  rw [atI_natL (by simpa using h1)]
  simp [h2]
theorem small_str {n : Nat} (h : n ≤ 1000) : n ≤ sizeLine := Nat.le_of_lt (small1000 h)
theorem letter_at {z : Str} {n : Nat} (h : n < z.cps.toList.length) (hz : z.cps.toList.length ≤ 1000) : dIx (.str z) (.int (n : Int)) = some (.str ⟨#[z.cps.toList[n]]⟩) := ix_strL h (by rw [str_len]; exact small_str hz)
theorem letter_al {n : Nat} (h : n < 62) : ∃ c, c ∈ alnum ∧ dIx (.str sgns) (.int (n : Int)) = some (.str ⟨#[c]⟩) := ⟨_, List.getElem_mem (by rw [alnum_len]; exact h), letter_at (by rw [alnum_len]; exact h) (by rw [alnum_len]; decide)⟩
/-- the letters a word begins with -/
structure Fs (f : Str) : Prop where
  ln : f.cps.toList.length = 26
  al : ∀ c ∈ f.cps.toList, c ∈ alnum
theorem Fs.at {f : Str} (h : Fs f) {n : Nat} (hn : n < 26) : ∃ c, c ∈ f.cps.toList ∧ dIx (.str f) (.int (n : Int)) = some (.str ⟨#[c]⟩) := ⟨_, List.getElem_mem (by rw [h.ln]; exact hn), letter_at (by rw [h.ln]; exact hn) (by rw [h.ln]; decide)⟩
theorem Fs.one {f : Str} (h : Fs f) {c : Nat} (hc : c ∈ f.cps.toList) : Wl f.cps.toList 1 ⟨#[c]⟩ := ⟨⟨c, [], rfl, hc⟩, fun x hx => by
  have : x = c := by simpa using hx
  subst this; exact h.al _ hc, Nat.le_refl 1⟩
theorem add_str {a b : Str} (h : a.length + b.length ≤ 1000) : dAdd (.str a) (.str b) = some (.str (a ++ b)) := by
  unfold dAdd
  dsimp only
  rw [if_pos (small_str h)]
def zs15 : List Int := [6, 26, 12, 12, 62, 62, 62, 62, 62, 62, 62, 62, 62, 62, 62]
def zs75 : List Int := zs15 ++ zs15 ++ zs15 ++ zs15 ++ zs15
theorem zs75_ev (sv : SV) : (m2 dRep (m2 dAdd (mLst (mCons (mC (.int 6)) (mCons (mC (.int 26)) (mCons (mC (.int 12)) (mCons (mC (.int 12)) mNil))))) (m2 dRep (mLst (mCons (mC (.int 62)) mNil)) (mC (.int 11)))) (mC (.int 5))) sv = .ok (.lst (zs75.map .int)) sv := rfl
theorem zs75_at : ∀ r, r < 5 → ∀ j, j < 15 → zs75[15 * r + j]? = zs15[j]? := by decide
theorem zs75_sz : ∀ z ∈ zs75, SizeOk z := by
  unfold SizeOk
  have : zs75.all (fun z => decide (0 < z ∧ z < 1000)) = true := by decide
  intro z hz
  have h := List.all_eq_true.mp this z hz
  exact of_decide_eq_true h
structure Dz (ds : List Int) : Prop where
  ln : ds.length = 75
  bd : ∀ (i : Nat) (z e : Int), zs75[i]? = some z → ds[i]? = some e → 0 ≤ e ∧ e < z
theorem Dz.cut {ds : List Int} (h : Dz ds) {r : Nat} (hr : r < 5) : Ds ((ds.drop (15 * r)).take 15) := by
  have at_ : ∀ j, j < 15 → ((ds.drop (15 * r)).take 15)[j]? = ds[15 * r + j]? := fun j hj => by
    rw [List.getElem?_take, if_pos hj, List.getElem?_drop]
  have val : ∀ j z, j < 15 → zs15[j]? = some (z : Int) → ∃ n : Nat, ((ds.drop (15 * r)).take 15)[j]? = some (n : Int) ∧ (n : Int) < z := fun j z hj hz => by
    have hl : 15 * r + j < ds.length := by rw [h.ln]; omega
    have e1 : ds[15 * r + j]? = some ds[15 * r + j] := List.getElem?_eq_getElem hl
    obtain ⟨b1, b2⟩ := h.bd (15 * r + j) z _ (by rw [zs75_at r hr j hj]; exact hz) e1
    refine ⟨(ds[15 * r + j]).toNat, ?_, ?_⟩
    · rw [at_ j hj, e1, Int.toNat_of_nonneg b1]
    · rw [Int.toNat_of_nonneg b1]; exact b2
  refine ⟨by simp [h.ln]; omega, ?_, ?_, ?_, ?_, fun j hj => ?_⟩
  · obtain ⟨n, e, b⟩ := val 1 26 (by decide) rfl; exact ⟨n, e, by omega⟩
  · obtain ⟨n, e, b⟩ := val 2 12 (by decide) rfl; exact ⟨n, e, by omega⟩
  · obtain ⟨n, e, b⟩ := val 3 12 (by decide) rfl; exact ⟨n, e, by omega⟩
  · obtain ⟨n, e, b⟩ := val 0 6 (by decide) rfl; exact ⟨n, e, by omega⟩
  · have : zs15[4 + j]? = some 62 := by
      have : ∀ j, j < 11 → zs15[4 + j]? = some 62 := by decide
      exact this j hj
    obtain ⟨n, e, b⟩ := val (4 + j) 62 (by omega) this; exact ⟨n, e, by omega⟩
/-- the tokens of a kind -/
inductive Tk where
  | row (ws : List Str) | wd (w : Str)
def Tk.d : Tk → D
  | .row ws => .tup (ws.map .str)
  | .wd w => .str w
theorem tk_row (ws : List Str) : (Tk.row ws).d = .tup (ws.map .str) := rfl
theorem tk_wd (w : Str) : (Tk.wd w).d = .str w := rfl
abbrev Gw (w : Str) : Prop := Wl alnum 12 w
theorem Wl.gw {fs : List Nat} {w : Str} (h : Wl fs 12 w) : Gw w := ⟨by
  obtain ⟨c, r, e, _⟩ := h.hd
  exact ⟨c, r, e, h.al c (by rw [e]; simp)⟩, h.al, h.ln⟩
def Gt : Tk → Prop
  | .row ws => ws.length ≤ 6 ∧ ∀ w ∈ ws, Gw w
  | .wd w => Gw w
/-- how many kinds are still to come -/
def run : Nat → List Tk → Option Nat
  | p, [] => some p
  | 0, _ :: _ => none
  | p + 1, .wd _ :: r => run p r
  | p + 1, .row _ :: r => run (p + 2) r
theorem run_app : ∀ (a b : List Tk) (p : Nat), run p (a ++ b) = (run p a).bind fun q => run q b
  | [], b, p => rfl
  | _ :: _, b, 0 => rfl
  | .wd _ :: r, b, p + 1 => run_app r b p
  | .row _ :: r, b, p + 1 => run_app r b (p + 2)
theorem ix_int {xs : List Int} {i : Nat} (h : i < xs.length) : dIx (.lst (xs.map .int)) (.int (i : Int)) = some (.int xs[i]) := by
  show atI _ _ = _
  rw [atI_natL (by simpa using h)]
  simp
theorem ix_lstr {xs : List Str} {i : Nat} (h : i < xs.length) : dIx (.lst (xs.map .str)) (.int (i : Int)) = some (.str xs[i]) := by
  show atI _ _ = _
  rw [atI_natL (by simpa using h)]
  simp
structure Dk (ds : List Int) : Prop where
  ln : ds.length = 128
  b0 : ∃ n : Nat, ds[0]? = some (n : Int) ∧ n < 4
def zs128 : List Int := [4, 40] ++ (List.replicate 63 [2, 192]).flatten
theorem zs128_ev (sv : SV) : (m2 dAdd (mLst (mCons (mC (.int 4)) (mCons (mC (.int 40)) mNil))) (m2 dRep (mLst (mCons (mC (.int 2)) (mCons (mC (.int 192)) mNil))) (mC (.int 63)))) sv = .ok (.lst (zs128.map .int)) sv := rfl
theorem zs128_sz : ∀ z ∈ zs128, SizeOk z := by
  unfold SizeOk
  have : zs128.all (fun z => decide (0 < z ∧ z < 1000)) = true := by decide +kernel
  intro z hz
  have h := List.all_eq_true.mp this z hz
  exact of_decide_eq_true h
theorem zs128_len : zs128.length = 128 := by decide +kernel
/-! ### the plain law -/
abbrev caps : Str := "ABCDEFGHIJKLMNOPQRSTUVWXYZ"
def cap (w : Str) : Bool := match w.cps.toList with
  | [] => false
  | c :: _ => strIn ⟨#[c]⟩ caps
/-- the triples of one token -/
def piece (k : Nat) (s : Int) : Tk → List (Nat × Int × Str)
  | .row ws => ws.map fun w => (k, s, w)
  | .wd w => if cap w = true then [(k, s, w)] else []
def trs : Nat → List Int → List Tk → List (Nat × Int × Str)
  | k, s :: ss, t :: r => piece k s t ++ trs (k + 1) ss r
  | _, _, _ => []
/-- the sign at each token -/
def tops : List Int → List Tk → List Int
  | s :: st, .wd _ :: r => s :: tops st r
  | s :: st, .row _ :: r => s :: tops (-s :: s :: st) r
  | _, _ => []
def trD (x : Nat × Int × Str) : D := .tup [.int x.1, .int x.2.1, .str x.2.2]
theorem run_up (c : Nat) : ∀ (a : List Tk) (p q : Nat), run p a = some q → run (p + c) a = some (q + c)
  | [], p, q, h => by cases h; rfl
  | _ :: _, 0, q, h => by cases h
  | .wd _ :: r, p + 1, q, h => by
    rw [show p + 1 + c = (p + c) + 1 by omega]
    exact run_up c r p q h
  | .row _ :: r, p + 1, q, h => by
    rw [show p + 1 + c = (p + c) + 1 by omega]
    show run (p + c + 2) r = _
    rw [show p + c + 2 = p + 2 + c by omega]
    exact run_up c r (p + 2) q h
theorem tops_len : ∀ (a : List Tk) (st : List Int) (q : Nat), run st.length a = some q → (tops st a).length = a.length
  | [], st, q, h => by cases st <;> rfl
  | .wd _ :: r, [], q, h => by cases h
  | .row _ :: r, [], q, h => by cases h
  | .wd _ :: r, s :: st, q, h => by
    show (s :: tops st r).length = _
    simp [tops_len r st q h]
  | .row _ :: r, s :: st, q, h => by
    show (s :: tops (-s :: s :: st) r).length = _
    simp [tops_len r (-s :: s :: st) q h]
theorem tops_app : ∀ (a b : List Tk) (st R : List Int), run st.length a = some 0 → tops (st ++ R) (a ++ b) = tops st a ++ tops R b
  | [], b, [], R, h => by cases R <;> rfl
  | [], b, _ :: _, R, h => by cases h
  | .wd _ :: r, b, [], R, h => by cases h
  | .row _ :: r, b, [], R, h => by cases h
  | .wd _ :: r, b, s :: st, R, h => by
    show s :: tops (st ++ R) (r ++ b) = s :: tops st r ++ tops R b
    rw [tops_app r b st R h]
    rfl
  | .row _ :: r, b, s :: st, R, h => by
    show s :: tops ((-s :: s :: st) ++ R) (r ++ b) = s :: tops (-s :: s :: st) r ++ tops R b
    rw [tops_app r b (-s :: s :: st) R h]
    rfl
theorem tops_mul (c : Int) : ∀ (a : List Tk) (st : List Int), tops (st.map (· * c)) a = (tops st a).map (· * c)
  | [], st => by cases st <;> rfl
  | .wd _ :: r, [] => rfl
  | .row _ :: r, [] => rfl
  | .wd _ :: r, s :: st => by
    show s * c :: tops (st.map (· * c)) r = s * c :: (tops st r).map (· * c)
    rw [tops_mul c r st]
  | .row _ :: r, s :: st => by
    show s * c :: tops (-(s * c) :: s * c :: st.map (· * c)) r = s * c :: (tops (-s :: s :: st) r).map (· * c)
    rw [← tops_mul c r (-s :: s :: st)]
    simp [Int.neg_mul]
theorem trs_app : ∀ (a b : List Tk) (sa sb : List Int) (k : Nat), sa.length = a.length → trs k (sa ++ sb) (a ++ b) = trs k sa a ++ trs (k + a.length) sb b
  | [], b, [], sb, k, h => by simp [trs]
  | [], b, _ :: _, sb, k, h => by cases h
  | _ :: _, b, [], sb, k, h => by cases h
  | t :: a, b, s :: sa, sb, k, h => by
    show piece k s t ++ trs (k + 1) (sa ++ sb) (a ++ b) = (piece k s t ++ trs (k + 1) sa a) ++ trs (k + (a.length + 1)) sb b
    rw [trs_app a b sa sb (k + 1) (by simpa using h), List.append_assoc, show k + 1 + a.length = k + (a.length + 1) by omega]
def mv (c : Nat) (t : Int) (x : Nat × Int × Str) : Nat × Int × Str := (x.1 + c, x.2.1 * t, x.2.2)
theorem trs_mv (c : Nat) (t : Int) : ∀ (a : List Tk) (ss : List Int) (k : Nat), trs (k + c) (ss.map (· * t)) a = (trs k ss a).map (mv c t)
  | [], ss, k => by cases ss <;> rfl
  | _ :: _, [], k => rfl
  | x :: a, s :: ss, k => by
    show piece (k + c) (s * t) x ++ trs (k + c + 1) (ss.map (· * t)) a = (piece k s x ++ trs (k + 1) ss a).map (mv c t)
    rw [show k + c + 1 = k + 1 + c by omega, trs_mv c t a ss (k + 1), List.map_append]
    congr 1
    cases x with
    | row ws => simp [piece, mv]
    | wd w => simp only [piece]; split <;> simp [mv]
theorem joined_law {one two : List Tk} {ar : List Str} (h1 : run 1 one = some 0) (h2 : run 1 two = some 0) :
    run 1 (.row ar :: (one ++ two)) = some 0 ∧ trs 0 (tops [1] (.row ar :: (one ++ two))) (.row ar :: (one ++ two)) = ar.map (fun w => (0, 1, w)) ++ (trs 0 (tops [1] one) one).map (mv 1 (-1)) ++ (trs 0 (tops [1] two) two).map (mv (1 + one.length) 1) := by
  have r2 : run 2 one = some 1 := run_up 1 one 1 0 h1
  constructor
  · show run 2 (one ++ two) = some 0
    rw [run_app, r2]
    exact h2
  · show ar.map (fun w => (0, 1, w)) ++ trs 1 (tops [-1, 1] (one ++ two)) (one ++ two) = _
    have e : tops [-1, 1] (one ++ two) = tops [-1] one ++ tops [1] two := tops_app one two [-1] [1] h1
    rw [e, trs_app one two _ _ 1 (tops_len one [-1] 0 h1), List.append_assoc]
    have e1 : tops [-1] one = (tops [1] one).map (· * (-1)) := (show tops [-1] one = tops ([1].map (· * (-1))) one from rfl).trans (tops_mul (-1) one [1])
    have e2 : tops [1] two = (tops [1] two).map (· * 1) := by simp
    congr 1
    rw [e1, show (1 : Nat) = 0 + 1 from rfl, trs_mv 1 (-1) one _ 0]
    congr 1
    rw [e2, show 0 + 1 + one.length = 0 + (1 + one.length) by omega, trs_mv (1 + one.length) 1 two _ 0]
    simp
end VM

set_option Elab.async false
set_option linter.all false
set_option autoImplicit false
set_option maxRecDepth 100000
set_option maxHeartbeats 400000
namespace VM
open PySem PySem.Spec PyProof.Rows L2

/-! ### kinds as trees -/
inductive Kd where
  | wd (w : Str) | fn (r : List Str) (a b : Kd)
  deriving Inhabited
def Kd.fl : Kd → List Tk
  | .wd w => [.wd w]
  | .fn r a b => .row r :: (a.fl ++ b.fl)
def Kd.sz : Kd → Nat
  | .wd _ => 1
  | .fn _ a b => 1 + a.sz + b.sz
theorem Kd.fl_len : ∀ k : Kd, k.fl.length = k.sz
  | .wd _ => rfl
  | .fn _ a b => by simp [Kd.fl, Kd.sz, Kd.fl_len a, Kd.fl_len b]; omega
theorem Kd.sz_pos : ∀ k : Kd, 0 < k.sz
  | .wd _ => Nat.one_pos
  | .fn _ a b => by simp [Kd.sz]; omega
/-- the kinds that stand one behind another -/
def fp : List Tk → List Kd
  | [] => []
  | .wd w :: r => .wd w :: fp r
  | .row ws :: r => match fp r with
    | a :: b :: q => .fn ws a b :: q
    | _ => []
theorem fp_fl : ∀ (k : Kd) (r : List Tk), fp (k.fl ++ r) = k :: fp r
  | .wd w, r => rfl
  | .fn ws a b, r => by
    show fp (.row ws :: ((a.fl ++ b.fl) ++ r)) = _
    rw [List.append_assoc]
    show (match fp (a.fl ++ (b.fl ++ r)) with
      | a :: b :: q => Kd.fn ws a b :: q
      | _ => []) = _
    rw [fp_fl a, fp_fl b]
theorem run_fp : ∀ (ts : List Tk) (q : Nat), run q ts = some 0 → (fp ts).length = q ∧ (fp ts).flatMap Kd.fl = ts
  | [], q, h => by cases h; exact ⟨rfl, rfl⟩
  | _ :: _, 0, h => by cases h
  | .wd w :: r, q + 1, h => by
    obtain ⟨h1, h2⟩ := run_fp r q h
    exact ⟨by simp [fp, h1], by simp [fp, h2, Kd.fl]⟩
  | .row ws :: r, q + 1, h => by
    obtain ⟨h1, h2⟩ := run_fp r (q + 2) h
    unfold fp
    match e : fp r, h1 with
    | a :: b :: s, h1 =>
      rw [e] at h2
      refine ⟨by simpa using h1, ?_⟩
      rw [← h2]
      simp [Kd.fl]
theorem kd_of {ts : List Tk} (h : run 1 ts = some 0) : ∃ k : Kd, ts = k.fl := by
  obtain ⟨h1, h2⟩ := run_fp ts 1 h
  match e : fp ts, h1 with
  | [k], _ =>
    rw [e] at h2
    exact ⟨k, by simpa using h2.symm⟩
theorem run_fl : ∀ (k : Kd) (r : List Tk) (q : Nat), run (q + 1) (k.fl ++ r) = run q r
  | .wd w, r, q => rfl
  | .fn ws a b, r, q => by
    show run (q + 2) ((a.fl ++ b.fl) ++ r) = _
    rw [List.append_assoc, run_fl a, run_fl b]
theorem run_kd (k : Kd) : run 1 k.fl = some 0 := by
  have := run_fl k [] 0
  rw [List.append_nil] at this
  exact this
/-- the kind at a place -/
inductive At : Kd → Nat → Kd → Prop where
  | here {k : Kd} : At k 0 k
  | left {r : List Str} {a b t : Kd} {i : Nat} (h : At a i t) : At (.fn r a b) (1 + i) t
  | right {r : List Str} {a b t : Kd} {i : Nat} (h : At b i t) : At (.fn r a b) (1 + a.sz + i) t
theorem At.bound {k t : Kd} {i : Nat} (h : At k i t) : i + t.sz ≤ k.sz := by
  induction h with
  | here => omega
  | left _ ih => simp only [Kd.sz]; omega
  | right _ ih => simp only [Kd.sz]; omega
theorem At.lt {k t : Kd} {i : Nat} (h : At k i t) : i < k.sz := by have := h.bound; have := t.sz_pos; omega
theorem at_ex : ∀ (k : Kd) (i : Nat), i < k.sz → ∃ t, At k i t
  | .wd w, i, h => by
    have : i = 0 := by simp [Kd.sz] at h; omega
    subst this
    exact ⟨_, .here⟩
  | .fn r a b, i, h => by
    simp only [Kd.sz] at h
    rcases Nat.lt_trichotomy i 0 with h0 | h0 | h0
    · omega
    · subst h0; exact ⟨_, .here⟩
    · by_cases h1 : i < 1 + a.sz
      · obtain ⟨t, ht⟩ := at_ex a (i - 1) (by omega)
        have e : i = 1 + (i - 1) := by omega
        rw [e]
        exact ⟨t, .left ht⟩
      · obtain ⟨t, ht⟩ := at_ex b (i - (1 + a.sz)) (by omega)
        have e : i = 1 + a.sz + (i - (1 + a.sz)) := by omega
        rw [e]
        exact ⟨t, .right ht⟩
/-- the tokens from there on -/
theorem At.split {k t : Kd} {i : Nat} (h : At k i t) : ∃ p q, k.fl = p ++ (t.fl ++ q) ∧ p.length = i := by
  induction h with
  | @here k => exact ⟨[], [], by simp, rfl⟩
  | @left r a b t i _ ih =>
    obtain ⟨p, q, h1, h2⟩ := ih
    exact ⟨.row r :: p, q ++ b.fl, by simp [Kd.fl, h1], by simp [h2]; omega⟩
  | @right r a b t i _ ih =>
    obtain ⟨p, q, h1, h2⟩ := ih
    exact ⟨.row r :: (a.fl ++ p), q, by simp [Kd.fl, h1], by simp [h2, Kd.fl_len]; omega⟩
theorem At.drop {k t : Kd} {i : Nat} (h : At k i t) : ∃ q, k.fl.drop i = t.fl ++ q := by
  obtain ⟨p, q, h1, h2⟩ := h.split
  exact ⟨q, by rw [h1, ← h2]; simp⟩
theorem At.uniq {k t t' : Kd} {i : Nat} (h : At k i t) (h' : At k i t') : t = t' := by
  obtain ⟨q, h1⟩ := h.drop
  obtain ⟨q', h2⟩ := h'.drop
  have e1 := congrArg fp h1
  have e2 := congrArg fp h2
  rw [fp_fl] at e1 e2
  rw [e1] at e2
  exact (List.cons.inj e2).1
theorem At.tok_wd {k : Kd} {i : Nat} {w : Str} (h : At k i (.wd w)) : k.fl[i]? = some (.wd w) := by
  obtain ⟨p, q, h1, h2⟩ := h.split
  rw [h1, ← h2, List.getElem?_append_right (Nat.le_refl _), Nat.sub_self]
  rfl
theorem At.tok_fn {k : Kd} {i : Nat} {r : List Str} {a b : Kd} (h : At k i (.fn r a b)) : k.fl[i]? = some (.row r) := by
  obtain ⟨p, q, h1, h2⟩ := h.split
  rw [h1, ← h2, List.getElem?_append_right (Nat.le_refl _), Nat.sub_self]
  rfl
theorem At.trans {k t u : Kd} {i j : Nat} (h : At k i t) (h' : At t j u) : At k (i + j) u := by
  induction h with
  | here => rw [Nat.zero_add]; exact h'
  | left _ ih => rw [Nat.add_assoc]; exact .left (ih h')
  | right _ ih => rw [Nat.add_assoc]; exact .right (ih h')
theorem At.l {k : Kd} {i : Nat} {r : List Str} {a b : Kd} (h : At k i (.fn r a b)) : At k (i + 1) a := h.trans (.left .here)
theorem At.r {k : Kd} {i : Nat} {r : List Str} {a b : Kd} (h : At k i (.fn r a b)) : At k (i + 1 + a.sz) b := by
  have := h.trans (.right .here)
  rwa [show i + (1 + a.sz + 0) = i + 1 + a.sz by omega] at this
theorem At.cut {k t : Kd} {i : Nat} (h : At k i t) : (k.fl.drop i).take t.sz = t.fl := by
  obtain ⟨q, h1⟩ := h.drop
  rw [h1, ← Kd.fl_len, List.take_append_of_le_length (Nat.le_refl _), List.take_length]
theorem Kd.tok : ∀ k : Kd, (∃ w, k = .wd w ∧ k.fl = [.wd w]) ∨ ∃ r a b, k = .fn r a b
  | .wd w => .inl ⟨w, rfl, rfl⟩
  | .fn r a b => .inr ⟨r, a, b, rfl⟩

/-! ### what can be told by repr -/
structure Rk (d : D) (w dp : Nat) : Prop where
  h : ∃ q, py d = some q ∧ q.showable = true ∧ q.hasDict = false ∧ q.depth ≤ dp ∧ q.leavesShort 60 = true ∧ q.weight ≤ w
structure RkL (ds : List D) (w dp : Nat) : Prop where
  h : ∃ qs, pyL ds = some qs ∧ PyData.showableAll qs = true ∧ PyData.hasDictAll qs = false ∧ PyData.depthAll qs ≤ dp ∧ PyData.leavesShortAll 60 qs = true ∧ PyData.weightAll qs ≤ w
theorem Rk.mono {d : D} {w w' dp dp' : Nat} (h : Rk d w dp) (h1 : w ≤ w') (h2 : dp ≤ dp') : Rk d w' dp' := by
  obtain ⟨q, a, b, c, e, f, g⟩ := h.h
  exact ⟨q, a, b, c, by omega, f, by omega⟩
theorem RkL.mono {d : List D} {w w' dp dp' : Nat} (h : RkL d w dp) (h1 : w ≤ w') (h2 : dp ≤ dp') : RkL d w' dp' := by
  obtain ⟨q, a, b, c, e, f, g⟩ := h.h
  exact ⟨q, a, b, c, by omega, f, by omega⟩
theorem RkL.nil : RkL [] 0 0 := ⟨[], rfl, rfl, rfl, Nat.le_refl _, rfl, Nat.le_refl _⟩
theorem RkL.cons {d : D} {ds : List D} {w w' dp : Nat} (h : Rk d w dp) (h' : RkL ds w' dp) : RkL (d :: ds) (w + 1 + w') dp := by
  obtain ⟨q, a, b, c, e, f, g⟩ := h.h
  obtain ⟨qs, a', b', c', e', f', g'⟩ := h'.h
  refine ⟨q :: qs, by simp only [pyL, a, a'], by simp only [PyData.showableAll, b, b', Bool.and_self], by simp only [PyData.hasDictAll, c, c', Bool.or_self], ?_, by simp only [PyData.leavesShortAll, f, f', Bool.and_self], ?_⟩
  · simp only [PyData.depthAll]; omega
  · simp only [PyData.weightAll]; omega
theorem RkL.all {w dp : Nat} : ∀ {ds : List D}, (∀ d ∈ ds, Rk d w dp) → RkL ds ((w + 1) * ds.length) dp
  | [], _ => RkL.nil.mono (Nat.zero_le _) (Nat.zero_le _)
  | d :: ds, h => ((RkL.cons (h d List.mem_cons_self) (RkL.all fun x hx => h x (List.mem_cons_of_mem _ hx))).mono (by
      rw [List.length_cons, Nat.mul_add, Nat.mul_one]
      omega) (Nat.le_refl _))
theorem Rk.non : Rk .non 0 0 := ⟨.none, rfl, rfl, rfl, Nat.le_refl _, rfl, Nat.le_refl _⟩
theorem Rk.bl (b : Bool) : Rk (.bl b) 0 0 := ⟨.bool b, rfl, rfl, rfl, Nat.le_refl _, rfl, Nat.le_refl _⟩
theorem Rk.str {z : Str} (h : ∀ c ∈ z.cps.toList, c < 16 ^ 8) : Rk (.str z) z.length 0 := ⟨.str z, rfl, rfl, rfl, Nat.le_refl _, by
  simp only [PyData.leavesShort]
  exact List.all_eq_true.mpr fun c hc => decide_eq_true (h c hc), Nat.le_refl _⟩
theorem Rk.nat {n : Nat} (h : n < 10 ^ 50) : Rk (.int n) 180 0 := by
  have l1 : (n : Int).natAbs.log2 < 170 := by
    rw [Int.natAbs_natCast]
    by_cases h0 : n = 0
    · subst h0; decide
    · exact (Nat.log2_lt h0).mpr (Nat.lt_trans h (by decide))
  refine ⟨.int n, rfl, ?_, rfl, Nat.le_refl _, ?_, ?_⟩
  · simp only [PyData.showable]
    exact decide_eq_true (by omega)
  · have := toString_length_le (v := (n : Int)) (by omega) (k := 50) (by decide) (by exact_mod_cast h)
    simp only [PyData.leavesShort]
    have e : PyData.shown (.int (n : Int)) = Str.ofString (toString (n : Int)) := rfl
    rw [e]
    exact decide_eq_true (by omega)
  · simp only [PyData.weight]
    split <;> omega
theorem Rk.m1 : Rk (.int (-1)) 180 0 := ⟨.int (-1), rfl, by decide, rfl, Nat.le_refl _, by decide +kernel, by decide⟩
theorem Rk.tup {ds : List D} {w dp : Nat} (h : RkL ds w dp) : Rk (.tup ds) w (dp + 1) := by
  obtain ⟨qs, a', b', c', e', f', g'⟩ := h.h
  exact ⟨.tuple qs, by simp only [py, a', Option.map_some], b', c', by simp only [PyData.depth]; omega, f', g'⟩
theorem Rk.lst {ds : List D} {w dp : Nat} (h : RkL ds w dp) : Rk (.lst ds) w (dp + 1) := by
  obtain ⟨qs, a', b', c', e', f', g'⟩ := h.h
  exact ⟨.list qs, by simp only [py, a', Option.map_some], b', c', by simp only [PyData.depth]; omega, f', g'⟩
theorem repr_of {d : D} {w dp : Nat} (h : Rk d w dp) (h1 : w ≤ 200000) (h2 : dp ≤ 60) : ∃ z, dRepr [d] = some (.str z) := by
  obtain ⟨q, a, b, c, e, f, g⟩ := h.h
  have sz := PyData.shown_le 60 (by decide) q f
  have hr : reprOk q = true := by
    unfold reprOk
    rw [b, c, decide_eq_true (by omega : q.depth ≤ 60)]
    have : q.shown.length ≤ sizeLine := by
      rw [sizeLine_eq]
      have : (60 + 2) * q.weight ≤ 62 * 200000 := Nat.mul_le_mul_left 62 (by omega)
      omega
    rw [decide_eq_true this]
    rfl
  refine ⟨q.shown, ?_⟩
  unfold dRepr
  dsimp only
  rw [a]
  dsimp only
  rw [if_pos hr]

/-! ### kinds as data -/
theorem alnum_small : ∀ c ∈ alnum, c < 16 ^ 8 := by
  have : alnum.all (fun c => decide (c < 16 ^ 8)) = true := by decide +kernel
  intro c hc
  have h := List.all_eq_true.mp this c hc
  exact of_decide_eq_true h
theorem Gw.rk {w : Str} (h : Gw w) : Rk (.str w) 12 0 := (Rk.str fun c hc => alnum_small c (h.al c hc)).mono h.ln (Nat.le_refl _)
theorem row_rk {ws : List Str} (h : ∀ w ∈ ws, Gw w) (hl : ws.length ≤ 6) : Rk (.tup (ws.map .str)) 78 1 := Rk.mono (.tup (RkL.all (w := 12) (dp := 0) fun d hd => by
  obtain ⟨w, hw, rfl⟩ := List.mem_map.mp hd
  exact (h w hw).rk)) (by rw [List.length_map]; omega) (by omega)
theorem tk_rk {t : Tk} (h : Gt t) : Rk t.d 78 1 := by
  cases t with
  | row ws => exact row_rk h.2 h.1
  | wd w => exact (Gw.rk h).mono (by omega) (by omega)
theorem toks_rk {ts : List Tk} (h : ∀ t ∈ ts, Gt t) : Rk (.tup (ts.map Tk.d)) (79 * ts.length) 2 := Rk.mono (.tup (RkL.all (w := 78) (dp := 1) fun d hd => by
  obtain ⟨t, ht, rfl⟩ := List.mem_map.mp hd
  exact tk_rk (h t ht))) (by rw [List.length_map]; omega) (by omega)
abbrev Kd.d (k : Kd) : D := .tup (k.fl.map Tk.d)
/-- its words are right -/
def Kd.Ok (k : Kd) : Prop := ∀ t ∈ k.fl, Gt t
theorem Kd.rk {k : Kd} (h : k.Ok) : Rk k.d (79 * k.sz) 2 := by
  have := toks_rk h
  rwa [k.fl_len] at this
theorem At.ok {k t : Kd} {i : Nat} (h : At k i t) (hk : k.Ok) : t.Ok := by
  obtain ⟨p, q, h1, _⟩ := h.split
  intro x hx
  exact hk x (by rw [h1]; simp [hx])

theorem Ans.cmp {r : FR} {P : D → Prop} (h : Ans r P) : Cmp r P fun _ => False := ⟨.inl h.eq⟩
/-! ### a def that changes an argument -/
structure CmpI (r : FR) (P : D → D → Prop) : Prop where
  h : ∃ d o, r = .ok d (some o) ∧ P d o
def RtI (ro : Bool) (k : Nat) (P : D → D → Prop) : O → Prop
  | .nx s => ro = false ∧ ∃ j o, s[k]? = some (.io j o) ∧ P .non o
  | .rt d s => ro = false ∧ ∃ j o, s[k]? = some (.io j o) ∧ P d o
  | .ro d s => ro = true ∧ ∃ j o, s[k]? = some (.io j o) ∧ P d o
  | _ => False
theorem cmpI_of {n k : Nat} {ro : Bool} {body : MS} {ds : List D} {P : D → D → Prop} (h : Wp (body (initA (some k) 0 ds ++ List.replicate (n - ds.length) .un)) (RtI ro k P)) : CmpI (fnOf n (some k) ro body ds) P := by
  obtain ⟨h⟩ := h
  unfold fnOf outS
  cases hb : body (initA (some k) 0 ds ++ List.replicate (n - ds.length) .un) with
  | nx s => rw [hb] at h; obtain ⟨rfl, j, o, h1, h⟩ := h; dsimp only; rw [h1]; exact ⟨_, o, rfl, h⟩
  | rt d s => rw [hb] at h; obtain ⟨rfl, j, o, h1, h⟩ := h; dsimp only; rw [h1]; exact ⟨_, o, rfl, h⟩
  | ro d s => rw [hb] at h; obtain ⟨rfl, j, o, h1, h⟩ := h; dsimp only; rw [h1]; exact ⟨_, o, rfl, h⟩
  | err x s => rw [hb] at h; exact h.elim
  | bk s => rw [hb] at h; exact h.elim
  | ct s => rw [hb] at h; exact h.elim
  | bad => rw [hb] at h; exact h.elim
theorem w_irt {k : Nat} {P : D → D → Prop} {d : D} {s : SV} : Wp (.rt d s) (RtI false k P) = ∃ j o, s[k]? = some (.io j o) ∧ P d o := propext ⟨fun h => h.h.2, fun h => ⟨rfl, h⟩⟩
theorem w_inx {k : Nat} {P : D → D → Prop} {s : SV} : Wp (.nx s) (RtI false k P) = ∃ j o, s[k]? = some (.io j o) ∧ P .non o := propext ⟨fun h => h.h.2, fun h => ⟨rfl, h⟩⟩
theorem w_iro {k : Nat} {P : D → D → Prop} {d : D} {s : SV} : Wp (.ro d s) (RtI true k P) = ∃ j o, s[k]? = some (.io j o) ∧ P d o := propext ⟨fun h => h.h.2, fun h => ⟨rfl, h⟩⟩
theorem drop_hd {α : Type} {xs : List α} {n : Nat} {x : α} {r : List α} (h : xs.drop n = x :: r) : xs[n]? = some x ∧ xs.drop (n + 1) = r := by
  have h1 := congrArg (fun l => l[0]?) h
  have h2 := congrArg (fun l => l.drop 1) h
  simp only [List.getElem?_drop, List.drop_drop] at h1 h2
  exact ⟨by simpa using h1, by simpa using h2⟩
def Kd.isFn : Kd → Bool
  | .wd _ => false
  | .fn _ _ _ => true
def Kd.depth : Kd → Nat
  | .wd _ => 0
  | .fn _ a b => 1 + max a.depth b.depth
theorem hd0 (k : Kd) : ∃ t r, k.fl = t :: r ∧ (k.fl.map Tk.d)[0]? = some t.d ∧ isi "tuple" t.d = some (.bl k.isFn) := by
  cases k with
  | wd w => exact ⟨_, _, rfl, rfl, q_isi_ts _⟩
  | fn r a b => exact ⟨_, _, rfl, rfl, q_isi_tt _⟩
theorem take_fl (a b : Kd) (rest : List Tk) : (a.fl ++ rest).take a.sz = a.fl := by rw [← a.fl_len, List.take_append_of_le_length (Nat.le_refl _), List.take_length]
theorem drop_fl (a : Kd) (rest : List Tk) : (a.fl ++ rest).drop a.sz = rest := by rw [← a.fl_len]; simp
abbrev lower : Str := "abcdefghijklmnopqrstuvwxyz"
abbrev res : List Str := ["fun", "of", "case", "ask", "keep", "under", "as", "to", "with", "gives", "data", "maker"]
def wlB (fs : List Nat) (n : Nat) (w : Str) : Bool := match w.cps.toList with
  | [] => false
  | c :: r => fs.contains c && (c :: r).all (fun x => alnum.contains x) && decide (w.length ≤ n)
theorem wlB_ok {fs : List Nat} {n : Nat} {w : Str} (h : wlB fs n w = true) : Wl fs n w := by
  unfold wlB at h
  split at h
  · cases h
  · rename_i c r e
    simp only [Bool.and_eq_true, List.all_eq_true, decide_eq_true_eq] at h
    obtain ⟨⟨h1, h2⟩, h3⟩ := h
    exact ⟨⟨c, r, e, List.contains_iff_mem.mp h1⟩, fun x hx => List.contains_iff_mem.mp (h2 x (e ▸ hx)), h3⟩
theorem res_ok : ∀ w ∈ res, Wl lower.cps.toList 12 w := by
  have : res.all (fun w => wlB lower.cps.toList 12 w) = true := by decide +kernel
  intro w hw
  exact wlB_ok (List.all_eq_true.mp this w hw)
theorem fs_lower : Fs lower := ⟨by decide +kernel, by
  have : lower.cps.toList.all (fun x => alnum.contains x) = true := by decide +kernel
  intro c hc
  exact List.contains_iff_mem.mp (List.all_eq_true.mp this c hc)⟩
theorem fs_caps : Fs caps := ⟨by decide +kernel, by
  have : caps.cps.toList.all (fun x => alnum.contains x) = true := by decide +kernel
  intro c hc
  exact List.contains_iff_mem.mp (List.all_eq_true.mp this c hc)⟩
theorem low_cap {w : Str} (h : Wl lower.cps.toList 12 w) : cap w = false := by
  obtain ⟨c, r, e, hc⟩ := h.hd
  have : lower.cps.toList.all (fun x => !strIn ⟨#[x]⟩ caps) = true := by decide +kernel
  have q := List.all_eq_true.mp this c hc
  unfold cap
  rw [e]
  simpa using q
theorem cap_cap {w : Str} (h : Wl caps.cps.toList 12 w) : cap w = true := by
  obtain ⟨c, r, e, hc⟩ := h.hd
  have : caps.cps.toList.all (fun x => strIn ⟨#[x]⟩ caps) = true := by decide +kernel
  have q := List.all_eq_true.mp this c hc
  unfold cap
  rw [e]
  exact q
theorem upper_lower : dUpper (.str lower) = some (.str caps) := by
  have h1 : lower.length ≤ 5592405 := by decide +kernel
  have h2 : Txt.upper lower = caps := by decide +kernel
  unfold dUpper
  dsimp only
  rw [if_pos h1, h2]

theorem sorted_of {ws : List Str} (h : ws.length < 64) : dSorted [.lst (ws.map .str)] = some (.lst ((sortS ws).map .str)) := by
  unfold dSorted
  dsimp only
  rw [strs_map]
  dsimp only
  rw [if_pos h]
theorem sort_perm (ws : List Str) : (sortS ws).Perm ws := List.mergeSort_perm _ _
/-- digits -/
theorem dig {ds : List Int} {zs : List Int} (hl : ds.length = zs.length) (hb : ∀ (i : Nat) (z e : Int), zs[i]? = some z → ds[i]? = some e → 0 ≤ e ∧ e < z) {i : Nat} {z : Int} (hz : zs[i]? = some z) : ∃ n : Nat, ds[i]? = some (n : Int) ∧ (n : Int) < z := by
  obtain ⟨h1, _⟩ := List.getElem?_eq_some_iff.mp hz
  have e1 : ds[i]? = some (ds[i]'(by omega)) := List.getElem?_eq_getElem (by omega)
  obtain ⟨b1, b2⟩ := hb i z _ hz e1
  refine ⟨(ds[i]'(by omega)).toNat, ?_, ?_⟩
  · rw [e1, Int.toNat_of_nonneg b1]
  · rw [Int.toNat_of_nonneg b1]; exact b2
theorem at_mem {α : Type} {xs : List α} {n : Nat} (h : n < xs.length) : ∃ x, x ∈ xs ∧ xs[n]? = some x := ⟨_, List.getElem_mem h, List.getElem?_eq_getElem h⟩
theorem mod_nat (n m : Nat) : (n : Int) % (m : Int) = ((n % m : Nat) : Int) := by omega
end VM

set_option Elab.async false
set_option linter.all false
set_option autoImplicit false
set_option maxRecDepth 100000
set_option maxHeartbeats 400000
namespace VM.K62
open PySem PySem.Spec PyProof.Rows L2 VM
noncomputable section
abbrev errTop : Str := "OwnleftError"
abbrev errNs : List Str := ["OwnleftError", "BadKind"]
def b_begins_in_0 : MS :=
  (mIfS (mB (m2 dNotIn (mRd 2) (mC (.str "abcdefghijklmnopqrstuvwxyzABCDEFGHIJKLMNOPQRSTUVWXYZ0123456789")))) (mRet (mC (.bl false))) mSkip)
def f_begins_in_1 : MS :=
  (mFor (mItems (mRd 0)) (mtN 2) b_begins_in_0)
def m_begins_in : MS :=
  (mSeq (mIfS (mOr (mNot (mB (m1 (isi "str") (mRd 0)))) (mB (m2 dEq (mRd 0) (mC (.str ""))))) (mRet (mC (.bl false))) mSkip)
  (mSeq (mIfS (mB (m2 dNotIn (m2 dIx (mRd 0) (mC (.int 0))) (mRd 1))) (mRet (mC (.bl false))) mSkip)
  (mSeq f_begins_in_1
  (mRet (mC (.bl true))))))
def F_begins_in : Fn := fnOf 3 none false m_begins_in
def m_is_base_word : MS :=
  (mRet (mCall 2 F_begins_in [] (mCons (mRd 0) (mCons (mC (.str "abcdefghijklmnopqrstuvwxyz")) mNil))))
def F_is_base_word : Fn := fnOf 1 none false m_is_base_word
def m_is_data_word : MS :=
  (mRet (mCall 2 F_begins_in [] (mCons (mRd 0) (mCons (mC (.str "ABCDEFGHIJKLMNOPQRSTUVWXYZ")) mNil))))
def F_is_data_word : Fn := fnOf 1 none false m_is_data_word
def m_is_plain_word : MS :=
  (mRet (mAndV (mCall 1 F_is_base_word [] (mCons (mRd 0) mNil)) (m2 dNotIn (mRd 0) (mC (.tup ((["fun", "of", "case", "ask", "keep", "under", "as", "to", "with", "gives", "data", "maker"] : List Str).map .str))))))
def F_is_plain_word : Fn := fnOf 1 none false m_is_plain_word
def b_is_row_0 : MS :=
  (mSeq (mIfS (mNot (mB (mCall 1 F_is_plain_word [] (mCons (mRd 2) mNil)))) (mRet (mC (.bl false))) mSkip)
  (mSeq (mIfS (mAnd (mB (m2 dIsNot (mRd 1) (mC .non))) (mNot (mB (m2 (dCmp ciLt csLt) (mRd 1) (mRd 2))))) (mRet (mC (.bl false))) mSkip)
  (mAsg 1 (mRd 2))))
def f_is_row_1 : MS :=
  (mFor (mItems (mRd 0)) (mtN 2) b_is_row_0)
def m_is_row : MS :=
  (mSeq (mIfS (mNot (mB (m1 (isi "tuple") (mRd 0)))) (mRet (mC (.bl false))) mSkip)
  (mSeq (mAsg 1 (mC .non))
  (mSeq f_is_row_1
  (mRet (mC (.bl true))))))
def F_is_row : Fn := fnOf 3 none false m_is_row
def b_is_kind_0 : MS :=
  (mSeq (mIfS (mB (m2 dEq (mRd 1) (mC (.int 0)))) (mRet (mC (.bl false))) mSkip)
  (mIfS (mB (mCall 1 F_is_row [] (mCons (mRd 2) mNil))) (mAsg 1 (m2 dAdd (mRd 1) (mC (.int 1)))) (mIfS (mOr (mB (mCall 1 F_is_base_word [] (mCons (mRd 2) mNil))) (mB (mCall 1 F_is_data_word [] (mCons (mRd 2) mNil)))) (mAsg 1 (m2 (dI2 cSub) (mRd 1) (mC (.int 1)))) (mRet (mC (.bl false))))))
def f_is_kind_1 : MS :=
  (mFor (mItems (mRd 0)) (mtN 2) b_is_kind_0)
def m_is_kind : MS :=
  (mSeq (mIfS (mNot (mB (m1 (isi "tuple") (mRd 0)))) (mRet (mC (.bl false))) mSkip)
  (mSeq (mAsg 1 (mC (.int 1)))
  (mSeq f_is_kind_1
  (mRet (m2 dEq (mRd 1) (mC (.int 0)))))))
def F_is_kind : Fn := fnOf 3 none false m_is_kind
def b_kind_ends_0 : MS :=
  (mSeq (mAsg 3 (m2 (dI2 cSub) (m2 (dI2 cSub) (mCall1 dLen (mCons (mRd 0) mNil)) (mC (.int 1))) (mRd 2)))
  (mSeq (mPut 1 (m2 dAdd (mRd 3) (mC (.int 1))) (mRd 3))
  (mIfS (mB (m1 (isi "tuple") (m2 dIx (mRd 0) (mRd 3)))) (mPut 1 (mWith lfree 1 (m2 dIx (mRd 1) (m2 dIx (mRd 1) (m2 dAdd (mRd 3) (mC (.int 1)))))) (mRd 3)) mSkip)))
def f_kind_ends_1 : MS :=
  (mFor (mRng1 (mCons (mCall1 dLen (mCons (mRd 0) mNil)) mNil)) (mtN 2) b_kind_ends_0)
def m_kind_ends : MS :=
  (mSeq (mAsgO 1 (m2 dRep (mLst (mCons (mC (.int 0)) mNil)) (mCall1 dLen (mCons (mRd 0) mNil))))
  (mSeq f_kind_ends_1
  (mRet (mCall1 dTuple (mCons (mMv 1) mNil)))))
def F_kind_ends : Fn := fnOf 4 none false m_kind_ends
def m_function_kind : MS :=
  (mRet (m2 dAdd (m2 dAdd (mTup (mCons (mRd 1) mNil)) (mRd 0)) (mRd 2)))
def F_function_kind : Fn := fnOf 3 none false m_function_kind
def m_is_function : MS :=
  (mRet (m1 (isi "tuple") (m2 dIx (mRd 0) (mC (.int 0)))))
def F_is_function : Fn := fnOf 1 none false m_is_function
def m_left_of : MS :=
  (mSeq (mIfS (mNot (mB (mCall 1 F_is_function [] (mCons (mRd 0) mNil)))) (mRaise "BadKind" ["kind"] (mCons (mRd 0) mNil)) mSkip)
  (mRet (mSl (mRd 0) (moS (mC (.int 1))) (moS (m2 dIx (mCall 1 F_kind_ends [] (mCons (mRd 0) mNil)) (mC (.int 1)))))))
def F_left_of : Fn := fnOf 1 none false m_left_of
def m_right_of : MS :=
  (mSeq (mIfS (mNot (mB (mCall 1 F_is_function [] (mCons (mRd 0) mNil)))) (mRaise "BadKind" ["kind"] (mCons (mRd 0) mNil)) mSkip)
  (mRet (mSl (mRd 0) (moS (m2 dIx (mCall 1 F_kind_ends [] (mCons (mRd 0) mNil)) (mC (.int 1)))) moN)))
def F_right_of : Fn := fnOf 1 none false m_right_of
def m_word_code : MS :=
  (mRet (m2 dAdd (mCall1 dStr (mCons (mCall1 dLen (mCons (mRd 0) mNil)) mNil)) (mRd 0)))
def F_word_code : Fn := fnOf 1 none false m_word_code
def b_kind_code_0 : MS :=
  (mIfS (mB (m1 (isi "tuple") (mRd 2))) (mAsg 1 (m2 dAdd (m2 dAdd (m2 dAdd (mRd 1) (mC (.str "F"))) (mCall1 dStr (mCons (mCall1 dLen (mCons (mRd 2) mNil)) mNil))) (mS1 dJoin (mC (.str "")) (mLc [3] (mItems (mRd 2)) (mtN 3) mYes (mCall 1 F_word_code [] (mCons (mRd 3) mNil)))))) (mAsg 1 (m2 dAdd (mRd 1) (mCall 1 F_word_code [] (mCons (mRd 2) mNil)))))
def f_kind_code_1 : MS :=
  (mFor (mItems (mRd 0)) (mtN 2) b_kind_code_0)
def m_kind_code : MS :=
  (mSeq (mAsg 1 (mC (.str "")))
  (mSeq f_kind_code_1
  (mRet (mRd 1))))
def F_kind_code : Fn := fnOf 4 none false m_kind_code
def m_wrap_word : MS :=
  (mRet (m2 dAdd (m2 dAdd (m2 dAdd (mC (.str "W")) (mCall1 dStr (mCons (mCall1 dLen (mCons (mRd 0) mNil)) mNil))) (mS1 dJoin (mC (.str "")) (mLc [2] (mItems (mRd 0)) (mtN 2) mYes (mCall 1 F_word_code [] (mCons (mRd 2) mNil))))) (mCall 1 F_kind_code [] (mCons (mRd 1) mNil))))
def F_wrap_word : Fn := fnOf 3 none false m_wrap_word
def b_made_kind_0 : MS :=
  (mSeq (mAsg 4 (m2 (dI2 cSub) (m2 (dI2 cSub) (mCall1 dLen (mCons (mRd 0) mNil)) (mC (.int 1))) (mRd 3)))
  (mSeq (mAsg 5 (m2 dIx (mRd 0) (mRd 4)))
  (mIfS (mNot (mB (m1 (isi "tuple") (mRd 5)))) (mPut 2 (mTup (mCons (mRd 5) mNil)) (mRd 4)) (mSeq (mAsg 6 (m2 dIx (mRd 1) (m2 dAdd (mRd 4) (mC (.int 1)))))
  (mSeq (mAsg 7 (mIf (mB (m2 dEq (mRd 5) (mTup mNil))) (mWith lfree 2 (m2 dIx (mRd 2) (mRd 6))) (mTup (mCons (mCall 2 F_wrap_word [] (mCons (mRd 5) (mCons (mSl (mRd 0) (moS (mRd 6)) (moS (m2 dIx (mRd 1) (mRd 6)))) mNil))) mNil))))
  (mPut 2 (mCall 3 F_function_kind [] (mCons (mWith lfree 2 (m2 dIx (mRd 2) (m2 dAdd (mRd 4) (mC (.int 1))))) (mCons (mTup mNil) (mCons (mRd 7) mNil)))) (mRd 4)))))))
def f_made_kind_1 : MS :=
  (mFor (mRng1 (mCons (mCall1 dLen (mCons (mRd 0) mNil)) mNil)) (mtN 3) b_made_kind_0)
def m_made_kind : MS :=
  (mSeq (mAsg 1 (mCall 1 F_kind_ends [] (mCons (mRd 0) mNil)))
  (mSeq (mAsgO 2 (m2 dRep (mLst (mCons (mTup mNil) mNil)) (mCall1 dLen (mCons (mRd 0) mNil))))
  (mSeq f_made_kind_1
  (mRet (mWith lfree 2 (m2 dIx (mRd 2) (mC (.int 0))))))))
def F_made_kind : Fn := fnOf 8 none false m_made_kind
def m_helper_kind (F_helper_kind : Fn) : MS :=
  (mSeq (mIfS (mNot (mB (mCall 1 F_is_function [] (mCons (mRd 0) mNil)))) (mRet (mRd 0)) mSkip)
  (mRet (mCall 3 F_function_kind [] (mCons (mCall 1 F_made_kind [] (mCons (mCall 1 F_left_of [] (mCons (mRd 0) mNil)) mNil)) (mCons (mTup mNil) (mCons (mCall 1 F_helper_kind [] (mCons (mCall 1 F_right_of [] (mCons (mRd 0) mNil)) mNil)) mNil))))))
def R_helper_kind : Nat → Fn
  | 0 => fun _ => .bad
  | n + 1 => fnOf 1 none false (m_helper_kind (R_helper_kind n))
def F_helper_kind : Fn := R_helper_kind 64
def b__law_cell_0 : MS :=
  (mAsg 2 (m2 (dI2 cMod) (mCall1 dInt (mCons (m2 dAdd (m2 (dI2 cMul) (mRd 2) (mC (.int 31))) (m2 (dI2 cMod) (mCall1 dInt (mCons (mRd 3) mNil)) (mC (.int 1000003)))) mNil)) (mC (.int 1000003))))
def f__law_cell_1 : MS :=
  (mFor (mItems (mRd 0)) (mtN 3) b__law_cell_0)
def m__law_cell : MS :=
  (mSeq (mIfS (mB (m2 (dCmp ciLt csLt) (mRd 1) (mCall1 dLen (mCons (mRd 0) mNil)))) (mRet (m2 dIx (mRd 0) (mRd 1))) mSkip)
  (mSeq (mAsg 2 (mC (.int 17)))
  (mSeq f__law_cell_1
  (mRet (m2 (dI2 cMod) (mCall1 dInt (mCons (m2 (dI2 cMul) (m2 (dI2 cMul) (m2 dAdd (mRd 2) (mC (.int 7))) (m2 dAdd (mRd 1) (mC (.int 3)))) (mC (.int 69621))) mNil)) (mC (.int 2147483647)))))))
def F__law_cell : Fn := fnOf 4 none false m__law_cell
def b__law_digits_0 : MS :=
  (mSeq (mApp 2 (m2 (dI2 cMod) (mCall1 dInt (mCons (mRd 3) mNil)) (mRd 4)))
  (mAsg 3 (m2 (dI2 cDiv) (mCall1 dInt (mCons (mRd 3) mNil)) (mRd 4))))
def f__law_digits_1 : MS :=
  (mFor (mItems (mRd 1)) (mtN 4) b__law_digits_0)
def b__law_digits_2 : MS :=
  (mSeq (mAsg 5 (m2 (dI2 cMod) (mCall1 dInt (mCons (m2 dAdd (m2 dAdd (m2 (dI2 cMul) (mRd 5) (mC (.int 48271))) (m2 (dI2 cMul) (mC (.int 974711)) (mRd 6))) (mC (.int 12345))) mNil)) (mC (.int 2147483647))))
  (mSeq (mAsg 7 (m2 (dI2 cMod) (mCall1 dInt (mCons (m2 (dI2 cMul) (mRd 5) (m2 dAdd (m2 (dI2 cDiv) (mRd 5) (mC (.int 65537))) (mC (.int 3)))) mNil)) (mC (.int 2147483629))))
  (mApp 2 (m2 (dI2 cMod) (m2 (dI2 cDiv) (mRd 7) (mC (.int 19))) (m2 dIx (mRd 1) (mRd 6))))))
def f__law_digits_3 : MS :=
  (mFor (mRng1 (mCons (mCall1 dLen (mCons (mRd 1) mNil)) mNil)) (mtN 6) b__law_digits_2)
def m__law_digits : MS :=
  (mSeq (mAsgO 2 (mLst mNil))
  (mSeq (mAsg 3 (mCall1 dInt (mCons (mRd 0) mNil)))
  (mSeq (mIfS (mB (m2 (dCI ciGe) (mRd 3) (m2 (dI2 cPow) (mC (.int 10)) (mC (.int 18))))) (mSeq (mAsg 3 (m2 (dI2 cSub) (mRd 3) (m2 (dI2 cPow) (mC (.int 10)) (mC (.int 18)))))
  (mSeq f__law_digits_1
  (mRetO (mTk 2)))) mSkip)
  (mSeq (mAsg 5 (m2 (dI2 cMod) (mCall1 dInt (mCons (mRd 3) mNil)) (mC (.int 2147483629))))
  (mSeq f__law_digits_3
  (mRetO (mTk 2)))))))
def F__law_digits : Fn := fnOf 8 none true m__law_digits
def b__law_kind_ends_0 : MS :=
  (mSeq (mAsg 3 (m2 (dI2 cSub) (m2 (dI2 cSub) (mCall1 dLen (mCons (mRd 0) mNil)) (mC (.int 1))) (mRd 2)))
  (mSeq (mPut 1 (m2 dAdd (mRd 3) (mC (.int 1))) (mRd 3))
  (mIfS (mB (m1 (isi "tuple") (m2 dIx (mRd 0) (mRd 3)))) (mPut 1 (mWith lfree 1 (m2 dIx (mRd 1) (m2 dIx (mRd 1) (m2 dAdd (mRd 3) (mC (.int 1)))))) (mRd 3)) mSkip)))
def f__law_kind_ends_1 : MS :=
  (mFor (mRng1 (mCons (mCall1 dLen (mCons (mRd 0) mNil)) mNil)) (mtN 2) b__law_kind_ends_0)
def m__law_kind_ends : MS :=
  (mSeq (mAsgO 1 (mLc [4] (mItems (mRd 0)) (mtN 4) mYes (mC (.int 0))))
  (mSeq f__law_kind_ends_1
  (mRetO (mTk 1))))
def F__law_kind_ends : Fn := fnOf 5 none true m__law_kind_ends
def m__law_split : MS :=
  (mSeq (mAsg 1 (m2 dIx (mFz (mCall 1 F__law_kind_ends [] (mCons (mRd 0) mNil))) (mC (.int 1))))
  (mRet (mTup (mCons (mSl (mRd 0) (moS (mC (.int 1))) (moS (mRd 1))) (mCons (m2 dIx (mRd 0) (mC (.int 0))) (mCons (mSl (mRd 0) (moS (mRd 1)) moN) mNil))))))
def F__law_split : Fn := fnOf 2 none false m__law_split
def b__law_kind_0 : MS :=
  (mIfS (mB (m2 dEq (mRd 7) (mC (.str "w")))) (mSeq (mAsg 4 (m2 dAdd (mRd 4) (mTup (mCons (m2 dIx (mRd 1) (m2 (dI2 cMod) (mCall1 dInt (mCons (m2 dAdd (m2 dIx (mRd 0) (m2 dAdd (mC (.int 1)) (m2 (dI2 cMod) (mRd 5) (mC (.int 4))))) (m2 (dI2 cDiv) (mRd 5) (mC (.int 4)))) mNil)) (mCall1 dLen (mCons (mRd 1) mNil)))) mNil))))
  (mAsg 5 (m2 dAdd (mRd 5) (mC (.int 1))))) (mSeq (mAsg 4 (m2 dAdd (mRd 4) (mTup (mCons (m2 dIx (mRd 2) (m2 (dI2 cMod) (mCall1 dInt (mCons (m2 dAdd (m2 dIx (mRd 0) (m2 dAdd (mC (.int 5)) (m2 (dI2 cMod) (mRd 6) (mC (.int 4))))) (m2 (dI2 cDiv) (mRd 6) (mC (.int 4)))) mNil)) (mCall1 dLen (mCons (mRd 2) mNil)))) mNil))))
  (mAsg 6 (m2 dAdd (mRd 6) (mC (.int 1))))))
def f__law_kind_1 : MS :=
  (mFor (mItems (m2 dIx (mRd 3) (m2 (dI2 cMod) (mCall1 dInt (mCons (m2 dIx (mRd 0) (mC (.int 0))) mNil)) (mC (.int 14))))) (mtN 7) b__law_kind_0)
def m__law_kind : MS :=
  (mSeq (mAsg 3 (mLst (mCons (mC (.str "w")) (mCons (mC (.str "w")) (mCons (mC (.str "fww")) (mCons (mC (.str "fww")) (mCons (mC (.str "fww")) (mCons (mC (.str "ffwww")) (mCons (mC (.str "fwfww")) (mCons (mC (.str "fffwwww")) (mCons (mC (.str "ffwwfww")) (mCons (mC (.str "fwffwww")) (mCons (mC (.str "w")) (mCons (mC (.str "fww")) (mCons (mC (.str "ffwww")) (mCons (mC (.str "fwfww")) mNil))))))))))))))))
  (mSeq (mAsg 4 (mTup mNil))
  (mSeq (mAsg 5 (mC (.int 0)))
  (mSeq (mAsg 6 (mC (.int 0)))
  (mSeq f__law_kind_1
  (mRet (mRd 4)))))))
def F__law_kind : Fn := fnOf 8 none false m__law_kind
def m__law_menu : MS :=
  (mSeq (mIfS (mB (m2 dEq (mRd 1) (mC (.str "data")))) (mAsg 2 (mLst (mCons (mC (.str "D")) (mCons (mC (.str "Tree")) (mCons (mC (.str "E2")) (mCons (mC (.str "Box")) (mCons (mC (.str "Dx")) (mCons (mC (.str "T")) (mCons (mC (.str "Up")) (mCons (mC (.str "Ab9")) mNil)))))))))) (mIfS (mB (m2 dEq (mRd 1) (mC (.str "maker")))) (mAsg 2 (mLst (mCons (mC (.str "c")) (mCons (mC (.str "leaf")) (mCons (mC (.str "put2")) (mCons (mC (.str "mk")) (mCons (mC (.str "d")) (mCons (mC (.str "cc")) (mCons (mC (.str "b9")) (mCons (mC (.str "fold")) mNil)))))))))) (mAsg 2 (mLst (mCons (mC (.str "get")) (mCons (mC (.str "set")) (mCons (mC (.str "raise")) (mCons (mC (.str "pick")) (mCons (mC (.str "a")) (mCons (mC (.str "ab")) (mCons (mC (.str "b2")) (mCons (mC (.str "tell")) mNil))))))))))))
  (mRetO (mLc [3] (mRng1 (mCons (mC (.int 8)) mNil)) (mtN 3) mYes (m2 dIx (mRd 2) (m2 (dI2 cMod) (mCall1 dInt (mCons (m2 dAdd (mRd 0) (mRd 3)) mNil)) (mC (.int 8)))))))
def F__law_menu : Fn := fnOf 4 none true m__law_menu
def b__law_wrap_0 : MS :=
  (mIfS (mB (m1 (isi "tuple") (mRd 3))) (mAsg 2 (m2 dAdd (m2 dAdd (m2 dAdd (mRd 2) (mC (.str "F"))) (mCall1 dStr (mCons (mCall1 dLen (mCons (mRd 3) mNil)) mNil))) (mS1 dJoin (mC (.str "")) (mLc [4] (mItems (mRd 3)) (mtN 4) mYes (m2 dAdd (mCall1 dStr (mCons (mCall1 dLen (mCons (mRd 4) mNil)) mNil)) (mRd 4)))))) (mAsg 2 (m2 dAdd (m2 dAdd (mRd 2) (mCall1 dStr (mCons (mCall1 dLen (mCons (mRd 3) mNil)) mNil))) (mRd 3))))
def f__law_wrap_1 : MS :=
  (mFor (mItems (mRd 1)) (mtN 3) b__law_wrap_0)
def m__law_wrap : MS :=
  (mSeq (mAsg 2 (m2 dAdd (m2 dAdd (mC (.str "W")) (mCall1 dStr (mCons (mCall1 dLen (mCons (mRd 0) mNil)) mNil))) (mS1 dJoin (mC (.str "")) (mLc [4] (mItems (mRd 0)) (mtN 4) mYes (m2 dAdd (mCall1 dStr (mCons (mCall1 dLen (mCons (mRd 4) mNil)) mNil)) (mRd 4))))))
  (mSeq f__law_wrap_1
  (mRet (mRd 2))))
def F__law_wrap : Fn := fnOf 5 none false m__law_wrap
def i__law_made_0 : MS :=
  (mIfS (mNot (mB (m1 (isi "tuple") (m2 dIx (mRd 0) (mRd 4))))) (mPut 2 (mTup (mCons (m2 dIx (mRd 0) (mRd 4)) mNil)) (mRd 4)) (mSeq (mAsg 5 (m2 dIx (mRd 1) (m2 dAdd (mRd 4) (mC (.int 1)))))
  (mSeq (mAsg 6 (mWith lfree 2 (m2 dIx (mRd 2) (mRd 5))))
  (mSeq (mIfS (mB (m2 dNe (m2 dIx (mRd 0) (mRd 4)) (mTup mNil))) (mAsg 6 (mTup (mCons (mCall 2 F__law_wrap [] (mCons (m2 dIx (mRd 0) (mRd 4)) (mCons (mSl (mRd 0) (moS (mRd 5)) (moS (m2 dIx (mRd 1) (mRd 5)))) mNil))) mNil))) mSkip)
  (mPut 2 (m2 dAdd (m2 dAdd (mTup (mCons (mTup mNil) mNil)) (mWith lfree 2 (m2 dIx (mRd 2) (m2 dAdd (mRd 4) (mC (.int 1)))))) (mRd 6)) (mRd 4))))))
def b__law_made_1 : MS :=
  (mSeq (mAsg 4 (m2 (dI2 cSub) (m2 (dI2 cSub) (mCall1 dLen (mCons (mRd 0) mNil)) (mC (.int 1))) (mRd 3)))
  i__law_made_0)
def f__law_made_2 : MS :=
  (mFor (mRng1 (mCons (mCall1 dLen (mCons (mRd 0) mNil)) mNil)) (mtN 3) b__law_made_1)
def m__law_made : MS :=
  (mSeq (mAsg 1 (mFz (mCall 1 F__law_kind_ends [] (mCons (mRd 0) mNil))))
  (mSeq (mAsgO 2 (mLc [7] (mItems (mRd 0)) (mtN 7) mYes (mTup mNil)))
  (mSeq f__law_made_2
  (mRet (mWith lfree 2 (m2 dIx (mRd 2) (mC (.int 0))))))))
def F__law_made : Fn := fnOf 8 none false m__law_made
def b__law_quiet_kind_0 : MS :=
  (mSeq (mIfS (mNot (mB (m1 (isi "tuple") (m2 dIx (mRd 2) (mC (.int 0)))))) (fun sv => .bk sv) mSkip)
  (mSeq (mAsg 4 (mCall 1 F__law_split [] (mCons (mRd 2) mNil)))
  (mSeq (mAsg 1 (m2 dAdd (m2 dAdd (mRd 1) (mTup (mCons (mTup mNil) mNil))) (mCall 1 F__law_made [] (mCons (m2 dIx (mRd 4) (mC (.int 0))) mNil))))
  (mAsg 2 (m2 dIx (mRd 4) (mC (.int 2)))))))
def f__law_quiet_kind_1 : MS :=
  (mFor (mRng1 (mCons (mCall1 dLen (mCons (mRd 0) mNil)) mNil)) (mtN 3) b__law_quiet_kind_0)
def m__law_quiet_kind : MS :=
  (mSeq (mAsg 1 (mTup mNil))
  (mSeq (mAsg 2 (mRd 0))
  (mSeq f__law_quiet_kind_1
  (mRet (m2 dAdd (mRd 1) (mRd 2))))))
def F__law_quiet_kind : Fn := fnOf 5 none false m__law_quiet_kind
def b_law_0 : MS :=
  (mSeq (mApp 4 (mTup (mCons (m2 dIx (mMv 2) (mRd 5)) mNil)))
  (mApp 4 (mCall1 dTuple (mCons (mCall1 dSorted (mCons (mSl (mMv 2) moN (moS (m2 dAdd (mRd 5) (mC (.int 1))))) mNil)) mNil))))
def f_law_1 : MS :=
  (mFor (mRng1 (mCons (mCall1 dLen (mCons (mMv 2) mNil)) mNil)) (mtN 5) b_law_0)
def b_law_2 : MS :=
  (mApp 6 (mWith lfree 4 (mCall 3 F__law_kind [] (mCons (mFz (mCall 2 F__law_digits [] (mCons (mCall 2 F__law_cell [] (mCons (mRd 0) (mCons (m2 dAdd (mC (.int 1)) (mRd 5)) mNil))) (mCons (m2 dAdd (m2 dAdd (mLst (mCons (mC (.int 14)) mNil)) (m2 dRep (mLst (mCons (mC (.int 12)) mNil)) (mC (.int 4)))) (m2 dRep (mLst (mCons (mC (.int 8)) mNil)) (mC (.int 4)))) mNil)))) (mCons (mRd 3) (mCons (mRd 4) mNil))))))
def f_law_3 : MS :=
  (mFor (mRng1 (mCons (mC (.int 14)) mNil)) (mtN 5) b_law_2)
def b_law_4 : MS :=
  (mSeq (mAsg 7 (m2 dAdd (m2 dAdd (mTup (mCons (mWith lfree 4 (m2 dIx (mRd 4) (m2 (dI2 cMod) (mCall1 dInt (mCons (m2 dAdd (m2 dIx (mRd 1) (mC (.int 4))) (mRd 5)) mNil)) (mCall1 dLen (mCons (mRd 4) mNil))))) mNil)) (m2 dIx (mLst (mCons (mRd 7) (mCons (mWith lfree 6 (m2 dIx (mRd 6) (m2 dAdd (mRd 5) (mC (.int 1))))) mNil))) (m2 (dI2 cMod) (mRd 5) (mC (.int 2))))) (m2 dIx (mLst (mCons (mWith lfree 6 (m2 dIx (mRd 6) (m2 dAdd (mRd 5) (mC (.int 2))))) (mCons (mRd 7) mNil))) (m2 (dI2 cMod) (mRd 5) (mC (.int 2))))))
  (mSeq (mAsg 7 (m2 dAdd (mSl (mRd 7) moN (moS (mC (.int 1)))) (mSl (mRd 7) (moS (mC (.int 1))) moN)))
  (mIfS (mB (m2 (dCI ciGt) (mCall1 dLen (mCons (mRd 7) mNil)) (mC (.int 41)))) (fun sv => .bk sv) mSkip)))
def f_law_5 : MS :=
  (mFor (mRng1 (mCons (m2 dAdd (mC (.int 1)) (m2 (dI2 cMod) (mCall1 dInt (mCons (m2 dIx (mRd 1) (mC (.int 3))) mNil)) (mC (.int 5)))) mNil)) (mtN 5) b_law_4)
def b_law_6 : MS :=
  (mSeq (mAsg 9 (mCall 1 F_made_kind [] (mCons (mRd 8) mNil)))
  (mSeq (mAsg 10 (mCall 1 F_helper_kind [] (mCons (mRd 8) mNil)))
  (mSeq (mIfS (mOr (mB (m2 dNe (mCall1 dRepr (mCons (mRd 9) mNil)) (mCall1 dRepr (mCons (mCall 1 F__law_made [] (mCons (mRd 8) mNil)) mNil)))) (mB (m2 dNe (mCall1 dRepr (mCons (mRd 10) mNil)) (mCall1 dRepr (mCons (mCall 1 F__law_quiet_kind [] (mCons (mRd 8) mNil)) mNil))))) (mRet (mC (.bl false))) mSkip)
  (mSeq (mIfS (mOr (mB (m2 dIsNot (mCall 1 F_is_kind [] (mCons (mRd 9) mNil)) (mC (.bl true)))) (mB (m2 dIsNot (mCall 1 F_is_kind [] (mCons (mRd 10) mNil)) (mC (.bl true))))) (mRet (mC (.bl false))) mSkip)
  (mIfS (mB (m2 (dCI ciGt) (mCall1 dLen (mCons (mLc [15] (mItems (m2 dAdd (mRd 9) (mRd 10))) (mtN 15) (mAnd (mB (m1 (isi "tuple") (mRd 15))) (mB (m2 dNe (mRd 15) (mTup mNil)))) (mRd 15)) mNil)) (mC (.int 0)))) (mRet (mC (.bl false))) mSkip)))))
def f_law_7 : MS :=
  (mFor (mItems (mMv 6)) (mtN 8) b_law_6)
def i_law_8 : MS :=
  (mIfS (mWith (fun _ => true) 11 (mB (m2 dIn (mTup (mCons (mRd 13) (mCons (mRd 8) mNil))) (mRd 11)))) (mIfS (mB (m2 dNe (mIxO 12 (mWith lfree 11 (mIdx (mRd 11) (mTup (mCons (mRd 13) (mCons (mRd 8) mNil)))))) (mRd 14))) (mRet (mC (.bl false))) mSkip) (mIfS (mWith (fun _ => true) 12 (mB (m2 dIn (mRd 14) (mRd 12)))) (mRet (mC (.bl false))) (mSeq (mApp 11 (mTup (mCons (mRd 13) (mCons (mRd 8) mNil))))
  (mApp 12 (mRd 14)))))
def b_law_9 : MS :=
  (mSeq (mAsg 14 (mCall 2 F_wrap_word [] (mCons (mRd 13) (mCons (mRd 8) mNil))))
  (mSeq (mIfS (mOr (mB (m2 dNe (mCall1 dRepr (mCons (mRd 14) mNil)) (mCall1 dRepr (mCons (mCall 2 F__law_wrap [] (mCons (mRd 13) (mCons (mRd 8) mNil))) mNil)))) (mB (m2 dIsNot (mCall 1 F_is_data_word [] (mCons (mRd 14) mNil)) (mC (.bl true))))) (mRet (mC (.bl false))) mSkip)
  i_law_8))
def f_law_10 : MS :=
  (mFor (mItems (mMv 6)) (mtN 8) b_law_9)
def b_law_11 : MS :=
  f_law_10
def f_law_12 : MS :=
  (mFor (mItems (mSl (mMv 4) (moS (mC (.int 1))) moN)) (mtN 13) b_law_11)
def b_law_13 : MS :=
  (mIfS (mOr (mB (m2 dNe (mCall 1 F_made_kind [] (mCons (mTup (mCons (mRd 14) mNil)) mNil)) (mTup (mCons (mRd 14) mNil)))) (mB (m2 dNe (mCall 1 F_helper_kind [] (mCons (mTup (mCons (mRd 14) mNil)) mNil)) (mTup (mCons (mRd 14) mNil))))) (mRet (mC (.bl false))) mSkip)
def f_law_14 : MS :=
  (mFor (mItems (mRd 3)) (mtN 14) b_law_13)
def m_law : MS :=
  (mSeq (mAsg 1 (mFz (mCall 2 F__law_digits [] (mCons (mCall 2 F__law_cell [] (mCons (mRd 0) (mCons (mC (.int 0)) mNil))) (mCons (mLst (mCons (mC (.int 8)) (mCons (mC (.int 8)) (mCons (mC (.int 5)) (mCons (mC (.int 97)) (mCons (mC (.int 97)) (mCons (mC (.int 12)) (mCons (mC (.int 12)) mNil)))))))) mNil)))))
  (mSeq (mAsgO 2 (mLc [14] (mItems (mSl (mFz (mCall 2 F__law_menu [] (mCons (m2 dIx (mRd 1) (mC (.int 0))) (mCons (mC (.str "ask")) mNil)))) moN (moS (m2 dAdd (mC (.int 1)) (m2 (dI2 cMod) (mCall1 dInt (mCons (m2 dIx (mRd 1) (mC (.int 2))) mNil)) (mC (.int 4))))))) (mtN 14) mYes (mSl (m2 dAdd (mRd 14) (mC (.str "longer0word"))) moN (moS (mCall1 dMax2 (mCons (mCall1 dLen (mCons (mRd 14) mNil)) (mCons (m2 dAdd (m2 dIx (mRd 1) (mC (.int 5))) (mC (.int 1))) mNil)))))))
  (mSeq (mAsg 3 (m2 dAdd (mLc [14] (mItems (mSl (mFz (mCall 2 F__law_menu [] (mCons (m2 dIx (mRd 1) (mC (.int 1))) (mCons (mC (.str "data")) mNil)))) moN (moS (mC (.int 3))))) (mtN 14) mYes (mSl (m2 dAdd (mRd 14) (mC (.str "Longer0word"))) moN (moS (mCall1 dMax2 (mCons (mCall1 dLen (mCons (mRd 14) mNil)) (mCons (m2 dAdd (m2 dIx (mRd 1) (mC (.int 6))) (mC (.int 1))) mNil)))))) (mLst (mCons (mC (.str "o")) (mCons (mC (.str "num")) mNil)))))
  (mSeq (mAsgO 4 (mLst (mCons (mTup mNil) mNil)))
  (mSeq f_law_1
  (mSeq (mAsgO 6 (mLst mNil))
  (mSeq f_law_3
  (mSeq (mAsg 7 (mWith lfree 6 (m2 dIx (mRd 6) (mC (.int 0)))))
  (mSeq f_law_5
  (mSeq (mIfS (mB (m2 (dCI ciLe) (mCall1 dLen (mCons (mRd 7) mNil)) (mC (.int 41)))) (mApp 6 (mRd 7)) mSkip)
  (mSeq f_law_7
  (mSeq (mAsgO 11 (mLst mNil))
  (mSeq (mAsgO 12 (mLst mNil))
  (mSeq f_law_12
  (mSeq f_law_14
  (mRet (mC (.bl true))))))))))))))))))
def F_law : Fn := fnOf 16 none false m_law
end
end VM.K62

set_option Elab.async false
set_option linter.all false
set_option autoImplicit false
set_option maxRecDepth 100000
set_option maxHeartbeats 400000
namespace VM.K62
open PySem PySem.Spec PyProof.Rows L2 VM
abbrev topS (i : Nat) : Stmt := PySem.Challenge.pw_ownleft_k62_made_kinds_and_words.main.body.getD i (.Pass ⟨0, 0, 0, 0⟩)
abbrev s_begins_in : Stmt := topS 8
abbrev N_begins_in : List Str := ["value", "letters", "sign"]
theorem sc_begins_in : FnScope N_begins_in ["value", "letters"] (defScope s_begins_in) := ⟨rfl, rfl, rfl, by decide +kernel, rfl, by decide +kernel, by decide +kernel⟩
abbrev s_is_base_word : Stmt := topS 9
abbrev N_is_base_word : List Str := ["value"]
theorem sc_is_base_word : FnScope N_is_base_word ["value"] (defScope s_is_base_word) := ⟨rfl, rfl, rfl, by decide +kernel, rfl, by decide +kernel, by decide +kernel⟩
abbrev s_is_data_word : Stmt := topS 10
abbrev N_is_data_word : List Str := ["value"]
theorem sc_is_data_word : FnScope N_is_data_word ["value"] (defScope s_is_data_word) := ⟨rfl, rfl, rfl, by decide +kernel, rfl, by decide +kernel, by decide +kernel⟩
abbrev s_is_plain_word : Stmt := topS 11
abbrev N_is_plain_word : List Str := ["value"]
theorem sc_is_plain_word : FnScope N_is_plain_word ["value"] (defScope s_is_plain_word) := ⟨rfl, rfl, rfl, by decide +kernel, rfl, by decide +kernel, by decide +kernel⟩
abbrev s_is_row : Stmt := topS 13
abbrev N_is_row : List Str := ["value", "last", "word"]
theorem sc_is_row : FnScope N_is_row ["value"] (defScope s_is_row) := ⟨rfl, rfl, rfl, by decide +kernel, rfl, by decide +kernel, by decide +kernel⟩
abbrev s_is_kind : Stmt := topS 14
abbrev N_is_kind : List Str := ["value", "missing", "token"]
theorem sc_is_kind : FnScope N_is_kind ["value"] (defScope s_is_kind) := ⟨rfl, rfl, rfl, by decide +kernel, rfl, by decide +kernel, by decide +kernel⟩
abbrev s_kind_ends : Stmt := topS 15
abbrev N_kind_ends : List Str := ["kind", "ends", "back", "place"]
theorem sc_kind_ends : FnScope N_kind_ends ["kind"] (defScope s_kind_ends) := ⟨rfl, rfl, rfl, by decide +kernel, rfl, by decide +kernel, by decide +kernel⟩
abbrev s_function_kind : Stmt := topS 16
abbrev N_function_kind : List Str := ["left", "row", "right"]
theorem sc_function_kind : FnScope N_function_kind ["left", "row", "right"] (defScope s_function_kind) := ⟨rfl, rfl, rfl, by decide +kernel, rfl, by decide +kernel, by decide +kernel⟩
abbrev s_is_function : Stmt := topS 17
abbrev N_is_function : List Str := ["kind"]
theorem sc_is_function : FnScope N_is_function ["kind"] (defScope s_is_function) := ⟨rfl, rfl, rfl, by decide +kernel, rfl, by decide +kernel, by decide +kernel⟩
abbrev s_left_of : Stmt := topS 18
abbrev N_left_of : List Str := ["kind"]
theorem sc_left_of : FnScope N_left_of ["kind"] (defScope s_left_of) := ⟨rfl, rfl, rfl, by decide +kernel, rfl, by decide +kernel, by decide +kernel⟩
abbrev s_right_of : Stmt := topS 19
abbrev N_right_of : List Str := ["kind"]
theorem sc_right_of : FnScope N_right_of ["kind"] (defScope s_right_of) := ⟨rfl, rfl, rfl, by decide +kernel, rfl, by decide +kernel, by decide +kernel⟩
abbrev s_word_code : Stmt := topS 21
abbrev N_word_code : List Str := ["word"]
theorem sc_word_code : FnScope N_word_code ["word"] (defScope s_word_code) := ⟨rfl, rfl, rfl, by decide +kernel, rfl, by decide +kernel, by decide +kernel⟩
abbrev s_kind_code : Stmt := topS 22
abbrev N_kind_code : List Str := ["kind", "code", "token", "word"]
theorem sc_kind_code : FnScope N_kind_code ["kind"] (defScope s_kind_code) := ⟨rfl, rfl, rfl, by decide +kernel, rfl, by decide +kernel, by decide +kernel⟩
abbrev s_wrap_word : Stmt := topS 23
abbrev N_wrap_word : List Str := ["row", "kind", "word"]
theorem sc_wrap_word : FnScope N_wrap_word ["row", "kind"] (defScope s_wrap_word) := ⟨rfl, rfl, rfl, by decide +kernel, rfl, by decide +kernel, by decide +kernel⟩
abbrev s_made_kind : Stmt := topS 24
abbrev N_made_kind : List Str := ["kind", "ends", "made", "back", "place", "token", "middle", "right"]
theorem sc_made_kind : FnScope N_made_kind ["kind"] (defScope s_made_kind) := ⟨rfl, rfl, rfl, by decide +kernel, rfl, by decide +kernel, by decide +kernel⟩
abbrev s_helper_kind : Stmt := topS 25
abbrev N_helper_kind : List Str := ["kind"]
theorem sc_helper_kind : FnScope N_helper_kind ["kind"] (defScope s_helper_kind) := ⟨rfl, rfl, rfl, by decide +kernel, rfl, by decide +kernel, by decide +kernel⟩
abbrev s__law_cell : Stmt := topS 27
abbrev N__law_cell : List Str := ["script", "k", "seed", "cell"]
theorem sc__law_cell : FnScope N__law_cell ["script", "k"] (defScope s__law_cell) := ⟨rfl, rfl, rfl, by decide +kernel, rfl, by decide +kernel, by decide +kernel⟩
abbrev s__law_digits : Stmt := topS 28
abbrev N__law_digits : List Str := ["cell", "sizes", "row", "rest", "size", "seed", "k", "twice"]
theorem sc__law_digits : FnScope N__law_digits ["cell", "sizes"] (defScope s__law_digits) := ⟨rfl, rfl, rfl, by decide +kernel, rfl, by decide +kernel, by decide +kernel⟩
abbrev s__law_kind_ends : Stmt := topS 29
abbrev N__law_kind_ends : List Str := ["kind", "ends", "back", "at", "token"]
theorem sc__law_kind_ends : FnScope N__law_kind_ends ["kind"] (defScope s__law_kind_ends) := ⟨rfl, rfl, rfl, by decide +kernel, rfl, by decide +kernel, by decide +kernel⟩
abbrev s__law_split : Stmt := topS 30
abbrev N__law_split : List Str := ["kind", "middle"]
theorem sc__law_split : FnScope N__law_split ["kind"] (defScope s__law_split) := ⟨rfl, rfl, rfl, by decide +kernel, rfl, by decide +kernel, by decide +kernel⟩
abbrev s__law_kind : Stmt := topS 31
abbrev N__law_kind : List Str := ["row", "words", "rows", "shapes", "kind", "word", "arrow", "sign"]
theorem sc__law_kind : FnScope N__law_kind ["row", "words", "rows"] (defScope s__law_kind) := ⟨rfl, rfl, rfl, by decide +kernel, rfl, by decide +kernel, by decide +kernel⟩
abbrev s__law_menu : Stmt := topS 32
abbrev N__law_menu : List Str := ["digit", "sort_word", "menu", "k"]
theorem sc__law_menu : FnScope N__law_menu ["digit", "sort_word"] (defScope s__law_menu) := ⟨rfl, rfl, rfl, by decide +kernel, rfl, by decide +kernel, by decide +kernel⟩
abbrev s__law_wrap : Stmt := topS 33
abbrev N__law_wrap : List Str := ["row", "kind", "word", "token", "one"]
theorem sc__law_wrap : FnScope N__law_wrap ["row", "kind"] (defScope s__law_wrap) := ⟨rfl, rfl, rfl, by decide +kernel, rfl, by decide +kernel, by decide +kernel⟩
abbrev s__law_made : Stmt := topS 34
abbrev N__law_made : List Str := ["kind", "ends", "made", "back", "at", "middle", "right", "token"]
theorem sc__law_made : FnScope N__law_made ["kind"] (defScope s__law_made) := ⟨rfl, rfl, rfl, by decide +kernel, rfl, by decide +kernel, by decide +kernel⟩
abbrev s__law_quiet_kind : Stmt := topS 35
abbrev N__law_quiet_kind : List Str := ["kind", "parts", "rest", "turn", "split"]
theorem sc__law_quiet_kind : FnScope N__law_quiet_kind ["kind"] (defScope s__law_quiet_kind) := ⟨rfl, rfl, rfl, by decide +kernel, rfl, by decide +kernel, by decide +kernel⟩
abbrev s_law : Stmt := topS 36
abbrev N_law : List Str := ["script", "head", "asks", "words", "rows", "k", "kinds", "long", "kind", "made", "quiet", "pairs", "told", "row", "word", "token"]
theorem sc_law : FnScope N_law ["script"] (defScope s_law) := ⟨rfl, rfl, rfl, by decide +kernel, rfl, by decide +kernel, by decide +kernel⟩
abbrev errFs : List Str := ["kind"]
abbrev sI_BadKind : Stmt := inClass (topS 2) 0
theorem scI_BadKind : FnScope ["self", "kind"] ["self", "kind"] (defScope sI_BadKind) := ⟨rfl, rfl, rfl, by decide +kernel, rfl, by decide +kernel, by decide +kernel⟩
structure Txt (K : PySem.W.Frag) (mg : Str → Option Value) where
  a_begins_in : Addr
  d_begins_in : FuncData
  F_begins_in : Fun K "begins_in" "begins_in" s_begins_in a_begins_in d_begins_in
  g_begins_in : mg "begins_in" = some (.ref a_begins_in)
  b_begins_in : Binds K d_begins_in ["value", "letters"] []
  a_is_base_word : Addr
  d_is_base_word : FuncData
  F_is_base_word : Fun K "is_base_word" "is_base_word" s_is_base_word a_is_base_word d_is_base_word
  g_is_base_word : mg "is_base_word" = some (.ref a_is_base_word)
  b_is_base_word : Binds K d_is_base_word ["value"] []
  a_is_data_word : Addr
  d_is_data_word : FuncData
  F_is_data_word : Fun K "is_data_word" "is_data_word" s_is_data_word a_is_data_word d_is_data_word
  g_is_data_word : mg "is_data_word" = some (.ref a_is_data_word)
  b_is_data_word : Binds K d_is_data_word ["value"] []
  a_is_plain_word : Addr
  d_is_plain_word : FuncData
  F_is_plain_word : Fun K "is_plain_word" "is_plain_word" s_is_plain_word a_is_plain_word d_is_plain_word
  g_is_plain_word : mg "is_plain_word" = some (.ref a_is_plain_word)
  b_is_plain_word : Binds K d_is_plain_word ["value"] []
  a_is_row : Addr
  d_is_row : FuncData
  F_is_row : Fun K "is_row" "is_row" s_is_row a_is_row d_is_row
  g_is_row : mg "is_row" = some (.ref a_is_row)
  b_is_row : Binds K d_is_row ["value"] []
  a_is_kind : Addr
  d_is_kind : FuncData
  F_is_kind : Fun K "is_kind" "is_kind" s_is_kind a_is_kind d_is_kind
  g_is_kind : mg "is_kind" = some (.ref a_is_kind)
  b_is_kind : Binds K d_is_kind ["value"] []
  a_kind_ends : Addr
  d_kind_ends : FuncData
  F_kind_ends : Fun K "kind_ends" "kind_ends" s_kind_ends a_kind_ends d_kind_ends
  g_kind_ends : mg "kind_ends" = some (.ref a_kind_ends)
  b_kind_ends : Binds K d_kind_ends ["kind"] []
  a_function_kind : Addr
  d_function_kind : FuncData
  F_function_kind : Fun K "function_kind" "function_kind" s_function_kind a_function_kind d_function_kind
  g_function_kind : mg "function_kind" = some (.ref a_function_kind)
  b_function_kind : Binds K d_function_kind ["left", "row", "right"] []
  a_is_function : Addr
  d_is_function : FuncData
  F_is_function : Fun K "is_function" "is_function" s_is_function a_is_function d_is_function
  g_is_function : mg "is_function" = some (.ref a_is_function)
  b_is_function : Binds K d_is_function ["kind"] []
  a_left_of : Addr
  d_left_of : FuncData
  F_left_of : Fun K "left_of" "left_of" s_left_of a_left_of d_left_of
  g_left_of : mg "left_of" = some (.ref a_left_of)
  b_left_of : Binds K d_left_of ["kind"] []
  a_right_of : Addr
  d_right_of : FuncData
  F_right_of : Fun K "right_of" "right_of" s_right_of a_right_of d_right_of
  g_right_of : mg "right_of" = some (.ref a_right_of)
  b_right_of : Binds K d_right_of ["kind"] []
  a_word_code : Addr
  d_word_code : FuncData
  F_word_code : Fun K "word_code" "word_code" s_word_code a_word_code d_word_code
  g_word_code : mg "word_code" = some (.ref a_word_code)
  b_word_code : Binds K d_word_code ["word"] []
  a_kind_code : Addr
  d_kind_code : FuncData
  F_kind_code : Fun K "kind_code" "kind_code" s_kind_code a_kind_code d_kind_code
  g_kind_code : mg "kind_code" = some (.ref a_kind_code)
  b_kind_code : Binds K d_kind_code ["kind"] []
  a_wrap_word : Addr
  d_wrap_word : FuncData
  F_wrap_word : Fun K "wrap_word" "wrap_word" s_wrap_word a_wrap_word d_wrap_word
  g_wrap_word : mg "wrap_word" = some (.ref a_wrap_word)
  b_wrap_word : Binds K d_wrap_word ["row", "kind"] []
  a_made_kind : Addr
  d_made_kind : FuncData
  F_made_kind : Fun K "made_kind" "made_kind" s_made_kind a_made_kind d_made_kind
  g_made_kind : mg "made_kind" = some (.ref a_made_kind)
  b_made_kind : Binds K d_made_kind ["kind"] []
  a_helper_kind : Addr
  d_helper_kind : FuncData
  F_helper_kind : Fun K "helper_kind" "helper_kind" s_helper_kind a_helper_kind d_helper_kind
  g_helper_kind : mg "helper_kind" = some (.ref a_helper_kind)
  b_helper_kind : Binds K d_helper_kind ["kind"] []
  a__law_cell : Addr
  d__law_cell : FuncData
  F__law_cell : Fun K "_law_cell" "_law_cell" s__law_cell a__law_cell d__law_cell
  g__law_cell : mg "_law_cell" = some (.ref a__law_cell)
  b__law_cell : Binds K d__law_cell ["script", "k"] []
  a__law_digits : Addr
  d__law_digits : FuncData
  F__law_digits : Fun K "_law_digits" "_law_digits" s__law_digits a__law_digits d__law_digits
  g__law_digits : mg "_law_digits" = some (.ref a__law_digits)
  b__law_digits : Binds K d__law_digits ["cell", "sizes"] []
  a__law_kind_ends : Addr
  d__law_kind_ends : FuncData
  F__law_kind_ends : Fun K "_law_kind_ends" "_law_kind_ends" s__law_kind_ends a__law_kind_ends d__law_kind_ends
  g__law_kind_ends : mg "_law_kind_ends" = some (.ref a__law_kind_ends)
  b__law_kind_ends : Binds K d__law_kind_ends ["kind"] []
  a__law_split : Addr
  d__law_split : FuncData
  F__law_split : Fun K "_law_split" "_law_split" s__law_split a__law_split d__law_split
  g__law_split : mg "_law_split" = some (.ref a__law_split)
  b__law_split : Binds K d__law_split ["kind"] []
  a__law_kind : Addr
  d__law_kind : FuncData
  F__law_kind : Fun K "_law_kind" "_law_kind" s__law_kind a__law_kind d__law_kind
  g__law_kind : mg "_law_kind" = some (.ref a__law_kind)
  b__law_kind : Binds K d__law_kind ["row", "words", "rows"] []
  a__law_menu : Addr
  d__law_menu : FuncData
  F__law_menu : Fun K "_law_menu" "_law_menu" s__law_menu a__law_menu d__law_menu
  g__law_menu : mg "_law_menu" = some (.ref a__law_menu)
  b__law_menu : Binds K d__law_menu ["digit", "sort_word"] []
  a__law_wrap : Addr
  d__law_wrap : FuncData
  F__law_wrap : Fun K "_law_wrap" "_law_wrap" s__law_wrap a__law_wrap d__law_wrap
  g__law_wrap : mg "_law_wrap" = some (.ref a__law_wrap)
  b__law_wrap : Binds K d__law_wrap ["row", "kind"] []
  a__law_made : Addr
  d__law_made : FuncData
  F__law_made : Fun K "_law_made" "_law_made" s__law_made a__law_made d__law_made
  g__law_made : mg "_law_made" = some (.ref a__law_made)
  b__law_made : Binds K d__law_made ["kind"] []
  a__law_quiet_kind : Addr
  d__law_quiet_kind : FuncData
  F__law_quiet_kind : Fun K "_law_quiet_kind" "_law_quiet_kind" s__law_quiet_kind a__law_quiet_kind d__law_quiet_kind
  g__law_quiet_kind : mg "_law_quiet_kind" = some (.ref a__law_quiet_kind)
  b__law_quiet_kind : Binds K d__law_quiet_kind ["kind"] []
  a_law : Addr
  d_law : FuncData
  F_law : Fun K "law" "law" s_law a_law d_law
  g_law : mg "law" = some (.ref a_law)
  b_law : Binds K d_law ["script"] []
  ad_RESERVED : Addr
  c_RESERVED : mg "RESERVED" = some (.ref ad_RESERVED)
  k_RESERVED : KTup K ad_RESERVED ["fun", "of", "case", "ask", "keep", "under", "as", "to", "with", "gives", "data", "maker"]
  t_CAPITAL : PySem.Tok
  c_CAPITAL : mg "CAPITAL" = some (.str "ABCDEFGHIJKLMNOPQRSTUVWXYZ" t_CAPITAL)
  t_SIGNS : PySem.Tok
  c_SIGNS : mg "SIGNS" = some (.str "abcdefghijklmnopqrstuvwxyzABCDEFGHIJKLMNOPQRSTUVWXYZ0123456789" t_SIGNS)
  t_SMALL : PySem.Tok
  c_SMALL : mg "SMALL" = some (.str "abcdefghijklmnopqrstuvwxyz" t_SMALL)
  n_int : mg "int" = none
  n_isinstance : mg "isinstance" = none
  n_len : mg "len" = none
  n_max : mg "max" = none
  n_range : mg "range" = none
  n_repr : mg "repr" = none
  n_sorted : mg "sorted" = none
  n_str : mg "str" = none
  n_tuple : mg "tuple" = none
  err : ErrT K mg errTop errNs errFs
  i_BadKind : Addr
  di_BadKind : FuncData
  I_BadKind : Fun K "__init__" "BadKind.__init__" sI_BadKind i_BadKind di_BadKind
  iC_BadKind : PySem.W.findIn K (.ref (adIn K "BadKind")) "__init__" = some (some (.ref i_BadKind))
  tI_BadKind : PySem.W.typeIn K (.ref i_BadKind) = some (.type "function")
  bI_BadKind : Binds K di_BadKind ["self", "kind"] []
section
variable {P : Program} {w : World} {K : PySem.W.Frag} {mg : Str → Option Value} {base : Heap}
theorem ini_BadKind (T : Txt K mg) : FnOk P w K mg base CX0 1 T.i_BadKind T.di_BadKind ["self", "kind"] (spIni1 (adIn K "BadKind") "kind") := ini1_ok T.I_BadKind scI_BadKind (T.err.o _ (by decide +kernel)) (T.err.nf _ (by decide +kernel) _ (by decide +kernel)) fun cdv A outer s H E => pss_one (ps_ost (pv 0) (pv 1))
set_option maxHeartbeats 4000000 in
theorem ok_begins_in (T : Txt K mg) : FnG P w K mg base 1 T.a_begins_in T.d_begins_in ["value", "letters"] (spV K mg 2 none false F_begins_in) :=
  fn_ok (N := N_begins_in) (io := none) (ro := false) (body := m_begins_in) T.F_begins_in sc_begins_in rfl (by decide) fun cdv A outer s H E c =>
  (ss_cons (ss_if (PW.pt (sw_or (st_not (st_val (se_isi (T := "str") (by rfl) T.n_isinstance (by rfl) T.n_str (by decide +kernel) (se_rd (pv 0))))) (sw_or1 (st_eq c.u5 (se_rd (pv 0)) se_str)))) (ss_one (ss_ret se_bl)) ss_nil)
  (ss_cons (ss_if (st_notIn c.u5 (se_ix (se_rd (pv 0)) se_int) (se_rd (pv 1))) (ss_one (ss_ret se_bl)) ss_nil)
  (ss_cons (ss_for c.po rfl (si_seq (se_rd (pv 0))) (sg_name (pg_name (i := 2) sc_begins_in.nd rfl (by first | exact .inl rfl | exact .inr rfl)))
  (ss_one (ss_if (st_notIn c.u5 (se_rd (pv 2)) (se_glob (by rfl) T.c_SIGNS)) (ss_one (ss_ret se_bl)) ss_nil)))
  (ss_one (ss_ret se_bl)))))
set_option maxHeartbeats 4000000 in
theorem ok_is_base_word (T : Txt K mg) : FnG P w K mg base 2 T.a_is_base_word T.d_is_base_word ["value"] (spV K mg 1 none false F_is_base_word) :=
  fn_ok (N := N_is_base_word) (io := none) (ro := false) (body := m_is_base_word) T.F_is_base_word sc_is_base_word rfl (by decide) fun cdv A outer s H E c =>
  (ss_one (ss_ret (se_call c (by decide) (ok_begins_in T) (by rfl) T.g_begins_in T.F_begins_in.kp T.b_begins_in .nil DefOk.nil (sa_cons (se_rd (pv 0)) (sa_cons (se_glob (by rfl) T.c_SMALL) sa_nil)))))
set_option maxHeartbeats 4000000 in
theorem ok_is_data_word (T : Txt K mg) : FnG P w K mg base 2 T.a_is_data_word T.d_is_data_word ["value"] (spV K mg 1 none false F_is_data_word) :=
  fn_ok (N := N_is_data_word) (io := none) (ro := false) (body := m_is_data_word) T.F_is_data_word sc_is_data_word rfl (by decide) fun cdv A outer s H E c =>
  (ss_one (ss_ret (se_call c (by decide) (ok_begins_in T) (by rfl) T.g_begins_in T.F_begins_in.kp T.b_begins_in .nil DefOk.nil (sa_cons (se_rd (pv 0)) (sa_cons (se_glob (by rfl) T.c_CAPITAL) sa_nil)))))
set_option maxHeartbeats 4000000 in
theorem ok_is_plain_word (T : Txt K mg) : FnG P w K mg base 3 T.a_is_plain_word T.d_is_plain_word ["value"] (spV K mg 1 none false F_is_plain_word) :=
  fn_ok (N := N_is_plain_word) (io := none) (ro := false) (body := m_is_plain_word) T.F_is_plain_word sc_is_plain_word rfl (by decide) fun cdv A outer s H E c =>
  (ss_one (ss_ret (se_and (se_call c (by decide) (ok_is_base_word T) (by rfl) T.g_is_base_word T.F_is_base_word.kp T.b_is_base_word .nil DefOk.nil (sa_cons (se_rd (pv 0)) sa_nil)) (se_one (se_notIn c.u5 (se_rd (pv 0)) (se_globT (by rfl) T.c_RESERVED T.k_RESERVED))))))
set_option maxHeartbeats 4000000 in
theorem ok_is_row (T : Txt K mg) : FnG P w K mg base 4 T.a_is_row T.d_is_row ["value"] (spV K mg 1 none false F_is_row) :=
  fn_ok (N := N_is_row) (io := none) (ro := false) (body := m_is_row) T.F_is_row sc_is_row rfl (by decide) fun cdv A outer s H E c =>
  (ss_cons (ss_if (st_not (st_val (se_isi (T := "tuple") (by rfl) T.n_isinstance (by rfl) T.n_tuple boot_tuple' (se_rd (pv 0))))) (ss_one (ss_ret se_bl)) ss_nil)
  (ss_cons (ss_set (i := 1) (fun te he => ps_set (i := 1) sc_is_row.nd rfl (by first | exact .inl rfl | exact .inr rfl) he) se_non)
  (ss_cons (ss_for c.po rfl (si_seq (se_rd (pv 0))) (sg_name (pg_name (i := 2) sc_is_row.nd rfl (by first | exact .inl rfl | exact .inr rfl)))
  (ss_cons (ss_if (st_not (st_val (se_call c (by decide) (ok_is_plain_word T) (by rfl) T.g_is_plain_word T.F_is_plain_word.kp T.b_is_plain_word .nil DefOk.nil (sa_cons (se_rd (pv 2)) sa_nil)))) (ss_one (ss_ret se_bl)) ss_nil)
  (ss_cons (ss_if (PW.pt (sw_and (st_isNot (se_rd (pv 1)) se_non) (sw_and1 (st_not (st_lt (se_rd (pv 1)) (se_rd (pv 2))))))) (ss_one (ss_ret se_bl)) ss_nil)
  (ss_one (ss_set (i := 1) (fun te he => ps_set (i := 1) sc_is_row.nd rfl (by first | exact .inl rfl | exact .inr rfl) he) (se_rd (pv 2)))))))
  (ss_one (ss_ret se_bl)))))
set_option maxHeartbeats 4000000 in
theorem ok_is_kind (T : Txt K mg) : FnG P w K mg base 5 T.a_is_kind T.d_is_kind ["value"] (spV K mg 1 none false F_is_kind) :=
  fn_ok (N := N_is_kind) (io := none) (ro := false) (body := m_is_kind) T.F_is_kind sc_is_kind rfl (by decide) fun cdv A outer s H E c =>
  (ss_cons (ss_if (st_not (st_val (se_isi (T := "tuple") (by rfl) T.n_isinstance (by rfl) T.n_tuple boot_tuple' (se_rd (pv 0))))) (ss_one (ss_ret se_bl)) ss_nil)
  (ss_cons (ss_set (i := 1) (fun te he => ps_set (i := 1) sc_is_kind.nd rfl (by first | exact .inl rfl | exact .inr rfl) he) se_int)
  (ss_cons (ss_for c.po rfl (si_seq (se_rd (pv 0))) (sg_name (pg_name (i := 2) sc_is_kind.nd rfl (by first | exact .inl rfl | exact .inr rfl)))
  (ss_cons (ss_if (st_eq c.u5 (se_rd (pv 1)) se_int) (ss_one (ss_ret se_bl)) ss_nil)
  (ss_one (ss_if (st_val (se_call c (by decide) (ok_is_row T) (by rfl) T.g_is_row T.F_is_row.kp T.b_is_row .nil DefOk.nil (sa_cons (se_rd (pv 2)) sa_nil))) (ss_one (ss_set (i := 1) (fun te he => ps_set (i := 1) sc_is_kind.nd rfl (by first | exact .inl rfl | exact .inr rfl) he) (se_add (se_rd (pv 1)) se_int))) (ss_one (ss_if (PW.pt (sw_or (st_val (se_call c (by decide) (ok_is_base_word T) (by rfl) T.g_is_base_word T.F_is_base_word.kp T.b_is_base_word .nil DefOk.nil (sa_cons (se_rd (pv 2)) sa_nil))) (sw_or1 (st_val (se_call c (by decide) (ok_is_data_word T) (by rfl) T.g_is_data_word T.F_is_data_word.kp T.b_is_data_word .nil DefOk.nil (sa_cons (se_rd (pv 2)) sa_nil)))))) (ss_one (ss_set (i := 1) (fun te he => ps_set (i := 1) sc_is_kind.nd rfl (by first | exact .inl rfl | exact .inr rfl) he) (se_sub (se_rd (pv 1)) se_int))) (ss_one (ss_ret se_bl))))))))
  (ss_one (ss_ret (se_eq c.u5 (se_rd (pv 1)) se_int))))))
set_option maxHeartbeats 4000000 in
theorem ok_kind_ends (T : Txt K mg) : FnG P w K mg base 1 T.a_kind_ends T.d_kind_ends ["kind"] (spV K mg 1 none false F_kind_ends) :=
  fn_ok (N := N_kind_ends) (io := none) (ro := false) (body := m_kind_ends) T.F_kind_ends sc_kind_ends rfl (by decide) fun cdv A outer s H E c =>
  (ss_cons (ss_setO (i := 1) (fun te he => ps_set (i := 1) sc_kind_ends.nd rfl (by first | exact .inl rfl | exact .inr rfl) he) (so_rep (se_of (so_lst (sa_cons se_int sa_nil))) (se_len (by rfl) T.n_len (sa_cons (se_rd (pv 0)) sa_nil))))
  (ss_cons (ss_for c.po rfl (si_range1 (by rfl) T.n_range (sa_cons (se_len (by rfl) T.n_len (sa_cons (se_rd (pv 0)) sa_nil)) sa_nil)) (sg_name (pg_name (i := 2) sc_kind_ends.nd rfl (by first | exact .inl rfl | exact .inr rfl)))
  (ss_cons (ss_set (i := 3) (fun te he => ps_set (i := 3) sc_kind_ends.nd rfl (by first | exact .inl rfl | exact .inr rfl) he) (se_sub (se_sub (se_len (by rfl) T.n_len (sa_cons (se_rd (pv 0)) sa_nil)) se_int) (se_rd (pv 2))))
  (ss_cons (ss_put (fun te ti he hi => ps_asg he (pg_sub (pv 1) hi set_list)) (se_add (se_rd (pv 3)) se_int) (se_rd (pv 3)))
  (ss_one (ss_if (st_val (se_isi (T := "tuple") (by rfl) T.n_isinstance (by rfl) T.n_tuple boot_tuple' (se_ix (se_rd (pv 0)) (se_rd (pv 3))))) (ss_one (ss_put (fun te ti he hi => ps_asg he (pg_sub (pv 1) hi set_list)) (se_with (se_ix (se_rd (pv 1)) (se_ix (se_rd (pv 1)) (se_add (se_rd (pv 3)) se_int)))) (se_rd (pv 3)))) ss_nil)))))
  (ss_one (ss_ret (se_tuplec (by rfl) T.n_tuple (sa_cons (se_mv (pv 1)) sa_nil))))))
set_option maxHeartbeats 4000000 in
theorem ok_function_kind (T : Txt K mg) : FnG P w K mg base 1 T.a_function_kind T.d_function_kind ["left", "row", "right"] (spV K mg 3 none false F_function_kind) :=
  fn_ok (N := N_function_kind) (io := none) (ro := false) (body := m_function_kind) T.F_function_kind sc_function_kind rfl (by decide) fun cdv A outer s H E c =>
  (ss_one (ss_ret (se_add (se_add (se_tup (sa_cons (se_rd (pv 1)) sa_nil)) (se_rd (pv 0))) (se_rd (pv 2)))))
set_option maxHeartbeats 4000000 in
theorem ok_is_function (T : Txt K mg) : FnG P w K mg base 1 T.a_is_function T.d_is_function ["kind"] (spV K mg 1 none false F_is_function) :=
  fn_ok (N := N_is_function) (io := none) (ro := false) (body := m_is_function) T.F_is_function sc_is_function rfl (by decide) fun cdv A outer s H E c =>
  (ss_one (ss_ret (se_isi (T := "tuple") (by rfl) T.n_isinstance (by rfl) T.n_tuple boot_tuple' (se_ix (se_rd (pv 0)) se_int))))
set_option maxHeartbeats 4000000 in
theorem ok_left_of (T : Txt K mg) : FnG P w K mg base 3 T.a_left_of T.d_left_of ["kind"] (spV K mg 1 none false F_left_of) :=
  fn_ok (N := N_left_of) (io := none) (ro := false) (body := m_left_of) T.F_left_of sc_left_of rfl (by decide) fun cdv A outer s H E c =>
  (ss_cons (ss_if (st_not (st_val (se_call c (by decide) (ok_is_function T) (by rfl) T.g_is_function T.F_is_function.kp T.b_is_function .nil DefOk.nil (sa_cons (se_rd (pv 0)) sa_nil)))) (ss_one (ss_raise1 c (by decide) rfl T.err (by decide +kernel) T.iC_BadKind T.tI_BadKind (ini_BadKind T) T.bI_BadKind (by rfl) (sa_cons (se_rd (pv 0)) sa_nil))) ss_nil)
  (ss_one (ss_ret (se_slice (se_rd (pv 0)) (sp_some se_int) (sp_some (se_ix (se_call c (by decide) (ok_kind_ends T) (by rfl) T.g_kind_ends T.F_kind_ends.kp T.b_kind_ends .nil DefOk.nil (sa_cons (se_rd (pv 0)) sa_nil)) se_int))))))
set_option maxHeartbeats 4000000 in
theorem ok_right_of (T : Txt K mg) : FnG P w K mg base 3 T.a_right_of T.d_right_of ["kind"] (spV K mg 1 none false F_right_of) :=
  fn_ok (N := N_right_of) (io := none) (ro := false) (body := m_right_of) T.F_right_of sc_right_of rfl (by decide) fun cdv A outer s H E c =>
  (ss_cons (ss_if (st_not (st_val (se_call c (by decide) (ok_is_function T) (by rfl) T.g_is_function T.F_is_function.kp T.b_is_function .nil DefOk.nil (sa_cons (se_rd (pv 0)) sa_nil)))) (ss_one (ss_raise1 c (by decide) rfl T.err (by decide +kernel) T.iC_BadKind T.tI_BadKind (ini_BadKind T) T.bI_BadKind (by rfl) (sa_cons (se_rd (pv 0)) sa_nil))) ss_nil)
  (ss_one (ss_ret (se_slice (se_rd (pv 0)) (sp_some (se_ix (se_call c (by decide) (ok_kind_ends T) (by rfl) T.g_kind_ends T.F_kind_ends.kp T.b_kind_ends .nil DefOk.nil (sa_cons (se_rd (pv 0)) sa_nil)) se_int)) sp_none))))
set_option maxHeartbeats 4000000 in
theorem ok_word_code (T : Txt K mg) : FnG P w K mg base 1 T.a_word_code T.d_word_code ["word"] (spV K mg 1 none false F_word_code) :=
  fn_ok (N := N_word_code) (io := none) (ro := false) (body := m_word_code) T.F_word_code sc_word_code rfl (by decide) fun cdv A outer s H E c =>
  (ss_one (ss_ret (se_add (se_strc (by rfl) T.n_str (sa_cons (se_len (by rfl) T.n_len (sa_cons (se_rd (pv 0)) sa_nil)) sa_nil)) (se_rd (pv 0)))))
set_option maxHeartbeats 4000000 in
theorem ok_kind_code (T : Txt K mg) : FnG P w K mg base 2 T.a_kind_code T.d_kind_code ["kind"] (spV K mg 1 none false F_kind_code) :=
  fn_ok (N := N_kind_code) (io := none) (ro := false) (body := m_kind_code) T.F_kind_code sc_kind_code rfl (by decide) fun cdv A outer s H E c =>
  (ss_cons (ss_set (i := 1) (fun te he => ps_set (i := 1) sc_kind_code.nd rfl (by first | exact .inl rfl | exact .inr rfl) he) se_str)
  (ss_cons (ss_for c.po rfl (si_seq (se_rd (pv 0))) (sg_name (pg_name (i := 2) sc_kind_code.nd rfl (by first | exact .inl rfl | exact .inr rfl)))
  (ss_one (ss_if (st_val (se_isi (T := "tuple") (by rfl) T.n_isinstance (by rfl) T.n_tuple boot_tuple' (se_rd (pv 2)))) (ss_one (ss_set (i := 1) (fun te he => ps_set (i := 1) sc_kind_code.nd rfl (by first | exact .inl rfl | exact .inr rfl) he) (se_add (se_add (se_add (se_rd (pv 1)) se_str) (se_strc (by rfl) T.n_str (sa_cons (se_len (by rfl) T.n_len (sa_cons (se_rd (pv 2)) sa_nil)) sa_nil))) (se_join (pe_m1 PySem.F.slot_str_join PySem.F.type_str_join mt_join se_str (se_of (so_lc (own := [("word", 3)]) rfl sc_kind_code.nd (si_seq (se_rd (pv 2))) (blkOk_by (N := N_kind_code) (sc := defScope s_kind_code) (by decide +kernel)) (by decide) (fun s H C cl fp => (sg_name (pg_name (i := 3) sc_kind_code.nd rfl (by first | exact .inl rfl | exact .inr rfl)))) (fun s H C cl fp => sts_nil) (fun s H C cl fp => (se_call (c.blk s H _ _ fp) (by decide) (ok_word_code T) (by rfl) T.g_word_code T.F_word_code.kp T.b_word_code .nil DefOk.nil (sa_cons (se_rd (pv 3)) sa_nil)))))))))) (ss_one (ss_set (i := 1) (fun te he => ps_set (i := 1) sc_kind_code.nd rfl (by first | exact .inl rfl | exact .inr rfl) he) (se_add (se_rd (pv 1)) (se_call c (by decide) (ok_word_code T) (by rfl) T.g_word_code T.F_word_code.kp T.b_word_code .nil DefOk.nil (sa_cons (se_rd (pv 2)) sa_nil))))))))
  (ss_one (ss_ret (se_rd (pv 1))))))
set_option maxHeartbeats 4000000 in
theorem ok_wrap_word (T : Txt K mg) : FnG P w K mg base 3 T.a_wrap_word T.d_wrap_word ["row", "kind"] (spV K mg 2 none false F_wrap_word) :=
  fn_ok (N := N_wrap_word) (io := none) (ro := false) (body := m_wrap_word) T.F_wrap_word sc_wrap_word rfl (by decide) fun cdv A outer s H E c =>
  (ss_one (ss_ret (se_add (se_add (se_add se_str (se_strc (by rfl) T.n_str (sa_cons (se_len (by rfl) T.n_len (sa_cons (se_rd (pv 0)) sa_nil)) sa_nil))) (se_join (pe_m1 PySem.F.slot_str_join PySem.F.type_str_join mt_join se_str (se_of (so_lc (own := [("word", 2)]) rfl sc_wrap_word.nd (si_seq (se_rd (pv 0))) (blkOk_by (N := N_wrap_word) (sc := defScope s_wrap_word) (by decide +kernel)) (by decide) (fun s H C cl fp => (sg_name (pg_name (i := 2) sc_wrap_word.nd rfl (by first | exact .inl rfl | exact .inr rfl)))) (fun s H C cl fp => sts_nil) (fun s H C cl fp => (se_call (c.blk s H _ _ fp) (by decide) (ok_word_code T) (by rfl) T.g_word_code T.F_word_code.kp T.b_word_code .nil DefOk.nil (sa_cons (se_rd (pv 2)) sa_nil)))))))) (se_call c (by decide) (ok_kind_code T) (by rfl) T.g_kind_code T.F_kind_code.kp T.b_kind_code .nil DefOk.nil (sa_cons (se_rd (pv 1)) sa_nil)))))
set_option maxHeartbeats 4000000 in
theorem ok_made_kind (T : Txt K mg) : FnG P w K mg base 4 T.a_made_kind T.d_made_kind ["kind"] (spV K mg 1 none false F_made_kind) :=
  fn_ok (N := N_made_kind) (io := none) (ro := false) (body := m_made_kind) T.F_made_kind sc_made_kind rfl (by decide) fun cdv A outer s H E c =>
  (ss_cons (ss_set (i := 1) (fun te he => ps_set (i := 1) sc_made_kind.nd rfl (by first | exact .inl rfl | exact .inr rfl) he) (se_call c (by decide) (ok_kind_ends T) (by rfl) T.g_kind_ends T.F_kind_ends.kp T.b_kind_ends .nil DefOk.nil (sa_cons (se_rd (pv 0)) sa_nil)))
  (ss_cons (ss_setO (i := 2) (fun te he => ps_set (i := 2) sc_made_kind.nd rfl (by first | exact .inl rfl | exact .inr rfl) he) (so_rep (se_of (so_lst (sa_cons (se_tup sa_nil) sa_nil))) (se_len (by rfl) T.n_len (sa_cons (se_rd (pv 0)) sa_nil))))
  (ss_cons (ss_for c.po rfl (si_range1 (by rfl) T.n_range (sa_cons (se_len (by rfl) T.n_len (sa_cons (se_rd (pv 0)) sa_nil)) sa_nil)) (sg_name (pg_name (i := 3) sc_made_kind.nd rfl (by first | exact .inl rfl | exact .inr rfl)))
  (ss_cons (ss_set (i := 4) (fun te he => ps_set (i := 4) sc_made_kind.nd rfl (by first | exact .inl rfl | exact .inr rfl) he) (se_sub (se_sub (se_len (by rfl) T.n_len (sa_cons (se_rd (pv 0)) sa_nil)) se_int) (se_rd (pv 3))))
  (ss_cons (ss_set (i := 5) (fun te he => ps_set (i := 5) sc_made_kind.nd rfl (by first | exact .inl rfl | exact .inr rfl) he) (se_ix (se_rd (pv 0)) (se_rd (pv 4))))
  (ss_one (ss_if (st_not (st_val (se_isi (T := "tuple") (by rfl) T.n_isinstance (by rfl) T.n_tuple boot_tuple' (se_rd (pv 5))))) (ss_one (ss_put (fun te ti he hi => ps_asg he (pg_sub (pv 2) hi set_list)) (se_tup (sa_cons (se_rd (pv 5)) sa_nil)) (se_rd (pv 4)))) (ss_cons (ss_set (i := 6) (fun te he => ps_set (i := 6) sc_made_kind.nd rfl (by first | exact .inl rfl | exact .inr rfl) he) (se_ix (se_rd (pv 1)) (se_add (se_rd (pv 4)) se_int)))
  (ss_cons (ss_set (i := 7) (fun te he => ps_set (i := 7) sc_made_kind.nd rfl (by first | exact .inl rfl | exact .inr rfl) he) (se_if (st_eq c.u5 (se_rd (pv 5)) (se_tup sa_nil)) (se_with (se_ix (se_rd (pv 2)) (se_rd (pv 6)))) (se_tup (sa_cons (se_call c (by decide) (ok_wrap_word T) (by rfl) T.g_wrap_word T.F_wrap_word.kp T.b_wrap_word .nil DefOk.nil (sa_cons (se_rd (pv 5)) (sa_cons (se_slice (se_rd (pv 0)) (sp_some (se_rd (pv 6))) (sp_some (se_ix (se_rd (pv 1)) (se_rd (pv 6))))) sa_nil))) sa_nil))))
  (ss_one (ss_put (fun te ti he hi => ps_asg he (pg_sub (pv 2) hi set_list)) (se_call c (by decide) (ok_function_kind T) (by rfl) T.g_function_kind T.F_function_kind.kp T.b_function_kind .nil DefOk.nil (sa_cons (se_with (se_ix (se_rd (pv 2)) (se_add (se_rd (pv 4)) se_int))) (sa_cons (se_tup sa_nil) (sa_cons (se_rd (pv 7)) sa_nil)))) (se_rd (pv 4)))))))))))
  (ss_one (ss_ret (se_with (se_ix (se_rd (pv 2)) se_int)))))))
set_option maxHeartbeats 4000000 in
theorem rec_helper_kind (T : Txt K mg) : ∀ n, FnG P w K mg base (5 + n) T.a_helper_kind T.d_helper_kind ["kind"] (spV K mg 1 none false (R_helper_kind n)) := fn_rec rfl (fun _ => rfl) fun n ih =>
  fn_ok (N := N_helper_kind) (io := none) (ro := false) (body := m_helper_kind (R_helper_kind n)) T.F_helper_kind sc_helper_kind rfl (by decide) fun cdv A outer s H E c =>
  (ss_cons (ss_if (st_not (st_val (se_call c (by omega) (ok_is_function T) (by rfl) T.g_is_function T.F_is_function.kp T.b_is_function .nil DefOk.nil (sa_cons (se_rd (pv 0)) sa_nil)))) (ss_one (ss_ret (se_rd (pv 0)))) ss_nil)
  (ss_one (ss_ret (se_call c (by omega) (ok_function_kind T) (by rfl) T.g_function_kind T.F_function_kind.kp T.b_function_kind .nil DefOk.nil (sa_cons (se_call c (by omega) (ok_made_kind T) (by rfl) T.g_made_kind T.F_made_kind.kp T.b_made_kind .nil DefOk.nil (sa_cons (se_call c (by omega) (ok_left_of T) (by rfl) T.g_left_of T.F_left_of.kp T.b_left_of .nil DefOk.nil (sa_cons (se_rd (pv 0)) sa_nil)) sa_nil)) (sa_cons (se_tup sa_nil) (sa_cons (se_call c (by omega) ih (by rfl) T.g_helper_kind T.F_helper_kind.kp T.b_helper_kind .nil DefOk.nil (sa_cons (se_call c (by omega) (ok_right_of T) (by rfl) T.g_right_of T.F_right_of.kp T.b_right_of .nil DefOk.nil (sa_cons (se_rd (pv 0)) sa_nil)) sa_nil)) sa_nil)))))))
theorem ok_helper_kind (T : Txt K mg) : FnG P w K mg base 69 T.a_helper_kind T.d_helper_kind ["kind"] (spV K mg 1 none false F_helper_kind) := rec_helper_kind T 64
set_option maxHeartbeats 4000000 in
theorem ok__law_cell (T : Txt K mg) : FnG P w K mg base 1 T.a__law_cell T.d__law_cell ["script", "k"] (spV K mg 2 none false F__law_cell) :=
  fn_ok (N := N__law_cell) (io := none) (ro := false) (body := m__law_cell) T.F__law_cell sc__law_cell rfl (by decide) fun cdv A outer s H E c =>
  (ss_cons (ss_if (st_lt (se_rd (pv 1)) (se_len (by rfl) T.n_len (sa_cons (se_rd (pv 0)) sa_nil))) (ss_one (ss_ret (se_ix (se_rd (pv 0)) (se_rd (pv 1))))) ss_nil)
  (ss_cons (ss_set (i := 2) (fun te he => ps_set (i := 2) sc__law_cell.nd rfl (by first | exact .inl rfl | exact .inr rfl) he) se_int)
  (ss_cons (ss_for c.po rfl (si_seq (se_rd (pv 0))) (sg_name (pg_name (i := 3) sc__law_cell.nd rfl (by first | exact .inl rfl | exact .inr rfl)))
  (ss_one (ss_set (i := 2) (fun te he => ps_set (i := 2) sc__law_cell.nd rfl (by first | exact .inl rfl | exact .inr rfl) he) (se_mod (se_intc (by rfl) T.n_int (sa_cons (se_add (se_mul (se_rd (pv 2)) se_int) (se_mod (se_intc (by rfl) T.n_int (sa_cons (se_rd (pv 3)) sa_nil)) se_int)) sa_nil)) se_int))))
  (ss_one (ss_ret (se_mod (se_intc (by rfl) T.n_int (sa_cons (se_mul (se_mul (se_add (se_rd (pv 2)) se_int) (se_add (se_rd (pv 1)) se_int)) se_int) sa_nil)) se_int))))))
set_option maxHeartbeats 4000000 in
theorem ok__law_digits (T : Txt K mg) : FnG P w K mg base 1 T.a__law_digits T.d__law_digits ["cell", "sizes"] (spV K mg 2 none true F__law_digits) :=
  fn_ok (N := N__law_digits) (io := none) (ro := true) (body := m__law_digits) T.F__law_digits sc__law_digits rfl (by decide) fun cdv A outer s H E c =>
  (ss_cons (ss_setO (i := 2) (fun te he => ps_set (i := 2) sc__law_digits.nd rfl (by first | exact .inl rfl | exact .inr rfl) he) (so_lst sa_nil))
  (ss_cons (ss_set (i := 3) (fun te he => ps_set (i := 3) sc__law_digits.nd rfl (by first | exact .inl rfl | exact .inr rfl) he) (se_intc (by rfl) T.n_int (sa_cons (se_rd (pv 0)) sa_nil)))
  (ss_cons (ss_if (st_ge (se_rd (pv 3)) (se_pow se_int se_int)) (ss_cons (ss_set (i := 3) (fun te he => ps_set (i := 3) sc__law_digits.nd rfl (by first | exact .inl rfl | exact .inr rfl) he) (se_sub (se_rd (pv 3)) (se_pow se_int se_int)))
  (ss_cons (ss_for c.po rfl (si_seq (se_rd (pv 1))) (sg_name (pg_name (i := 4) sc__law_digits.nd rfl (by first | exact .inl rfl | exact .inr rfl)))
  (ss_cons (ss_app (i := 2) (fun te he => pe_bm PySem.F.plainAttrs_list PySem.F.slot_list_append PySem.F.type_list_append mt_append (pv 2) (pa_cons he pa_nil)) (se_mod (se_intc (by rfl) T.n_int (sa_cons (se_rd (pv 3)) sa_nil)) (se_rd (pv 4))))
  (ss_one (ss_set (i := 3) (fun te he => ps_set (i := 3) sc__law_digits.nd rfl (by first | exact .inl rfl | exact .inr rfl) he) (se_div (se_intc (by rfl) T.n_int (sa_cons (se_rd (pv 3)) sa_nil)) (se_rd (pv 4)))))))
  (ss_one (ss_retO (so_tk (pv 2)))))) ss_nil)
  (ss_cons (ss_set (i := 5) (fun te he => ps_set (i := 5) sc__law_digits.nd rfl (by first | exact .inl rfl | exact .inr rfl) he) (se_mod (se_intc (by rfl) T.n_int (sa_cons (se_rd (pv 3)) sa_nil)) se_int))
  (ss_cons (ss_for c.po rfl (si_range1 (by rfl) T.n_range (sa_cons (se_len (by rfl) T.n_len (sa_cons (se_rd (pv 1)) sa_nil)) sa_nil)) (sg_name (pg_name (i := 6) sc__law_digits.nd rfl (by first | exact .inl rfl | exact .inr rfl)))
  (ss_cons (ss_set (i := 5) (fun te he => ps_set (i := 5) sc__law_digits.nd rfl (by first | exact .inl rfl | exact .inr rfl) he) (se_mod (se_intc (by rfl) T.n_int (sa_cons (se_add (se_add (se_mul (se_rd (pv 5)) se_int) (se_mul se_int (se_rd (pv 6)))) se_int) sa_nil)) se_int))
  (ss_cons (ss_set (i := 7) (fun te he => ps_set (i := 7) sc__law_digits.nd rfl (by first | exact .inl rfl | exact .inr rfl) he) (se_mod (se_intc (by rfl) T.n_int (sa_cons (se_mul (se_rd (pv 5)) (se_add (se_div (se_rd (pv 5)) se_int) se_int)) sa_nil)) se_int))
  (ss_one (ss_app (i := 2) (fun te he => pe_bm PySem.F.plainAttrs_list PySem.F.slot_list_append PySem.F.type_list_append mt_append (pv 2) (pa_cons he pa_nil)) (se_mod (se_div (se_rd (pv 7)) se_int) (se_ix (se_rd (pv 1)) (se_rd (pv 6)))))))))
  (ss_one (ss_retO (so_tk (pv 2)))))))))
set_option maxHeartbeats 4000000 in
theorem ok__law_kind_ends (T : Txt K mg) : FnG P w K mg base 1 T.a__law_kind_ends T.d__law_kind_ends ["kind"] (spV K mg 1 none true F__law_kind_ends) :=
  fn_ok (N := N__law_kind_ends) (io := none) (ro := true) (body := m__law_kind_ends) T.F__law_kind_ends sc__law_kind_ends rfl (by decide) fun cdv A outer s H E c =>
  (ss_cons (lc_set (i := 1) (own := [("token", 4)]) (ps_setLc (i := 1) (own := [("token", 4)]) rfl sc__law_kind_ends.nd rfl rfl (sw_true rfl rfl rfl (by decide +kernel)) (si_seq (se_rd (pv 0))) (blkOk_by (N := N__law_kind_ends) (sc := defScope s__law_kind_ends) (by decide +kernel)) (fun s H C cl fp => (sg_name (pg_name (i := 4) sc__law_kind_ends.nd rfl (by first | exact .inl rfl | exact .inr rfl)))) (fun s H C cl fp => sts_nil) (fun s H C cl fp => se_int)) (by decide))
  (ss_cons (ss_for c.po rfl (si_range1 (by rfl) T.n_range (sa_cons (se_len (by rfl) T.n_len (sa_cons (se_rd (pv 0)) sa_nil)) sa_nil)) (sg_name (pg_name (i := 2) sc__law_kind_ends.nd rfl (by first | exact .inl rfl | exact .inr rfl)))
  (ss_cons (ss_set (i := 3) (fun te he => ps_set (i := 3) sc__law_kind_ends.nd rfl (by first | exact .inl rfl | exact .inr rfl) he) (se_sub (se_sub (se_len (by rfl) T.n_len (sa_cons (se_rd (pv 0)) sa_nil)) se_int) (se_rd (pv 2))))
  (ss_cons (ss_put (fun te ti he hi => ps_asg he (pg_sub (pv 1) hi set_list)) (se_add (se_rd (pv 3)) se_int) (se_rd (pv 3)))
  (ss_one (ss_if (st_val (se_isi (T := "tuple") (by rfl) T.n_isinstance (by rfl) T.n_tuple boot_tuple' (se_ix (se_rd (pv 0)) (se_rd (pv 3))))) (ss_one (ss_put (fun te ti he hi => ps_asg he (pg_sub (pv 1) hi set_list)) (se_with (se_ix (se_rd (pv 1)) (se_ix (se_rd (pv 1)) (se_add (se_rd (pv 3)) se_int)))) (se_rd (pv 3)))) ss_nil)))))
  (ss_one (ss_retO (so_tk (pv 1))))))
set_option maxHeartbeats 4000000 in
theorem ok__law_split (T : Txt K mg) : FnG P w K mg base 2 T.a__law_split T.d__law_split ["kind"] (spV K mg 1 none false F__law_split) :=
  fn_ok (N := N__law_split) (io := none) (ro := false) (body := m__law_split) T.F__law_split sc__law_split rfl (by decide) fun cdv A outer s H E c =>
  (ss_cons (ss_set (i := 1) (fun te he => ps_set (i := 1) sc__law_split.nd rfl (by first | exact .inl rfl | exact .inr rfl) he) (se_ix (se_fz (so_call c (by decide) (ok__law_kind_ends T) (by rfl) T.g__law_kind_ends T.F__law_kind_ends.kp T.b__law_kind_ends .nil DefOk.nil (sa_cons (se_rd (pv 0)) sa_nil))) se_int))
  (ss_one (ss_ret (se_tup (sa_cons (se_slice (se_rd (pv 0)) (sp_some se_int) (sp_some (se_rd (pv 1)))) (sa_cons (se_ix (se_rd (pv 0)) se_int) (sa_cons (se_slice (se_rd (pv 0)) (sp_some (se_rd (pv 1))) sp_none) sa_nil)))))))
set_option maxHeartbeats 4000000 in
theorem ok__law_kind (T : Txt K mg) : FnG P w K mg base 1 T.a__law_kind T.d__law_kind ["row", "words", "rows"] (spV K mg 3 none false F__law_kind) :=
  fn_ok (N := N__law_kind) (io := none) (ro := false) (body := m__law_kind) T.F__law_kind sc__law_kind rfl (by decide) fun cdv A outer s H E c =>
  (ss_cons (ss_set (i := 3) (fun te he => ps_set (i := 3) sc__law_kind.nd rfl (by first | exact .inl rfl | exact .inr rfl) he) (se_of (so_lst (sa_cons se_str (sa_cons se_str (sa_cons se_str (sa_cons se_str (sa_cons se_str (sa_cons se_str (sa_cons se_str (sa_cons se_str (sa_cons se_str (sa_cons se_str (sa_cons se_str (sa_cons se_str (sa_cons se_str (sa_cons se_str sa_nil)))))))))))))))))
  (ss_cons (ss_set (i := 4) (fun te he => ps_set (i := 4) sc__law_kind.nd rfl (by first | exact .inl rfl | exact .inr rfl) he) (se_tup sa_nil))
  (ss_cons (ss_set (i := 5) (fun te he => ps_set (i := 5) sc__law_kind.nd rfl (by first | exact .inl rfl | exact .inr rfl) he) se_int)
  (ss_cons (ss_set (i := 6) (fun te he => ps_set (i := 6) sc__law_kind.nd rfl (by first | exact .inl rfl | exact .inr rfl) he) se_int)
  (ss_cons (ss_for c.po rfl (si_seq (se_ix (se_rd (pv 3)) (se_mod (se_intc (by rfl) T.n_int (sa_cons (se_ix (se_rd (pv 0)) se_int) sa_nil)) se_int))) (sg_name (pg_name (i := 7) sc__law_kind.nd rfl (by first | exact .inl rfl | exact .inr rfl)))
  (ss_one (ss_if (st_eq c.u5 (se_rd (pv 7)) se_str) (ss_cons (ss_set (i := 4) (fun te he => ps_set (i := 4) sc__law_kind.nd rfl (by first | exact .inl rfl | exact .inr rfl) he) (se_add (se_rd (pv 4)) (se_tup (sa_cons (se_ix (se_rd (pv 1)) (se_mod (se_intc (by rfl) T.n_int (sa_cons (se_add (se_ix (se_rd (pv 0)) (se_add se_int (se_mod (se_rd (pv 5)) se_int))) (se_div (se_rd (pv 5)) se_int)) sa_nil)) (se_len (by rfl) T.n_len (sa_cons (se_rd (pv 1)) sa_nil)))) sa_nil))))
  (ss_one (ss_set (i := 5) (fun te he => ps_set (i := 5) sc__law_kind.nd rfl (by first | exact .inl rfl | exact .inr rfl) he) (se_add (se_rd (pv 5)) se_int)))) (ss_cons (ss_set (i := 4) (fun te he => ps_set (i := 4) sc__law_kind.nd rfl (by first | exact .inl rfl | exact .inr rfl) he) (se_add (se_rd (pv 4)) (se_tup (sa_cons (se_ix (se_rd (pv 2)) (se_mod (se_intc (by rfl) T.n_int (sa_cons (se_add (se_ix (se_rd (pv 0)) (se_add se_int (se_mod (se_rd (pv 6)) se_int))) (se_div (se_rd (pv 6)) se_int)) sa_nil)) (se_len (by rfl) T.n_len (sa_cons (se_rd (pv 2)) sa_nil)))) sa_nil))))
  (ss_one (ss_set (i := 6) (fun te he => ps_set (i := 6) sc__law_kind.nd rfl (by first | exact .inl rfl | exact .inr rfl) he) (se_add (se_rd (pv 6)) se_int)))))))
  (ss_one (ss_ret (se_rd (pv 4)))))))))
set_option maxHeartbeats 4000000 in
theorem ok__law_menu (T : Txt K mg) : FnG P w K mg base 1 T.a__law_menu T.d__law_menu ["digit", "sort_word"] (spV K mg 2 none true F__law_menu) :=
  fn_ok (N := N__law_menu) (io := none) (ro := true) (body := m__law_menu) T.F__law_menu sc__law_menu rfl (by decide) fun cdv A outer s H E c =>
  (ss_cons (ss_if (st_eq c.u5 (se_rd (pv 1)) se_str) (ss_one (ss_set (i := 2) (fun te he => ps_set (i := 2) sc__law_menu.nd rfl (by first | exact .inl rfl | exact .inr rfl) he) (se_of (so_lst (sa_cons se_str (sa_cons se_str (sa_cons se_str (sa_cons se_str (sa_cons se_str (sa_cons se_str (sa_cons se_str (sa_cons se_str sa_nil)))))))))))) (ss_one (ss_if (st_eq c.u5 (se_rd (pv 1)) se_str) (ss_one (ss_set (i := 2) (fun te he => ps_set (i := 2) sc__law_menu.nd rfl (by first | exact .inl rfl | exact .inr rfl) he) (se_of (so_lst (sa_cons se_str (sa_cons se_str (sa_cons se_str (sa_cons se_str (sa_cons se_str (sa_cons se_str (sa_cons se_str (sa_cons se_str sa_nil)))))))))))) (ss_one (ss_set (i := 2) (fun te he => ps_set (i := 2) sc__law_menu.nd rfl (by first | exact .inl rfl | exact .inr rfl) he) (se_of (so_lst (sa_cons se_str (sa_cons se_str (sa_cons se_str (sa_cons se_str (sa_cons se_str (sa_cons se_str (sa_cons se_str (sa_cons se_str sa_nil)))))))))))))))
  (ss_one (ss_retO (so_lc (own := [("k", 3)]) rfl sc__law_menu.nd (si_range1 (by rfl) T.n_range (sa_cons se_int sa_nil)) (blkOk_by (N := N__law_menu) (sc := defScope s__law_menu) (by decide +kernel)) (by decide) (fun s H C cl fp => (sg_name (pg_name (i := 3) sc__law_menu.nd rfl (by first | exact .inl rfl | exact .inr rfl)))) (fun s H C cl fp => sts_nil) (fun s H C cl fp => (se_ix (se_rd (pv 2)) (se_mod (se_intc (by rfl) T.n_int (sa_cons (se_add (se_rd (pv 0)) (se_rd (pv 3))) sa_nil)) se_int)))))))
set_option maxHeartbeats 4000000 in
theorem ok__law_wrap (T : Txt K mg) : FnG P w K mg base 1 T.a__law_wrap T.d__law_wrap ["row", "kind"] (spV K mg 2 none false F__law_wrap) :=
  fn_ok (N := N__law_wrap) (io := none) (ro := false) (body := m__law_wrap) T.F__law_wrap sc__law_wrap rfl (by decide) fun cdv A outer s H E c =>
  (ss_cons (ss_set (i := 2) (fun te he => ps_set (i := 2) sc__law_wrap.nd rfl (by first | exact .inl rfl | exact .inr rfl) he) (se_add (se_add se_str (se_strc (by rfl) T.n_str (sa_cons (se_len (by rfl) T.n_len (sa_cons (se_rd (pv 0)) sa_nil)) sa_nil))) (se_join (pe_m1 PySem.F.slot_str_join PySem.F.type_str_join mt_join se_str (se_of (so_lc (own := [("one", 4)]) rfl sc__law_wrap.nd (si_seq (se_rd (pv 0))) (blkOk_by (N := N__law_wrap) (sc := defScope s__law_wrap) (by decide +kernel)) (by decide) (fun s H C cl fp => (sg_name (pg_name (i := 4) sc__law_wrap.nd rfl (by first | exact .inl rfl | exact .inr rfl)))) (fun s H C cl fp => sts_nil) (fun s H C cl fp => (se_add (se_strc (by rfl) T.n_str (sa_cons (se_len (by rfl) T.n_len (sa_cons (se_rd (pv 4)) sa_nil)) sa_nil)) (se_rd (pv 4))))))))))
  (ss_cons (ss_for c.po rfl (si_seq (se_rd (pv 1))) (sg_name (pg_name (i := 3) sc__law_wrap.nd rfl (by first | exact .inl rfl | exact .inr rfl)))
  (ss_one (ss_if (st_val (se_isi (T := "tuple") (by rfl) T.n_isinstance (by rfl) T.n_tuple boot_tuple' (se_rd (pv 3)))) (ss_one (ss_set (i := 2) (fun te he => ps_set (i := 2) sc__law_wrap.nd rfl (by first | exact .inl rfl | exact .inr rfl) he) (se_add (se_add (se_add (se_rd (pv 2)) se_str) (se_strc (by rfl) T.n_str (sa_cons (se_len (by rfl) T.n_len (sa_cons (se_rd (pv 3)) sa_nil)) sa_nil))) (se_join (pe_m1 PySem.F.slot_str_join PySem.F.type_str_join mt_join se_str (se_of (so_lc (own := [("one", 4)]) rfl sc__law_wrap.nd (si_seq (se_rd (pv 3))) (blkOk_by (N := N__law_wrap) (sc := defScope s__law_wrap) (by decide +kernel)) (by decide) (fun s H C cl fp => (sg_name (pg_name (i := 4) sc__law_wrap.nd rfl (by first | exact .inl rfl | exact .inr rfl)))) (fun s H C cl fp => sts_nil) (fun s H C cl fp => (se_add (se_strc (by rfl) T.n_str (sa_cons (se_len (by rfl) T.n_len (sa_cons (se_rd (pv 4)) sa_nil)) sa_nil)) (se_rd (pv 4))))))))))) (ss_one (ss_set (i := 2) (fun te he => ps_set (i := 2) sc__law_wrap.nd rfl (by first | exact .inl rfl | exact .inr rfl) he) (se_add (se_add (se_rd (pv 2)) (se_strc (by rfl) T.n_str (sa_cons (se_len (by rfl) T.n_len (sa_cons (se_rd (pv 3)) sa_nil)) sa_nil))) (se_rd (pv 3))))))))
  (ss_one (ss_ret (se_rd (pv 2))))))
set_option maxHeartbeats 4000000 in
theorem ok__law_made (T : Txt K mg) : FnG P w K mg base 2 T.a__law_made T.d__law_made ["kind"] (spV K mg 1 none false F__law_made) :=
  fn_ok (N := N__law_made) (io := none) (ro := false) (body := m__law_made) T.F__law_made sc__law_made rfl (by decide) fun cdv A outer s H E c =>
  (ss_cons (ss_set (i := 1) (fun te he => ps_set (i := 1) sc__law_made.nd rfl (by first | exact .inl rfl | exact .inr rfl) he) (se_fz (so_call c (by decide) (ok__law_kind_ends T) (by rfl) T.g__law_kind_ends T.F__law_kind_ends.kp T.b__law_kind_ends .nil DefOk.nil (sa_cons (se_rd (pv 0)) sa_nil))))
  (ss_cons (lc_set (i := 2) (own := [("token", 7)]) (ps_setLc (i := 2) (own := [("token", 7)]) rfl sc__law_made.nd rfl rfl (sw_true rfl rfl rfl (by decide +kernel)) (si_seq (se_rd (pv 0))) (blkOk_by (N := N__law_made) (sc := defScope s__law_made) (by decide +kernel)) (fun s H C cl fp => (sg_name (pg_name (i := 7) sc__law_made.nd rfl (by first | exact .inl rfl | exact .inr rfl)))) (fun s H C cl fp => sts_nil) (fun s H C cl fp => (se_tup sa_nil))) (by decide))
  (ss_cons (ss_for c.po rfl (si_range1 (by rfl) T.n_range (sa_cons (se_len (by rfl) T.n_len (sa_cons (se_rd (pv 0)) sa_nil)) sa_nil)) (sg_name (pg_name (i := 3) sc__law_made.nd rfl (by first | exact .inl rfl | exact .inr rfl)))
  (ss_cons (ss_set (i := 4) (fun te he => ps_set (i := 4) sc__law_made.nd rfl (by first | exact .inl rfl | exact .inr rfl) he) (se_sub (se_sub (se_len (by rfl) T.n_len (sa_cons (se_rd (pv 0)) sa_nil)) se_int) (se_rd (pv 3))))
  (ss_one (ss_if (st_not (st_val (se_isi (T := "tuple") (by rfl) T.n_isinstance (by rfl) T.n_tuple boot_tuple' (se_ix (se_rd (pv 0)) (se_rd (pv 4)))))) (ss_one (ss_put (fun te ti he hi => ps_asg he (pg_sub (pv 2) hi set_list)) (se_tup (sa_cons (se_ix (se_rd (pv 0)) (se_rd (pv 4))) sa_nil)) (se_rd (pv 4)))) (ss_cons (ss_set (i := 5) (fun te he => ps_set (i := 5) sc__law_made.nd rfl (by first | exact .inl rfl | exact .inr rfl) he) (se_ix (se_rd (pv 1)) (se_add (se_rd (pv 4)) se_int)))
  (ss_cons (ss_set (i := 6) (fun te he => ps_set (i := 6) sc__law_made.nd rfl (by first | exact .inl rfl | exact .inr rfl) he) (se_with (se_ix (se_rd (pv 2)) (se_rd (pv 5)))))
  (ss_cons (ss_if (st_ne c.u5 (se_ix (se_rd (pv 0)) (se_rd (pv 4))) (se_tup sa_nil)) (ss_one (ss_set (i := 6) (fun te he => ps_set (i := 6) sc__law_made.nd rfl (by first | exact .inl rfl | exact .inr rfl) he) (se_tup (sa_cons (se_call c (by decide) (ok__law_wrap T) (by rfl) T.g__law_wrap T.F__law_wrap.kp T.b__law_wrap .nil DefOk.nil (sa_cons (se_ix (se_rd (pv 0)) (se_rd (pv 4))) (sa_cons (se_slice (se_rd (pv 0)) (sp_some (se_rd (pv 5))) (sp_some (se_ix (se_rd (pv 1)) (se_rd (pv 5))))) sa_nil))) sa_nil)))) ss_nil)
  (ss_one (ss_put (fun te ti he hi => ps_asg he (pg_sub (pv 2) hi set_list)) (se_add (se_add (se_tup (sa_cons (se_tup sa_nil) sa_nil)) (se_with (se_ix (se_rd (pv 2)) (se_add (se_rd (pv 4)) se_int)))) (se_rd (pv 6))) (se_rd (pv 4)))))))))))
  (ss_one (ss_ret (se_with (se_ix (se_rd (pv 2)) se_int)))))))
set_option maxHeartbeats 4000000 in
theorem ok__law_quiet_kind (T : Txt K mg) : FnG P w K mg base 3 T.a__law_quiet_kind T.d__law_quiet_kind ["kind"] (spV K mg 1 none false F__law_quiet_kind) :=
  fn_ok (N := N__law_quiet_kind) (io := none) (ro := false) (body := m__law_quiet_kind) T.F__law_quiet_kind sc__law_quiet_kind rfl (by decide) fun cdv A outer s H E c =>
  (ss_cons (ss_set (i := 1) (fun te he => ps_set (i := 1) sc__law_quiet_kind.nd rfl (by first | exact .inl rfl | exact .inr rfl) he) (se_tup sa_nil))
  (ss_cons (ss_set (i := 2) (fun te he => ps_set (i := 2) sc__law_quiet_kind.nd rfl (by first | exact .inl rfl | exact .inr rfl) he) (se_rd (pv 0)))
  (ss_cons (ss_for c.po rfl (si_range1 (by rfl) T.n_range (sa_cons (se_len (by rfl) T.n_len (sa_cons (se_rd (pv 0)) sa_nil)) sa_nil)) (sg_name (pg_name (i := 3) sc__law_quiet_kind.nd rfl (by first | exact .inl rfl | exact .inr rfl)))
  (ss_cons (ss_if (st_not (st_val (se_isi (T := "tuple") (by rfl) T.n_isinstance (by rfl) T.n_tuple boot_tuple' (se_ix (se_rd (pv 2)) se_int)))) (ss_one ss_break) ss_nil)
  (ss_cons (ss_set (i := 4) (fun te he => ps_set (i := 4) sc__law_quiet_kind.nd rfl (by first | exact .inl rfl | exact .inr rfl) he) (se_call c (by decide) (ok__law_split T) (by rfl) T.g__law_split T.F__law_split.kp T.b__law_split .nil DefOk.nil (sa_cons (se_rd (pv 2)) sa_nil)))
  (ss_cons (ss_set (i := 1) (fun te he => ps_set (i := 1) sc__law_quiet_kind.nd rfl (by first | exact .inl rfl | exact .inr rfl) he) (se_add (se_add (se_rd (pv 1)) (se_tup (sa_cons (se_tup sa_nil) sa_nil))) (se_call c (by decide) (ok__law_made T) (by rfl) T.g__law_made T.F__law_made.kp T.b__law_made .nil DefOk.nil (sa_cons (se_ix (se_rd (pv 4)) se_int) sa_nil))))
  (ss_one (ss_set (i := 2) (fun te he => ps_set (i := 2) sc__law_quiet_kind.nd rfl (by first | exact .inl rfl | exact .inr rfl) he) (se_ix (se_rd (pv 4)) se_int)))))))
  (ss_one (ss_ret (se_add (se_rd (pv 1)) (se_rd (pv 2))))))))
set_option maxHeartbeats 4000000 in
theorem ok_law (T : Txt K mg) : FnG P w K mg base 70 T.a_law T.d_law ["script"] (spV K mg 1 none false F_law) :=
  fn_ok (N := N_law) (io := none) (ro := false) (body := m_law) T.F_law sc_law rfl (by decide) fun cdv A outer s H E c =>
  (ss_cons (ss_set (i := 1) (fun te he => ps_set (i := 1) sc_law.nd rfl (by first | exact .inl rfl | exact .inr rfl) he) (se_fz (so_call c (by decide) (ok__law_digits T) (by rfl) T.g__law_digits T.F__law_digits.kp T.b__law_digits .nil DefOk.nil (sa_cons (se_call c (by decide) (ok__law_cell T) (by rfl) T.g__law_cell T.F__law_cell.kp T.b__law_cell .nil DefOk.nil (sa_cons (se_rd (pv 0)) (sa_cons se_int sa_nil))) (sa_cons (se_of (so_lst (sa_cons se_int (sa_cons se_int (sa_cons se_int (sa_cons se_int (sa_cons se_int (sa_cons se_int (sa_cons se_int sa_nil))))))))) sa_nil)))))
  (ss_cons (lc_set (i := 2) (own := [("word", 14)]) (ps_setLc (i := 2) (own := [("word", 14)]) rfl sc_law.nd rfl rfl (sw_true rfl rfl rfl (by decide +kernel)) (si_seq (se_slice (se_fz (so_call c (by decide) (ok__law_menu T) (by rfl) T.g__law_menu T.F__law_menu.kp T.b__law_menu .nil DefOk.nil (sa_cons (se_ix (se_rd (pv 1)) se_int) (sa_cons se_str sa_nil)))) sp_none (sp_some (se_add se_int (se_mod (se_intc (by rfl) T.n_int (sa_cons (se_ix (se_rd (pv 1)) se_int) sa_nil)) se_int))))) (blkOk_by (N := N_law) (sc := defScope s_law) (by decide +kernel)) (fun s H C cl fp => (sg_name (pg_name (i := 14) sc_law.nd rfl (by first | exact .inl rfl | exact .inr rfl)))) (fun s H C cl fp => sts_nil) (fun s H C cl fp => (se_slice (se_add (se_rd (pv 14)) se_str) sp_none (sp_some (se_max rfl (by rfl) T.n_max (sa_cons (se_len (by rfl) T.n_len (sa_cons (se_rd (pv 14)) sa_nil)) (sa_cons (se_add (se_ix (se_rd (pv 1)) se_int) se_int) sa_nil))))))) (by decide))
  (ss_cons (ss_set (i := 3) (fun te he => ps_set (i := 3) sc_law.nd rfl (by first | exact .inl rfl | exact .inr rfl) he) (se_add (se_of (so_lc (own := [("word", 14)]) rfl sc_law.nd (si_seq (se_slice (se_fz (so_call c (by decide) (ok__law_menu T) (by rfl) T.g__law_menu T.F__law_menu.kp T.b__law_menu .nil DefOk.nil (sa_cons (se_ix (se_rd (pv 1)) se_int) (sa_cons se_str sa_nil)))) sp_none (sp_some se_int))) (blkOk_by (N := N_law) (sc := defScope s_law) (by decide +kernel)) (by decide) (fun s H C cl fp => (sg_name (pg_name (i := 14) sc_law.nd rfl (by first | exact .inl rfl | exact .inr rfl)))) (fun s H C cl fp => sts_nil) (fun s H C cl fp => (se_slice (se_add (se_rd (pv 14)) se_str) sp_none (sp_some (se_max rfl (by rfl) T.n_max (sa_cons (se_len (by rfl) T.n_len (sa_cons (se_rd (pv 14)) sa_nil)) (sa_cons (se_add (se_ix (se_rd (pv 1)) se_int) se_int) sa_nil)))))))) (se_of (so_lst (sa_cons se_str (sa_cons se_str sa_nil))))))
  (ss_cons (ss_setO (i := 4) (fun te he => ps_set (i := 4) sc_law.nd rfl (by first | exact .inl rfl | exact .inr rfl) he) (so_lst (sa_cons (se_tup sa_nil) sa_nil)))
  (ss_cons (ss_for c.po rfl (si_range1 (by rfl) T.n_range (sa_cons (se_len (by rfl) T.n_len (sa_cons (se_mv (pv 2)) sa_nil)) sa_nil)) (sg_name (pg_name (i := 5) sc_law.nd rfl (by first | exact .inl rfl | exact .inr rfl)))
  (ss_cons (ss_app (i := 4) (fun te he => pe_bm PySem.F.plainAttrs_list PySem.F.slot_list_append PySem.F.type_list_append mt_append (pv 4) (pa_cons he pa_nil)) (se_tup (sa_cons (se_ix (se_mv (pv 2)) (se_rd (pv 5))) sa_nil)))
  (ss_one (ss_app (i := 4) (fun te he => pe_bm PySem.F.plainAttrs_list PySem.F.slot_list_append PySem.F.type_list_append mt_append (pv 4) (pa_cons he pa_nil)) (se_tuplec (by rfl) T.n_tuple (sa_cons (se_of (so_sorted (by rfl) T.n_sorted (sa_cons (se_slice (se_mv (pv 2)) sp_none (sp_some (se_add (se_rd (pv 5)) se_int))) sa_nil))) sa_nil))))))
  (ss_cons (ss_setO (i := 6) (fun te he => ps_set (i := 6) sc_law.nd rfl (by first | exact .inl rfl | exact .inr rfl) he) (so_lst sa_nil))
  (ss_cons (ss_for c.po rfl (si_range1 (by rfl) T.n_range (sa_cons se_int sa_nil)) (sg_name (pg_name (i := 5) sc_law.nd rfl (by first | exact .inl rfl | exact .inr rfl)))
  (ss_one (ss_app (i := 6) (fun te he => pe_bm PySem.F.plainAttrs_list PySem.F.slot_list_append PySem.F.type_list_append mt_append (pv 6) (pa_cons he pa_nil)) (se_with (se_call c (by decide) (ok__law_kind T) (by rfl) T.g__law_kind T.F__law_kind.kp T.b__law_kind .nil DefOk.nil (sa_cons (se_fz (so_call c (by decide) (ok__law_digits T) (by rfl) T.g__law_digits T.F__law_digits.kp T.b__law_digits .nil DefOk.nil (sa_cons (se_call c (by decide) (ok__law_cell T) (by rfl) T.g__law_cell T.F__law_cell.kp T.b__law_cell .nil DefOk.nil (sa_cons (se_rd (pv 0)) (sa_cons (se_add se_int (se_rd (pv 5))) sa_nil))) (sa_cons (se_add (se_add (se_of (so_lst (sa_cons se_int sa_nil))) (se_rep (se_of (so_lst (sa_cons se_int sa_nil))) se_int)) (se_rep (se_of (so_lst (sa_cons se_int sa_nil))) se_int)) sa_nil)))) (sa_cons (se_rd (pv 3)) (sa_cons (se_rd (pv 4)) sa_nil))))))))
  (ss_cons (ss_set (i := 7) (fun te he => ps_set (i := 7) sc_law.nd rfl (by first | exact .inl rfl | exact .inr rfl) he) (se_with (se_ix (se_rd (pv 6)) se_int)))
  (ss_cons (ss_for c.po rfl (si_range1 (by rfl) T.n_range (sa_cons (se_add se_int (se_mod (se_intc (by rfl) T.n_int (sa_cons (se_ix (se_rd (pv 1)) se_int) sa_nil)) se_int)) sa_nil)) (sg_name (pg_name (i := 5) sc_law.nd rfl (by first | exact .inl rfl | exact .inr rfl)))
  (ss_cons (ss_set (i := 7) (fun te he => ps_set (i := 7) sc_law.nd rfl (by first | exact .inl rfl | exact .inr rfl) he) (se_add (se_add (se_tup (sa_cons (se_with (se_ix (se_rd (pv 4)) (se_mod (se_intc (by rfl) T.n_int (sa_cons (se_add (se_ix (se_rd (pv 1)) se_int) (se_rd (pv 5))) sa_nil)) (se_len (by rfl) T.n_len (sa_cons (se_rd (pv 4)) sa_nil))))) sa_nil)) (se_ix (se_of (so_lst (sa_cons (se_rd (pv 7)) (sa_cons (se_with (se_ix (se_rd (pv 6)) (se_add (se_rd (pv 5)) se_int))) sa_nil)))) (se_mod (se_rd (pv 5)) se_int))) (se_ix (se_of (so_lst (sa_cons (se_with (se_ix (se_rd (pv 6)) (se_add (se_rd (pv 5)) se_int))) (sa_cons (se_rd (pv 7)) sa_nil)))) (se_mod (se_rd (pv 5)) se_int))))
  (ss_cons (ss_set (i := 7) (fun te he => ps_set (i := 7) sc_law.nd rfl (by first | exact .inl rfl | exact .inr rfl) he) (se_add (se_slice (se_rd (pv 7)) sp_none (sp_some se_int)) (se_slice (se_rd (pv 7)) (sp_some se_int) sp_none)))
  (ss_one (ss_if (st_gt (se_len (by rfl) T.n_len (sa_cons (se_rd (pv 7)) sa_nil)) se_int) (ss_one ss_break) ss_nil)))))
  (ss_cons (ss_if (st_le (se_len (by rfl) T.n_len (sa_cons (se_rd (pv 7)) sa_nil)) se_int) (ss_one (ss_app (i := 6) (fun te he => pe_bm PySem.F.plainAttrs_list PySem.F.slot_list_append PySem.F.type_list_append mt_append (pv 6) (pa_cons he pa_nil)) (se_rd (pv 7)))) ss_nil)
  (ss_cons (ss_for c.po rfl (si_seq (se_mv (pv 6))) (sg_name (pg_name (i := 8) sc_law.nd rfl (by first | exact .inl rfl | exact .inr rfl)))
  (ss_cons (ss_set (i := 9) (fun te he => ps_set (i := 9) sc_law.nd rfl (by first | exact .inl rfl | exact .inr rfl) he) (se_call c (by decide) (ok_made_kind T) (by rfl) T.g_made_kind T.F_made_kind.kp T.b_made_kind .nil DefOk.nil (sa_cons (se_rd (pv 8)) sa_nil)))
  (ss_cons (ss_set (i := 10) (fun te he => ps_set (i := 10) sc_law.nd rfl (by first | exact .inl rfl | exact .inr rfl) he) (se_call c (by decide) (ok_helper_kind T) (by rfl) T.g_helper_kind T.F_helper_kind.kp T.b_helper_kind .nil DefOk.nil (sa_cons (se_rd (pv 8)) sa_nil)))
  (ss_cons (ss_if (PW.pt (sw_or (st_ne c.u5 (se_repr c.u c.hg (by rfl) T.n_repr (sa_cons (se_rd (pv 9)) sa_nil)) (se_repr c.u c.hg (by rfl) T.n_repr (sa_cons (se_call c (by decide) (ok__law_made T) (by rfl) T.g__law_made T.F__law_made.kp T.b__law_made .nil DefOk.nil (sa_cons (se_rd (pv 8)) sa_nil)) sa_nil))) (sw_or1 (st_ne c.u5 (se_repr c.u c.hg (by rfl) T.n_repr (sa_cons (se_rd (pv 10)) sa_nil)) (se_repr c.u c.hg (by rfl) T.n_repr (sa_cons (se_call c (by decide) (ok__law_quiet_kind T) (by rfl) T.g__law_quiet_kind T.F__law_quiet_kind.kp T.b__law_quiet_kind .nil DefOk.nil (sa_cons (se_rd (pv 8)) sa_nil)) sa_nil)))))) (ss_one (ss_ret se_bl)) ss_nil)
  (ss_cons (ss_if (PW.pt (sw_or (st_isNot (se_call c (by decide) (ok_is_kind T) (by rfl) T.g_is_kind T.F_is_kind.kp T.b_is_kind .nil DefOk.nil (sa_cons (se_rd (pv 9)) sa_nil)) se_bl) (sw_or1 (st_isNot (se_call c (by decide) (ok_is_kind T) (by rfl) T.g_is_kind T.F_is_kind.kp T.b_is_kind .nil DefOk.nil (sa_cons (se_rd (pv 10)) sa_nil)) se_bl)))) (ss_one (ss_ret se_bl)) ss_nil)
  (ss_one (ss_if (st_gt (se_len (by rfl) T.n_len (sa_cons (se_of (so_lc (own := [("token", 15)]) rfl sc_law.nd (si_seq (se_add (se_rd (pv 9)) (se_rd (pv 10)))) (blkOk_by (N := N_law) (sc := defScope s_law) (by decide +kernel)) (by decide) (fun s H C cl fp => (sg_name (pg_name (i := 15) sc_law.nd rfl (by first | exact .inl rfl | exact .inr rfl)))) (fun s H C cl fp => (sts_one (PW.pt (sw_and (st_val (se_isi (T := "tuple") (by rfl) T.n_isinstance (by rfl) T.n_tuple boot_tuple' (se_rd (pv 15)))) (sw_and1 (st_ne (c.blk s H _ _ fp).u5 (se_rd (pv 15)) (se_tup sa_nil))))))) (fun s H C cl fp => (se_rd (pv 15))))) sa_nil)) se_int) (ss_one (ss_ret se_bl)) ss_nil)))))))
  (ss_cons (ss_setO (i := 11) (fun te he => ps_set (i := 11) sc_law.nd rfl (by first | exact .inl rfl | exact .inr rfl) he) (so_lst sa_nil))
  (ss_cons (ss_setO (i := 12) (fun te he => ps_set (i := 12) sc_law.nd rfl (by first | exact .inl rfl | exact .inr rfl) he) (so_lst sa_nil))
  (ss_cons (ss_for c.po rfl (si_seq (se_slice (se_mv (pv 4)) (sp_some se_int) sp_none)) (sg_name (pg_name (i := 13) sc_law.nd rfl (by first | exact .inl rfl | exact .inr rfl)))
  (ss_one (ss_for c.po rfl (si_seq (se_mv (pv 6))) (sg_name (pg_name (i := 8) sc_law.nd rfl (by first | exact .inl rfl | exact .inr rfl)))
  (ss_cons (ss_set (i := 14) (fun te he => ps_set (i := 14) sc_law.nd rfl (by first | exact .inl rfl | exact .inr rfl) he) (se_call c (by decide) (ok_wrap_word T) (by rfl) T.g_wrap_word T.F_wrap_word.kp T.b_wrap_word .nil DefOk.nil (sa_cons (se_rd (pv 13)) (sa_cons (se_rd (pv 8)) sa_nil))))
  (ss_cons (ss_if (PW.pt (sw_or (st_ne c.u5 (se_repr c.u c.hg (by rfl) T.n_repr (sa_cons (se_rd (pv 14)) sa_nil)) (se_repr c.u c.hg (by rfl) T.n_repr (sa_cons (se_call c (by decide) (ok__law_wrap T) (by rfl) T.g__law_wrap T.F__law_wrap.kp T.b__law_wrap .nil DefOk.nil (sa_cons (se_rd (pv 13)) (sa_cons (se_rd (pv 8)) sa_nil))) sa_nil))) (sw_or1 (st_isNot (se_call c (by decide) (ok_is_data_word T) (by rfl) T.g_is_data_word T.F_is_data_word.kp T.b_is_data_word .nil DefOk.nil (sa_cons (se_rd (pv 14)) sa_nil)) se_bl)))) (ss_one (ss_ret se_bl)) ss_nil)
  (ss_one (ss_if (st_with (st_in c.u5 (se_tup (sa_cons (se_rd (pv 13)) (sa_cons (se_rd (pv 8)) sa_nil))) (se_rd (pv 11)))) (ss_one (ss_if (st_ne c.u5 (se_ixO (i := 12) (fun tk hk => pe_ix ix_list (pv 12) hk (fun _ _ => rfl)) (se_with (se_index (pe_bm PySem.F.plainAttrs_list PySem.F.slot_list_index PySem.F.type_list_index (mt_indexD c.u5) (se_rd (pv 11)) (pa_cons (se_tup (sa_cons (se_rd (pv 13)) (sa_cons (se_rd (pv 8)) sa_nil))) pa_nil))))) (se_rd (pv 14))) (ss_one (ss_ret se_bl)) ss_nil)) (ss_one (ss_if (st_with (st_in c.u5 (se_rd (pv 14)) (se_rd (pv 12)))) (ss_one (ss_ret se_bl)) (ss_cons (ss_app (i := 11) (fun te he => pe_bm PySem.F.plainAttrs_list PySem.F.slot_list_append PySem.F.type_list_append mt_append (pv 11) (pa_cons he pa_nil)) (se_tup (sa_cons (se_rd (pv 13)) (sa_cons (se_rd (pv 8)) sa_nil))))
  (ss_one (ss_app (i := 12) (fun te he => pe_bm PySem.F.plainAttrs_list PySem.F.slot_list_append PySem.F.type_list_append mt_append (pv 12) (pa_cons he pa_nil)) (se_rd (pv 14))))))))))))))
  (ss_cons (ss_for c.po rfl (si_seq (se_rd (pv 3))) (sg_name (pg_name (i := 14) sc_law.nd rfl (by first | exact .inl rfl | exact .inr rfl)))
  (ss_one (ss_if (PW.pt (sw_or (st_ne c.u5 (se_call c (by decide) (ok_made_kind T) (by rfl) T.g_made_kind T.F_made_kind.kp T.b_made_kind .nil DefOk.nil (sa_cons (se_tup (sa_cons (se_rd (pv 14)) sa_nil)) sa_nil)) (se_tup (sa_cons (se_rd (pv 14)) sa_nil))) (sw_or1 (st_ne c.u5 (se_call c (by decide) (ok_helper_kind T) (by rfl) T.g_helper_kind T.F_helper_kind.kp T.b_helper_kind .nil DefOk.nil (sa_cons (se_tup (sa_cons (se_rd (pv 14)) sa_nil)) sa_nil)) (se_tup (sa_cons (se_rd (pv 14)) sa_nil)))))) (ss_one (ss_ret se_bl)) ss_nil)))
  (ss_one (ss_ret se_bl)))))))))))))))))
end
end VM.K62

set_option Elab.async false
set_option linter.all false
set_option autoImplicit false
set_option maxRecDepth 100000
set_option maxHeartbeats 400000
namespace VM
open PySem PySem.Spec PyProof.Rows L2

/-! ### comprehensions whose element changes what the frame holds -/
theorem lcL_io {β : Type} {own : List Nat} {t : MT} {me : M D} (S : β → SV) (I : Nat → β → List D → Prop) : ∀ (ds : List D) (i : Nat) (b : β) (acc : List D), I i b acc → acc.length + ds.length ≤ 16777216 →
    (∀ j d b acc, ds[j]? = some d → I (i + j) b acc → ∃ s1, t d (S b) = some s1 ∧ ∃ y s3 b', me s1 = .ok y s3 ∧ wipeV s3 own = S b' ∧ I (i + j + 1) b' (acc ++ [y])) →
    ∃ b' acc', lcL own t mYes me ds (S b) acc = .ok acc' (S b') ∧ I (i + ds.length) b' acc' ∧ acc'.length = acc.length + ds.length
  | [], i, b, acc, h, _, _ => ⟨b, acc, rfl, h, rfl⟩
  | d :: ds, i, b, acc, h, hl, hs => by
    obtain ⟨s1, h1, y, s3, b', h2, h3, h4⟩ := hs 0 d b acc rfl h
    have hl' : acc.length + (ds.length + 1) ≤ 16777216 := hl
    obtain ⟨b2, acc2, e1, e2, e3⟩ := lcL_io S I ds (i + 1) b' (acc ++ [y]) h4 (by simp; omega) (fun j d b acc hd hI => by
      have e : i + 1 + j = i + (j + 1) := by omega
      rw [e] at hI ⊢
      exact hs (j + 1) d b acc (by simpa using hd) hI)
    refine ⟨b2, acc2, ?_, ?_, ?_⟩
    · unfold lcL
      rw [h1]
      show (match (R.ok true s1 : R Bool) with
        | .ok false s2 => lcL own t mYes me ds (wipeV s2 own) acc
        | .ok true s2 => match me s2 with
          | .ok y s3 => if acc.length < sizeLine then lcL own t mYes me ds (wipeV s3 own) (acc ++ [y]) else .bad
          | _ => .bad
        | _ => .bad) = _
      dsimp only
      rw [h2]
      dsimp only
      rw [if_pos (by rw [sizeLine_eq]; omega), h3, e1]
    · have : i + (ds.length + 1) = i + 1 + ds.length := by omega
      rw [List.length_cons, this]; exact e2
    · rw [e3]; simp; omega
/-- [f x for x in xs] where f changes what the frame holds: S tells the frame with the comprehension's own names wiped -/
theorem lc_io {β : Type} {own : List Nat} {mi : M (List D)} {t : MT} {me : M D} {s s0 : SV} {ds : List D} (S : β → SV) (I : Nat → β → List D → Prop) (b : β) (hi : mi s = .ok ds s0) (ho : ownOk own s0 = true) (e0 : wipeV s0 own = S b) (hl : ds.length ≤ 16777216) (h0 : I 0 b [])
    (hs : ∀ j d b acc, ds[j]? = some d → I j b acc → ∃ s1, t d (S b) = some s1 ∧ ∃ y s3 b', me s1 = .ok y s3 ∧ wipeV s3 own = S b' ∧ I (j + 1) b' (acc ++ [y])) :
    ∃ b' acc', mLc own mi t mYes me s = .ok (.lst acc') (restV own s0 (S b')) ∧ I ds.length b' acc' ∧ acc'.length = ds.length := by
  obtain ⟨b', acc', e1, e2, e3⟩ := lcL_io (own := own) (t := t) (me := me) S I ds 0 b [] h0 (by simpa using hl) (fun j d b acc hd hI => by rw [Nat.zero_add] at hI ⊢; exact hs j d b acc hd hI)
  refine ⟨b', acc', ?_, by rw [Nat.zero_add] at e2; exact e2, by simpa using e3⟩
  unfold mLc
  rw [hi]
  show (if ownOk own s0 = true then (lcL own t mYes me ds (wipeV s0 own) []).bind fun acc s' => R.ok (D.lst acc) (restV own s0 s') else .bad) = _
  rw [if_pos ho, e0, e1]
  rfl

/-- [f x for x in xs if p x], where the walk's own thing changes the frame -/
theorem lc_of2 {α : Type} {own : List Nat} {mi : M (List D)} {t : MT} {mc : M Bool} {me : M D} {s s0 : SV} (xs : List α) (enc f : α → D) (p : α → Bool) (hi : mi s = .ok (xs.map enc) s0) (ho : ownOk own s0 = true) (hl : xs.length ≤ 16777216)
    (h : ∀ x ∈ xs, ∃ s1, t (enc x) (wipeV s0 own) = some s1 ∧ mc s1 = .ok (p x) s1 ∧ (p x = true → me s1 = .ok (f x) s1) ∧ wipeV s1 own = wipeV s0 own) : mLc own mi t mc me s = .ok (D.lst ((xs.filter p).map f)) s0 := by
  unfold mLc
  rw [hi]
  show (if ownOk own s0 = true then (lcL own t mc me (xs.map enc) (wipeV s0 own) []).bd fun acc s' => R.ok (D.lst acc) (restV own s0 s') else .bad) = _
  rw [if_pos ho, lcL_fm xs [] (by simpa using hl) h]
  show R.ok (D.lst ([] ++ (xs.filter p).map f)) (restV own s0 (wipeV s0 own)) = _
  rw [restV_self, List.nil_append]
theorem lcLO_map {α : Type} {own : List Nat} {t : MT} {me : M D} {w : SV} {enc f : α → D} : ∀ (xs : List α) (acc : List D), acc.length + xs.length ≤ 16777216 →
    (∀ x ∈ xs, ∃ s1, t (enc x) w = some s1 ∧ me s1 = .ok (f x) s1 ∧ wipeV s1 own = w) → lcLO own t mYes me (xs.map enc) w acc = .ok (acc ++ xs.map fun x => .own (f x)) w
  | [], acc, _, _ => by simp [lcLO]
  | x :: xs, acc, hl, h => by
    obtain ⟨s1, h1, h3, h4⟩ := h x List.mem_cons_self
    rw [List.map_cons]
    unfold lcLO
    rw [h1]
    have hl' : acc.length + (xs.length + 1) ≤ 16777216 := hl
    show (match (R.ok true s1 : R Bool) with
      | .ok false s2 => lcLO own t mYes me (xs.map enc) (wipeV s2 own) acc
      | .ok true s2 => match me s2 with
        | .ok y s3 => if acc.length < sizeLine then lcLO own t mYes me (xs.map enc) (wipeV s3 own) (acc ++ [D.own y]) else .bad
        | _ => .bad
      | _ => .bad) = _
    dsimp only
    rw [h3]
    dsimp only
    rw [if_pos (by rw [sizeLine_eq]; omega), h4, lcLO_map xs _ (by simp; omega) fun y hy => h y (List.mem_cons_of_mem _ hy)]
    simp
/-- [f x for x in xs], each item the list's own -/
theorem lcO_map {α : Type} {own : List Nat} {mi : M (List D)} {t : MT} {me : M D} {s : SV} (xs : List α) (enc f : α → D) (hi : mi s = .ok (xs.map enc) s) (ho : ownOk own s = true) (hl : xs.length ≤ 16777216)
    (h : ∀ x ∈ xs, ∃ s1, t (enc x) (wipeV s own) = some s1 ∧ me s1 = .ok (f x) s1 ∧ wipeV s1 own = wipeV s own) : mLcO own mi t mYes me s = .ok (D.deep (.lst (xs.map fun x => D.own (f x)))) s := by
  unfold mLcO
  rw [hi]
  show (if ownOk own s = true then (lcLO own t mYes me (xs.map enc) (wipeV s own) []).bind fun acc s' => R.ok (D.deep (.lst acc)) (restV own s s') else .bad) = _
  rw [if_pos ho, lcLO_map xs [] (by simpa using hl) h]
  show R.ok (D.deep (.lst ([] ++ xs.map fun x => D.own (f x)))) (restV own s (wipeV s own)) = _
  rw [restV_self, List.nil_append]
theorem appIx_ok {i j : Nat} {mk m : M D} {s s1 s2 : SV} {ds xs : List D} {z : Int} {d : D} (h1 : s[i]? = some (.ow (.deep (.lst ds)))) (h2 : mk (s.set i .un) = .ok (.int z) s1) (h3 : ixN ds.length z = some j) (h4 : ds[j]? = some (.own (.lst xs))) (h5 : m s1 = .ok d s2) (h6 : xs.length < 16777216) :
    mAppIx i mk m s = .nx (s2.set i (.ow (.deep (.lst (ds.set j (.own (.lst (xs ++ [d])))))))) := by
  unfold mAppIx
  rw [h1]
  dsimp only
  rw [h2]
  dsimp only
  rw [h3]
  dsimp only
  rw [h4]
  dsimp only
  rw [h5]
  dsimp only
  rw [if_pos (by rw [sizeLine_eq]; exact h6)]
theorem q_p20 : dI2 cPow (.int 10) (.int 20) = some (.int 100000000000000000000) := (rfl)

/-! ### what repr shows, by the number of its signs -/
structure Rs (d : D) (n dp : Nat) : Prop where
  h : ∃ q, py d = some q ∧ q.showable = true ∧ q.hasDict = false ∧ q.depth ≤ dp ∧ q.shown.length ≤ n
structure RsL (ds : List D) (n dp : Nat) : Prop where
  h : ∃ qs, pyL ds = some qs ∧ PyData.showableAll qs = true ∧ PyData.hasDictAll qs = false ∧ PyData.depthAll qs ≤ dp ∧ ((PyData.shownAll qs).map (·.length)).sum + 2 * qs.length ≤ n
theorem Rs.mono {d : D} {w w' dp dp' : Nat} (h : Rs d w dp) (h1 : w ≤ w') (h2 : dp ≤ dp') : Rs d w' dp' := by
  obtain ⟨q, a, b, c, e, f⟩ := h.h
  exact ⟨q, a, b, c, by omega, by omega⟩
theorem RsL.mono {d : List D} {w w' dp dp' : Nat} (h : RsL d w dp) (h1 : w ≤ w') (h2 : dp ≤ dp') : RsL d w' dp' := by
  obtain ⟨q, a, b, c, e, f⟩ := h.h
  exact ⟨q, a, b, c, by omega, by omega⟩
theorem RsL.nil {dp : Nat} : RsL [] 0 dp := ⟨[], rfl, rfl, rfl, Nat.zero_le _, Nat.le_refl _⟩
theorem RsL.cons {d : D} {ds : List D} {w w' dp : Nat} (h : Rs d w dp) (h' : RsL ds w' dp) : RsL (d :: ds) (w + 2 + w') dp := by
  obtain ⟨q, a, b, c, e, f⟩ := h.h
  obtain ⟨qs, a', b', c', e', f'⟩ := h'.h
  refine ⟨q :: qs, by simp only [pyL, a, a'], by simp only [PyData.showableAll, b, b', Bool.and_self], by simp only [PyData.hasDictAll, c, c', Bool.or_self], ?_, ?_⟩
  · simp only [PyData.depthAll]; omega
  · simp only [PyData.shownAll, List.map_cons, List.sum_cons, List.length_cons]; omega
theorem RsL.all {w dp : Nat} : ∀ {ds : List D}, (∀ d ∈ ds, Rs d w dp) → RsL ds ((w + 2) * ds.length) dp
  | [], _ => RsL.nil.mono (Nat.zero_le _) (Nat.le_refl _)
  | d :: ds, h => ((RsL.cons (h d List.mem_cons_self) (RsL.all fun x hx => h x (List.mem_cons_of_mem _ hx))).mono (by
      rw [List.length_cons, Nat.mul_add, Nat.mul_one]
      omega) (Nat.le_refl _))
theorem Rs.tup {ds : List D} {w dp : Nat} (h : RsL ds w dp) : Rs (.tup ds) (w + 3) (dp + 1) := by
  obtain ⟨qs, a', b', c', e', f'⟩ := h.h
  have h2 := tupleText_len_le (PyData.shownAll qs)
  have h3 := PyData.shownAll_length qs
  refine ⟨.tuple qs, by simp only [py, a', Option.map_some], b', c', by simp only [PyData.depth]; omega, ?_⟩
  simp only [PyData.shown]
  omega
theorem Rs.lst {ds : List D} {w dp : Nat} (h : RsL ds w dp) : Rs (.lst ds) (w + 3) (dp + 1) := by
  obtain ⟨qs, a', b', c', e', f'⟩ := h.h
  have h2 := listText_len_le (PyData.shownAll qs)
  have h3 := PyData.shownAll_length qs
  refine ⟨.list qs, by simp only [py, a', Option.map_some], b', c', by simp only [PyData.depth]; omega, ?_⟩
  simp only [PyData.shown]
  omega
theorem Rs.nat {n : Nat} (h : n < 10 ^ 50) : Rs (.int n) 52 0 := by
  have l1 : (n : Int).natAbs.log2 < 170 := by
    rw [Int.natAbs_natCast]
    by_cases h0 : n = 0
    · subst h0; decide
    · exact (Nat.log2_lt h0).mpr (Nat.lt_trans h (by decide))
  refine ⟨.int n, rfl, ?_, rfl, Nat.le_refl _, ?_⟩
  · simp only [PyData.showable]
    exact decide_eq_true (by omega)
  · have := toString_length_le (v := (n : Int)) (by omega) (k := 50) (by decide) (by exact_mod_cast h)
    have e : PyData.shown (.int (n : Int)) = Str.ofString (toString (n : Int)) := rfl
    rw [e]
    omega
theorem Rs.bl (b : Bool) : Rs (.bl b) 5 0 := ⟨.bool b, rfl, rfl, rfl, Nat.le_refl _, by cases b <;> decide⟩
theorem Rs.non : Rs .non 4 0 := ⟨.none, rfl, rfl, rfl, Nat.le_refl _, by decide⟩
/-- .. worked out -/
def rsB (d : D) (n dp : Nat) : Bool := match py d with
  | some q => q.showable && !q.hasDict && decide (q.depth ≤ dp) && decide (q.shown.length ≤ n)
  | none => false
theorem Rs.by {d : D} {n dp : Nat} (h : rsB d n dp = true) : Rs d n dp := by
  unfold rsB at h
  cases hq : py d with
  | none => rw [hq] at h; cases h
  | some q =>
    rw [hq] at h
    simp only [Bool.and_eq_true, Bool.not_eq_true', decide_eq_true_eq] at h
    exact ⟨q, hq, h.1.1.1, h.1.1.2, h.1.2, h.2⟩
theorem reprs_of {d : D} {n dp : Nat} (h : Rs d n dp) (h1 : n ≤ 16777216) (h2 : dp ≤ 60) : ∃ z, dRepr [d] = some (.str z) := by
  obtain ⟨q, a, b, c, e, f⟩ := h.h
  have hr : reprOk q = true := by
    unfold reprOk
    rw [b, c, decide_eq_true (by omega : q.depth ≤ 60), decide_eq_true (by rw [sizeLine_eq]; omega)]
    rfl
  refine ⟨q.shown, ?_⟩
  unfold dRepr
  dsimp only
  rw [a]
  dsimp only
  rw [if_pos hr]
theorem Rs.to {d : D} {n dp dp' : Nat} (h : Rs d n dp) (h' : dp ≤ dp' := by decide) : Rs d n dp' := h.mono (Nat.le_refl _) h'
end VM

set_option Elab.async false
set_option linter.all false
set_option autoImplicit false
set_option maxRecDepth 100000
set_option maxHeartbeats 400000
namespace VM
open PySem PySem.Spec PyProof.Rows L2

/-! ### evaluation of str, join, index -/
section
variable {ma mb mk : M D} {s : SV} {i : Nat}
theorem q_s1 (f : Str → D → Option D) : mS1 f ma mb s = (ma s).bd fun d s1 => match d with
  | .str z => (mb s1).bd fun d2 s2 => oR (f z d2) s2
  | _ => .bad := (rfl)
theorem q_idx : mIdx ma mb s = (ma s).bd fun d s1 => match d with
  | .lst xs => (mb s1).bd fun d2 s2 => oR (dIndex (.lst xs) d2) s2
  | _ => .bad := (rfl)
def atO (xs : List D) (z : Int) : Option D := (ixN xs.length z).bind fun j => xs[j]?
theorem q_ixo : mIxO i mk s = match ownL s i with
  | none => .bad
  | some _ => (mk s).bd fun kd s => match ownL s i, kd with
    | some (_, xs), .int z => oR (atO xs z) s
    | _, _ => .bad := (rfl)
end

/-! ### texts as lists of signs -/
abbrev S (l : List Nat) : Str := ⟨l.toArray⟩
theorem S_eta (w : Str) : S w.cps.toList = w := by cases w; simp [S]
theorem S_len (l : List Nat) : (S l).length = l.length := by simp [S, Str.length]
theorem S_inj {a b : List Nat} (h : S a = S b) : a = b := by
  have := congrArg (fun z : Str => z.cps.toList) h
  simpa [S] using this
theorem S_cat (a b : List Nat) : S a ++ S b = S (a ++ b) := by
  show Str.mk (a.toArray ++ b.toArray) = _
  simp [S]
theorem add_S {a b : List Nat} (h : a.length + b.length ≤ 16777216) : dAdd (.str (S a)) (.str (S b)) = some (.str (S (a ++ b))) := by
  exact (q_adds (a := S a) (b := S b) (by rw [S_len, S_len]; exact h)).trans (by rw [S_cat])
theorem len_S {a : List Nat} (h : a.length ≤ 16777216) : dLen [.str (S a)] = some (.int a.length) := by
  exact (q_lens (a := S a) (by rw [S_len]; exact h)).trans (by rw [S_len])
/-- a number's digits -/
def dl (n : Nat) : List Nat := (toString (n : Int) : Str).cps.toList
theorem str_dl {n : Nat} (h : n < 10 ^ 50) : dStr [.int (n : Int)] = some (.str (S (dl n))) := by
  have l1 : (n : Int).natAbs.log2 < 1920 := by
    rw [Int.natAbs_natCast]
    by_cases h0 : n = 0
    · subst h0; decide
    · have := (Nat.log2_lt (k := 170) h0).mpr (Nat.lt_trans h (by decide))
      omega
  unfold dStr dl
  dsimp only
  rw [if_pos l1, S_eta]
theorem join_fold : ∀ (ls : List (List Nat)) (acc : Array Nat), List.foldl (fun acc (p : Str) => acc ++ (S []).cps ++ p.cps) acc (ls.map S) = (acc.toList ++ ls.flatten).toArray
  | [], acc => by simp
  | l :: ls, acc => by
    simp only [List.map_cons, List.foldl_cons]
    rw [join_fold ls]
    simp [S]
theorem join_S (ls : List (List Nat)) : Txt.join (S []) (ls.map S) = S ls.flatten := by
  unfold Txt.join Builtin.Str.glued
  cases ls with
  | nil => rfl
  | cons l ls =>
    have := join_fold ls l.toArray
    simp only [List.map_cons, List.headD_cons, List.drop_succ_cons, List.drop_zero]
    rw [this]
    simp [S]
theorem strsD_S : ∀ ls : List (List Nat), strsD (ls.map fun l => D.str (S l)) = some (ls.map S)
  | [] => rfl
  | l :: ls => by simp only [List.map_cons, strsD, strsD_S ls, Option.map_some]
theorem sum_flat : ∀ ls : List (List Nat), ((ls.map S).map (·.length)).sum = ls.flatten.length
  | [] => rfl
  | l :: ls => by simp only [List.map_cons, List.sum_cons, sum_flat ls, List.flatten_cons, List.length_append, S_len]
theorem dJoin_S {ls : List (List Nat)} (h : ls.flatten.length ≤ 16777216) : dJoin (S []) (.lst (ls.map fun l => D.str (S l))) = some (.str (S ls.flatten)) := by
  unfold dJoin joinL
  dsimp only
  rw [strsD_S]
  dsimp only
  rw [if_pos (by rw [sum_flat]; rw [show (S []).length = 0 from rfl, Nat.mul_zero, Nat.add_zero]; exact h), join_S]
end VM

set_option Elab.async false
set_option linter.all false
set_option autoImplicit false
set_option maxRecDepth 100000
set_option maxHeartbeats 400000
namespace VM.K62
open PySem PySem.Spec PyProof.Rows L2 VM
theorem cell_ok (ns : List Int) (k : Nat) : Ans (F__law_cell [.fl (ns.map .int), .int k]) fun d => ∃ c : Int, d = .int c := by
  unfold F__law_cell
  rw [fnOf_none]
  unfold m__law_cell
  by_cases hk : k < ns.length
  · simp [dCmp, dLen, ciLt, hk, dIx, atI_natL]
  · obtain ⟨s, e1, x, y, hx, e2⟩ := for_turns (t := mtN 3) (b := b__law_cell_0) (ds := ns.map D.int) (sv := [.pl (.fl (ns.map .int)), .pl (.int k), .pl (.int 17), .un])
      (fun i s => ∃ (x : Int) (y : Sl), (0 ≤ x ∧ x < 1000003) ∧ s = [.pl (.fl (ns.map .int)), .pl (.int k), .pl (.int x), y]) ⟨17, .un, by decide, rfl⟩ fun i d s hd hP => by
        obtain ⟨x, y, hx, rfl⟩ := hP
        obtain ⟨n, hn, rfl⟩ : ∃ n, ns[i]? = some n ∧ D.int n = d := by simpa using hd
        simp [b__law_cell_0, dInt, dAdd, cMul, cMod, dI2]
        exact ⟨Int.emod_nonneg _ (by decide), Int.emod_lt_of_pos _ (by decide)⟩
    subst e2
    have h1 := cMulL (i := x + 7) (k + 3) (by omega) (by omega)
    have h2 := fun i => cMulR i (j := 69621) (by decide) (by decide)
    have hF : f__law_cell_1 [.pl (.fl (ns.map .int)), .pl (.int k), .pl (.int 17), .un] = .nx [.pl (.fl (ns.map .int)), .pl (.int k), .pl (.int x), y] := for_of (by simp) e1
    simp [dCmp, dLen, ciLt, hk, hF, dAdd, dInt, h1, h2, cMod, dI2]
theorem digits_ok (c : Int) (zs : List Int) (hz : ∀ z ∈ zs, SizeOk z) (hl : zs.length ≤ 1000) : Ans (F__law_digits [.int c, .lst (zs.map .int)]) fun d => ∃ ds : List Int, d = .lst (ds.map .int) ∧ ds.length = zs.length ∧ ∀ (i : Nat) (z e : Int), zs[i]? = some z → ds[i]? = some e → 0 ≤ e ∧ e < z := by
  unfold F__law_digits
  rw [fnOf_none]
  unfold m__law_digits
  have hs : ∀ n : Nat, n ≤ 1000 → n < sizeLine := fun n h => small1000 h
  by_cases hc : 1000000000000000000 ≤ c
  · obtain ⟨s, e1, ds, x, y, hl2, hb, e2⟩ := for_turns (t := mtN 4) (b := b__law_digits_0) (ds := zs.map D.int) (sv := [.pl (.int c), .pl (.lst (zs.map .int)), .ow (.lst []), .pl (.int (c - 1000000000000000000)), .un, .un, .un, .un])
      (fun i s => ∃ (ds : List Int) (x : Int) (y : Sl), ds.length = i ∧ (∀ (i : Nat) (z e : Int), zs[i]? = some z → ds[i]? = some e → 0 ≤ e ∧ e < z) ∧ s = [.pl (.int c), .pl (.lst (zs.map .int)), .ow (.lst (ds.map .int)), .pl (.int x), y, .un, .un, .un]) ⟨[], _, .un, rfl, by simp, rfl⟩ fun i d s hd hP => by
        obtain ⟨ds, x, y, hl2, hb, rfl⟩ := hP
        obtain ⟨z, hn, rfl⟩ : ∃ n, zs[i]? = some n ∧ D.int n = d := by simpa using hd
        have hz1 := hz z (List.mem_of_getElem? hn)
        have hi : i < zs.length := (List.getElem?_eq_some_iff.mp hn).1
        simp [b__law_digits_0, dInt, dAdd, cMul, cMod, cDiv, dI2, hz1.1, show z < 1073741824 by have := hz1.2; omega, hs i (by omega), hl2]
        refine ⟨ds ++ [x % z], by simp [hl2], ?_, by simp⟩
        intro j z' e h1 h2
        rcases Nat.lt_or_ge j ds.length with h | h
        · exact hb j z' e h1 (by rwa [List.getElem?_append_left h] at h2)
        · have hj : j = i := by
            have := (List.getElem?_eq_some_iff.mp h2).1
            simp at this; omega
          subst hj
          rw [List.getElem?_append_right h, hl2] at h2
          simp at h2
          rw [hn] at h1; cases h1
          subst h2
          exact ⟨Int.emod_nonneg _ (by have := hz1.1; omega), Int.emod_lt_of_pos _ hz1.1⟩
    subst e2
    simp at hl2
    have hF : f__law_digits_1 [.pl (.int c), .pl (.lst (zs.map .int)), .ow (.lst []), .pl (.int (c - 1000000000000000000)), .un, .un, .un, .un] = .nx [.pl (.int c), .pl (.lst (zs.map .int)), .ow (.lst (ds.map .int)), .pl (.int x), y, .un, .un, .un] := for_of (by simp) e1
    simp [dCI, ciGe, hc, hF, dAdd, dInt, cMul, cMod, pow18, cSub, dI2]
    exact ⟨ds, rfl, hl2, hb⟩
  · obtain ⟨s, e1, ds, x, y, z1, hl2, hb, e2⟩ := for_turns (t := mtN 6) (b := b__law_digits_2) (ds := rngs 0 zs.length) (sv := [.pl (.int c), .pl (.lst (zs.map .int)), .ow (.lst []), .pl (.int c), .un, .pl (.int (c % 2147483629)), .un, .un])
      (fun i s => ∃ (ds : List Int) (x : Int) (y z1 : Sl), ds.length = i ∧ (∀ (i : Nat) (z e : Int), zs[i]? = some z → ds[i]? = some e → 0 ≤ e ∧ e < z) ∧ s = [.pl (.int c), .pl (.lst (zs.map .int)), .ow (.lst (ds.map .int)), .pl (.int c), .un, .pl (.int x), y, z1]) ⟨[], _, .un, .un, rfl, by simp, rfl⟩ fun i d s hd hP => by
        obtain ⟨ds, x, y, z1, hl2, hb, rfl⟩ := hP
        obtain ⟨hi, rfl⟩ := rngs_get hd
        have hn : zs[i]? = some zs[i] := List.getElem?_eq_getElem hi
        have hz1 := hz _ (List.mem_of_getElem? hn)
        generalize hzz : zs[i] = z at hn hz1
        have ha : atI (zs.map D.int) (i : Int) = some (.int z) := by rw [atI_natL (by simpa using hi)]; simp [hzz]
        have hcm : ∀ w : Int, cMul (w % 2147483647) (w % 2147483647 / 65537 + 3) = some (.int (w % 2147483647 * (w % 2147483647 / 65537 + 3))) := fun w => by
          have h1 := Int.emod_nonneg w (show (2147483647 : Int) ≠ 0 by decide)
          have h2 := Int.emod_lt_of_pos w (show (0 : Int) < 2147483647 by decide)
          unfold cMul
          rw [if_pos (.inl ⟨by omega, by omega⟩)]
        have hc2 : ∀ w : Int, cMul w 48271 = some (.int (w * 48271)) := fun w => by unfold cMul; rw [if_pos (.inr ⟨by decide, by decide⟩)]
        have hc3 : ∀ w : Int, cMul 974711 w = some (.int (974711 * w)) := fun w => by unfold cMul; rw [if_pos (.inl ⟨by decide, by decide⟩)]
        simp [b__law_digits_2, dInt, dAdd, hcm, hc2, hc3, cMod, cDiv, dI2, dIx, ha, hz1.1, hs i (by omega), hl2]
        refine ⟨ds ++ [_], by simp [hl2], ?_, by rw [List.map_append]; rfl⟩
        intro j z' e h1 h2
        rcases Nat.lt_or_ge j ds.length with h | h
        · exact hb j z' e h1 (by rwa [List.getElem?_append_left h] at h2)
        · have hj : j = i := by
            have := (List.getElem?_eq_some_iff.mp h2).1
            simp at this; omega
          subst hj
          rw [List.getElem?_append_right h, hl2] at h2
          simp at h2
          rw [hn] at h1; cases h1
          subst h2
          exact ⟨Int.emod_nonneg _ (by have := hz1.1; omega), Int.emod_lt_of_pos _ hz1.1⟩
    subst e2
    rw [rngs_len] at hl2
    have hF : f__law_digits_3 [.pl (.int c), .pl (.lst (zs.map .int)), .ow (.lst []), .pl (.int c), .un, .pl (.int (c % 2147483629)), .un, .un] = .nx [.pl (.int c), .pl (.lst (zs.map .int)), .ow (.lst (ds.map .int)), .pl (.int c), .un, .pl (.int x), y, z1] :=
      for_of (rng1_of (by simp [dLen]) (by omega)) e1
    simp [dCI, ciGe, hc, hF, dAdd, dInt, dLen, cMod, pow18, cSub, dI2]
    exact ⟨ds, rfl, hl2, hb⟩
end VM.K62

set_option Elab.async false
set_option linter.all false
set_option autoImplicit false
set_option maxRecDepth 100000
set_option maxHeartbeats 400000
namespace VM.K62
open PySem PySem.Spec PyProof.Rows L2 VM
local macro_rules | `(tactic| walk_at "ev") => `(tactic| simp (disch := first | omega | (simp only [List.length_cons, List.length_nil, List.length_map, List.length_append, List.length_replicate, List.length_set, rngs_length]; omega)) only [*, q_seq, q_skip, q_knx, q_krt, q_kro, q_kbk, q_kct, q_ker, q_kk, q_bind, q_bok, q_ber, q_drop, q_ret, q_reto, q_ifs, q_ct, q_cf, q_asg, q_asgo, q_asgt, q_rok, q_rer, q_c, q_rd, q_mv, q_fz, fz_lst, fz_dct, fz_obj, fz_dlst, fz_ddct, fz_dobj, q_tk, q_2, q_1, q_os, q_b, q_not, q_and, q_or, q_at, q_af, q_ao, q_rt, q_rf, q_ro, q_andv, q_orv, q_avt, q_avf, q_avo, q_rvt, q_rvf, q_rvo, q_ife, q_it, q_if, q_io, q_on, q_oS, q_sl, q_nil, q_cons, q_tup, q_lst, q_call1, q_call, q_f0, q_f1, q_f2, q_f3, q_f4, q_f5, q_f6, q_f7, q_callk, q_frok, q_frer, q_calli, q_s1, q_idx, q_ixo, q_mihere, q_micons, q_fri, q_sdo, q_sdi, q_rso, q_rsi, q_app, q_ext, q_ext2, q_put, q_pop, q_with, q_wok, q_for, q_enum, q_items, q_raise, q_gt, q_grt, q_lt, q_le, q_rng1, q_rng2, q_rg1, q_lrg, q_lrgi, q_rg2, q_add, q_adds, q_addl, q_addt, q_cat, q_sub, q_mulr, q_mull, q_div, q_mod, q_p18, q_p12, q_cmplt, q_cmple, q_cmpgt, q_cmpge, q_eqi, q_eqs, q_eqb, q_nei, q_nes, q_isn, q_isnn, q_isb, q_isnb, q_neg, q_dnot, q_lenl, q_lent, q_lenf, q_lens, q_int, q_intb, q_tupl, q_tupt, q_lstl, q_lstt, q_min, q_max, q_ixn, q_ixm, q_ixl, q_ixt, q_ixf, q_rep, q_isi_tt, q_isi_ts, q_isi_ti, q_isi_ss, q_isi_st, q_isi_ii, q_isi_it, q_isi_is, q_isi_bi, q_lfi, q_lfb, q_lfs, q_lfn, q_itt, q_itl, q_itf, q_slt, q_sll, q_sls, tk_row, tk_wd, q_cut, q_cutf, q_cutt, q_try, q_tryo, q_tnx, q_trt, q_tonx, q_tort, w_irt, w_inx, w_iro, w_lnx, w_lct, w_lbk, w_lrt, w_lro, w_ler, w_nnx, w_nrt, w_nro, w_ner, w_rnx, w_rrt, w_rro, w_rer, w_tn, w_tt, w_tt3, ev_ownL, ev_putL, ev_lend, ev_hn, ev_hp, ev_hu, ev_ho, ev_hi, ev_i0, ev_i1, ev_tN, ev_tnil, ev_tcons, ev_tTup, List.getElem?_cons_zero, List.getElem?_cons_succ, List.set_cons_zero, List.set_cons_succ, List.length_cons, List.length_nil, List.length_append, List.length_map, List.length_replicate, List.length_set, rngs_length, List.nil_append, List.cons_append, Int.toNat_natCast, Int.toNat_zero, Int.toNat_one, Int.reduceToNat, List.getElem?_map, Option.map_some, Nat.reduceAdd, Nat.reduceSub, Nat.reduceLT, Nat.reduceLeDiff, Nat.reduceEqDiff, Int.reduceEq, Int.reduceLT, Int.reduceLE, Int.reduceAdd, Int.reduceSub, Int.reduceMul, Int.reduceNeg, List.replicate_succ, List.replicate_zero, Bool.not_true, Bool.not_false, Bool.and_true, Bool.true_and, Bool.and_false, Bool.false_and, Bool.or_true, Bool.true_or, Bool.or_false, Bool.false_or, decide_true, decide_false, if_true, if_false, and_self, true_and, and_true, Nat.sub_self, Nat.add_zero, Nat.zero_add, Bool.true_eq_false, Bool.false_eq_true, ite_true, ite_false, reduceIte, eq_self])
theorem nget {n j : Nat} {d : D} (h : (rngs 0 n)[j]? = some d) : j < n ∧ d = .int (j : Int) := by
  obtain ⟨h1, h2⟩ := rngs_at h
  exact ⟨h1, by rw [h2, Int.zero_add]⟩
theorem kdlen (k : Kd) : (k.fl.map Tk.d).length = k.sz := by rw [List.length_map, k.fl_len]
theorem tokd {k : Kd} {i : Nat} {t : Tk} (h : k.fl[i]? = some t) : (k.fl.map Tk.d)[i]? = some t.d := by rw [List.getElem?_map, h]; rfl
/-- the ends -/
def En (k : Kd) (E : List Nat) : Prop := E.length = k.sz ∧ ∀ j t, At k j t → E[j]? = some (j + t.sz)
theorem En.uniq {k : Kd} {E E' : List Nat} (h : En k E) (h' : En k E') : E = E' := by
  apply List.ext_getElem?
  intro j
  by_cases hj : j < k.sz
  · obtain ⟨t, ht⟩ := at_ex k j hj
    rw [h.2 j t ht, h'.2 j t ht]
  · rw [List.getElem?_eq_none (by rw [h.1]; omega), List.getElem?_eq_none (by rw [h'.1]; omega)]
abbrev iN (E : List Nat) : List D := E.map fun (n : Nat) => D.int (n : Int)
theorem iN_at {E : List Nat} {j x : Nat} (h : E[j]? = some x) : (iN E)[j]? = some (.int (x : Int)) := by
  show (E.map _)[j]? = _
  rw [List.getElem?_map, h]; rfl
theorem ends_ok (k : Kd) (hl : k.sz ≤ 1000) : ∃ E, F_kind_ends [k.d] = .ok (.tup (iN E)) none ∧ En k E := by
  have h : Cmp (F_kind_ends [k.d]) (fun d => ∃ E, d = .tup (iN E) ∧ En k E) fun _ => False := by
    refine cmp_of ?_
    have hlen := kdlen k
    unfold m_kind_ends
    walk_at "ev"
    unfold f_kind_ends_1
    walk_at "ev"
    refine w_for (Y := List Nat × Sl × Sl) (fun y => [.pl k.d, .ow (.lst (iN y.1)), y.2.1, y.2.2]) (fun i y => y.1.length = k.sz ∧ ∀ j t, k.sz - i ≤ j → At k j t → y.1[j]? = some (j + t.sz)) (List.replicate k.sz 0, .un, .un) (by simp) ⟨by simp, fun j t h1 h2 => by have := h2.lt; omega⟩ (fun i d y hd hy => ?_) fun y hy => ?_
    · obtain ⟨E, y2, y3⟩ := y
      obtain ⟨hi, rfl⟩ := nget hd
      obtain ⟨hE, hEj⟩ := hy
      dsimp only at hE hEj
      obtain ⟨p, hp, hpn⟩ : ∃ p : Nat, (k.sz : Int) - 1 - i = p ∧ p + 1 + i = k.sz := ⟨k.sz - 1 - i, by omega, by omega⟩
      obtain ⟨t, ht⟩ := at_ex k p (by omega)
      unfold b_kind_ends_0
      rcases t with w | ⟨r, a, b⟩
      · have e0 := ht.tok_wd
        walk_at "ev"
        refine ⟨(E.set p (p + 1), .pl (.int i), .pl (.int p)), by simp, by simp [hE], fun j u h1 h2 => ?_⟩
        by_cases hj : j = p
        · subst hj
          rw [List.getElem?_set_self (by omega), h2.uniq ht]; rfl
        · rw [List.getElem?_set_ne (by omega)]
          exact hEj j u (by omega) h2
      · have e0 := ht.tok_fn
        have g1 := hEj _ _ (by omega) ht.l
        have g2 := hEj _ _ (by omega) ht.r
        have l1 := ht.r.bound
        have e1 : ((iN E).set p (D.int (p + 1)))[((p : Int) + 1).toNat]? = some (.int ((p + 1 + a.sz : Nat) : Int)) := by
          rw [show ((p : Int) + 1).toNat = p + 1 by omega, List.getElem?_set_ne (by omega)]
          exact iN_at g1
        have e2 : ((iN E).set p (D.int (p + 1)))[p + 1 + a.sz]? = some (.int ((p + 1 + a.sz + b.sz : Nat) : Int)) := by
          rw [List.getElem?_set_ne (by omega)]
          exact iN_at g2
        walk_at "ev"
        refine ⟨((E.set p (p + 1)).set p (p + 1 + a.sz + b.sz), .pl (.int i), .pl (.int p)), by simp, by simp [hE], fun j u h1 h2 => ?_⟩
        by_cases hj : j = p
        · subst hj
          rw [List.getElem?_set_self (by simp; omega), h2.uniq ht]
          simp only [Kd.sz, Option.some.injEq]; omega
        · rw [List.getElem?_set_ne (by omega), List.getElem?_set_ne (by omega)]
          exact hEj j u (by omega) h2
    · obtain ⟨E, y2, y3⟩ := y
      walk_at "ev"
      obtain ⟨h1, h2⟩ := hy
      exact ⟨E, rfl, h1, fun j t ht => h2 j t (by rw [rngs_length]; omega) ht⟩
  obtain ⟨d, h1, E, rfl, h2⟩ := h.ok
  exact ⟨E, h1, h2⟩
theorem isfn_ok (k : Kd) : F_is_function [k.d] = .ok (.bl k.isFn) none := Cmp.eq <| cmp_of <| by
  obtain ⟨t, r, _, h1, h2⟩ := hd0 k
  rw [List.getElem?_map] at h1
  unfold m_is_function
  walk_at "ev"
theorem fk_ok (a b : Kd) (r : List Str) (ha : a.sz ≤ 1000) (hb : b.sz ≤ 1000) : F_function_kind [a.d, .tup (r.map .str), b.d] = .ok (Kd.fn r a b).d none := Cmp.eq <| cmp_of <| by
  have h1 := a.fl_len
  have h2 := b.fl_len
  unfold m_function_kind
  walk_at "ev"
  simp [Kd.d, Kd.fl, Tk.d]
theorem left_ok (r : List Str) (a b : Kd) (hl : (Kd.fn r a b).sz ≤ 1000) : F_left_of [(Kd.fn r a b).d] = .ok a.d none := Cmp.eq <| cmp_of <| by
  obtain ⟨E, h1, h2, h3⟩ := ends_ok (Kd.fn r a b) hl
  have e0 := isfn_ok (Kd.fn r a b)
  have e1 : (iN E)[1]? = some (.int ((1 + a.sz : Nat) : Int)) := iN_at (h3 1 a (At.here.l))
  have e2 : Kd.isFn (.fn r a b) = true := rfl
  unfold m_left_of
  walk_at "ev"
  show _ = a.d
  simp [Kd.d, Kd.fl, List.take_append_of_le_length, a.fl_len]
theorem right_ok (r : List Str) (a b : Kd) (hl : (Kd.fn r a b).sz ≤ 1000) : F_right_of [(Kd.fn r a b).d] = .ok b.d none := Cmp.eq <| cmp_of <| by
  obtain ⟨E, h1, h2, h3⟩ := ends_ok (Kd.fn r a b) hl
  have e0 := isfn_ok (Kd.fn r a b)
  have e1 : (iN E)[1]? = some (.int ((1 + a.sz : Nat) : Int)) := iN_at (h3 1 a (At.here.l))
  have e2 : Kd.isFn (.fn r a b) = true := rfl
  unfold m_right_of
  walk_at "ev"
  show _ = b.d
  simp [Kd.d, Kd.fl, ← a.fl_len, Nat.add_comm 1]
theorem bad_l (w : Str) : F_left_of [(Kd.wd w).d] = .err ⟨"BadKind", [("kind", (Kd.wd w).d)]⟩ none := Cmp.er <| cmp_of <| by
  have e0 := isfn_ok (Kd.wd w)
  have e2 : Kd.isFn (.wd w) = false := rfl
  unfold m_left_of
  walk_at "ev"
  rfl
theorem bad_r (w : Str) : F_right_of [(Kd.wd w).d] = .err ⟨"BadKind", [("kind", (Kd.wd w).d)]⟩ none := Cmp.er <| cmp_of <| by
  have e0 := isfn_ok (Kd.wd w)
  have e2 : Kd.isFn (.wd w) = false := rfl
  unfold m_right_of
  walk_at "ev"
  rfl
theorem cmax (a b : Nat) : max (a : Int) (b : Int) = ((max a b : Nat) : Int) := by omega
def gmx : List Kd → List Nat → Nat → Nat
  | k :: F, d :: ds, g => gmx F ds (max g (d + k.depth))
  | _, _, g => g
theorem max_law {a b : Nat} : dMax2 [.int (a : Int), .int (b : Int)] = some (.int ((max a b : Nat) : Int)) := by rw [q_max, cmax]
/-- the parameters and what is left -/
def spL : Kd → List D
  | .wd _ => []
  | .fn r a b => .tup [a.d, .tup (r.map .str)] :: spL b
def spR : Kd → Kd
  | .wd w => .wd w
  | .fn _ _ b => spR b
theorem spL_len : ∀ k : Kd, (spL k).length ≤ k.sz
  | .wd _ => Nat.zero_le _
  | .fn r a b => by
    have := spL_len b
    simp [spL, Kd.sz]; omega
end VM.K62

set_option Elab.async false
set_option linter.all false
set_option autoImplicit false
set_option maxRecDepth 100000
set_option maxHeartbeats 400000
namespace VM.K62
open PySem PySem.Spec PyProof.Rows L2 VM
local macro_rules | `(tactic| walk_at "ev") => `(tactic| simp (disch := first | omega | (simp only [List.length_cons, List.length_nil, List.length_map, List.length_append, List.length_replicate, List.length_set, rngs_length]; omega)) only [*, q_seq, q_skip, q_knx, q_krt, q_kro, q_kbk, q_kct, q_ker, q_kk, q_bind, q_bok, q_ber, q_drop, q_ret, q_reto, q_ifs, q_ct, q_cf, q_asg, q_asgo, q_asgt, q_rok, q_rer, q_c, q_rd, q_mv, q_fz, fz_lst, fz_dct, fz_obj, fz_dlst, fz_ddct, fz_dobj, q_tk, q_2, q_1, q_os, q_b, q_not, q_and, q_or, q_at, q_af, q_ao, q_rt, q_rf, q_ro, q_andv, q_orv, q_avt, q_avf, q_avo, q_rvt, q_rvf, q_rvo, q_ife, q_it, q_if, q_io, q_on, q_oS, q_sl, q_nil, q_cons, q_tup, q_lst, q_call1, q_call, q_f0, q_f1, q_f2, q_f3, q_f4, q_f5, q_f6, q_f7, q_callk, q_frok, q_frer, q_calli, q_s1, q_idx, q_ixo, q_mihere, q_micons, q_fri, q_sdo, q_sdi, q_rso, q_rsi, q_app, q_ext, q_ext2, q_put, q_pop, q_with, q_wok, q_for, q_enum, q_items, q_raise, q_gt, q_grt, q_lt, q_le, q_rng1, q_rng2, q_rg1, q_lrg, q_lrgi, q_rg2, q_add, q_adds, q_addl, q_addt, q_cat, q_sub, q_mulr, q_mull, q_div, q_mod, q_p18, q_p12, q_cmplt, q_cmple, q_cmpgt, q_cmpge, q_eqi, q_eqs, q_eqb, q_nei, q_nes, q_isn, q_isnn, q_isb, q_isnb, q_neg, q_dnot, q_lenl, q_lent, q_lenf, q_lens, q_int, q_intb, q_tupl, q_tupt, q_lstl, q_lstt, q_min, q_max, q_ixn, q_ixm, q_ixl, q_ixt, q_ixf, q_rep, q_isi_tt, q_isi_ts, q_isi_ti, q_isi_ss, q_isi_st, q_isi_ii, q_isi_it, q_isi_is, q_isi_bi, q_lfi, q_lfb, q_lfs, q_lfn, q_itt, q_itl, q_itf, q_slt, q_sll, q_sls, tk_row, tk_wd, q_cut, q_cutf, q_cutt, q_try, q_tryo, q_tnx, q_trt, q_tonx, q_tort, w_irt, w_inx, w_iro, w_lnx, w_lct, w_lbk, w_lrt, w_lro, w_ler, w_nnx, w_nrt, w_nro, w_ner, w_rnx, w_rrt, w_rro, w_rer, w_tn, w_tt, w_tt3, ev_ownL, ev_putL, ev_lend, ev_hn, ev_hp, ev_hu, ev_ho, ev_hi, ev_i0, ev_i1, ev_tN, ev_tnil, ev_tcons, ev_tTup, List.getElem?_cons_zero, List.getElem?_cons_succ, List.set_cons_zero, List.set_cons_succ, List.length_cons, List.length_nil, List.length_append, List.length_map, List.length_replicate, List.length_set, rngs_length, List.nil_append, List.cons_append, Int.toNat_natCast, Int.toNat_zero, Int.toNat_one, Int.reduceToNat, List.getElem?_map, Option.map_some, Nat.reduceAdd, Nat.reduceSub, Nat.reduceLT, Nat.reduceLeDiff, Nat.reduceEqDiff, Int.reduceEq, Int.reduceLT, Int.reduceLE, Int.reduceAdd, Int.reduceSub, Int.reduceMul, Int.reduceNeg, List.replicate_succ, List.replicate_zero, Bool.not_true, Bool.not_false, Bool.and_true, Bool.true_and, Bool.and_false, Bool.false_and, Bool.or_true, Bool.true_or, Bool.or_false, Bool.false_or, decide_true, decide_false, if_true, if_false, and_self, true_and, and_true, Nat.sub_self, Nat.add_zero, Nat.zero_add, Bool.true_eq_false, Bool.false_eq_true, ite_true, ite_false, reduceIte, eq_self])
def wcL (w : Str) : List Nat := dl w.length ++ w.cps.toList
def rcL (ws : List Str) : List Nat := dl ws.length ++ (ws.map wcL).flatten
def tcL : Tk → List Nat
  | .row ws => 70 :: rcL ws
  | .wd w => wcL w
def kcL (ts : List Tk) : List Nat := (ts.map tcL).flatten
def wrL (r : List Str) (ts : List Tk) : List Nat := 87 :: (rcL r ++ kcL ts)
/-- good tokens -/
def Gk : Tk → Prop
  | .row ws => ws.length ≤ 4 ∧ ∀ w ∈ ws, Gw w
  | .wd w => Gw w
theorem dl_len {n : Nat} (h : n ≤ 12) : (dl n).length ≤ 2 := by
  have : (List.range 13).all (fun n => decide ((dl n).length ≤ 2)) = true := by decide +kernel
  simpa using List.all_eq_true.mp this n (List.mem_range.mpr (by omega))
theorem len_w (w : Str) : w.cps.toList.length = w.length := by simp [Str.length]
theorem wc_len {w : Str} (h : Gw w) : (wcL w).length ≤ 14 := by
  unfold wcL
  have := dl_len h.ln
  have := h.ln
  rw [List.length_append, len_w]
  omega
theorem wcs_len : ∀ {ws : List Str}, (∀ w ∈ ws, Gw w) → (ws.map wcL).flatten.length ≤ 14 * ws.length
  | [], _ => by simp
  | w :: ws, h => by
    have h1 := wc_len (h w List.mem_cons_self)
    have h2 := wcs_len fun x hx => h x (List.mem_cons_of_mem w hx)
    simp only [List.map_cons, List.flatten_cons, List.length_append, List.length_cons]
    omega
theorem rc_len {ws : List Str} (hl : ws.length ≤ 4) (h : ∀ w ∈ ws, Gw w) : (rcL ws).length ≤ 58 := by
  unfold rcL
  have h1 := wcs_len h
  have h2 := dl_len (n := ws.length) (by omega)
  rw [List.length_append]
  omega
theorem tc_len {t : Tk} (h : Gk t) : (tcL t).length ≤ 59 := by
  cases t with
  | row ws => have := rc_len h.1 h.2; simp only [tcL, List.length_cons]; omega
  | wd w => have := wc_len h; simp only [tcL]; omega
theorem kc_len : ∀ {ts : List Tk}, (∀ t ∈ ts, Gk t) → (kcL ts).length ≤ 59 * ts.length
  | [], _ => by simp [kcL]
  | t :: ts, h => by
    have h1 := tc_len (h t List.mem_cons_self)
    have h2 := kc_len fun x hx => h x (List.mem_cons_of_mem t hx)
    simp only [kcL, List.map_cons, List.flatten_cons, List.length_append, List.length_cons] at h2 ⊢
    omega
theorem add_SS {a b c : List Nat} (h : c = a ++ b) (hl : a.length + b.length ≤ 16777216) : dAdd (.str (S a)) (.str (S b)) = some (.str (S c)) := by subst h; exact add_S hl
theorem add_SW {a : List Nat} {w : Str} (hl : a.length + w.length ≤ 16777216) : dAdd (.str (S a)) (.str w) = some (.str (S (a ++ w.cps.toList))) := by
  have := add_S (a := a) (b := w.cps.toList) (by rw [len_w]; exact hl)
  rw [S_eta] at this
  exact this
theorem word_code_ok {w : Str} (h : Gw w) : F_word_code [.str w] = .ok (.str (S (wcL w))) none := Cmp.eq <| cmp_of <| by
  have hw := h.ln
  have h2 : dStr [.int (w.length : Int)] = some (.str (S (dl w.length))) := str_dl (Nat.lt_of_le_of_lt hw (by decide))
  have h3 : dAdd (.str (S (dl w.length))) (.str w) = some (.str (S (wcL w))) := add_SW (by have := dl_len hw; omega)
  unfold m_word_code
  walk_at "ev"
theorem join_ok {ws : List Str} (hl : ws.length ≤ 4) (h : ∀ w ∈ ws, Gw w) : dJoin "" (.lst (ws.map fun w => D.str (S (wcL w)))) = some (.str (S (ws.map wcL).flatten)) := by
  have := dJoin_S (ls := ws.map wcL) (by have := wcs_len h; omega)
  rw [List.map_map] at this
  exact this
/-- the head of a row's code -/
theorem row_add {ws : List Str} (hl : ws.length ≤ 4) (h : ∀ w ∈ ws, Gw w) (acc : List Nat) (ha : acc.length ≤ 1000000) :
    dStr [.int (ws.length : Int)] = some (.str (S (dl ws.length))) ∧ dAdd (.str (S acc)) (.str (S (dl ws.length))) = some (.str (S (acc ++ dl ws.length))) ∧ dAdd (.str (S (acc ++ dl ws.length))) (.str (S (ws.map wcL).flatten)) = some (.str (S (acc ++ rcL ws))) := by
  have h1 := wcs_len h
  have h2 := dl_len (n := ws.length) (by omega)
  exact ⟨str_dl (Nat.lt_of_le_of_lt hl (by decide)), add_SS rfl (by omega), add_SS (by simp [rcL]) (by rw [List.length_append]; omega)⟩
theorem kc_step {ts : List Tk} {i : Nat} {t : Tk} (h : ts[i]? = some t) : kcL (ts.take (i + 1)) = kcL (ts.take i) ++ tcL t := by
  rw [List.take_add_one, h]
  simp [kcL]
theorem kcode_ok {ts : List Tk} (h : ∀ t ∈ ts, Gk t) (hl : ts.length ≤ 1000) : F_kind_code [.tup (ts.map Tk.d)] = .ok (.str (S (kcL ts))) none := Cmp.eq <| cmp_of <| by
  unfold m_kind_code
  walk_at "ev"
  unfold f_kind_code_1
  walk_at "ev"
  refine w_for (Y := List Nat × Sl) (fun y => [.pl (.tup (ts.map Tk.d)), .pl (.str (S y.1)), y.2, .un]) (fun i y => y.1 = kcL (ts.take i)) ([], .un) rfl (by simp [kcL]) (fun i d y hd hy => ?_) fun y hy => ?_
  · obtain ⟨acc, y2⟩ := y
    dsimp only at hy
    rw [List.getElem?_map, Option.map_eq_some_iff] at hd
    obtain ⟨t, ht, rfl⟩ := hd
    have hg := h t (List.mem_of_getElem? ht)
    have hal : acc.length ≤ 59000 := by
      have := kc_len (ts := ts.take i) fun t ht => h t (List.mem_of_mem_take ht)
      rw [hy]
      have := List.length_take_le' i ts
      omega
    rw [w_tn]
    cases t with
    | row ws =>
      obtain ⟨g1, g2⟩ := hg
      obtain ⟨e1, e2, e3⟩ := row_add g1 g2 (acc ++ [70]) (by simp; omega)
      have e0 : dAdd (.str (S acc)) (.str "F") = some (.str (S (acc ++ [70]))) := add_SS (b := [70]) rfl (by simp; omega)
      have ej := join_ok g1 g2
      have elc : mLc [3] (mItems (mRd 2)) (mtN 3) mYes (mCall 1 F_word_code [] (mCons (mRd 3) mNil)) [.pl (.tup (ts.map Tk.d)), .pl (.str (S acc)), .pl (.tup (ws.map .str)), .un] = .ok (.lst (ws.map fun w => D.str (S (wcL w)))) [.pl (.tup (ts.map Tk.d)), .pl (.str (S acc)), .pl (.tup (ws.map .str)), .un] :=
        lc_map (own := [3]) ws (fun w => D.str w) (fun w => D.str (S (wcL w))) rfl rfl (by omega) fun w hw => ⟨[.pl (.tup (ts.map Tk.d)), .pl (.str (S acc)), .pl (.tup (ws.map .str)), .pl (.str w)], rfl, by
          have := word_code_ok (g2 w hw)
          clear ht hy h e0 e1 e2 e3 ej hw g2
          walk_at "ev", rfl⟩
      show Wp (b_kind_code_0 [.pl (.tup (ts.map Tk.d)), .pl (.str (S acc)), .pl (.tup (ws.map .str)), .un]) _
      unfold b_kind_code_0
      have hst := (kc_step ht).trans (by rw [← hy])
      clear ht h g2 hy
      walk_at "ev"
      exact ⟨(_, _), rfl, by first | (rw [hst]; simp [tcL]) | simp [tcL]⟩
    | wd w =>
      have e1 := word_code_ok hg
      have e2 : dAdd (.str (S acc)) (.str (S (wcL w))) = some (.str (S (acc ++ wcL w))) := add_SS rfl (by have := wc_len hg; omega)
      show Wp (b_kind_code_0 [.pl (.tup (ts.map Tk.d)), .pl (.str (S acc)), .pl (.str w), .un]) _
      unfold b_kind_code_0
      have hst := (kc_step ht).trans (by rw [← hy])
      clear ht h hy
      walk_at "ev"
      exact ⟨(_, _), rfl, by first | (rw [hst]; simp [tcL]) | simp [tcL]⟩
  · obtain ⟨acc, y2⟩ := y
    dsimp only at hy
    rw [List.length_map, List.take_length] at hy
    subst hy
    walk_at "ev"
theorem wrap_ok {r : List Str} {ts : List Tk} (hr : r.length ≤ 4) (hrw : ∀ w ∈ r, Gw w) (h : ∀ t ∈ ts, Gk t) (hl : ts.length ≤ 1000) : F_wrap_word [.tup (r.map .str), .tup (ts.map Tk.d)] = .ok (.str (S (wrL r ts))) none := Cmp.eq <| cmp_of <| by
  obtain ⟨e1, e2, e3⟩ := row_add hr hrw [87] (by simp)
  have e2 : dAdd (.str "W") (.str (S (dl r.length))) = some (.str (S (87 :: dl r.length))) := e2
  have e3 : dAdd (.str (S (87 :: dl r.length))) (.str (S (r.map wcL).flatten)) = some (.str (S (87 :: rcL r))) := e3
  have ej := join_ok hr hrw
  have ek := kcode_ok h hl
  have elc : mLc [2] (mItems (mRd 0)) (mtN 2) mYes (mCall 1 F_word_code [] (mCons (mRd 2) mNil)) [.pl (.tup (r.map .str)), .pl (.tup (ts.map Tk.d)), .un] = .ok (.lst (r.map fun w => D.str (S (wcL w)))) [.pl (.tup (r.map .str)), .pl (.tup (ts.map Tk.d)), .un] :=
    lc_map (own := [2]) r (fun w => D.str w) (fun w => D.str (S (wcL w))) rfl rfl (by omega) fun w hw => ⟨[.pl (.tup (r.map .str)), .pl (.tup (ts.map Tk.d)), .pl (.str w)], rfl, by
      have := word_code_ok (hrw w hw)
      clear h e1 e2 e3 ej hw hrw ek
      walk_at "ev", rfl⟩
  have e4 : dAdd (.str (S (87 :: rcL r))) (.str (S (kcL ts))) = some (.str (S (wrL r ts))) := add_SS (by simp [wrL]) (by have := rc_len hr hrw; have := kc_len h; simp; omega)
  clear h hrw
  unfold m_wrap_word
  walk_at "ev"
theorem lwrap_ok {r : List Str} {ts : List Tk} (hr : r.length ≤ 4) (hrw : ∀ w ∈ r, Gw w) (h : ∀ t ∈ ts, Gk t) (hl : ts.length ≤ 1000) : F__law_wrap [.tup (r.map .str), .tup (ts.map Tk.d)] = .ok (.str (S (wrL r ts))) none := Cmp.eq <| cmp_of <| by
  obtain ⟨e1, e2, e3⟩ := row_add hr hrw [87] (by simp)
  have e2 : dAdd (.str "W") (.str (S (dl r.length))) = some (.str (S (87 :: dl r.length))) := e2
  have e3 : dAdd (.str (S (87 :: dl r.length))) (.str (S (r.map wcL).flatten)) = some (.str (S (87 :: rcL r))) := e3
  have ej := join_ok hr hrw
  have word : ∀ {w : Str}, Gw w → dStr [.int (w.length : Int)] = some (.str (S (dl w.length))) ∧ dAdd (.str (S (dl w.length))) (.str w) = some (.str (S (wcL w))) := fun {w} hw =>
    ⟨str_dl (Nat.lt_of_le_of_lt hw.ln (by decide)), add_SW (by have := dl_len hw.ln; have := hw.ln; omega)⟩
  have elc : ∀ (ws : List Str), ws.length ≤ 4 → (∀ w ∈ ws, Gw w) → ∀ (mi : M (List D)) (x0 x1 x2 x3 : Sl), mi [x0, x1, x2, x3, .un] = .ok (ws.map .str) [x0, x1, x2, x3, .un] →
      mLc [4] mi (mtN 4) mYes (m2 dAdd (mCall1 dStr (mCons (mCall1 dLen (mCons (mRd 4) mNil)) mNil)) (mRd 4)) [x0, x1, x2, x3, .un] = .ok (.lst (ws.map fun w => D.str (S (wcL w)))) [x0, x1, x2, x3, .un] := fun ws h1 h2 mi x0 x1 x2 x3 hmi =>
    lc_map (own := [4]) ws (fun w => D.str w) (fun w => D.str (S (wcL w))) hmi rfl (by omega) fun w hw => ⟨[x0, x1, x2, x3, .pl (.str w)], rfl, by
      obtain ⟨f1, f2⟩ := word (h2 w hw)
      have f3 := (h2 w hw).ln
      clear h e1 e2 e3 ej hw h2 hrw word hmi
      walk_at "ev", rfl⟩
  have elc0 := elc r hr hrw (mItems (mRd 0)) (.pl (.tup (r.map .str))) (.pl (.tup (ts.map Tk.d))) .un .un rfl
  have hr58 := rc_len hr hrw
  unfold m__law_wrap
  clear hrw
  walk_at "ev"
  unfold f__law_wrap_1
  clear elc0 e1 e2 e3 ej
  walk_at "ev"
  refine w_for (Y := List Nat × Sl) (fun y => [.pl (.tup (r.map .str)), .pl (.tup (ts.map Tk.d)), .pl (.str (S y.1)), y.2, .un]) (fun i y => y.1 = [87] ++ rcL r ++ kcL (ts.take i)) (87 :: rcL r, .un) rfl (by simp [kcL]) (fun i d y hd hy => ?_) fun y hy => ?_
  · obtain ⟨acc, y2⟩ := y
    dsimp only at hy
    rw [List.getElem?_map, Option.map_eq_some_iff] at hd
    obtain ⟨t, ht, rfl⟩ := hd
    have hg := h t (List.mem_of_getElem? ht)
    have hal : acc.length ≤ 60000 := by
      have := kc_len (ts := ts.take i) fun t ht => h t (List.mem_of_mem_take ht)
      rw [hy]
      have := List.length_take_le' i ts
      simp only [List.length_append, List.length_cons, List.length_nil]
      omega
    rw [w_tn]
    cases t with
    | row ws =>
      obtain ⟨g1, g2⟩ := hg
      obtain ⟨e1, e2, e3⟩ := row_add g1 g2 (acc ++ [70]) (by simp; omega)
      have e0 : dAdd (.str (S acc)) (.str "F") = some (.str (S (acc ++ [70]))) := add_SS (b := [70]) rfl (by simp; omega)
      have ej := join_ok g1 g2
      have elc0 := elc ws g1 g2 (mItems (mRd 3)) (.pl (.tup (r.map .str))) (.pl (.tup (ts.map Tk.d))) (.pl (.str (S acc))) (.pl (.tup (ws.map .str))) rfl
      show Wp (b__law_wrap_0 [.pl (.tup (r.map .str)), .pl (.tup (ts.map Tk.d)), .pl (.str (S acc)), .pl (.tup (ws.map .str)), .un]) _
      unfold b__law_wrap_0
      have hst : 87 :: (rcL r ++ kcL (ts.take (i + 1))) = acc ++ tcL (.row ws) := by rw [kc_step ht, hy]; simp
      clear ht h g2 elc word hy
      walk_at "ev"
      exact ⟨(_, _), rfl, by first | (simp only [List.cons_append, List.nil_append]; rw [hst]; simp [tcL]) | simp [tcL]⟩
    | wd w =>
      obtain ⟨f1, f2⟩ := word hg
      have f3 : w.length ≤ 12 := hg.ln
      have e1 : dAdd (.str (S acc)) (.str (S (dl w.length))) = some (.str (S (acc ++ dl w.length))) := add_SS rfl (by have := dl_len f3; omega)
      have e2 : dAdd (.str (S (acc ++ dl w.length))) (.str w) = some (.str (S (acc ++ dl w.length ++ w.cps.toList))) := add_SW (by have := dl_len f3; rw [List.length_append]; omega)
      show Wp (b__law_wrap_0 [.pl (.tup (r.map .str)), .pl (.tup (ts.map Tk.d)), .pl (.str (S acc)), .pl (.str w), .un]) _
      unfold b__law_wrap_0
      have hst : 87 :: (rcL r ++ kcL (ts.take (i + 1))) = acc ++ tcL (.wd w) := by rw [kc_step ht, hy]; simp
      clear ht h elc word hy
      walk_at "ev"
      exact ⟨(_, _), rfl, by first | (simp only [List.cons_append, List.nil_append]; rw [hst]; simp [tcL, wcL]) | simp [tcL, wcL]⟩
  · obtain ⟨acc, y2⟩ := y
    dsimp only at hy
    rw [List.length_map, List.take_length] at hy
    have : acc = wrL r ts := by rw [hy]; simp [wrL]
    subst this
    clear elc word h
    walk_at "ev"
end VM.K62

set_option Elab.async false
set_option linter.all false
set_option autoImplicit false
set_option maxRecDepth 100000
set_option maxHeartbeats 400000
namespace VM.K62
open PySem PySem.Spec PyProof.Rows L2 VM
local macro_rules | `(tactic| walk_at "ev") => `(tactic| simp (disch := first | omega | (simp only [List.length_cons, List.length_nil, List.length_map, List.length_append, List.length_replicate, List.length_set, rngs_length]; omega)) only [*, q_seq, q_skip, q_knx, q_krt, q_kro, q_kbk, q_kct, q_ker, q_kk, q_bind, q_bok, q_ber, q_drop, q_ret, q_reto, q_ifs, q_ct, q_cf, q_asg, q_asgo, q_asgt, q_rok, q_rer, q_c, q_rd, q_mv, q_fz, fz_lst, fz_dct, fz_obj, fz_dlst, fz_ddct, fz_dobj, q_tk, q_2, q_1, q_os, q_b, q_not, q_and, q_or, q_at, q_af, q_ao, q_rt, q_rf, q_ro, q_andv, q_orv, q_avt, q_avf, q_avo, q_rvt, q_rvf, q_rvo, q_ife, q_it, q_if, q_io, q_on, q_oS, q_sl, q_nil, q_cons, q_tup, q_lst, q_call1, q_call, q_f0, q_f1, q_f2, q_f3, q_f4, q_f5, q_f6, q_f7, q_callk, q_frok, q_frer, q_calli, q_s1, q_idx, q_ixo, q_mihere, q_micons, q_fri, q_sdo, q_sdi, q_rso, q_rsi, q_app, q_ext, q_ext2, q_put, q_pop, q_with, q_wok, q_for, q_enum, q_items, q_raise, q_gt, q_grt, q_lt, q_le, q_rng1, q_rng2, q_rg1, q_lrg, q_lrgi, q_rg2, q_add, q_adds, q_addl, q_addt, q_cat, q_sub, q_mulr, q_mull, q_div, q_mod, q_p18, q_p12, q_cmplt, q_cmple, q_cmpgt, q_cmpge, q_eqi, q_eqs, q_eqb, q_nei, q_nes, q_isn, q_isnn, q_isb, q_isnb, q_neg, q_dnot, q_lenl, q_lent, q_lenf, q_lens, q_int, q_intb, q_tupl, q_tupt, q_lstl, q_lstt, q_min, q_max, q_ixn, q_ixm, q_ixl, q_ixt, q_ixf, q_rep, q_isi_tt, q_isi_ts, q_isi_ti, q_isi_ss, q_isi_st, q_isi_ii, q_isi_it, q_isi_is, q_isi_bi, q_lfi, q_lfb, q_lfs, q_lfn, q_itt, q_itl, q_itf, q_slt, q_sll, q_sls, tk_row, tk_wd, q_cut, q_cutf, q_cutt, q_try, q_tryo, q_tnx, q_trt, q_tonx, q_tort, w_irt, w_inx, w_iro, w_lnx, w_lct, w_lbk, w_lrt, w_lro, w_ler, w_nnx, w_nrt, w_nro, w_ner, w_rnx, w_rrt, w_rro, w_rer, w_tn, w_tt, w_tt3, ev_ownL, ev_putL, ev_lend, ev_hn, ev_hp, ev_hu, ev_ho, ev_hi, ev_i0, ev_i1, ev_tN, ev_tnil, ev_tcons, ev_tTup, List.getElem?_cons_zero, List.getElem?_cons_succ, List.set_cons_zero, List.set_cons_succ, List.length_cons, List.length_nil, List.length_append, List.length_map, List.length_replicate, List.length_set, rngs_length, List.nil_append, List.cons_append, Int.toNat_natCast, Int.toNat_zero, Int.toNat_one, Int.reduceToNat, List.getElem?_map, Option.map_some, Nat.reduceAdd, Nat.reduceSub, Nat.reduceLT, Nat.reduceLeDiff, Nat.reduceEqDiff, Int.reduceEq, Int.reduceLT, Int.reduceLE, Int.reduceAdd, Int.reduceSub, Int.reduceMul, Int.reduceNeg, List.replicate_succ, List.replicate_zero, Bool.not_true, Bool.not_false, Bool.and_true, Bool.true_and, Bool.and_false, Bool.false_and, Bool.or_true, Bool.true_or, Bool.or_false, Bool.false_or, decide_true, decide_false, if_true, if_false, and_self, true_and, and_true, Nat.sub_self, Nat.add_zero, Nat.zero_add, Bool.true_eq_false, Bool.false_eq_true, ite_true, ite_false, reduceIte, eq_self])
/-- the word that stands for a row and a kind -/
def wrS (r : List Str) (b : Kd) : Str := S (wrL r b.fl)
def mkd : Kd → Kd
  | .wd w => .wd w
  | .fn r a b => .fn [] (mkd a) (if r.isEmpty = true then mkd b else .wd (wrS r b))
def hkd : Kd → Kd
  | .wd w => .wd w
  | .fn _ a b => .fn [] (mkd a) (hkd b)
def _root_.VM.Kd.Gd (k : Kd) : Prop := ∀ t ∈ k.fl, Gk t
theorem _root_.VM.At.gd {k t : Kd} {i : Nat} (h : At k i t) (g : k.Gd) : t.Gd := fun x hx => by
  obtain ⟨q, hq⟩ := h.drop
  refine g x (List.mem_of_mem_drop (i := i) ?_)
  rw [hq]
  exact List.mem_append_left _ hx
theorem lf_toks : ∀ ts : List Tk, lfreeL (ts.map Tk.d) = true
  | [] => rfl
  | .wd w :: ts => by show (true && lfreeL (ts.map Tk.d)) = true; rw [lf_toks ts]; rfl
  | .row r :: ts => by
    have : ∀ r : List Str, lfreeL (r.map D.str) = true := fun r => by
      induction r with
      | nil => rfl
      | cons w r ih => show (true && lfreeL (r.map D.str)) = true; rw [ih]; rfl
    show (lfreeL (r.map D.str) && lfreeL (ts.map Tk.d)) = true
    rw [this, lf_toks ts]; rfl
theorem lf_kd (k : Kd) : lfree k.d = true := lf_toks k.fl
theorem mkd_sz : ∀ k : Kd, (mkd k).sz ≤ k.sz
  | .wd _ => Nat.le_refl _
  | .fn r a b => by
    have h1 := mkd_sz a
    have h2 := mkd_sz b
    have h3 := b.sz_pos
    simp only [mkd, Kd.sz]
    split
    · omega
    · simp only [Kd.sz]; omega
theorem hkd_sz : ∀ k : Kd, (hkd k).sz ≤ k.sz
  | .wd _ => Nat.le_refl _
  | .fn r a b => by
    have h1 := mkd_sz a
    have h2 := hkd_sz b
    simp only [hkd, Kd.sz]
    omega
theorem alnum_ok : ∀ c ∈ alnum, c < 1114112 := fun c h => by
  have : alnum.all (fun c => decide (c < 1114112)) = true := by decide +kernel
  simpa using List.all_eq_true.mp this c h
theorem gw_ok {w : Str} (h : Gw w) : PyData.strOk w = true := by
  unfold PyData.strOk
  rw [← Array.all_toList]
  exact List.all_eq_true.mpr fun c hc => decide_eq_true (alnum_ok c (h.al c hc))
/-- a row as a Python datum -/
def pyW (r : List Str) : List PyData := r.map .str
theorem pyW_eq : ∀ r : List Str, pyL (r.map .str) = some (pyW r)
  | [] => rfl
  | w :: r => by simp only [List.map_cons, pyL, py, pyW_eq r]; rfl
theorem pyW_lay : ∀ {r : List Str}, (∀ w ∈ r, Gw w) → PyData.canLayAll0 (pyW r) = true
  | [], _ => rfl
  | w :: r, h => by
    have h1 := gw_ok (h w List.mem_cons_self)
    have h2 := pyW_lay fun x hx => h x (List.mem_cons_of_mem w hx)
    show (PyData.strOk w && PyData.canLayAll0 (pyW r)) = true
    rw [h1, h2]; rfl
theorem pyW_dep : ∀ r : List Str, PyData.depthAll (pyW r) = 0
  | [] => rfl
  | w :: r => by
    have := pyW_dep r
    simp only [pyW, List.map_cons, PyData.depthAll, PyData.depth] at this ⊢
    omega
theorem row_sh {r : List Str} (h : ∀ w ∈ r, Gw w) : SeqAt.shaped (.tuple (pyW r)) = true := by
  unfold SeqAt.shaped
  simp only [PyData.canLay0, pyW_lay h, PyData.depth, pyW_dep]
  decide
theorem row_nil {r : List Str} (h : ∀ w ∈ r, Gw w) : dEq (.tup (r.map .str)) (.tup []) = some (.bl r.isEmpty) ∧ dNe (.tup (r.map .str)) (.tup []) = some (.bl !r.isEmpty) := by
  have : eqD (.tup (r.map .str)) (.tup []) = some r.isEmpty := by
    show eqP (.tup (r.map .str)) (.tup []) = some r.isEmpty
    unfold eqP
    simp only [py, pyW_eq, Option.map_some, pyL]
    rw [if_pos ⟨row_sh h, by decide +kernel⟩]
    cases r <;> rfl
  unfold dEq dNe
  rw [this]
  exact ⟨rfl, rfl⟩
theorem made_ok {k : Kd} (g : k.Gd) (hl : k.sz ≤ 1000) : F_made_kind [k.d] = .ok (mkd k).d none := Cmp.eq <| cmp_of <| by
  obtain ⟨E, hE, hEl, hEn⟩ := ends_ok k hl
  have hlen := kdlen k
  have h0 := k.sz_pos
  unfold m_made_kind
  walk_at "ev"
  unfold f_made_kind_1
  walk_at "ev"
  refine w_for (Y := List D × Sl × Sl × Sl × Sl × Sl) (fun y => [.pl k.d, .pl (.tup (iN E)), .ow (.lst y.1), y.2.1, y.2.2.1, y.2.2.2.1, y.2.2.2.2.1, y.2.2.2.2.2]) (fun i y => y.1.length = k.sz ∧ ∀ j t, k.sz - i ≤ j → At k j t → y.1[j]? = some (mkd t).d) (List.replicate k.sz (.tup []), .un, .un, .un, .un, .un) (by simp) ⟨by simp, fun j t h1 h2 => by have := h2.lt; omega⟩ (fun i d y hd hy => ?_) fun y hy => ?_
  · obtain ⟨M, y3, y4, y5, y6, y7⟩ := y
    obtain ⟨hi, rfl⟩ := nget hd
    obtain ⟨hM, hMj⟩ := hy
    dsimp only at hM hMj
    obtain ⟨p, hp, hpn⟩ : ∃ p : Nat, (k.sz : Int) - 1 - i = p ∧ p + 1 + i = k.sz := ⟨k.sz - 1 - i, by omega, by omega⟩
    obtain ⟨t, ht⟩ := at_ex k p (by omega)
    have fin : ∀ x : D, x = (mkd t).d → ∀ j u, k.sz - (i + 1) ≤ j → At k j u → (M.set p x)[j]? = some (mkd u).d := fun x hx j u h1 h2 => by
      by_cases hj : j = p
      · subst hj
        rw [List.getElem?_set_self (by omega), h2.uniq ht, hx]
      · rw [List.getElem?_set_ne (by omega)]
        exact hMj j u (by omega) h2
    rw [w_tn]
    show Wp (b_made_kind_0 [.pl k.d, .pl (.tup (iN E)), .ow (.lst M), .pl (.int (i : Int)), y4, y5, y6, y7]) _
    unfold b_made_kind_0
    rcases t with w | ⟨r, a, b⟩
    · have e0 := tokd ht.tok_wd
      have e1 : Tk.d (.wd w) = .str w := rfl
      have f := fin (.tup [.str w]) rfl
      clear fin hMj hEn ht hE hd g
      walk_at "ev"
      exact ⟨(M.set p (.tup [.str w]), _, _, _, _, _), rfl, by simp [hM], f⟩
    · have e0 := tokd ht.tok_fn
      have e1 : Tk.d (.row r) = .tup (r.map .str) := rfl
      have g1 := hMj _ _ (by omega) ht.l
      have g2 := hMj _ _ (by omega) ht.r
      have g3 : (iN E)[p + 1]? = some (.int ((p + 1 + a.sz : Nat) : Int)) := iN_at (hEn _ _ ht.l)
      have g4 : (iN E)[p + 1 + a.sz]? = some (.int ((p + 1 + a.sz + b.sz : Nat) : Int)) := iN_at (hEn _ _ ht.r)
      have l1 := ht.r.bound
      have hgr : Gk (.row r) := g _ (List.mem_of_getElem? ht.tok_fn)
      obtain ⟨q1, q2⟩ := row_nil hgr.2
      have hb := ht.r.gd g
      have hwr := wrap_ok hgr.1 hgr.2 hb (by rw [b.fl_len]; omega)
      have hcut : List.take (p + 1 + a.sz + b.sz - (p + 1 + a.sz)) (List.drop (p + 1 + a.sz) (k.fl.map Tk.d)) = b.fl.map Tk.d := by
        rw [← List.map_drop, ← List.map_take, show p + 1 + a.sz + b.sz - (p + 1 + a.sz) = b.sz by omega, ht.r.cut]
      have es : List.drop (p + 1 + a.sz) (k.fl.map Tk.d) = List.drop (p + 1 + a.sz) (k.fl.map Tk.d) := rfl
      have t1 : ((p : Int) + 1).toNat = p + 1 := by omega
      have hm1 := mkd_sz a
      have hm2 := mkd_sz b
      have f := fin (mkd (.fn r a b)).d rfl
      have lf1 := lf_kd (mkd a)
      have lf2 := lf_kd (mkd b)
      have hfk : ∀ c : Kd, c.sz ≤ 1000 → F_function_kind [(mkd a).d, .tup [], c.d] = .ok (Kd.fn [] (mkd a) c).d none := fun c hc => fk_ok (mkd a) c [] (by omega) hc
      cases hre : r.isEmpty with
      | true =>
        have hf := hfk (mkd b) (by omega)
        have hmk : mkd (.fn r a b) = .fn [] (mkd a) (mkd b) := by simp only [mkd, hre, if_true]
        rw [hmk] at f
        rw [hre] at q1
        clear fin hMj hEn ht hE hd g hfk hb hwr hcut es hgr q2 hmk
        generalize (mkd a).d = A at *
        generalize (mkd b).d = B at *
        generalize (Kd.fn [] (mkd a) (mkd b)).d = C at *
        walk_at "ev"
        exact ⟨(M.set p C, _, _, _, _, _), rfl, by simp [hM], f⟩
      | false =>
        have hf := hfk (.wd (wrS r b)) (by simp only [Kd.sz]; omega)
        have hf : F_function_kind [(mkd a).d, .tup [], .tup [.str (S (wrL r b.fl))]] = .ok (Kd.fn [] (mkd a) (.wd (wrS r b))).d none := hf
        have hmk : mkd (.fn r a b) = .fn [] (mkd a) (.wd (wrS r b)) := by simp only [mkd, hre, Bool.false_eq_true, if_false]
        rw [hmk] at f
        rw [hre] at q1
        clear fin hMj hEn ht hE hd g hfk hb es hgr q2 hmk g2
        generalize (mkd a).d = A at *
        generalize (Kd.fn [] (mkd a) (.wd (wrS r b))).d = C at *
        walk_at "ev"
        exact ⟨(M.set p C, _, _, _, _, _), rfl, by simp [hM], f⟩
  · obtain ⟨M, y3, y4, y5, y6, y7⟩ := y
    obtain ⟨h1, h2⟩ := hy
    dsimp only at h1 h2
    have h3 : M[0]? = some (mkd k).d := h2 0 k (by rw [rngs_length]; omega) .here
    have lf1 := lf_kd (mkd k)
    clear h2 hE hEn g
    generalize (mkd k).d = mk at *
    walk_at "ev"
end VM.K62

set_option Elab.async false
set_option linter.all false
set_option autoImplicit false
set_option maxRecDepth 100000
set_option maxHeartbeats 400000
namespace VM.K62
open PySem PySem.Spec PyProof.Rows L2 VM
local macro_rules | `(tactic| walk_at "ev") => `(tactic| simp (disch := first | omega | (simp only [List.length_cons, List.length_nil, List.length_map, List.length_append, List.length_replicate, List.length_set, rngs_length]; omega)) only [*, q_seq, q_skip, q_knx, q_krt, q_kro, q_kbk, q_kct, q_ker, q_kk, q_bind, q_bok, q_ber, q_drop, q_ret, q_reto, q_ifs, q_ct, q_cf, q_asg, q_asgo, q_asgt, q_rok, q_rer, q_c, q_rd, q_mv, q_fz, fz_lst, fz_dct, fz_obj, fz_dlst, fz_ddct, fz_dobj, q_tk, q_2, q_1, q_os, q_b, q_not, q_and, q_or, q_at, q_af, q_ao, q_rt, q_rf, q_ro, q_andv, q_orv, q_avt, q_avf, q_avo, q_rvt, q_rvf, q_rvo, q_ife, q_it, q_if, q_io, q_on, q_oS, q_sl, q_nil, q_cons, q_tup, q_lst, q_call1, q_call, q_f0, q_f1, q_f2, q_f3, q_f4, q_f5, q_f6, q_f7, q_callk, q_frok, q_frer, q_calli, q_s1, q_idx, q_ixo, q_mihere, q_micons, q_fri, q_sdo, q_sdi, q_rso, q_rsi, q_app, q_ext, q_ext2, q_put, q_pop, q_with, q_wok, q_for, q_enum, q_items, q_raise, q_gt, q_grt, q_lt, q_le, q_rng1, q_rng2, q_rg1, q_lrg, q_lrgi, q_rg2, q_add, q_adds, q_addl, q_addt, q_cat, q_sub, q_mulr, q_mull, q_div, q_mod, q_p18, q_p12, q_cmplt, q_cmple, q_cmpgt, q_cmpge, q_eqi, q_eqs, q_eqb, q_nei, q_nes, q_isn, q_isnn, q_isb, q_isnb, q_neg, q_dnot, q_lenl, q_lent, q_lenf, q_lens, q_int, q_intb, q_tupl, q_tupt, q_lstl, q_lstt, q_min, q_max, q_ixn, q_ixm, q_ixl, q_ixt, q_ixf, q_rep, q_isi_tt, q_isi_ts, q_isi_ti, q_isi_ss, q_isi_st, q_isi_ii, q_isi_it, q_isi_is, q_isi_bi, q_lfi, q_lfb, q_lfs, q_lfn, q_itt, q_itl, q_itf, q_slt, q_sll, q_sls, tk_row, tk_wd, q_cut, q_cutf, q_cutt, q_try, q_tryo, q_tnx, q_trt, q_tonx, q_tort, w_irt, w_inx, w_iro, w_lnx, w_lct, w_lbk, w_lrt, w_lro, w_ler, w_nnx, w_nrt, w_nro, w_ner, w_rnx, w_rrt, w_rro, w_rer, w_tn, w_tt, w_tt3, ev_ownL, ev_putL, ev_lend, ev_hn, ev_hp, ev_hu, ev_ho, ev_hi, ev_i0, ev_i1, ev_tN, ev_tnil, ev_tcons, ev_tTup, List.getElem?_cons_zero, List.getElem?_cons_succ, List.set_cons_zero, List.set_cons_succ, List.length_cons, List.length_nil, List.length_append, List.length_map, List.length_replicate, List.length_set, rngs_length, List.nil_append, List.cons_append, Int.toNat_natCast, Int.toNat_zero, Int.toNat_one, Int.reduceToNat, List.getElem?_map, Option.map_some, Nat.reduceAdd, Nat.reduceSub, Nat.reduceLT, Nat.reduceLeDiff, Nat.reduceEqDiff, Int.reduceEq, Int.reduceLT, Int.reduceLE, Int.reduceAdd, Int.reduceSub, Int.reduceMul, Int.reduceNeg, List.replicate_succ, List.replicate_zero, Bool.not_true, Bool.not_false, Bool.and_true, Bool.true_and, Bool.and_false, Bool.false_and, Bool.or_true, Bool.true_or, Bool.or_false, Bool.false_or, decide_true, decide_false, if_true, if_false, and_self, true_and, and_true, Nat.sub_self, Nat.add_zero, Nat.zero_add, Bool.true_eq_false, Bool.false_eq_true, ite_true, ite_false, reduceIte, eq_self])
theorem lends_ok (k : Kd) (hl : k.sz ≤ 1000) : ∃ E, F__law_kind_ends [k.d] = .ok (.lst (iN E)) none ∧ En k E := by
  have h : Cmp (F__law_kind_ends [k.d]) (fun d => ∃ E, d = .lst (iN E) ∧ En k E) fun _ => False := by
    refine cmp_of ?_
    have hlen := kdlen k
    have elc : mLc [4] (mItems (mRd 0)) (mtN 4) mYes (mC (.int 0)) [.pl k.d, .un, .un, .un, .un] = .ok (.lst (iN (List.replicate k.sz 0))) [.pl k.d, .un, .un, .un, .un] := by
      have := lc_map (own := [4]) (mi := mItems (mRd 0)) (t := mtN 4) (me := mC (.int 0)) (s := [.pl k.d, .un, .un, .un, .un]) k.fl Tk.d (fun _ => D.int 0) rfl rfl (by rw [k.fl_len]; omega) fun t ht => ⟨[.pl k.d, .un, .un, .un, .pl t.d], rfl, rfl, rfl⟩
      rw [this]
      congr 2
      simp [iN, k.fl_len, List.map_const', List.map_replicate]
    unfold m__law_kind_ends
    walk_at "ev"
    unfold f__law_kind_ends_1
    walk_at "ev"
    refine w_for (Y := List Nat × Sl × Sl) (fun y => [.pl k.d, .ow (.lst (iN y.1)), y.2.1, y.2.2, .un]) (fun i y => y.1.length = k.sz ∧ ∀ j t, k.sz - i ≤ j → At k j t → y.1[j]? = some (j + t.sz)) (List.replicate k.sz 0, .un, .un) (by simp) ⟨by simp, fun j t h1 h2 => by have := h2.lt; omega⟩ (fun i d y hd hy => ?_) fun y hy => ?_
    · obtain ⟨E, y2, y3⟩ := y
      obtain ⟨hi, rfl⟩ := nget hd
      obtain ⟨hE, hEj⟩ := hy
      dsimp only at hE hEj
      obtain ⟨p, hp, hpn⟩ : ∃ p : Nat, (k.sz : Int) - 1 - i = p ∧ p + 1 + i = k.sz := ⟨k.sz - 1 - i, by omega, by omega⟩
      obtain ⟨t, ht⟩ := at_ex k p (by omega)
      unfold b__law_kind_ends_0
      rcases t with w | ⟨r, a, b⟩
      · have e0 := ht.tok_wd
        walk_at "ev"
        refine ⟨(E.set p (p + 1), .pl (.int i), .pl (.int p)), by simp, by simp [hE], fun j u h1 h2 => ?_⟩
        by_cases hj : j = p
        · subst hj
          rw [List.getElem?_set_self (by omega), h2.uniq ht]; rfl
        · rw [List.getElem?_set_ne (by omega)]
          exact hEj j u (by omega) h2
      · have e0 := ht.tok_fn
        have g1 := hEj _ _ (by omega) ht.l
        have g2 := hEj _ _ (by omega) ht.r
        have l1 := ht.r.bound
        have e1 : ((iN E).set p (D.int (p + 1)))[((p : Int) + 1).toNat]? = some (.int ((p + 1 + a.sz : Nat) : Int)) := by
          rw [show ((p : Int) + 1).toNat = p + 1 by omega, List.getElem?_set_ne (by omega)]
          exact iN_at g1
        have e2 : ((iN E).set p (D.int (p + 1)))[p + 1 + a.sz]? = some (.int ((p + 1 + a.sz + b.sz : Nat) : Int)) := by
          rw [List.getElem?_set_ne (by omega)]
          exact iN_at g2
        walk_at "ev"
        refine ⟨((E.set p (p + 1)).set p (p + 1 + a.sz + b.sz), .pl (.int i), .pl (.int p)), by simp, by simp [hE], fun j u h1 h2 => ?_⟩
        by_cases hj : j = p
        · subst hj
          rw [List.getElem?_set_self (by simp; omega), h2.uniq ht]
          simp only [Kd.sz, Option.some.injEq]; omega
        · rw [List.getElem?_set_ne (by omega), List.getElem?_set_ne (by omega)]
          exact hEj j u (by omega) h2
    · obtain ⟨E, y2, y3⟩ := y
      walk_at "ev"
      obtain ⟨h1, h2⟩ := hy
      exact ⟨E, rfl, h1, fun j t ht => h2 j t (by rw [rngs_length]; omega) ht⟩
  obtain ⟨d, h1, E, rfl, h2⟩ := h.ok
  exact ⟨E, h1, h2⟩
theorem lmade_ok {k : Kd} (g : k.Gd) (hl : k.sz ≤ 1000) : F__law_made [k.d] = .ok (mkd k).d none := Cmp.eq <| cmp_of <| by
  obtain ⟨E, hE, hEl, hEn⟩ := lends_ok k hl
  have hlen := kdlen k
  have h0 := k.sz_pos
  have elc : mLc [7] (mItems (mRd 0)) (mtN 7) mYes (mTup mNil) [.pl k.d, .pl (.lst (iN E)), .un, .un, .un, .un, .un, .un] = .ok (.lst (List.replicate k.sz (.tup []))) [.pl k.d, .pl (.lst (iN E)), .un, .un, .un, .un, .un, .un] := by
    have := lc_map (own := [7]) (mi := mItems (mRd 0)) (t := mtN 7) (me := mTup mNil) (s := [.pl k.d, .pl (.lst (iN E)), .un, .un, .un, .un, .un, .un]) k.fl Tk.d (fun _ => D.tup []) rfl rfl (by rw [k.fl_len]; omega) fun t ht => ⟨[.pl k.d, .pl (.lst (iN E)), .un, .un, .un, .un, .un, .pl t.d], rfl, rfl, rfl⟩
    rw [this]
    congr 2
    simp [k.fl_len, List.map_const']
  unfold m__law_made
  walk_at "ev"
  unfold f__law_made_2
  walk_at "ev"
  refine w_for (Y := List D × Sl × Sl × Sl × Sl) (fun y => [.pl k.d, .pl (.lst (iN E)), .ow (.lst y.1), y.2.1, y.2.2.1, y.2.2.2.1, y.2.2.2.2, .un]) (fun i y => y.1.length = k.sz ∧ ∀ j t, k.sz - i ≤ j → At k j t → y.1[j]? = some (mkd t).d) (List.replicate k.sz (.tup []), .un, .un, .un, .un) (by simp) ⟨by simp, fun j t h1 h2 => by have := h2.lt; omega⟩ (fun i d y hd hy => ?_) fun y hy => ?_
  · obtain ⟨M, y3, y4, y5, y6⟩ := y
    obtain ⟨hi, rfl⟩ := nget hd
    obtain ⟨hM, hMj⟩ := hy
    dsimp only at hM hMj
    obtain ⟨p, hp, hpn⟩ : ∃ p : Nat, (k.sz : Int) - 1 - i = p ∧ p + 1 + i = k.sz := ⟨k.sz - 1 - i, by omega, by omega⟩
    obtain ⟨t, ht⟩ := at_ex k p (by omega)
    have fin : ∀ x : D, x = (mkd t).d → ∀ j u, k.sz - (i + 1) ≤ j → At k j u → (M.set p x)[j]? = some (mkd u).d := fun x hx j u h1 h2 => by
      by_cases hj : j = p
      · subst hj
        rw [List.getElem?_set_self (by omega), h2.uniq ht, hx]
      · rw [List.getElem?_set_ne (by omega)]
        exact hMj j u (by omega) h2
    rw [w_tn]
    show Wp (b__law_made_1 [.pl k.d, .pl (.lst (iN E)), .ow (.lst M), .pl (.int (i : Int)), y4, y5, y6, .un]) _
    unfold b__law_made_1 i__law_made_0
    rcases t with w | ⟨r, a, b⟩
    · have e0 := tokd ht.tok_wd
      have e1 : Tk.d (.wd w) = .str w := rfl
      have f := fin (.tup [.str w]) rfl
      clear fin hMj hEn ht hE hd g
      walk_at "ev"
      exact ⟨(M.set p (.tup [.str w]), _, _, _, _), rfl, by simp [hM], f⟩
    · have e0 := tokd ht.tok_fn
      have e1 : Tk.d (.row r) = .tup (r.map .str) := rfl
      have g1 := hMj _ _ (by omega) ht.l
      have g2 := hMj _ _ (by omega) ht.r
      have g3 : (iN E)[p + 1]? = some (.int ((p + 1 + a.sz : Nat) : Int)) := iN_at (hEn _ _ ht.l)
      have g4 : (iN E)[p + 1 + a.sz]? = some (.int ((p + 1 + a.sz + b.sz : Nat) : Int)) := iN_at (hEn _ _ ht.r)
      have l1 := ht.r.bound
      have hgr : Gk (.row r) := g _ (List.mem_of_getElem? ht.tok_fn)
      obtain ⟨q1, q2⟩ := row_nil hgr.2
      have hb := ht.r.gd g
      have hwr := lwrap_ok hgr.1 hgr.2 hb (by rw [b.fl_len]; omega)
      have hcut : List.take (p + 1 + a.sz + b.sz - (p + 1 + a.sz)) (List.drop (p + 1 + a.sz) (k.fl.map Tk.d)) = b.fl.map Tk.d := by
        rw [← List.map_drop, ← List.map_take, show p + 1 + a.sz + b.sz - (p + 1 + a.sz) = b.sz by omega, ht.r.cut]
      have es : List.drop (p + 1 + a.sz) (k.fl.map Tk.d) = List.drop (p + 1 + a.sz) (k.fl.map Tk.d) := rfl
      have t1 : ((p : Int) + 1).toNat = p + 1 := by omega
      have hm1 := mkd_sz a
      have hm2 := mkd_sz b
      have f := fin (mkd (.fn r a b)).d rfl
      have lf1 := lf_kd (mkd a)
      have lf2 := lf_kd (mkd b)
      have ad1 : dAdd (.tup [.tup []]) (mkd a).d = some (.tup (.tup [] :: (mkd a).fl.map Tk.d)) := q_addt (xs := [.tup []]) (ys := (mkd a).fl.map Tk.d) (by simp [Kd.fl_len]; omega)
      have ad2 : ∀ c : Kd, c.sz ≤ 1000 → dAdd (.tup (.tup [] :: (mkd a).fl.map Tk.d)) c.d = some (Kd.fn [] (mkd a) c).d := fun c hc => (q_addt (xs := .tup [] :: (mkd a).fl.map Tk.d) (ys := c.fl.map Tk.d) (by simp [Kd.fl_len]; omega)).trans (by simp [Kd.d, Kd.fl, Tk.d])
      cases hre : r.isEmpty with
      | true =>
        have hf := ad2 (mkd b) (by omega)
        have hmk : mkd (.fn r a b) = .fn [] (mkd a) (mkd b) := by simp only [mkd, hre, if_true]
        rw [hmk] at f
        rw [hre] at q2
        clear fin hMj hEn ht hE hd g ad2 hb hwr hcut es hgr q1 hmk
        generalize .tup [] :: (mkd a).fl.map Tk.d = AA at *
        generalize (mkd a).d = A at *
        generalize (mkd b).d = B at *
        generalize (Kd.fn [] (mkd a) (mkd b)).d = C at *
        walk_at "ev"
        exact ⟨(M.set p C, _, _, _, _), rfl, by simp [hM], f⟩
      | false =>
        have hf := ad2 (.wd (wrS r b)) (by simp only [Kd.sz]; omega)
        have hf : dAdd (.tup (.tup [] :: (mkd a).fl.map Tk.d)) (.tup [.str (S (wrL r b.fl))]) = some (Kd.fn [] (mkd a) (.wd (wrS r b))).d := hf
        have hmk : mkd (.fn r a b) = .fn [] (mkd a) (.wd (wrS r b)) := by simp only [mkd, hre, Bool.false_eq_true, if_false]
        rw [hmk] at f
        rw [hre] at q2
        clear fin hMj hEn ht hE hd g ad2 hb es hgr q1 hmk
        generalize .tup [] :: (mkd a).fl.map Tk.d = AA at *
        generalize (mkd a).d = A at *
        generalize (mkd b).d = B at *
        generalize (Kd.fn [] (mkd a) (.wd (wrS r b))).d = C at *
        walk_at "ev"
        exact ⟨(M.set p C, _, _, _, _), rfl, by simp [hM], f⟩
  · obtain ⟨M, y3, y4, y5, y6⟩ := y
    obtain ⟨h1, h2⟩ := hy
    dsimp only at h1 h2
    have h3 : M[0]? = some (mkd k).d := h2 0 k (by rw [rngs_length]; omega) .here
    have lf1 := lf_kd (mkd k)
    clear h2 hE hEn g
    generalize (mkd k).d = mk at *
    walk_at "ev"
theorem split_ok (r : List Str) (a b : Kd) (hl : (Kd.fn r a b).sz ≤ 1000) : F__law_split [(Kd.fn r a b).d] = .ok (.tup [a.d, .tup (r.map .str), b.d]) none := Cmp.eq <| cmp_of <| by
  obtain ⟨E, h1, h2, h3⟩ := lends_ok (Kd.fn r a b) hl
  have e1 : (iN E)[1]? = some (.int ((1 + a.sz : Nat) : Int)) := iN_at (h3 1 a (At.here.l))
  have e3 : (Kd.fn r a b).fl[0]? = some (.row r) := rfl
  have e4 : List.take (1 + a.sz - 1) (List.drop 1 ((Kd.fn r a b).fl.map Tk.d)) = a.fl.map Tk.d := by
    simp [Kd.fl, List.take_append_of_le_length, a.fl_len]
  have e5 : List.drop (1 + a.sz) ((Kd.fn r a b).fl.map Tk.d) = b.fl.map Tk.d := by
    simp [Kd.fl, ← a.fl_len, Nat.add_comm 1]
  unfold m__law_split
  clear h2 h3
  walk_at "ev"
theorem helper_ok : ∀ (n : Nat) (k : Kd), k.Gd → k.sz ≤ 1000 → k.sz ≤ n → R_helper_kind n [k.d] = .ok (hkd k).d none
  | 0, k, _, _, h => absurd k.sz_pos (by omega)
  | n + 1, .wd w, _, _, _ => Cmp.eq <| cmp_of (n := 1) (ro := false) (body := m_helper_kind (R_helper_kind n)) (ds := [(Kd.wd w).d]) <| by
    have e0 := isfn_ok (.wd w)
    have e2 : Kd.isFn (.wd w) = false := rfl
    unfold m_helper_kind
    show Wp _ (RtQ false (fun e => e = (Kd.wd w).d) fun _ => False)
    generalize (Kd.wd w).d = d at *
    walk_at "ev"
  | n + 1, .fn r a b, g, hl, h => Cmp.eq <| cmp_of (n := 1) (ro := false) (body := m_helper_kind (R_helper_kind n)) (ds := [(Kd.fn r a b).d]) <| by
    have e0 := isfn_ok (.fn r a b)
    have e2 : Kd.isFn (.fn r a b) = true := rfl
    have hs : (Kd.fn r a b).sz = 1 + a.sz + b.sz := rfl
    have h1 := left_ok r a b hl
    have h2 := right_ok r a b hl
    have h3 := made_ok ((At.here (k := .fn r a b)).l.gd g) (by omega)
    have h4 := helper_ok n b ((At.here (k := .fn r a b)).r.gd g) (by omega) (by omega)
    have m1 := mkd_sz a
    have m2 := hkd_sz b
    have h5 : F_function_kind [(mkd a).d, .tup [], (hkd b).d] = .ok (Kd.fn [] (mkd a) (hkd b)).d none := fk_ok (mkd a) (hkd b) [] (by omega) (by omega)
    unfold m_helper_kind
    show Wp _ (RtQ false (fun e => e = (Kd.fn [] (mkd a) (hkd b)).d) fun _ => False)
    clear g hl hs h m1 m2
    generalize (Kd.fn r a b).d = d at *
    generalize (Kd.fn [] (mkd a) (hkd b)).d = d1 at *
    generalize a.d = d2 at *
    generalize b.d = d3 at *
    generalize (mkd a).d = d4 at *
    generalize (hkd b).d = d5 at *
    walk_at "ev"
theorem quiet_ok {k : Kd} (g : k.Gd) (hl : k.sz ≤ 1000) : F__law_quiet_kind [k.d] = .ok (hkd k).d none := Cmp.eq <| cmp_of <| by
  have hlen := kdlen k
  unfold m__law_quiet_kind
  walk_at "ev"
  unfold f__law_quiet_kind_1
  walk_at "ev"
  refine w_for (Y := List Tk × Kd × Sl × Sl) (fun y => [.pl k.d, .pl (.tup (y.1.map Tk.d)), .pl y.2.1.d, y.2.2.1, y.2.2.2]) (fun i y => y.1 ++ (hkd y.2.1).fl = (hkd k).fl ∧ y.2.1.Gd ∧ y.2.1.sz + i ≤ k.sz) ([], k, .un, .un) rfl ⟨rfl, g, Nat.le_refl _⟩ (fun i d y hd hy => ?_) fun y hy => ?_
  · obtain ⟨P, t, y3, y4⟩ := y
    obtain ⟨hP, hg, hs⟩ := hy
    dsimp only at hP hg hs
    have hPl : P.length ≤ 1000 := by
      have := congrArg List.length hP
      have h2 := hkd_sz k
      rw [List.length_append, (hkd k).fl_len] at this
      omega
    rw [w_tn]
    show Wp (b__law_quiet_kind_0 [.pl k.d, .pl (.tup (P.map Tk.d)), .pl t.d, .pl d, y4]) _
    unfold b__law_quiet_kind_0
    rcases t with w | ⟨r, a, b⟩
    · have hq : D.tup (P.map Tk.d ++ [.str w]) = (hkd k).d := by
        show D.tup _ = D.tup ((hkd k).fl.map Tk.d)
        rw [← hP]; simp [hkd, Kd.fl, Tk.d]
      have ht : (Kd.wd w).d = .tup [.str w] := rfl
      rw [ht]
      clear hP hd g
      generalize (hkd k).d = H at *
      walk_at "ev"
    · have hss : (Kd.fn r a b).sz = 1 + a.sz + b.sz := rfl
      have h1 := split_ok r a b (by omega)
      have h2 := lmade_ok ((At.here (k := .fn r a b)).l.gd hg) (by omega)
      have h3 : (Kd.fn r a b).fl[0]? = some (.row r) := rfl
      have hb := (At.here (k := .fn r a b)).r.gd hg
      have m1 := mkd_sz a
      have hml : ((mkd a).fl.map Tk.d).length = (mkd a).sz := by simp [Kd.fl_len]
      have hfin : (P ++ .row [] :: (mkd a).fl) ++ (hkd b).fl = (hkd k).fl := by rw [← hP]; simp [hkd, Kd.fl]
      have had : dAdd (.tup (P.map Tk.d ++ [.tup []])) (mkd a).d = some (.tup ((P ++ .row [] :: (mkd a).fl).map Tk.d)) := (q_addt (xs := P.map Tk.d ++ [.tup []]) (ys := (mkd a).fl.map Tk.d) (by rw [hml]; simp; omega)).trans (by simp [Tk.d])
      generalize hPP : P ++ .row [] :: (mkd a).fl = PP at *
      clear hP hd g hg
      walk_at "ev"
      exact ⟨(PP, b, _, _), rfl, hfin, hb, by show b.sz + (i + 1) ≤ _; omega⟩
  · obtain ⟨P, t, y3, y4⟩ := y
    obtain ⟨hP, hg, hs⟩ := hy
    dsimp only at hs
    rw [rngs_length] at hs
    have := t.sz_pos
    omega
end VM.K62

set_option Elab.async false
set_option linter.all false
set_option autoImplicit false
set_option maxRecDepth 100000
set_option maxHeartbeats 400000
namespace VM.K62
open PySem PySem.Spec PyProof.Rows L2 VM
local macro_rules | `(tactic| walk_at "ev") => `(tactic| simp (disch := first | omega | (simp only [List.length_cons, List.length_nil, List.length_map, List.length_append, List.length_replicate, List.length_set, rngs_length]; omega)) only [*, q_seq, q_skip, q_knx, q_krt, q_kro, q_kbk, q_kct, q_ker, q_kk, q_bind, q_bok, q_ber, q_drop, q_ret, q_reto, q_ifs, q_ct, q_cf, q_asg, q_asgo, q_asgt, q_rok, q_rer, q_c, q_rd, q_mv, q_fz, fz_lst, fz_dct, fz_obj, fz_dlst, fz_ddct, fz_dobj, q_tk, q_2, q_1, q_os, q_b, q_not, q_and, q_or, q_at, q_af, q_ao, q_rt, q_rf, q_ro, q_andv, q_orv, q_avt, q_avf, q_avo, q_rvt, q_rvf, q_rvo, q_ife, q_it, q_if, q_io, q_on, q_oS, q_sl, q_nil, q_cons, q_tup, q_lst, q_call1, q_call, q_f0, q_f1, q_f2, q_f3, q_f4, q_f5, q_f6, q_f7, q_callk, q_frok, q_frer, q_calli, q_s1, q_idx, q_ixo, q_mihere, q_micons, q_fri, q_sdo, q_sdi, q_rso, q_rsi, q_app, q_ext, q_ext2, q_put, q_pop, q_with, q_wok, q_for, q_enum, q_items, q_raise, q_gt, q_grt, q_lt, q_le, q_rng1, q_rng2, q_rg1, q_lrg, q_lrgi, q_rg2, q_add, q_adds, q_addl, q_addt, q_cat, q_sub, q_mulr, q_mull, q_div, q_mod, q_p18, q_p12, q_cmplt, q_cmple, q_cmpgt, q_cmpge, q_eqi, q_eqs, q_eqb, q_nei, q_nes, q_isn, q_isnn, q_isb, q_isnb, q_neg, q_dnot, q_lenl, q_lent, q_lenf, q_lens, q_int, q_intb, q_tupl, q_tupt, q_lstl, q_lstt, q_min, q_max, q_ixn, q_ixm, q_ixl, q_ixt, q_ixf, q_rep, q_isi_tt, q_isi_ts, q_isi_ti, q_isi_ss, q_isi_st, q_isi_ii, q_isi_it, q_isi_is, q_isi_bi, q_lfi, q_lfb, q_lfs, q_lfn, q_itt, q_itl, q_itf, q_slt, q_sll, q_sls, tk_row, tk_wd, q_cut, q_cutf, q_cutt, q_try, q_tryo, q_tnx, q_trt, q_tonx, q_tort, w_irt, w_inx, w_iro, w_lnx, w_lct, w_lbk, w_lrt, w_lro, w_ler, w_nnx, w_nrt, w_nro, w_ner, w_rnx, w_rrt, w_rro, w_rer, w_tn, w_tt, w_tt3, ev_ownL, ev_putL, ev_lend, ev_hn, ev_hp, ev_hu, ev_ho, ev_hi, ev_i0, ev_i1, ev_tN, ev_tnil, ev_tcons, ev_tTup, List.getElem?_cons_zero, List.getElem?_cons_succ, List.set_cons_zero, List.set_cons_succ, List.length_cons, List.length_nil, List.length_append, List.length_map, List.length_replicate, List.length_set, rngs_length, List.nil_append, List.cons_append, Int.toNat_natCast, Int.toNat_zero, Int.toNat_one, Int.reduceToNat, List.getElem?_map, Option.map_some, Nat.reduceAdd, Nat.reduceSub, Nat.reduceLT, Nat.reduceLeDiff, Nat.reduceEqDiff, Int.reduceEq, Int.reduceLT, Int.reduceLE, Int.reduceAdd, Int.reduceSub, Int.reduceMul, Int.reduceNeg, List.replicate_succ, List.replicate_zero, Bool.not_true, Bool.not_false, Bool.and_true, Bool.true_and, Bool.and_false, Bool.false_and, Bool.or_true, Bool.true_or, Bool.or_false, Bool.false_or, decide_true, decide_false, if_true, if_false, and_self, true_and, and_true, Nat.sub_self, Nat.add_zero, Nat.zero_add, Bool.true_eq_false, Bool.false_eq_true, ite_true, ite_false, reduceIte, eq_self])
/-! ### words and kinds told -/
theorem low_sg : ∀ c ∈ alnum, strIn ⟨#[c]⟩ sgns = true := fun c h => by
  have : alnum.all (fun c => strIn ⟨#[c]⟩ sgns) = true := by decide +kernel
  exact List.all_eq_true.mp this c h
/-- begins with a letter -/
def Let (c : Nat) : Prop := c ∈ lower.cps.toList ∨ c ∈ caps.cps.toList
theorem let_in {c : Nat} (h : Let c) : (strIn ⟨#[c]⟩ lower || strIn ⟨#[c]⟩ caps) = true := by
  have h1 : lower.cps.toList.all (fun c => strIn ⟨#[c]⟩ lower || strIn ⟨#[c]⟩ caps) = true := by decide +kernel
  have h2 : caps.cps.toList.all (fun c => strIn ⟨#[c]⟩ lower || strIn ⟨#[c]⟩ caps) = true := by decide +kernel
  rcases h with h | h
  · exact List.all_eq_true.mp h1 c h
  · exact List.all_eq_true.mp h2 c h
structure Cw (w : Str) : Prop where
  hd : ∃ c r, w.cps.toList = c :: r ∧ Let c
  al : ∀ c ∈ w.cps.toList, c ∈ alnum
  ln : w.length ≤ 100000
theorem begins_ok {w : Str} {c : Nat} {r : List Nat} (hw : w.cps.toList = c :: r) (al : ∀ c ∈ w.cps.toList, c ∈ alnum) (ln : w.length ≤ 100000) (f : Str) : F_begins_in [.str w, .str f] = .ok (.bl (strIn ⟨#[c]⟩ f)) none := Cmp.eq <| cmp_of <| by
  have h0 : dIx (.str w) (.int 0) = some (.str ⟨#[c]⟩) := by
    have := ix_strL (z := w) (i := 0) (by rw [hw]; simp) (by rw [sizeLine_eq]; omega)
    simp only [hw, List.getElem_cons_zero] at this
    exact this
  have h1 : decide (w = "") = false := decide_eq_false fun e => by subst e; cases hw
  have h2 : dNotIn (.str ⟨#[c]⟩) (.str f) = some (.bl !(strIn ⟨#[c]⟩ f)) := rfl
  have h3 : itemsD (.str w) = some (w.cps.toList.map fun c => D.str ⟨#[c]⟩) := rfl
  have h4 : w.cps.toList.length ≤ 100000 := by rw [len_w]; exact ln
  unfold m_begins_in
  cases hc : strIn ⟨#[c]⟩ f with
  | false =>
    rw [hc] at h2
    clear al
    walk_at "ev"
  | true =>
    rw [hc] at h2
    generalize hcs : w.cps.toList = cs at *
    clear hw
    walk_at "ev"
    unfold f_begins_in_1
    walk_at "ev"
    refine w_for (Y := Sl) (fun y => [.pl (.str w), .pl (.str f), y]) (fun i y => True) .un rfl trivial (fun i d y hd hy => ?_) fun y hy => ?_
    · rw [List.getElem?_map, Option.map_eq_some_iff] at hd
      obtain ⟨x, hx, rfl⟩ := hd
      have h5 : dNotIn (.str ⟨#[x]⟩) (.str "abcdefghijklmnopqrstuvwxyzABCDEFGHIJKLMNOPQRSTUVWXYZ0123456789") = some (.bl !(strIn ⟨#[x]⟩ sgns)) := rfl
      rw [low_sg x (al x (List.mem_of_getElem? hx))] at h5
      rw [w_tn]
      show Wp (b_begins_in_0 [.pl (.str w), .pl (.str f), .pl (.str ⟨#[x]⟩)]) _
      unfold b_begins_in_0
      clear al hx
      walk_at "ev"
      exact ⟨_, rfl⟩
    · walk_at "ev"
theorem low_lit : ("abcdefghijklmnopqrstuvwxyz" : Str) = lower := rfl
theorem cap_lit : ("ABCDEFGHIJKLMNOPQRSTUVWXYZ" : Str) = caps := rfl
theorem base_ok {w : Str} {c : Nat} {r : List Nat} (hw : w.cps.toList = c :: r) (al : ∀ c ∈ w.cps.toList, c ∈ alnum) (ln : w.length ≤ 100000) : F_is_base_word [.str w] = .ok (.bl (strIn ⟨#[c]⟩ lower)) none := Cmp.eq <| cmp_of <| by
  have h : F_begins_in [.str w, .str "abcdefghijklmnopqrstuvwxyz"] = .ok (.bl (strIn ⟨#[c]⟩ lower)) none := begins_ok hw al ln lower
  unfold m_is_base_word
  clear al
  walk_at "ev"
theorem data_ok {w : Str} {c : Nat} {r : List Nat} (hw : w.cps.toList = c :: r) (al : ∀ c ∈ w.cps.toList, c ∈ alnum) (ln : w.length ≤ 100000) : F_is_data_word [.str w] = .ok (.bl (strIn ⟨#[c]⟩ caps)) none := Cmp.eq <| cmp_of <| by
  have h : F_begins_in [.str w, .str "ABCDEFGHIJKLMNOPQRSTUVWXYZ"] = .ok (.bl (strIn ⟨#[c]⟩ caps)) none := begins_ok hw al ln caps
  unfold m_is_data_word
  clear al
  walk_at "ev"
theorem rowS_ok (w : Str) : F_is_row [.str w] = .ok (.bl false) none := Cmp.eq <| cmp_of <| by
  unfold m_is_row
  walk_at "ev"
theorem row0_ok : F_is_row [.tup []] = .ok (.bl true) none := Cmp.eq <| cmp_of <| by
  unfold m_is_row
  walk_at "ev"
  unfold f_is_row_1
  walk_at "ev"
  refine w_for (Y := Unit) (fun y => [.pl (.tup []), .pl .non, .un]) (fun i y => True) () rfl trivial (fun i d y hd hy => by simp at hd) fun y hy => ?_
  walk_at "ev"
/-- tokens of a made kind -/
def Mt : Tk → Prop
  | .row r => r = []
  | .wd w => Cw w
theorem iskind_ok {k : Kd} (g : ∀ t ∈ k.fl, Mt t) (hl : k.sz ≤ 1000) : F_is_kind [k.d] = .ok (.bl true) none := Cmp.eq <| cmp_of <| by
  have hlen := kdlen k
  unfold m_is_kind
  walk_at "ev"
  unfold f_is_kind_1
  walk_at "ev"
  refine w_for (Y := Nat × Sl) (fun y => [.pl k.d, .pl (.int (y.1 : Int)), y.2]) (fun i y => run y.1 (k.fl.drop i) = some 0) (1, .un) rfl (run_kd k) (fun i d y hd hy => ?_) fun y hy => ?_
  · obtain ⟨m, y2⟩ := y
    dsimp only at hy
    rw [List.getElem?_map, Option.map_eq_some_iff] at hd
    obtain ⟨t, ht, rfl⟩ := hd
    have hm := g t (List.mem_of_getElem? ht)
    obtain ⟨h1, e1⟩ := List.getElem?_eq_some_iff.mp ht
    rw [List.drop_eq_getElem_cons h1, e1] at hy
    rw [w_tn]
    show Wp (b_is_kind_0 [.pl k.d, .pl (.int (m : Int)), .pl t.d]) _
    unfold b_is_kind_0
    cases m with
    | zero => simp [run] at hy
    | succ q =>
      have hq : decide (((q + 1 : Nat) : Int) = 0) = false := decide_eq_false (by omega)
      clear ht e1 g
      cases t with
      | row r =>
        have hm : r = [] := hm
        subst hm
        have hy : run (q + 2) (k.fl.drop (i + 1)) = some 0 := hy
        have h2 := row0_ok
        have h3 : Tk.d (.row []) = .tup [] := rfl
        rw [h3]
        generalize hR : run (q + 2) (k.fl.drop (i + 1)) = R at *
        walk_at "ev"
        refine ⟨(q + 2, .pl (.tup [])), ?_, by show run (q + 2) _ = _; rw [hR]; assumption⟩
        have : ((q + 1 : Nat) : Int) + 1 = ((q + 2 : Nat) : Int) := by omega
        rw [this]
      | wd w =>
        have hy : run q (k.fl.drop (i + 1)) = some 0 := hy
        obtain ⟨⟨c, r, hw, hc⟩, al, ln⟩ := hm
        have h2 := rowS_ok w
        have h3 := base_ok hw al ln
        have h4 := data_ok hw al ln
        have h5 := let_in hc
        have h6 : Tk.d (.wd w) = .str w := rfl
        rw [h6]
        clear al hw
        generalize hR : run q (k.fl.drop (i + 1)) = R at *
        cases hb : strIn ⟨#[c]⟩ lower with
        | true =>
          rw [hb] at h3
          clear h5 hb
          walk_at "ev"
          refine ⟨(q, .pl (.str w)), ?_, by show run q _ = _; rw [hR]; assumption⟩
          have : ((q + 1 : Nat) : Int) - 1 = ((q : Nat) : Int) := by omega
          rw [this]
        | false =>
          rw [hb, Bool.false_or] at h5
          rw [hb] at h3
          rw [h5] at h4
          clear h5 hb
          walk_at "ev"
          refine ⟨(q, .pl (.str w)), ?_, by show run q _ = _; rw [hR]; assumption⟩
          have : ((q + 1 : Nat) : Int) - 1 = ((q : Nat) : Int) := by omega
          rw [this]
  · obtain ⟨m, y2⟩ := y
    dsimp only at hy
    rw [List.length_map, List.drop_length] at hy
    have hm : m = 0 := by simpa [run] using hy
    subst hm
    clear hy g
    walk_at "ev"
    rfl
end VM.K62

set_option Elab.async false
set_option linter.all false
set_option autoImplicit false
set_option maxRecDepth 100000
set_option maxHeartbeats 400000
namespace VM.K62
open PySem PySem.Spec PyProof.Rows L2 VM
local macro_rules | `(tactic| walk_at "ev") => `(tactic| simp (disch := first | omega | (simp only [List.length_cons, List.length_nil, List.length_map, List.length_append, List.length_replicate, List.length_set, rngs_length]; omega)) only [*, q_seq, q_skip, q_knx, q_krt, q_kro, q_kbk, q_kct, q_ker, q_kk, q_bind, q_bok, q_ber, q_drop, q_ret, q_reto, q_ifs, q_ct, q_cf, q_asg, q_asgo, q_asgt, q_rok, q_rer, q_c, q_rd, q_mv, q_fz, fz_lst, fz_dct, fz_obj, fz_dlst, fz_ddct, fz_dobj, q_tk, q_2, q_1, q_os, q_b, q_not, q_and, q_or, q_at, q_af, q_ao, q_rt, q_rf, q_ro, q_andv, q_orv, q_avt, q_avf, q_avo, q_rvt, q_rvf, q_rvo, q_ife, q_it, q_if, q_io, q_on, q_oS, q_sl, q_nil, q_cons, q_tup, q_lst, q_call1, q_call, q_f0, q_f1, q_f2, q_f3, q_f4, q_f5, q_f6, q_f7, q_callk, q_frok, q_frer, q_calli, q_s1, q_idx, q_ixo, q_mihere, q_micons, q_fri, q_sdo, q_sdi, q_rso, q_rsi, q_app, q_ext, q_ext2, q_put, q_pop, q_with, q_wok, q_for, q_enum, q_items, q_raise, q_gt, q_grt, q_lt, q_le, q_rng1, q_rng2, q_rg1, q_lrg, q_lrgi, q_rg2, q_add, q_adds, q_addl, q_addt, q_cat, q_sub, q_mulr, q_mull, q_div, q_mod, q_p18, q_p12, q_cmplt, q_cmple, q_cmpgt, q_cmpge, q_eqi, q_eqs, q_eqb, q_nei, q_nes, q_isn, q_isnn, q_isb, q_isnb, q_neg, q_dnot, q_lenl, q_lent, q_lenf, q_lens, q_int, q_intb, q_tupl, q_tupt, q_lstl, q_lstt, q_min, q_max, q_ixn, q_ixm, q_ixl, q_ixt, q_ixf, q_rep, q_isi_tt, q_isi_ts, q_isi_ti, q_isi_ss, q_isi_st, q_isi_ii, q_isi_it, q_isi_is, q_isi_bi, q_lfi, q_lfb, q_lfs, q_lfn, q_itt, q_itl, q_itf, q_slt, q_sll, q_sls, tk_row, tk_wd, q_cut, q_cutf, q_cutt, q_try, q_tryo, q_tnx, q_trt, q_tonx, q_tort, w_irt, w_inx, w_iro, w_lnx, w_lct, w_lbk, w_lrt, w_lro, w_ler, w_nnx, w_nrt, w_nro, w_ner, w_rnx, w_rrt, w_rro, w_rer, w_tn, w_tt, w_tt3, ev_ownL, ev_putL, ev_lend, ev_hn, ev_hp, ev_hu, ev_ho, ev_hi, ev_i0, ev_i1, ev_tN, ev_tnil, ev_tcons, ev_tTup, List.getElem?_cons_zero, List.getElem?_cons_succ, List.set_cons_zero, List.set_cons_succ, List.length_cons, List.length_nil, List.length_append, List.length_map, List.length_replicate, List.length_set, rngs_length, List.nil_append, List.cons_append, Int.toNat_natCast, Int.toNat_zero, Int.toNat_one, Int.reduceToNat, List.getElem?_map, Option.map_some, Nat.reduceAdd, Nat.reduceSub, Nat.reduceLT, Nat.reduceLeDiff, Nat.reduceEqDiff, Int.reduceEq, Int.reduceLT, Int.reduceLE, Int.reduceAdd, Int.reduceSub, Int.reduceMul, Int.reduceNeg, List.replicate_succ, List.replicate_zero, Bool.not_true, Bool.not_false, Bool.and_true, Bool.true_and, Bool.and_false, Bool.false_and, Bool.or_true, Bool.true_or, Bool.or_false, Bool.false_or, decide_true, decide_false, if_true, if_false, and_self, true_and, and_true, Nat.sub_self, Nat.add_zero, Nat.zero_add, Bool.true_eq_false, Bool.false_eq_true, ite_true, ite_false, reduceIte, eq_self])
/-! ### good words, their codes and what stands for them -/
structure Lw (w : Str) : Prop where
  hd : ∃ c r, w.cps.toList = c :: r ∧ Let c
  al : ∀ c ∈ w.cps.toList, c ∈ alnum
  ln : w.length ≤ 12
theorem Lw.gw {w : Str} (h : Lw w) : Gw w := ⟨by
  obtain ⟨c, r, e, _⟩ := h.hd
  exact ⟨c, r, e, h.al c (by rw [e]; simp)⟩, h.al, h.ln⟩
theorem Lw.cw {w : Str} (h : Lw w) : Cw w := ⟨h.hd, h.al, Nat.le_trans h.ln (by decide)⟩
def Lk : Tk → Prop
  | .row ws => ws.length ≤ 4 ∧ ∀ w ∈ ws, Lw w
  | .wd w => Lw w
theorem Lk.gk {t : Tk} (h : Lk t) : Gk t := by
  cases t with
  | row ws => exact ⟨h.1, fun w hw => (h.2 w hw).gw⟩
  | wd w => exact h.gw
def _root_.VM.Kd.Ld (k : Kd) : Prop := ∀ t ∈ k.fl, Lk t
theorem _root_.VM.Kd.Ld.gd {k : Kd} (h : k.Ld) : k.Gd := fun t ht => (h t ht).gk
theorem dl_al {n : Nat} (h : n ≤ 12) : ∀ c ∈ dl n, c ∈ alnum := by
  have : (List.range 13).all (fun n => (dl n).all fun c => alnum.contains c) = true := by decide +kernel
  have h2 := List.all_eq_true.mp this n (List.mem_range.mpr (by omega))
  intro c hc
  have := List.all_eq_true.mp h2 c hc
  simpa using this
theorem wc_al {w : Str} (h : Gw w) : ∀ c ∈ wcL w, c ∈ alnum := fun c hc => (List.mem_append.mp hc).elim (dl_al h.ln c) (h.al c)
theorem rc_al {ws : List Str} (hl : ws.length ≤ 4) (h : ∀ w ∈ ws, Gw w) : ∀ c ∈ rcL ws, c ∈ alnum := fun c hc => (List.mem_append.mp hc).elim (dl_al (by omega) c) fun hc => by
  obtain ⟨l, hl, hc⟩ := List.mem_flatten.mp hc
  obtain ⟨w, hw, rfl⟩ := List.mem_map.mp hl
  exact wc_al (h w hw) c hc
theorem kc_al {ts : List Tk} (h : ∀ t ∈ ts, Gk t) : ∀ c ∈ kcL ts, c ∈ alnum := fun c hc => by
  obtain ⟨l, hl, hc⟩ := List.mem_flatten.mp hc
  obtain ⟨t, ht, rfl⟩ := List.mem_map.mp hl
  have g := h t ht
  cases t with
  | row ws =>
    rcases List.mem_cons.mp hc with rfl | hc
    · decide +kernel
    · exact rc_al g.1 g.2 c hc
  | wd w => exact wc_al g c hc
theorem wr_al {r : List Str} {ts : List Tk} (hl : r.length ≤ 4) (hr : ∀ w ∈ r, Gw w) (h : ∀ t ∈ ts, Gk t) : ∀ c ∈ wrL r ts, c ∈ alnum := fun c hc => by
  rcases List.mem_cons.mp hc with rfl | hc
  · decide +kernel
  · exact (List.mem_append.mp hc).elim (rc_al hl hr c) (kc_al h c)
theorem wr_len {r : List Str} {ts : List Tk} (hl : r.length ≤ 4) (hr : ∀ w ∈ r, Gw w) (h : ∀ t ∈ ts, Gk t) : (wrL r ts).length ≤ 59 + 59 * ts.length := by
  have h1 := rc_len hl hr
  have h2 := kc_len h
  simp only [wrL, List.length_cons, List.length_append]
  omega
theorem wr_cw {r : List Str} {ts : List Tk} (hl : r.length ≤ 4) (hr : ∀ w ∈ r, Gw w) (h : ∀ t ∈ ts, Gk t) (hs : ts.length ≤ 1000) : Cw (S (wrL r ts)) := ⟨⟨87, _, rfl, .inr (by decide +kernel)⟩, wr_al hl hr h, by
  rw [S_len]
  have := wr_len hl hr h
  omega⟩
/-- tokens of a made kind, and how long they are -/
def Mn (n : Nat) : Tk → Prop
  | .row r => r = []
  | .wd w => Cw w ∧ w.length ≤ n
theorem Mn.mt {n : Nat} {t : Tk} (h : Mn n t) : Mt t := by
  cases t with
  | row r => exact h
  | wd w => exact h.1
theorem fn_parts {r : List Str} {a b : Kd} (h : (Kd.fn r a b).Ld) : Lk (.row r) ∧ a.Ld ∧ b.Ld := ⟨h _ (by simp [Kd.fl]), fun t ht => h t (by simp [Kd.fl, ht]), fun t ht => h t (by simp [Kd.fl, ht])⟩
theorem mkd_mn : ∀ {k : Kd} {n : Nat}, k.Ld → k.sz ≤ n → n ≤ 1000 → ∀ t ∈ (mkd k).fl, Mn (59 + 59 * n) t
  | .wd w, n, h, hs, hn => fun t ht => by
    have : t = .wd w := by simpa [mkd, Kd.fl] using ht
    subst this
    have := h (.wd w) (by simp [Kd.fl])
    exact ⟨Lw.cw this, by have := Lw.ln this; omega⟩
  | .fn r a b, n, h, hs, hn => fun t ht => by
    obtain ⟨g1, g2, g3⟩ := fn_parts h
    simp only [Kd.sz] at hs
    have ha := mkd_mn (n := n) g2 (by omega) hn
    have hb := mkd_mn (n := n) g3 (by omega) hn
    simp only [mkd, Kd.fl, List.mem_cons, List.mem_append] at ht
    rcases ht with rfl | ht | ht
    · rfl
    · exact ha t ht
    · split at ht
      · exact hb t ht
      · have : t = .wd (wrS r b) := by simpa [Kd.fl] using ht
        subst this
        have g := wr_len g1.1 (fun w hw => (g1.2 w hw).gw) g3.gd
        rw [b.fl_len] at g
        exact ⟨wr_cw g1.1 (fun w hw => (g1.2 w hw).gw) g3.gd (by rw [b.fl_len]; omega), by unfold wrS; rw [S_len]; omega⟩
theorem hkd_mn : ∀ {k : Kd} {n : Nat}, k.Ld → k.sz ≤ n → n ≤ 1000 → ∀ t ∈ (hkd k).fl, Mn (59 + 59 * n) t
  | .wd w, n, h, hs, hn => mkd_mn (k := .wd w) h hs hn
  | .fn r a b, n, h, hs, hn => fun t ht => by
    obtain ⟨g1, g2, g3⟩ := fn_parts h
    simp only [Kd.sz] at hs
    simp only [hkd, Kd.fl, List.mem_cons, List.mem_append] at ht
    rcases ht with rfl | ht | ht
    · rfl
    · exact mkd_mn (n := n) g2 (by omega) hn t ht
    · exact hkd_mn (n := n) g3 (by omega) hn t ht
theorem mn_rk {k : Kd} (h : ∀ t ∈ k.fl, Mn (59 + 59 * 41) t) (hs : k.sz ≤ 41) : ∃ z, dRepr [k.d] = some (.str z) := by
  have : Rk k.d ((2478 + 1) * k.fl.length) 2 := (Rk.tup (RkL.all (w := 2478) (dp := 1) (ds := k.fl.map Tk.d) fun d hd => by
    obtain ⟨t, ht, rfl⟩ := List.mem_map.mp hd
    have g := h t ht
    cases t with
    | row r =>
      have : r = [] := g
      subst this
      exact Rk.mono (Rk.tup RkL.nil) (by decide) (by decide)
    | wd w => exact Rk.mono (Rk.str fun c hc => alnum_small c (g.1.al c hc)) g.2 (by decide))).mono (by simp) (Nat.le_refl _)
  exact repr_of this (by rw [k.fl_len]; omega) (by decide)
theorem wr_rk {r : List Str} {ts : List Tk} (hl : r.length ≤ 4) (hr : ∀ w ∈ r, Gw w) (h : ∀ t ∈ ts, Gk t) (hs : ts.length ≤ 41) : ∃ z, dRepr [.str (S (wrL r ts))] = some (.str z) :=
  repr_of (Rk.str fun c hc => alnum_small c (wr_al hl hr h c hc)) (by rw [S_len]; have := wr_len hl hr h; omega) (by decide)
/-! what is told apart -/
def isD (c : Nat) : Bool := decide (48 ≤ c) && decide (c ≤ 57)
theorem dl_dig {n : Nat} (h : n ≤ 12) : (∀ c ∈ dl n, isD c = true) ∧ dl n ≠ [] := by
  have : (List.range 13).all (fun n => (dl n).all isD && !(dl n).isEmpty) = true := by decide +kernel
  have h2 := List.all_eq_true.mp this n (List.mem_range.mpr (by omega))
  rw [Bool.and_eq_true] at h2
  exact ⟨List.all_eq_true.mp h2.1, fun e => by rw [e] at h2; simp at h2⟩
theorem dl_inj {n m : Nat} (h : n ≤ 12) (h' : m ≤ 12) (e : dl n = dl m) : n = m := by
  have : (List.range 13).all (fun n => (List.range 13).all fun m => !decide (dl n = dl m) || decide (n = m)) = true := by decide +kernel
  have h2 := List.all_eq_true.mp (List.all_eq_true.mp this n (List.mem_range.mpr (by omega))) m (List.mem_range.mpr (by omega))
  rw [decide_eq_true e] at h2
  simpa using h2
theorem dl_one {n : Nat} (h : n ≤ 4) : ∃ c, dl n = [c] := by
  have : (List.range 5).all (fun n => decide ((dl n).length = 1)) = true := by decide +kernel
  have h2 := List.all_eq_true.mp this n (List.mem_range.mpr (by omega))
  exact List.length_eq_one_iff.mp (by simpa using h2)
theorem let_dig {c : Nat} (h : Let c) : isD c = false := by
  have h1 : lower.cps.toList.all (fun c => !isD c) = true := by decide +kernel
  have h2 : caps.cps.toList.all (fun c => !isD c) = true := by decide +kernel
  rcases h with h | h
  · simpa using List.all_eq_true.mp h1 c h
  · simpa using List.all_eq_true.mp h2 c h
theorem dsplit : ∀ {a b : List Nat} {x y : Nat} {r s : List Nat}, (∀ c ∈ a, isD c = true) → (∀ c ∈ b, isD c = true) → isD x = false → isD y = false → a ++ x :: r = b ++ y :: s → a = b ∧ x :: r = y :: s
  | [], [], _, _, _, _, _, _, _, _, e => ⟨rfl, e⟩
  | [], c :: b, x, y, r, s, _, hb, hx, _, e => by
    simp only [List.nil_append, List.cons_append, List.cons.injEq] at e
    rw [e.1, hb c List.mem_cons_self] at hx; cases hx
  | c :: a, [], x, y, r, s, ha, _, _, hy, e => by
    simp only [List.nil_append, List.cons_append, List.cons.injEq] at e
    rw [← e.1, ha c List.mem_cons_self] at hy; cases hy
  | c :: a, d :: b, x, y, r, s, ha, hb, hx, hy, e => by
    simp only [List.cons_append, List.cons.injEq] at e
    obtain ⟨rfl, e⟩ := e
    obtain ⟨h1, h2⟩ := dsplit (fun c h => ha c (List.mem_cons_of_mem _ h)) (fun c h => hb c (List.mem_cons_of_mem _ h)) hx hy e
    exact ⟨by rw [h1], h2⟩
theorem wc_inj {w v : Str} {p q : List Nat} (hw : Lw w) (hv : Lw v) (e : wcL w ++ p = wcL v ++ q) : w = v ∧ p = q := by
  obtain ⟨c, r, ew, lc⟩ := hw.hd
  obtain ⟨d, s, ev, ld⟩ := hv.hd
  unfold wcL at e
  rw [ew, ev, List.append_assoc, List.append_assoc, List.cons_append, List.cons_append] at e
  obtain ⟨h1, h2⟩ := dsplit (dl_dig hw.ln).1 (dl_dig hv.ln).1 (let_dig lc) (let_dig ld) e
  have hl := dl_inj hw.ln hv.ln h1
  have h3 : w.cps.toList ++ p = v.cps.toList ++ q := by rw [ew, ev]; exact h2
  obtain ⟨h4, h5⟩ := List.append_inj h3 (by rw [len_w, len_w]; exact hl)
  exact ⟨by rw [← S_eta w, ← S_eta v, h4], h5⟩
theorem wcs_inj : ∀ {ws vs : List Str} {p q : List Nat}, (∀ w ∈ ws, Lw w) → (∀ w ∈ vs, Lw w) → ws.length = vs.length → (ws.map wcL).flatten ++ p = (vs.map wcL).flatten ++ q → ws = vs ∧ p = q
  | [], [], _, _, _, _, _, e => ⟨rfl, e⟩
  | [], _ :: _, _, _, _, _, h, _ => by cases h
  | _ :: _, [], _, _, _, _, h, _ => by cases h
  | w :: ws, v :: vs, p, q, h1, h2, hl, e => by
    simp only [List.map_cons, List.flatten_cons, List.append_assoc] at e
    obtain ⟨e1, e2⟩ := wc_inj (h1 w List.mem_cons_self) (h2 v List.mem_cons_self) e
    obtain ⟨e3, e4⟩ := wcs_inj (fun x h => h1 x (List.mem_cons_of_mem _ h)) (fun x h => h2 x (List.mem_cons_of_mem _ h)) (by simpa using hl) e2
    exact ⟨by rw [e1, e3], e4⟩
theorem rc_inj {ws vs : List Str} {p q : List Nat} (hw : ws.length ≤ 4 ∧ ∀ w ∈ ws, Lw w) (hv : vs.length ≤ 4 ∧ ∀ w ∈ vs, Lw w) (e : rcL ws ++ p = rcL vs ++ q) : ws = vs ∧ p = q := by
  obtain ⟨c, ec⟩ := dl_one hw.1
  obtain ⟨d, ed⟩ := dl_one hv.1
  unfold rcL at e
  rw [ec, ed, List.append_assoc, List.append_assoc] at e
  simp only [List.cons_append, List.nil_append, List.cons.injEq] at e
  have hl := dl_inj (n := ws.length) (m := vs.length) (by omega) (by omega) (by rw [ec, ed, e.1])
  exact wcs_inj hw.2 hv.2 hl e.2
theorem tc_ne {t : Tk} (h : Lk t) : tcL t ≠ [] := by
  cases t with
  | row ws => exact List.cons_ne_nil _ _
  | wd w => exact fun e => (dl_dig (Lw.ln h)).2 (List.append_eq_nil_iff.mp e).1
theorem kc_inj : ∀ {ts us : List Tk}, (∀ t ∈ ts, Lk t) → (∀ t ∈ us, Lk t) → kcL ts = kcL us → ts = us
  | [], [], _, _, _ => rfl
  | [], u :: us, _, h, e => by
    have : tcL u ++ kcL us = [] := e.symm
    exact absurd (List.append_eq_nil_iff.mp this).1 (tc_ne (h u List.mem_cons_self))
  | t :: ts, [], h, _, e => by
    have : tcL t ++ kcL ts = [] := e
    exact absurd (List.append_eq_nil_iff.mp this).1 (tc_ne (h t List.mem_cons_self))
  | t :: ts, u :: us, h1, h2, e => by
    have e : tcL t ++ kcL ts = tcL u ++ kcL us := e
    have g1 := h1 t List.mem_cons_self
    have g2 := h2 u List.mem_cons_self
    have ih : kcL ts = kcL us → ts = us := kc_inj (fun x h => h1 x (List.mem_cons_of_mem _ h)) (fun x h => h2 x (List.mem_cons_of_mem _ h))
    have no : ∀ {w : Str} {p q : List Nat}, Lw w → wcL w ++ p = 70 :: q → False := fun {w p q} hw e => by
      obtain ⟨hd, hn⟩ := dl_dig hw.ln
      unfold wcL at e
      cases hdl : dl w.length with
      | nil => exact hn hdl
      | cons c r =>
        rw [hdl] at e hd
        simp only [List.cons_append, List.cons.injEq] at e
        have := hd c List.mem_cons_self
        rw [e.1] at this
        revert this; decide
    cases t with
    | row ws =>
      cases u with
      | row vs =>
        simp only [tcL, List.cons_append, List.cons.injEq, true_and] at e
        obtain ⟨e1, e2⟩ := rc_inj g1 g2 e
        rw [e1, ih e2]
      | wd v => exact (no (w := v) g2 e.symm).elim
    | wd w =>
      cases u with
      | row vs => exact (no (w := w) g1 e).elim
      | wd v =>
        obtain ⟨e1, e2⟩ := wc_inj g1 g2 e
        rw [e1, ih e2]
abbrev Pr2 := List Str × List Tk
def Lp (x : Pr2) : Prop := (x.1.length ≤ 4 ∧ ∀ w ∈ x.1, Lw w) ∧ ∀ t ∈ x.2, Lk t
theorem wr_inj {x y : Pr2} (hx : Lp x) (hy : Lp y) (e : wrL x.1 x.2 = wrL y.1 y.2) : x = y := by
  obtain ⟨r, ts⟩ := x
  obtain ⟨s, us⟩ := y
  simp only [wrL, List.cons.injEq, true_and] at e
  obtain ⟨h1, h2⟩ := rc_inj hx.1 hy.1 e
  have h3 := kc_inj hx.2 hy.2 h2
  dsimp only at h1 h3
  rw [h1, h3]
end VM.K62

set_option Elab.async false
set_option linter.all false
set_option autoImplicit false
set_option maxRecDepth 100000
set_option maxHeartbeats 400000
namespace VM.K62
open PySem PySem.Spec PyProof.Rows L2 VM
local macro_rules | `(tactic| walk_at "ev") => `(tactic| simp (disch := first | omega | (simp only [List.length_cons, List.length_nil, List.length_map, List.length_append, List.length_replicate, List.length_set, rngs_length]; omega)) only [*, q_seq, q_skip, q_knx, q_krt, q_kro, q_kbk, q_kct, q_ker, q_kk, q_bind, q_bok, q_ber, q_drop, q_ret, q_reto, q_ifs, q_ct, q_cf, q_asg, q_asgo, q_asgt, q_rok, q_rer, q_c, q_rd, q_mv, q_fz, fz_lst, fz_dct, fz_obj, fz_dlst, fz_ddct, fz_dobj, q_tk, q_2, q_1, q_os, q_b, q_not, q_and, q_or, q_at, q_af, q_ao, q_rt, q_rf, q_ro, q_andv, q_orv, q_avt, q_avf, q_avo, q_rvt, q_rvf, q_rvo, q_ife, q_it, q_if, q_io, q_on, q_oS, q_sl, q_nil, q_cons, q_tup, q_lst, q_call1, q_call, q_f0, q_f1, q_f2, q_f3, q_f4, q_f5, q_f6, q_f7, q_callk, q_frok, q_frer, q_calli, q_s1, q_idx, q_ixo, q_mihere, q_micons, q_fri, q_sdo, q_sdi, q_rso, q_rsi, q_app, q_ext, q_ext2, q_put, q_pop, q_with, q_wok, q_for, q_enum, q_items, q_raise, q_gt, q_grt, q_lt, q_le, q_rng1, q_rng2, q_rg1, q_lrg, q_lrgi, q_rg2, q_add, q_adds, q_addl, q_addt, q_cat, q_sub, q_mulr, q_mull, q_div, q_mod, q_p18, q_p12, q_cmplt, q_cmple, q_cmpgt, q_cmpge, q_eqi, q_eqs, q_eqb, q_nei, q_nes, q_isn, q_isnn, q_isb, q_isnb, q_neg, q_dnot, q_lenl, q_lent, q_lenf, q_lens, q_int, q_intb, q_tupl, q_tupt, q_lstl, q_lstt, q_min, q_max, q_ixn, q_ixm, q_ixl, q_ixt, q_ixf, q_rep, q_isi_tt, q_isi_ts, q_isi_ti, q_isi_ss, q_isi_st, q_isi_ii, q_isi_it, q_isi_is, q_isi_bi, q_lfi, q_lfb, q_lfs, q_lfn, q_itt, q_itl, q_itf, q_slt, q_sll, q_sls, tk_row, tk_wd, q_cut, q_cutf, q_cutt, q_try, q_tryo, q_tnx, q_trt, q_tonx, q_tort, w_irt, w_inx, w_iro, w_lnx, w_lct, w_lbk, w_lrt, w_lro, w_ler, w_nnx, w_nrt, w_nro, w_ner, w_rnx, w_rrt, w_rro, w_rer, w_tn, w_tt, w_tt3, ev_ownL, ev_putL, ev_lend, ev_hn, ev_hp, ev_hu, ev_ho, ev_hi, ev_i0, ev_i1, ev_tN, ev_tnil, ev_tcons, ev_tTup, List.getElem?_cons_zero, List.getElem?_cons_succ, List.set_cons_zero, List.set_cons_succ, List.length_cons, List.length_nil, List.length_append, List.length_map, List.length_replicate, List.length_set, rngs_length, List.nil_append, List.cons_append, Int.toNat_natCast, Int.toNat_zero, Int.toNat_one, Int.reduceToNat, List.getElem?_map, Option.map_some, Nat.reduceAdd, Nat.reduceSub, Nat.reduceLT, Nat.reduceLeDiff, Nat.reduceEqDiff, Int.reduceEq, Int.reduceLT, Int.reduceLE, Int.reduceAdd, Int.reduceSub, Int.reduceMul, Int.reduceNeg, List.replicate_succ, List.replicate_zero, Bool.not_true, Bool.not_false, Bool.and_true, Bool.true_and, Bool.and_false, Bool.false_and, Bool.or_true, Bool.true_or, Bool.or_false, Bool.false_or, decide_true, decide_false, if_true, if_false, and_self, true_and, and_true, Nat.sub_self, Nat.add_zero, Nat.zero_add, Bool.true_eq_false, Bool.false_eq_true, ite_true, ite_false, reduceIte, eq_self])
/-! ### pairs found in a list of pairs -/
def pyT : Tk → PyData
  | .row ws => .tuple (pyW ws)
  | .wd w => .str w
def pyP (x : Pr2) : PyData := .tuple [.tuple (pyW x.1), .tuple (x.2.map pyT)]
def enP (x : Pr2) : D := .tup [.tup (x.1.map .str), .tup (x.2.map Tk.d)]
theorem pyT_eq : ∀ ts : List Tk, pyL (ts.map Tk.d) = some (ts.map pyT)
  | [] => rfl
  | .row ws :: ts => by simp only [List.map_cons, Tk.d, pyL, py, pyW_eq, Option.map_some, pyT_eq ts, pyT]
  | .wd w :: ts => by simp only [List.map_cons, Tk.d, pyL, py, pyT_eq ts, pyT]
theorem pyP_eq (x : Pr2) : py (enP x) = some (pyP x) := by
  simp only [enP, py, pyL, pyW_eq, pyT_eq, Option.map_some, pyP]
theorem pyPL_eq : ∀ X : List Pr2, pyL (X.map enP) = some (X.map pyP)
  | [] => rfl
  | x :: X => by simp only [List.map_cons, pyL, pyP_eq, pyPL_eq X]
theorem eqvW : ∀ {r s : List Str}, PyData.eqvAll (pyW r) (pyW s) = true ↔ r = s
  | [], [] => by simp [pyW, PyData.eqvAll]
  | [], _ :: _ => by simp [pyW, PyData.eqvAll]
  | _ :: _, [] => by simp [pyW, PyData.eqvAll]
  | w :: r, v :: s => by
    have ih := eqvW (r := r) (s := s)
    simp only [pyW, List.map_cons, PyData.eqvAll, PyData.eqv, Bool.and_eq_true, beq_iff_eq, List.cons.injEq] at ih ⊢
    rw [ih]
theorem eqvT {t u : Tk} : PyData.eqv (pyT t) (pyT u) = true ↔ t = u := by
  cases t <;> cases u <;> simp [pyT, PyData.eqv, eqvW]
theorem eqvTs : ∀ {ts us : List Tk}, PyData.eqvAll (ts.map pyT) (us.map pyT) = true ↔ ts = us
  | [], [] => by simp [PyData.eqvAll]
  | [], _ :: _ => by simp [PyData.eqvAll]
  | _ :: _, [] => by simp [PyData.eqvAll]
  | t :: ts, u :: us => by
    simp only [List.map_cons, PyData.eqvAll, Bool.and_eq_true, eqvT, eqvTs, List.cons.injEq]
theorem eqvP {x y : Pr2} : PyData.eqv (pyP x) (pyP y) = true ↔ x = y := by
  obtain ⟨r, ts⟩ := x
  obtain ⟨s, us⟩ := y
  simp only [pyP, PyData.eqv, PyData.eqvAll, Bool.and_true, Bool.and_eq_true, eqvW, eqvTs, Prod.mk.injEq]
theorem layT : ∀ {ts : List Tk}, (∀ t ∈ ts, Lk t) → PyData.canLayAll0 (ts.map pyT) = true ∧ PyData.depthAll (ts.map pyT) ≤ 1
  | [], _ => ⟨rfl, by decide⟩
  | t :: ts, h => by
    obtain ⟨h1, h2⟩ := layT fun x hx => h x (List.mem_cons_of_mem t hx)
    have g := h t List.mem_cons_self
    cases t with
    | row ws =>
      refine ⟨?_, ?_⟩
      · show (PyData.canLayAll0 (pyW ws) && PyData.canLayAll0 (ts.map pyT)) = true
        rw [pyW_lay fun w hw => (g.2 w hw).gw, h1]; rfl
      · simp only [List.map_cons, pyT, PyData.depthAll, PyData.depth, pyW_dep]
        omega
    | wd w =>
      refine ⟨?_, ?_⟩
      · show (PyData.strOk w && PyData.canLayAll0 (ts.map pyT)) = true
        rw [gw_ok (Lw.gw g), h1]; rfl
      · simp only [List.map_cons, pyT, PyData.depthAll, PyData.depth]
        omega
theorem layP {x : Pr2} (h : Lp x) : PyData.canLay0 (pyP x) = true ∧ PyData.depth (pyP x) ≤ 3 := by
  obtain ⟨h1, h2⟩ := layT h.2
  refine ⟨?_, ?_⟩
  · simp only [pyP, PyData.canLay0, PyData.canLayAll0, pyW_lay fun w hw => (h.1.2 w hw).gw, h1]; rfl
  · simp only [pyP, PyData.depth, PyData.depthAll, pyW_dep]
    omega
theorem layPL : ∀ {X : List Pr2}, (∀ x ∈ X, Lp x) → PyData.canLayAll0 (X.map pyP) = true ∧ PyData.depthAll (X.map pyP) ≤ 3
  | [], _ => ⟨rfl, by decide⟩
  | x :: X, h => by
    obtain ⟨h1, h2⟩ := layPL fun y hy => h y (List.mem_cons_of_mem x hy)
    obtain ⟨h3, h4⟩ := layP (h x List.mem_cons_self)
    refine ⟨?_, ?_⟩
    · simp only [List.map_cons, PyData.canLayAll0, h1, h3]; rfl
    · simp only [List.map_cons, PyData.depthAll]
      omega
theorem shP {x : Pr2} (h : Lp x) : SeqAt.shaped (pyP x) = true := by
  obtain ⟨h1, h2⟩ := layP h
  unfold SeqAt.shaped
  rw [h1, decide_eq_true (by omega)]; rfl
theorem shPL {X : List Pr2} (h : ∀ x ∈ X, Lp x) : SeqAt.shaped (.list (X.map pyP)) = true := by
  obtain ⟨h1, h2⟩ := layPL h
  have e1 : PyData.canLay0 (.list (X.map pyP)) = true := h1
  have e2 : PyData.depth (.list (X.map pyP)) = PyData.depthAll (X.map pyP) + 1 := rfl
  unfold SeqAt.shaped
  rw [e1, decide_eq_true (by rw [e2]; omega)]; rfl
theorem in_pairs {x : Pr2} {X : List Pr2} (hx : Lp x) (hX : ∀ y ∈ X, Lp y) : ∃ b, dIn (enP x) (.lst (X.map enP)) = some (.bl b) ∧ (b = true ↔ x ∈ X) := by
  refine ⟨(X.map pyP).any fun z => PyData.eqv z (pyP x), ?_, ?_⟩
  · have h1 : inSeq (enP x) (X.map enP) = none := if_neg fun h => by cases h.1
    have h2 : inP (enP x) (X.map enP) = some ((X.map pyP).any fun z => PyData.eqv z (pyP x)) := by
      unfold inP
      rw [pyP_eq, pyPL_eq]
      dsimp only
      rw [if_pos ⟨shP hx, shPL hX⟩]
    unfold dIn
    show Option.map D.bl ((inSeq (enP x) (X.map enP)).or (inP (enP x) (X.map enP))) = _
    rw [h1, h2]; rfl
  · rw [List.any_eq_true]
    refine ⟨fun ⟨z, hz, e⟩ => ?_, fun h => ⟨pyP x, List.mem_map.mpr ⟨x, h, rfl⟩, eqvP.mpr rfl⟩⟩
    obtain ⟨y, hy, rfl⟩ := List.mem_map.mp hz
    exact eqvP.mp e ▸ hy
theorem idx_some {x : Pr2} : ∀ {X : List Pr2} {n : Nat}, x ∈ X → ∃ k, idxP (pyP x) (X.map pyP) n = some (n + k) ∧ X[k]? = some x
  | y :: X, n, h => by
    simp only [List.map_cons, idxP]
    by_cases he : y = x
    · subst he
      exact ⟨0, by rw [if_pos (eqvP.mpr rfl)]; rfl, rfl⟩
    · rw [if_neg fun e => he (eqvP.mp e)]
      obtain ⟨k, h1, h2⟩ := idx_some (n := n + 1) ((List.mem_cons.mp h).resolve_left fun e => he e.symm)
      exact ⟨k + 1, by rw [h1]; congr 1; omega, h2⟩
theorem index_ok {x : Pr2} {X : List Pr2} (hx : Lp x) (hX : ∀ y ∈ X, Lp y) (h : x ∈ X) : ∃ j : Nat, dIndex (.lst (X.map enP)) (enP x) = some (.int (j : Int)) ∧ X[j]? = some x := by
  obtain ⟨k, h1, h2⟩ := idx_some (n := 0) h
  rw [Nat.zero_add] at h1
  refine ⟨k, ?_, h2⟩
  unfold dIndex
  dsimp only
  rw [pyP_eq, pyPL_eq]
  dsimp only
  rw [if_pos ⟨shPL hX, shP hx⟩, h1]; rfl
def wrP (x : Pr2) : D := .str (S (wrL x.1 x.2))
theorem told_at {X : List Pr2} {j : Nat} {x : Pr2} (h : X[j]? = some x) : atO (X.map wrP) (j : Int) = some (wrP x) := by
  obtain ⟨h1, h2⟩ := List.getElem?_eq_some_iff.mp h
  have h3 : ixN (X.map wrP).length (j : Int) = some j := by
    rw [List.length_map]
    unfold ixN
    have e1 : ¬ ((j : Int) < 0) := by omega
    simp [e1, h1]
  unfold atO
  rw [h3]
  simp [h]
theorem in_told {x : Pr2} {X : List Pr2} (hx : Lp x) (hX : ∀ y ∈ X, Lp y) (h : x ∉ X) : dIn (wrP x) (.lst (X.map wrP)) = some (.bl false) := by
  have hf : inF (wrP x) (X.map wrP) = false := by
    unfold inF
    rw [List.any_eq_false]
    intro d hd
    obtain ⟨y, hy, rfl⟩ := List.mem_map.mp hd
    intro e
    have e : ((S (wrL y.1 y.2)) == (S (wrL x.1 x.2))) = true := e
    have := S_inj (beq_iff_eq.mp e)
    exact h (wr_inj hx (hX y hy) this.symm ▸ hy)
  have h1 : inSeq (wrP x) (X.map wrP) = some false := by
    unfold inSeq
    rw [if_pos ⟨rfl, List.all_eq_true.mpr fun d hd => by obtain ⟨y, hy, rfl⟩ := List.mem_map.mp hd; rfl⟩, hf]
  unfold dIn
  show Option.map D.bl ((inSeq (wrP x) (X.map wrP)).or (inP (wrP x) (X.map wrP))) = _
  rw [h1]; rfl
end VM.K62

set_option Elab.async false
set_option linter.all false
set_option autoImplicit false
set_option maxRecDepth 100000
set_option maxHeartbeats 400000
namespace VM.K62
open PySem PySem.Spec PyProof.Rows L2 VM
local macro_rules | `(tactic| walk_at "ev") => `(tactic| simp (disch := first | omega | (simp only [List.length_cons, List.length_nil, List.length_map, List.length_append, List.length_replicate, List.length_set, rngs_length]; omega)) only [*, q_seq, q_skip, q_knx, q_krt, q_kro, q_kbk, q_kct, q_ker, q_kk, q_bind, q_bok, q_ber, q_drop, q_ret, q_reto, q_ifs, q_ct, q_cf, q_asg, q_asgo, q_asgt, q_rok, q_rer, q_c, q_rd, q_mv, q_fz, fz_lst, fz_dct, fz_obj, fz_dlst, fz_ddct, fz_dobj, q_tk, q_2, q_1, q_os, q_b, q_not, q_and, q_or, q_at, q_af, q_ao, q_rt, q_rf, q_ro, q_andv, q_orv, q_avt, q_avf, q_avo, q_rvt, q_rvf, q_rvo, q_ife, q_it, q_if, q_io, q_on, q_oS, q_sl, q_nil, q_cons, q_tup, q_lst, q_call1, q_call, q_f0, q_f1, q_f2, q_f3, q_f4, q_f5, q_f6, q_f7, q_callk, q_frok, q_frer, q_calli, q_s1, q_idx, q_ixo, q_mihere, q_micons, q_fri, q_sdo, q_sdi, q_rso, q_rsi, q_app, q_ext, q_ext2, q_put, q_pop, q_with, q_wok, q_for, q_enum, q_items, q_raise, q_gt, q_grt, q_lt, q_le, q_rng1, q_rng2, q_rg1, q_lrg, q_lrgi, q_rg2, q_add, q_adds, q_addl, q_addt, q_cat, q_sub, q_mulr, q_mull, q_div, q_mod, q_p18, q_p12, q_cmplt, q_cmple, q_cmpgt, q_cmpge, q_eqi, q_eqs, q_eqb, q_nei, q_nes, q_isn, q_isnn, q_isb, q_isnb, q_neg, q_dnot, q_lenl, q_lent, q_lenf, q_lens, q_int, q_intb, q_tupl, q_tupt, q_lstl, q_lstt, q_min, q_max, q_ixn, q_ixm, q_ixl, q_ixt, q_ixf, q_rep, q_isi_tt, q_isi_ts, q_isi_ti, q_isi_ss, q_isi_st, q_isi_ii, q_isi_it, q_isi_is, q_isi_bi, q_lfi, q_lfb, q_lfs, q_lfn, q_itt, q_itl, q_itf, q_slt, q_sll, q_sls, tk_row, tk_wd, q_cut, q_cutf, q_cutt, q_try, q_tryo, q_tnx, q_trt, q_tonx, q_tort, w_irt, w_inx, w_iro, w_lnx, w_lct, w_lbk, w_lrt, w_lro, w_ler, w_nnx, w_nrt, w_nro, w_ner, w_rnx, w_rrt, w_rro, w_rer, w_tn, w_tt, w_tt3, ev_ownL, ev_putL, ev_lend, ev_hn, ev_hp, ev_hu, ev_ho, ev_hi, ev_i0, ev_i1, ev_tN, ev_tnil, ev_tcons, ev_tTup, List.getElem?_cons_zero, List.getElem?_cons_succ, List.set_cons_zero, List.set_cons_succ, List.length_cons, List.length_nil, List.length_append, List.length_map, List.length_replicate, List.length_set, rngs_length, List.nil_append, List.cons_append, Int.toNat_natCast, Int.toNat_zero, Int.toNat_one, Int.reduceToNat, List.getElem?_map, Option.map_some, Nat.reduceAdd, Nat.reduceSub, Nat.reduceLT, Nat.reduceLeDiff, Nat.reduceEqDiff, Int.reduceEq, Int.reduceLT, Int.reduceLE, Int.reduceAdd, Int.reduceSub, Int.reduceMul, Int.reduceNeg, List.replicate_succ, List.replicate_zero, Bool.not_true, Bool.not_false, Bool.and_true, Bool.true_and, Bool.and_false, Bool.false_and, Bool.or_true, Bool.true_or, Bool.or_false, Bool.false_or, decide_true, decide_false, if_true, if_false, and_self, true_and, and_true, Nat.sub_self, Nat.add_zero, Nat.zero_add, Bool.true_eq_false, Bool.false_eq_true, ite_true, ite_false, reduceIte, eq_self])
/-! ### what is drawn -/
def asksM : List Str := ["get", "set", "raise", "pick", "a", "ab", "b2", "tell"]
def dataM : List Str := ["D", "Tree", "E2", "Box", "Dx", "T", "Up", "Ab9"]
theorem menu_ok {M : List Str} {z : Str} (h : (z = "ask" ∧ M = asksM) ∨ (z = "data" ∧ M = dataM)) (n : Nat) : ∃ ws : List Str, F__law_menu [.int (n : Int), .str z] = .ok (.lst (ws.map .str)) none ∧ ws.length = 8 ∧ ∀ w ∈ ws, w ∈ M := by
  have hM : M.length = 8 := by rcases h with ⟨_, rfl⟩ | ⟨_, rfl⟩ <;> rfl
  let f : Nat → Str := fun k => M[(n + k) % 8]'(by rw [hM]; omega)
  refine ⟨(List.range 8).map f, Cmp.eq <| cmp_of ?_, by simp, fun w hw => by obtain ⟨k, _, rfl⟩ := List.mem_map.mp hw; exact List.getElem_mem _⟩
  have hlc : mLc [3] (mRng1 (mCons (mC (.int 8)) mNil)) (mtN 3) mYes (m2 dIx (mRd 2) (m2 (dI2 cMod) (mCall1 dInt (mCons (m2 dAdd (mRd 0) (mRd 3)) mNil)) (mC (.int 8)))) [.pl (.int (n : Int)), .pl (.str z), .pl (.lst (M.map .str)), .un] = .ok (.lst (((List.range 8).map f).map .str)) [.pl (.int (n : Int)), .pl (.str z), .pl (.lst (M.map .str)), .un] := by
    have := lc_map (own := [3]) (mi := mRng1 (mCons (mC (.int 8)) mNil)) (t := mtN 3) (me := m2 dIx (mRd 2) (m2 (dI2 cMod) (mCall1 dInt (mCons (m2 dAdd (mRd 0) (mRd 3)) mNil)) (mC (.int 8)))) (s := [.pl (.int (n : Int)), .pl (.str z), .pl (.lst (M.map .str)), .un]) (List.range 8) (fun k => D.int (k : Int)) (fun k => D.str (f k)) (by
        have : (List.range 8).map (fun k : Nat => D.int (k : Int)) = rngs 0 8 := by simp [rngs]
        rw [this]
        clear f
        walk_at "ev") rfl (by simp) (fun k hk => ⟨[.pl (.int (n : Int)), .pl (.str z), .pl (.lst (M.map .str)), .pl (.int (k : Int))], rfl, by
        obtain ⟨q, hq, e⟩ : ∃ q : Nat, q = (n + k) % 8 ∧ ((n : Int) + (k : Int)) % 8 = (q : Int) := ⟨(n + k) % 8, rfl, by omega⟩
        have hq8 : q < M.length := by omega
        have e2 : M[q]? = some (f k) := by rw [List.getElem?_eq_getElem hq8]; simp only [f, hq]
        clear hq hk h
        generalize f k = fk at *
        clear f
        walk_at "ev", rfl⟩)
    rw [this]
    simp
  unfold m__law_menu
  show Wp _ (RtQ true (fun e => e = .lst (((List.range 8).map f).map .str)) fun _ => False)
  generalize ((List.range 8).map f).map D.str = res at *
  clear f
  rcases h with ⟨rfl, rfl⟩ | ⟨rfl, rfl⟩
  · have hm : D.lst [.str "get", .str "set", .str "raise", .str "pick", .str "a", .str "ab", .str "b2", .str "tell"] = .lst (asksM.map .str) := rfl
    have d1 : decide (("ask" : Str) = "data") = false := by decide
    have d2 : decide (("ask" : Str) = "maker") = false := by decide
    generalize asksM.map D.str = mm at *
    clear hM
    walk_at "ev"
  · have hm : D.lst [.str "D", .str "Tree", .str "E2", .str "Box", .str "Dx", .str "T", .str "Up", .str "Ab9"] = .lst (dataM.map .str) := rfl
    have d1 : decide (("data" : Str) = "data") = true := by decide
    generalize dataM.map D.str = mm at *
    clear hM
    walk_at "ev"
def isRw : Tk → Bool
  | .row _ => true
  | .wd _ => false
def rb : Nat → List Bool → Option Nat
  | p, [] => some p
  | 0, _ :: _ => none
  | p + 1, false :: r => rb p r
  | p + 1, true :: r => rb (p + 2) r
theorem run_rb : ∀ (ts : List Tk) (p : Nat), run p ts = rb p (ts.map isRw)
  | [], p => by cases p <;> rfl
  | _ :: _, 0 => rfl
  | .wd w :: ts, p + 1 => run_rb ts p
  | .row r :: ts, p + 1 => run_rb ts (p + 2)
def RD (r : List Str) : D := .tup (r.map .str)
def Lr (r : List Str) : Prop := r.length ≤ 4 ∧ ∀ w ∈ r, Lw w
def fwD (b : Bool) : D := .str (if b = true then "f" else "w")
theorem shape_ok {n : Nat} (h : n < 14) : ∃ (s : Str) (bs : List Bool), [D.str "w", .str "w", .str "fww", .str "fww", .str "fww", .str "ffwww", .str "fwfww", .str "fffwwww", .str "ffwwfww", .str "fwffwww", .str "w", .str "fww", .str "ffwww", .str "fwfww"][n]? = some (.str s) ∧ itemsD (.str s) = some (bs.map fwD) ∧ rb 1 bs = some 0 ∧ bs.length ≤ 7 := by
  match n, h with
  | 0, _ => exact ⟨"w", [false], rfl, rfl, rfl, by decide⟩
  | 1, _ => exact ⟨"w", [false], rfl, rfl, rfl, by decide⟩
  | 2, _ => exact ⟨"fww", [true, false, false], rfl, rfl, rfl, by decide⟩
  | 3, _ => exact ⟨"fww", [true, false, false], rfl, rfl, rfl, by decide⟩
  | 4, _ => exact ⟨"fww", [true, false, false], rfl, rfl, rfl, by decide⟩
  | 5, _ => exact ⟨"ffwww", [true, true, false, false, false], rfl, rfl, rfl, by decide⟩
  | 6, _ => exact ⟨"fwfww", [true, false, true, false, false], rfl, rfl, rfl, by decide⟩
  | 7, _ => exact ⟨"fffwwww", [true, true, true, false, false, false, false], rfl, rfl, rfl, by decide⟩
  | 8, _ => exact ⟨"ffwwfww", [true, true, false, false, true, false, false], rfl, rfl, rfl, by decide⟩
  | 9, _ => exact ⟨"fwffwww", [true, false, true, true, false, false, false], rfl, rfl, rfl, by decide⟩
  | 10, _ => exact ⟨"w", [false], rfl, rfl, rfl, by decide⟩
  | 11, _ => exact ⟨"fww", [true, false, false], rfl, rfl, rfl, by decide⟩
  | 12, _ => exact ⟨"ffwww", [true, true, false, false, false], rfl, rfl, rfl, by decide⟩
  | 13, _ => exact ⟨"fwfww", [true, false, true, false, false], rfl, rfl, rfl, by decide⟩
theorem lkind_ok {ds : List Nat} {ws : List Str} {R : List (List Str)} (hd : ds.length = 9) (h0 : ∃ n, ds[0]? = some n ∧ n < 14) (hw : 0 < ws.length) (hwl : ws.length ≤ 100) (gw : ∀ w ∈ ws, Lw w) (hr : 0 < R.length) (hrl : R.length ≤ 100) (gr : ∀ r ∈ R, Lr r) :
    ∃ k : Kd, F__law_kind [.lst (iN ds), .lst (ws.map .str), .lst (R.map RD)] = .ok k.d none ∧ k.Ld ∧ k.sz ≤ 7 := by
  have h : Cmp (F__law_kind [.lst (iN ds), .lst (ws.map .str), .lst (R.map RD)]) (fun d => ∃ k : Kd, d = k.d ∧ k.Ld ∧ k.sz ≤ 7) fun _ => False := by
    refine cmp_of ?_
    obtain ⟨n, hn, hn14⟩ := h0
    obtain ⟨s, bs, e1, e2, e3, e4⟩ := shape_ok hn14
    have hn0 := iN_at hn
    have hmod : (n : Int) % 14 = (n : Int) := by omega
    have hwl2 : (ws.map D.str).length = ws.length := List.length_map _
    have hrl2 : (R.map RD).length = R.length := List.length_map _
    unfold m__law_kind
    walk_at "ev"
    unfold f__law_kind_1
    walk_at "ev"
    refine w_for (Y := List Tk × Nat × Nat × Sl) (fun y => [.pl (.lst (iN ds)), .pl (.lst (ws.map .str)), .pl (.lst (R.map RD)), .pl (.lst [D.str "w", .str "w", .str "fww", .str "fww", .str "fww", .str "ffwww", .str "fwfww", .str "fffwwww", .str "ffwwfww", .str "fwffwww", .str "w", .str "fww", .str "ffwww", .str "fwfww"]), .pl (.tup (y.1.map Tk.d)), .pl (.int (y.2.1 : Int)), .pl (.int (y.2.2.1 : Int)), y.2.2.2]) (fun i y => y.1.map isRw = bs.take i ∧ (∀ t ∈ y.1, Lk t) ∧ y.2.1 ≤ i ∧ y.2.2.1 ≤ i) ([], 0, 0, .un) rfl ⟨rfl, by simp, Nat.le_refl _, Nat.le_refl _⟩ (fun i d y hd' hy => ?_) fun y hy => ?_
    · obtain ⟨T, wn, an, y7⟩ := y
      obtain ⟨hT, hL, hwn, han⟩ := hy
      dsimp only at hT hL hwn han
      rw [List.getElem?_map, Option.map_eq_some_iff] at hd'
      obtain ⟨b, hbi, rfl⟩ := hd'
      have hi : i < bs.length := (List.getElem?_eq_some_iff.mp hbi).1
      have hTl : T.length ≤ 7 := by
        have := congrArg List.length hT
        rw [List.length_map, List.length_take] at this
        omega
      have hTl2 : (T.map Tk.d).length = T.length := List.length_map _
      rw [w_tn]
      show Wp (b__law_kind_0 [.pl (.lst (iN ds)), .pl (.lst (ws.map .str)), .pl (.lst (R.map RD)), .pl (.lst [D.str "w", .str "w", .str "fww", .str "fww", .str "fww", .str "ffwww", .str "fwfww", .str "fffwwww", .str "ffwwfww", .str "fwffwww", .str "w", .str "fww", .str "ffwww", .str "fwfww"]), .pl (.tup (T.map Tk.d)), .pl (.int (wn : Int)), .pl (.int (an : Int)), .pl (fwD b)]) _
      unfold b__law_kind_0
      generalize D.lst [D.str "w", .str "w", .str "fww", .str "fww", .str "fww", .str "ffwww", .str "fwfww", .str "fffwwww", .str "ffwwfww", .str "fwffwww", .str "w", .str "fww", .str "ffwww", .str "fwfww"] = SH at *
      cases b with
      | true =>
        have f1 : fwD true = .str "f" := rfl
        have f2 : decide (("f" : Str) = "w") = false := by decide
        rw [f1]
        obtain ⟨q, hq, m1⟩ : ∃ q : Nat, q < 4 ∧ (an : Int) % 4 = (q : Int) := ⟨an % 4, by omega, by omega⟩
        obtain ⟨q2, m2⟩ : ∃ q : Nat, (an : Int) / 4 = (q : Int) := ⟨an / 4, by omega⟩
        obtain ⟨d1, x0⟩ : ∃ d1, ds[5 + q]? = some d1 := ⟨_, List.getElem?_eq_getElem (by omega)⟩
        have x1 := iN_at x0
        have t1 : ((5 : Int) + (q : Int)).toNat = 5 + q := by omega
        obtain ⟨j, hj, m3⟩ : ∃ j : Nat, j < R.length ∧ ((d1 : Int) + (q2 : Int)) % (R.length : Int) = (j : Int) := ⟨(d1 + q2) % R.length, Nat.mod_lt _ (by omega), by rw [← Int.natCast_add, mod_nat]⟩
        obtain ⟨r, hrm, x2⟩ := at_mem hj
        have c1 : (an : Int) + 1 = ((an + 1 : Nat) : Int) := by omega
        have hg := gr r hrm
        have hT' : (T ++ [Tk.row r]).map isRw = bs.take (i + 1) := by rw [List.map_append, hT, List.take_add_one, hbi]; rfl
        have hL' : ∀ t ∈ T ++ [Tk.row r], Lk t := fun t ht => (List.mem_append.mp ht).elim (hL t) fun ht => by simp at ht; subst ht; exact hg
        have c2 : T.map Tk.d ++ [RD r] = (T ++ [Tk.row r]).map Tk.d := by simp [Tk.d, RD]
        clear hT hL hbi gr gw x0 hrm e1 hn
        generalize T ++ [Tk.row r] = T2 at *
        walk_at "ev"
        exact ⟨(T2, wn, an + 1, _), rfl, hT', hL', by show wn ≤ i + 1; omega, by show an + 1 ≤ i + 1; omega⟩
      | false =>
        have f1 : fwD false = .str "w" := rfl
        have f2 : decide (("w" : Str) = "w") = true := by decide
        rw [f1]
        obtain ⟨q, hq, m1⟩ : ∃ q : Nat, q < 4 ∧ (wn : Int) % 4 = (q : Int) := ⟨wn % 4, by omega, by omega⟩
        obtain ⟨q2, m2⟩ : ∃ q : Nat, (wn : Int) / 4 = (q : Int) := ⟨wn / 4, by omega⟩
        obtain ⟨d1, x0⟩ : ∃ d1, ds[1 + q]? = some d1 := ⟨_, List.getElem?_eq_getElem (by omega)⟩
        have x1 := iN_at x0
        have t1 : ((1 : Int) + (q : Int)).toNat = 1 + q := by omega
        obtain ⟨j, hj, m3⟩ : ∃ j : Nat, j < ws.length ∧ ((d1 : Int) + (q2 : Int)) % (ws.length : Int) = (j : Int) := ⟨(d1 + q2) % ws.length, Nat.mod_lt _ (by omega), by rw [← Int.natCast_add, mod_nat]⟩
        obtain ⟨r, hrm, x2⟩ := at_mem hj
        have c1 : (wn : Int) + 1 = ((wn + 1 : Nat) : Int) := by omega
        have hg := gw r hrm
        have hT' : (T ++ [Tk.wd r]).map isRw = bs.take (i + 1) := by rw [List.map_append, hT, List.take_add_one, hbi]; rfl
        have hL' : ∀ t ∈ T ++ [Tk.wd r], Lk t := fun t ht => (List.mem_append.mp ht).elim (hL t) fun ht => by simp at ht; subst ht; exact hg
        have c2 : T.map Tk.d ++ [.str r] = (T ++ [Tk.wd r]).map Tk.d := by simp [Tk.d, RD]
        clear hT hL hbi gr gw x0 hrm e1 hn
        generalize T ++ [Tk.wd r] = T2 at *
        walk_at "ev"
        exact ⟨(T2, wn + 1, an, _), rfl, hT', hL', by show wn + 1 ≤ i + 1; omega, by show an ≤ i + 1; omega⟩
    · obtain ⟨T, wn, an, y7⟩ := y
      obtain ⟨hT, hL, hwn, han⟩ := hy
      dsimp only at hT hL
      rw [List.length_map, List.take_length] at hT
      have hrun : run 1 T = some 0 := by rw [run_rb, hT]; exact e3
      obtain ⟨k, rfl⟩ := kd_of hrun
      have hsz : k.sz ≤ 7 := by
        have := congrArg List.length hT
        rw [List.length_map, k.fl_len] at this
        omega
      clear gr gw hT hrun
      walk_at "ev"
      exact ⟨k, rfl, hL, hsz⟩
  obtain ⟨d, h1, k, rfl, h2, h3⟩ := h.ok
  exact ⟨k, h1, h2, h3⟩
end VM.K62

set_option Elab.async false
set_option linter.all false
set_option autoImplicit false
set_option maxRecDepth 100000
set_option maxHeartbeats 400000
namespace VM.K62
open PySem PySem.Spec PyProof.Rows L2 VM
local macro_rules | `(tactic| walk_at "ev") => `(tactic| simp (disch := first | omega | (simp only [List.length_cons, List.length_nil, List.length_map, List.length_append, List.length_replicate, List.length_set, rngs_length]; omega)) only [*, q_seq, q_skip, q_knx, q_krt, q_kro, q_kbk, q_kct, q_ker, q_kk, q_bind, q_bok, q_ber, q_drop, q_ret, q_reto, q_ifs, q_ct, q_cf, q_asg, q_asgo, q_asgt, q_rok, q_rer, q_c, q_rd, q_mv, q_fz, fz_lst, fz_dct, fz_obj, fz_dlst, fz_ddct, fz_dobj, q_tk, q_2, q_1, q_os, q_b, q_not, q_and, q_or, q_at, q_af, q_ao, q_rt, q_rf, q_ro, q_andv, q_orv, q_avt, q_avf, q_avo, q_rvt, q_rvf, q_rvo, q_ife, q_it, q_if, q_io, q_on, q_oS, q_sl, q_nil, q_cons, q_tup, q_lst, q_call1, q_call, q_f0, q_f1, q_f2, q_f3, q_f4, q_f5, q_f6, q_f7, q_callk, q_frok, q_frer, q_calli, q_s1, q_idx, q_ixo, q_mihere, q_micons, q_fri, q_sdo, q_sdi, q_rso, q_rsi, q_app, q_ext, q_ext2, q_put, q_pop, q_with, q_wok, q_for, q_enum, q_items, q_raise, q_gt, q_grt, q_lt, q_le, q_rng1, q_rng2, q_rg1, q_lrg, q_lrgi, q_rg2, q_add, q_adds, q_addl, q_addt, q_cat, q_sub, q_mulr, q_mull, q_div, q_mod, q_p18, q_p12, q_cmplt, q_cmple, q_cmpgt, q_cmpge, q_eqi, q_eqs, q_eqb, q_nei, q_nes, q_isn, q_isnn, q_isb, q_isnb, q_neg, q_dnot, q_lenl, q_lent, q_lenf, q_lens, q_int, q_intb, q_tupl, q_tupt, q_lstl, q_lstt, q_min, q_max, q_ixn, q_ixm, q_ixl, q_ixt, q_ixf, q_rep, q_isi_tt, q_isi_ts, q_isi_ti, q_isi_ss, q_isi_st, q_isi_ii, q_isi_it, q_isi_is, q_isi_bi, q_lfi, q_lfb, q_lfs, q_lfn, q_itt, q_itl, q_itf, q_slt, q_sll, q_sls, tk_row, tk_wd, q_cut, q_cutf, q_cutt, q_try, q_tryo, q_tnx, q_trt, q_tonx, q_tort, w_irt, w_inx, w_iro, w_lnx, w_lct, w_lbk, w_lrt, w_lro, w_ler, w_nnx, w_nrt, w_nro, w_ner, w_rnx, w_rrt, w_rro, w_rer, w_tn, w_tt, w_tt3, ev_ownL, ev_putL, ev_lend, ev_hn, ev_hp, ev_hu, ev_ho, ev_hi, ev_i0, ev_i1, ev_tN, ev_tnil, ev_tcons, ev_tTup, List.getElem?_cons_zero, List.getElem?_cons_succ, List.set_cons_zero, List.set_cons_succ, List.length_cons, List.length_nil, List.length_append, List.length_map, List.length_replicate, List.length_set, rngs_length, List.nil_append, List.cons_append, Int.toNat_natCast, Int.toNat_zero, Int.toNat_one, Int.reduceToNat, List.getElem?_map, Option.map_some, Nat.reduceAdd, Nat.reduceSub, Nat.reduceLT, Nat.reduceLeDiff, Nat.reduceEqDiff, Int.reduceEq, Int.reduceLT, Int.reduceLE, Int.reduceAdd, Int.reduceSub, Int.reduceMul, Int.reduceNeg, List.replicate_succ, List.replicate_zero, Bool.not_true, Bool.not_false, Bool.and_true, Bool.true_and, Bool.and_false, Bool.false_and, Bool.or_true, Bool.true_or, Bool.or_false, Bool.false_or, decide_true, decide_false, if_true, if_false, and_self, true_and, and_true, Nat.sub_self, Nat.add_zero, Nat.zero_add, Bool.true_eq_false, Bool.false_eq_true, ite_true, ite_false, reduceIte, eq_self])
/-! ### the law's loops -/
def Pl (x : Sl) : Prop := x = .un ∨ ∃ d, x = .pl d
theorem Pl.hide {x : Sl} (h : Pl x) : ∀ r, hideS (x :: r) = x :: hideS r := fun r => by
  rcases h with rfl | ⟨d, rfl⟩ <;> rfl
theorem pl_pl (d : D) : Pl (.pl d) := .inr ⟨d, rfl⟩
theorem digN (c : Int) (zs : List Int) (hz : ∀ z ∈ zs, SizeOk z) (hl : zs.length ≤ 1000) : ∃ ds : List Nat, F__law_digits [.int c, .lst (zs.map .int)] = .ok (.lst (iN ds)) none ∧ ds.length = zs.length ∧ ∀ (i : Nat) (z : Int) (e : Nat), zs[i]? = some z → ds[i]? = some e → (e : Int) < z := by
  obtain ⟨d, h1, ds, rfl, h2, h3⟩ := (digits_ok c zs hz hl).eq
  have h0 : ∀ e ∈ ds, 0 ≤ e := fun e he => by
    obtain ⟨i, hi⟩ := List.mem_iff_getElem?.mp he
    have hil := (List.getElem?_eq_some_iff.mp hi).1
    exact (h3 i _ e (List.getElem?_eq_getElem (by omega : i < zs.length)) hi).1
  have hm : (ds.map Int.toNat).map (fun n : Nat => (n : Int)) = ds := by
    rw [List.map_map]
    conv => rhs; rw [← List.map_id ds]
    exact List.map_congr_left fun e he => Int.toNat_of_nonneg (h0 e he)
  have hi : iN (ds.map Int.toNat) = ds.map .int := by
    conv => rhs; rw [← hm]
    simp [iN, List.map_map, Function.comp_def]
  refine ⟨ds.map Int.toNat, by rw [h1, hi], by simp [h2], fun i z e hz he => ?_⟩
  rw [List.getElem?_map, Option.map_eq_some_iff] at he
  obtain ⟨x, hx, rfl⟩ := he
  have := h3 i z x hz hx
  rw [Int.toNat_of_nonneg this.1]; exact this.2
theorem rows_ok {Q : O → Prop} {k : MS} {A : List Str} (hA1 : 1 ≤ A.length) (hA : A.length ≤ 4) (gA : ∀ w ∈ A, Lw w) (x0 x1 x3 x6 x7 x8 x9 x10 x11 x12 x13 x14 x15 : Sl)
    (hk : ∀ (R : List (List Str)) (x5 : Sl), (∀ r ∈ R, Lr r) → 1 ≤ R.length → R.length ≤ 9 → Pl x5 → Wp (k [x0, x1, .pl (.lst (A.map .str)), x3, .ow (.lst (R.map RD)), x5, x6, x7, x8, x9, x10, x11, x12, x13, x14, x15]) Q) :
    Wp (kO (f_law_1 [x0, x1, .ow (.lst (A.map .str)), x3, .ow (.lst [.tup []]), .un, x6, x7, x8, x9, x10, x11, x12, x13, x14, x15]) k) Q := by
  have hAl : (A.map D.str).length = A.length := List.length_map _
  unfold f_law_1
  walk_at "ev"
  refine w_for (Y := List (List Str) × Sl) (fun y => [x0, x1, .pl (.lst (A.map .str)), x3, .ow (.lst (y.1.map RD)), y.2, x6, x7, x8, x9, x10, x11, x12, x13, x14, x15]) (fun i y => (∀ r ∈ y.1, Lr r) ∧ y.1.length = 1 + 2 * i ∧ Pl y.2) ([[]], .un) rfl ⟨fun r hr => by simp at hr; subst hr; exact ⟨by decide, by simp⟩, rfl, .inl rfl⟩ (fun i d y hd hy => ?_) fun y hy => ?_
  · obtain ⟨R, x5⟩ := y
    obtain ⟨hR, hRl, _⟩ := hy
    dsimp only at hR hRl
    obtain ⟨hi, rfl⟩ := nget hd
    obtain ⟨a, ham, ha⟩ := at_mem hi
    have hRl2 : (R.map RD).length = R.length := List.length_map _
    have t1 : ((i : Int) + 1).toNat = i + 1 := by omega
    have hs : dSorted [.lst (List.take (i + 1) (A.map D.str))] = some (.lst ((sortS (A.take (i + 1))).map .str)) := by
      rw [← List.map_take]
      exact sorted_of (by simp; omega)
    have hp := sort_perm (A.take (i + 1))
    have hpl : (sortS (A.take (i + 1))).length ≤ 4 := by rw [hp.length_eq]; simp; omega
    have hpl2 : ((sortS (A.take (i + 1))).map D.str).length = (sortS (A.take (i + 1))).length := List.length_map _
    have hfin : ∀ r ∈ R ++ [[a], sortS (A.take (i + 1))], Lr r := fun r hr => by
      rcases List.mem_append.mp hr with hr | hr
      · exact hR r hr
      · simp only [List.mem_cons, List.not_mem_nil, or_false] at hr
        rcases hr with rfl | rfl
        · exact ⟨by simp, fun w hw => by simp at hw; subst hw; exact gA _ ham⟩
        · exact ⟨hpl, fun w hw => gA w (List.mem_of_mem_take (hp.mem_iff.mp hw))⟩
    rw [w_tn]
    show Wp (b_law_0 [x0, x1, .pl (.lst (A.map .str)), x3, .ow (.lst (R.map RD)), .pl (.int (i : Int)), x6, x7, x8, x9, x10, x11, x12, x13, x14, x15]) _
    unfold b_law_0
    clear hk hd hp gA hR ham
    generalize sortS (A.take (i + 1)) = B at *
    walk_at "ev"
    exact ⟨(R ++ [[a], B], .pl (.int (i : Int))), by simp [RD], hfin, by simp [hRl]; omega, .inr ⟨_, rfl⟩⟩
  · obtain ⟨R, x5⟩ := y
    obtain ⟨hR, hRl, h5⟩ := hy
    dsimp only at hR hRl
    rw [rngs_length] at hRl
    exact hk R x5 hR (by omega) (by omega) h5
def DK (k : Kd) : D := k.d
def zs9 : List Int := [14, 12, 12, 12, 12, 8, 8, 8, 8]
theorem kinds_ok {Q : O → Prop} {k : MS} (ns : List Int) {ws : List Str} {R : List (List Str)} (hw : 0 < ws.length) (hwl : ws.length ≤ 100) (gw : ∀ w ∈ ws, Lw w) (hr : 0 < R.length) (hrl : R.length ≤ 100) (gr : ∀ r ∈ R, Lr r) (d1 d2 : D) (x5 : Sl) (h5 : Pl x5)
    (hk : ∀ (KS : List Kd) (x5 : Sl), (∀ k ∈ KS, k.Ld ∧ k.sz ≤ 7) → KS.length = 14 → Pl x5 → Wp (k [.pl (.fl (ns.map .int)), .pl d1, .pl d2, .pl (.lst (ws.map .str)), .ow (.lst (R.map RD)), x5, .ow (.lst (KS.map DK)), .un, .un, .un, .un, .un, .un, .un, .un, .un]) Q) :
    Wp (kO (f_law_3 [.pl (.fl (ns.map .int)), .pl d1, .pl d2, .pl (.lst (ws.map .str)), .ow (.lst (R.map RD)), x5, .ow (.lst []), .un, .un, .un, .un, .un, .un, .un, .un, .un]) k) Q := by
  unfold f_law_3
  walk_at "ev"
  refine w_for (Y := List Kd × Sl) (fun y => [.pl (.fl (ns.map .int)), .pl d1, .pl d2, .pl (.lst (ws.map .str)), .ow (.lst (R.map RD)), y.2, .ow (.lst (y.1.map DK)), .un, .un, .un, .un, .un, .un, .un, .un, .un]) (fun i y => (∀ k ∈ y.1, k.Ld ∧ k.sz ≤ 7) ∧ y.1.length = i ∧ Pl y.2) ([], x5) rfl ⟨by simp, rfl, h5⟩ (fun i d y hd hy => ?_) fun y hy => ?_
  · obtain ⟨KS, x5⟩ := y
    obtain ⟨hK, hKl, _⟩ := hy
    dsimp only at hK hKl
    obtain ⟨hi, rfl⟩ := nget hd
    have hKl2 : (KS.map DK).length = KS.length := List.length_map _
    obtain ⟨d0, hc, c, rfl⟩ := (cell_ok ns (1 + i)).eq
    have hc : F__law_cell [.fl (ns.map .int), .int (1 + (i : Int))] = .ok (.int c) none := by
      rw [show (1 + (i : Int)) = ((1 + i : Nat) : Int) by omega]; exact hc
    obtain ⟨ds, hds, hdl, hdb⟩ := digN c zs9 (by intro z hz; simp only [zs9, List.mem_cons, List.not_mem_nil, or_false] at hz; unfold SizeOk; omega) (by decide)
    have hds : F__law_digits [.int c, .lst [.int 14, .int 12, .int 12, .int 12, .int 12, .int 8, .int 8, .int 8, .int 8]] = .ok (.lst (iN ds)) none := hds
    obtain ⟨kd, hkd, gk, hks⟩ := lkind_ok hdl ⟨ds[0]'(by rw [hdl]; decide), List.getElem?_eq_getElem _, by
      have := hdb 0 14 _ rfl (List.getElem?_eq_getElem (by rw [hdl]; decide))
      omega⟩ hw hwl gw hr hrl gr
    have lf := lf_kd kd
    have hfin : ∀ k ∈ KS ++ [kd], k.Ld ∧ k.sz ≤ 7 := fun k hk => (List.mem_append.mp hk).elim (hK k) fun h => by simp at h; subst h; exact ⟨gk, hks⟩
    rw [w_tn]
    show Wp (b_law_2 [.pl (.fl (ns.map .int)), .pl d1, .pl d2, .pl (.lst (ws.map .str)), .ow (.lst (R.map RD)), .pl (.int (i : Int)), .ow (.lst (KS.map DK)), .un, .un, .un, .un, .un, .un, .un, .un, .un]) _
    unfold b_law_2
    have hkd : F__law_kind [.lst (iN ds), .lst (ws.map .str), .lst (R.map RD)] = .ok (DK kd) none := hkd
    have lf : lfree (DK kd) = true := lf
    clear hk hd gw gr hdb hK gk
    walk_at "ev"
    exact ⟨(KS ++ [kd], .pl (.int (i : Int))), by simp [DK], hfin, by simp [hKl], .inr ⟨_, rfl⟩⟩
  · obtain ⟨KS, x5⟩ := y
    obtain ⟨hK, hKl, h5⟩ := hy
    dsimp only at hK hKl
    exact hk KS x5 hK (by rw [hKl]; rfl) h5
theorem long_ok {Q : O → Prop} {k : MS} {H : List Nat} {h3 h4 : Nat} (e3 : H[3]? = some h3) (e4 : H[4]? = some h4) {R : List (List Str)} {KS : List Kd} (hr : 0 < R.length) (hrl : R.length ≤ 100) (gr : ∀ r ∈ R, Lr r) (gk : ∀ k ∈ KS, k.Ld ∧ k.sz ≤ 7) (hkl : KS.length = 14) {K0 : Kd} (g0 : K0.Ld) (s0 : K0.sz ≤ 7) (d0 d2 d3 : D) (x5 : Sl) (h5 : Pl x5)
    (hk : ∀ (K : Kd) (x5 : Sl), K.Ld → K.sz ≤ 1000 → Pl x5 → Wp (k [.pl d0, .pl (.lst (iN H)), .pl d2, .pl d3, .ow (.lst (R.map RD)), x5, .ow (.lst (KS.map DK)), .pl (DK K), .un, .un, .un, .un, .un, .un, .un, .un]) Q) :
    Wp (kO (f_law_5 [.pl d0, .pl (.lst (iN H)), .pl d2, .pl d3, .ow (.lst (R.map RD)), x5, .ow (.lst (KS.map DK)), .pl (DK K0), .un, .un, .un, .un, .un, .un, .un, .un]) k) Q := by
  have f3 := iN_at e3
  have f4 := iN_at e4
  obtain ⟨m, hm, m1⟩ : ∃ m : Nat, m ≤ 5 ∧ 1 + (h3 : Int) % 5 = (m : Int) := ⟨1 + h3 % 5, by omega, by omega⟩
  unfold f_law_5
  walk_at "ev"
  refine w_for (Y := Kd × Sl) (fun y => [.pl d0, .pl (.lst (iN H)), .pl d2, .pl d3, .ow (.lst (R.map RD)), y.2, .ow (.lst (KS.map DK)), .pl (DK y.1), .un, .un, .un, .un, .un, .un, .un, .un]) (fun i y => y.1.Ld ∧ y.1.sz ≤ 8 * (i + 1) ∧ Pl y.2) (K0, x5) rfl ⟨g0, by show K0.sz ≤ _; omega, h5⟩ (fun i d y hd hy => ?_) fun y hy => ?_
  · obtain ⟨K, x5⟩ := y
    obtain ⟨gK, hKs, _⟩ := hy
    dsimp only at gK hKs
    obtain ⟨hi, rfl⟩ := nget hd
    have hRl2 : (R.map RD).length = R.length := List.length_map _
    obtain ⟨j, hj, m3⟩ : ∃ j : Nat, j < R.length ∧ ((h4 : Int) + (i : Int)) % (R.length : Int) = (j : Int) := ⟨(h4 + i) % R.length, Nat.mod_lt _ hr, by rw [← Int.natCast_add, mod_nat]⟩
    obtain ⟨r, hrm, x2⟩ := at_mem hj
    have gr0 := gr r hrm
    obtain ⟨k1, k1m, y1⟩ := at_mem (xs := KS) (n := i + 1) (by omega)
    obtain ⟨k2, k2m, y2⟩ := at_mem (xs := KS) (n := i + 2) (by omega)
    have t1 : ((i : Int) + 1).toNat = i + 1 := by omega
    have t2 : ((i : Int) + 2).toNat = i + 2 := by omega
    have lfr : lfree (RD r) = true := by
      have := lf_toks [.row r]
      have h2 : (lfree (RD r) && true) = true := this
      simpa using h2
    have lf1 : lfree (DK k1) = true := lf_kd k1
    have lf2 : lfree (DK k2) = true := lf_kd k2
    have ad : ∀ a b : Kd, a.sz ≤ 100 → b.sz ≤ 100 → dAdd (.tup [RD r]) (DK a) = some (.tup (RD r :: a.fl.map Tk.d)) ∧ dAdd (.tup (RD r :: a.fl.map Tk.d)) (DK b) = some (DK (.fn r a b)) := fun a b ha hb =>
      ⟨q_addt (xs := [RD r]) (ys := a.fl.map Tk.d) (by simp [Kd.fl_len]; omega), (q_addt (xs := RD r :: a.fl.map Tk.d) (ys := b.fl.map Tk.d) (by simp [Kd.fl_len]; omega)).trans (by simp [DK, Kd.d, Kd.fl, Tk.d, RD])⟩
    have cut : ∀ a b : Kd, dSl (DK (.fn r a b)) none (some 1) = some (.tup [RD r]) ∧ dSl (DK (.fn r a b)) (some 1) none = some (.tup ((a.fl ++ b.fl).map Tk.d)) := fun a b => ⟨by
        show dSl (.tup _) none (some 1) = _
        rw [q_slt, q_cutt _ (by decide)]; rfl, by
        show dSl (.tup _) (some 1) none = _
        rw [q_slt, q_cutf _ (by decide)]; rfl⟩
    have ad2 : ∀ a b : Kd, a.sz ≤ 100 → b.sz ≤ 100 → dAdd (.tup [RD r]) (.tup ((a.fl ++ b.fl).map Tk.d)) = some (DK (.fn r a b)) := fun a b ha hb =>
      (q_addt (xs := [RD r]) (ys := (a.fl ++ b.fl).map Tk.d) (by simp [Kd.fl_len]; omega)).trans (by simp [DK, Kd.d, Kd.fl, Tk.d, RD])
    have len : ∀ a b : Kd, dLen [DK (.fn r a b)] = some (.int (((Kd.fn r a b).sz : Nat) : Int)) := fun a b => by
      show some (D.int _) = _
      rw [List.length_map, Kd.fl_len]
    have fin : ∀ a b : Kd, a.Ld → b.Ld → a.sz + b.sz ≤ 8 * (i + 1) + 7 → a.sz ≤ 100 → b.sz ≤ 100 → (Kd.fn r a b).Ld ∧ (Kd.fn r a b).sz ≤ 8 * (i + 1 + 1) := fun a b ha hb hs _ _ => ⟨fun t ht => by
      simp only [Kd.fl, List.mem_cons, List.mem_append] at ht
      rcases ht with rfl | ht | ht
      · exact gr0
      · exact ha t ht
      · exact hb t ht, by simp only [Kd.sz]; omega⟩
    have hs1 := (gk k1 k1m).2
    have hs2 := (gk k2 k2m).2
    rw [w_tn]
    show Wp (b_law_4 [.pl d0, .pl (.lst (iN H)), .pl d2, .pl d3, .ow (.lst (R.map RD)), .pl (.int (i : Int)), .ow (.lst (KS.map DK)), .pl (DK K), .un, .un, .un, .un, .un, .un, .un, .un]) _
    unfold b_law_4
    have go : ∀ a b : Kd, a.Ld → b.Ld → a.sz + b.sz ≤ 8 * (i + 1) + 7 → a.sz ≤ 100 → b.sz ≤ 100 → ∀ c : Int, ((i : Int) % 2 = c) → dIx (.lst [DK K, DK k1]) (.int c) = some (DK a) → dIx (.lst [DK k2, DK K]) (.int c) = some (DK b) →
        Wp (b_law_4 [.pl d0, .pl (.lst (iN H)), .pl d2, .pl d3, .ow (.lst (R.map RD)), .pl (.int (i : Int)), .ow (.lst (KS.map DK)), .pl (DK K), .un, .un, .un, .un, .un, .un, .un, .un]) (LpQ (fun s' => ∃ y' : Kd × Sl, s' = [.pl d0, .pl (.lst (iN H)), .pl d2, .pl d3, .ow (.lst (R.map RD)), y'.2, .ow (.lst (KS.map DK)), .pl (DK y'.1), .un, .un, .un, .un, .un, .un, .un, .un] ∧ (y'.1.Ld ∧ y'.1.sz ≤ 8 * (i + 1 + 1) ∧ Pl y'.2)) (fun s' => Wp (k s') Q) Q) := fun a b ga gb hs ha hb c hc i1 i2 => by
      obtain ⟨a1, a2⟩ := ad a b ha hb
      obtain ⟨c1, c2⟩ := cut a b
      have a3 := ad2 a b ha hb
      have ln := len a b
      obtain ⟨f1, f2⟩ := fin a b ga gb hs ha hb
      have hk1 := hk (.fn r a b) (.pl (.int (i : Int))) f1 (by omega) (pl_pl _)
      have hsz : (Kd.fn r a b).sz ≤ 8 * (i + 1 + 1) := f2
      unfold b_law_4
      clear hk ad cut ad2 len fin gk gr gr0 hd hrm k1m k2m g0 gK ga gb f2
      generalize Kd.fn r a b = KK at *
      by_cases hb41 : (41 : Int) < (KK.sz : Int)
      · have hb41 : decide ((41 : Int) < (KK.sz : Int)) = true := decide_eq_true hb41
        clear f1 hsz
        walk_at "ev"
      · have hb41 : decide ((41 : Int) < (KK.sz : Int)) = false := decide_eq_false hb41
        clear hk1
        generalize hKL : KK.Ld = KL at *
        generalize hKS : KK.sz = n at *
        walk_at "ev"
        exact ⟨(KK, _), rfl, by rw [hKL]; exact f1, by show KK.sz ≤ _; omega, pl_pl _⟩
    have hp : (i : Int) % 2 = 0 ∨ (i : Int) % 2 = 1 := by omega
    rcases hp with hp | hp
    · exact go K k2 gK (gk k2 k2m).1 (by omega) (by omega) (by omega) 0 hp rfl rfl
    · exact go k1 K (gk k1 k1m).1 gK (by omega) (by omega) (by omega) 1 hp rfl rfl
  · obtain ⟨K, x5⟩ := y
    obtain ⟨gK, hKs, h5⟩ := hy
    dsimp only at gK hKs
    rw [rngs_length] at hKs
    exact hk K x5 gK (by omega) h5
end VM.K62

set_option Elab.async false
set_option linter.all false
set_option autoImplicit false
set_option maxRecDepth 100000
set_option maxHeartbeats 400000
namespace VM.K62
open PySem PySem.Spec PyProof.Rows L2 VM
local macro_rules | `(tactic| walk_at "ev") => `(tactic| simp (disch := first | omega | (simp only [List.length_cons, List.length_nil, List.length_map, List.length_append, List.length_replicate, List.length_set, rngs_length]; omega)) only [*, q_seq, q_skip, q_knx, q_krt, q_kro, q_kbk, q_kct, q_ker, q_kk, q_bind, q_bok, q_ber, q_drop, q_ret, q_reto, q_ifs, q_ct, q_cf, q_asg, q_asgo, q_asgt, q_rok, q_rer, q_c, q_rd, q_mv, q_fz, fz_lst, fz_dct, fz_obj, fz_dlst, fz_ddct, fz_dobj, q_tk, q_2, q_1, q_os, q_b, q_not, q_and, q_or, q_at, q_af, q_ao, q_rt, q_rf, q_ro, q_andv, q_orv, q_avt, q_avf, q_avo, q_rvt, q_rvf, q_rvo, q_ife, q_it, q_if, q_io, q_on, q_oS, q_sl, q_nil, q_cons, q_tup, q_lst, q_call1, q_call, q_f0, q_f1, q_f2, q_f3, q_f4, q_f5, q_f6, q_f7, q_callk, q_frok, q_frer, q_calli, q_s1, q_idx, q_ixo, q_mihere, q_micons, q_fri, q_sdo, q_sdi, q_rso, q_rsi, q_app, q_ext, q_ext2, q_put, q_pop, q_with, q_wok, q_for, q_enum, q_items, q_raise, q_gt, q_grt, q_lt, q_le, q_rng1, q_rng2, q_rg1, q_lrg, q_lrgi, q_rg2, q_add, q_adds, q_addl, q_addt, q_cat, q_sub, q_mulr, q_mull, q_div, q_mod, q_p18, q_p12, q_cmplt, q_cmple, q_cmpgt, q_cmpge, q_eqi, q_eqs, q_eqb, q_nei, q_nes, q_isn, q_isnn, q_isb, q_isnb, q_neg, q_dnot, q_lenl, q_lent, q_lenf, q_lens, q_int, q_intb, q_tupl, q_tupt, q_lstl, q_lstt, q_min, q_max, q_ixn, q_ixm, q_ixl, q_ixt, q_ixf, q_rep, q_isi_tt, q_isi_ts, q_isi_ti, q_isi_ss, q_isi_st, q_isi_ii, q_isi_it, q_isi_is, q_isi_bi, q_lfi, q_lfb, q_lfs, q_lfn, q_itt, q_itl, q_itf, q_slt, q_sll, q_sls, tk_row, tk_wd, q_cut, q_cutf, q_cutt, q_try, q_tryo, q_tnx, q_trt, q_tonx, q_tort, w_irt, w_inx, w_iro, w_lnx, w_lct, w_lbk, w_lrt, w_lro, w_ler, w_nnx, w_nrt, w_nro, w_ner, w_rnx, w_rrt, w_rro, w_rer, w_tn, w_tt, w_tt3, ev_ownL, ev_putL, ev_lend, ev_hn, ev_hp, ev_hu, ev_ho, ev_hi, ev_i0, ev_i1, ev_tN, ev_tnil, ev_tcons, ev_tTup, List.getElem?_cons_zero, List.getElem?_cons_succ, List.set_cons_zero, List.set_cons_succ, List.length_cons, List.length_nil, List.length_append, List.length_map, List.length_replicate, List.length_set, rngs_length, List.nil_append, List.cons_append, Int.toNat_natCast, Int.toNat_zero, Int.toNat_one, Int.reduceToNat, List.getElem?_map, Option.map_some, Nat.reduceAdd, Nat.reduceSub, Nat.reduceLT, Nat.reduceLeDiff, Nat.reduceEqDiff, Int.reduceEq, Int.reduceLT, Int.reduceLE, Int.reduceAdd, Int.reduceSub, Int.reduceMul, Int.reduceNeg, List.replicate_succ, List.replicate_zero, Bool.not_true, Bool.not_false, Bool.and_true, Bool.true_and, Bool.and_false, Bool.false_and, Bool.or_true, Bool.true_or, Bool.or_false, Bool.false_or, decide_true, decide_false, if_true, if_false, and_self, true_and, and_true, Nat.sub_self, Nat.add_zero, Nat.zero_add, Bool.true_eq_false, Bool.false_eq_true, ite_true, ite_false, reduceIte, eq_self])
/-! ### the law's checks -/
theorem lc_none {own : List Nat} {mi : M (List D)} {t : MT} {mc : M Bool} {me : M D} {s : SV} (xs : List Tk) (hi : mi s = .ok (xs.map Tk.d) s) (ho : ownOk own s = true) (hl : xs.length ≤ 16777216)
    (h : ∀ x ∈ xs, ∃ s1, t x.d (wipeV s own) = some s1 ∧ mc s1 = .ok false s1 ∧ wipeV s1 own = wipeV s own) : mLc own mi t mc me s = .ok (D.lst []) s := by
  have := lc_of (me := me) xs Tk.d Tk.d (fun _ => false) hi ho hl fun x hx => by
    obtain ⟨s1, h1, h2, h3⟩ := h x hx
    exact ⟨s1, h1, h2, (fun z => nomatch z), h3⟩
  rw [this]
  simp
theorem nil_ne : dNe (.tup []) (.tup []) = some (.bl false) := (row_nil (r := []) (by simp)).2
theorem check_ok {Q : O → Prop} {k : MS} {KS : List Kd} (gk : ∀ k ∈ KS, k.Ld ∧ k.sz ≤ 41) (hkl : KS.length ≤ 20) (x0 x1 x2 x3 x4 x5 x7 x11 x12 x13 x14 : Sl)
    (hk : ∀ (x8 x9 x10 : Sl), Pl x8 → Pl x9 → Pl x10 → Wp (k [x0, x1, x2, x3, x4, x5, .pl (.lst (KS.map DK)), x7, x8, x9, x10, x11, x12, x13, x14, .un]) Q) :
    Wp (kO (f_law_7 [x0, x1, x2, x3, x4, x5, .ow (.lst (KS.map DK)), x7, .un, .un, .un, x11, x12, x13, x14, .un]) k) Q := by
  have hKl2 : (KS.map DK).length = KS.length := List.length_map _
  unfold f_law_7
  walk_at "ev"
  refine w_for (Y := Sl × Sl × Sl) (fun y => [x0, x1, x2, x3, x4, x5, .pl (.lst (KS.map DK)), x7, y.1, y.2.1, y.2.2, x11, x12, x13, x14, .un]) (fun i y => Pl y.1 ∧ Pl y.2.1 ∧ Pl y.2.2) (.un, .un, .un) rfl ⟨.inl rfl, .inl rfl, .inl rfl⟩ (fun i d y hd hy => ?_) fun y hy => hk y.1 y.2.1 y.2.2 hy.1 hy.2.1 hy.2.2
  obtain ⟨x8, x9, x10⟩ := y
  rw [List.getElem?_map, Option.map_eq_some_iff] at hd
  obtain ⟨kd, hke, rfl⟩ := hd
  obtain ⟨gL, gs⟩ := gk kd (List.mem_of_getElem? hke)
  have gG := gL.gd
  have n1 := mkd_mn gL gs (by decide)
  have n2 := hkd_mn gL gs (by decide)
  have z1 := mkd_sz kd
  have z2 := hkd_sz kd
  obtain ⟨s1, r1⟩ := mn_rk n1 (by omega)
  obtain ⟨s2, r2⟩ := mn_rk n2 (by omega)
  have r1 : dRepr [DK (mkd kd)] = some (.str s1) := r1
  have r2 : dRepr [DK (hkd kd)] = some (.str s2) := r2
  have fm1 : F_made_kind [DK kd] = .ok (DK (mkd kd)) none := made_ok gG (by omega)
  have fm2 : F__law_made [DK kd] = .ok (DK (mkd kd)) none := lmade_ok gG (by omega)
  have fm3 : F_helper_kind [DK kd] = .ok (DK (hkd kd)) none := helper_ok 64 kd gG (by omega) (by omega)
  have fm4 : F__law_quiet_kind [DK kd] = .ok (DK (hkd kd)) none := quiet_ok gG (by omega)
  have fm5 : F_is_kind [DK (mkd kd)] = .ok (.bl true) none := iskind_ok (fun t ht => (n1 t ht).mt) (by omega)
  have fm6 : F_is_kind [DK (hkd kd)] = .ok (.bl true) none := iskind_ok (fun t ht => (n2 t ht).mt) (by omega)
  have had : dAdd (DK (mkd kd)) (DK (hkd kd)) = some (.tup (((mkd kd).fl ++ (hkd kd).fl).map Tk.d)) := (q_addt (xs := (mkd kd).fl.map Tk.d) (ys := (hkd kd).fl.map Tk.d) (by simp [Kd.fl_len]; omega)).trans (by simp)
  have hall : ∀ t ∈ (mkd kd).fl ++ (hkd kd).fl, ∃ n, Mn n t := fun t ht => (List.mem_append.mp ht).elim (fun h => ⟨_, n1 t h⟩) fun h => ⟨_, n2 t h⟩
  have hal : ((mkd kd).fl ++ (hkd kd).fl).length ≤ 100 := by simp [Kd.fl_len]; omega
  have hlc : mLc [15] (mItems (m2 dAdd (mRd 9) (mRd 10))) (mtN 15) (mAnd (mB (m1 (isi "tuple") (mRd 15))) (mB (m2 dNe (mRd 15) (mTup mNil)))) (mRd 15) [x0, x1, x2, x3, x4, x5, .pl (.lst (KS.map DK)), x7, .pl (DK kd), .pl (DK (mkd kd)), .pl (DK (hkd kd)), x11, x12, x13, x14, .un] = .ok (.lst []) [x0, x1, x2, x3, x4, x5, .pl (.lst (KS.map DK)), x7, .pl (DK kd), .pl (DK (mkd kd)), .pl (DK (hkd kd)), x11, x12, x13, x14, .un] :=
    lc_none ((mkd kd).fl ++ (hkd kd).fl) (by
      have hit : itemsD (.tup (((mkd kd).fl ++ (hkd kd).fl).map Tk.d)) = some (((mkd kd).fl ++ (hkd kd).fl).map Tk.d) := rfl
      clear hall n1 n2 gL gG gk hk hke fm1 fm2 fm3 fm4 fm5 fm6 r1 r2
      generalize ((mkd kd).fl ++ (hkd kd).fl).map Tk.d = AA at *
      walk_at "ev") rfl (by omega) fun t ht => by
      obtain ⟨n, hn⟩ := hall t ht
      refine ⟨[x0, x1, x2, x3, x4, x5, .pl (.lst (KS.map DK)), x7, .pl (DK kd), .pl (DK (mkd kd)), .pl (DK (hkd kd)), x11, x12, x13, x14, .pl t.d], rfl, ?_, rfl⟩
      clear hall n1 n2 gL gG gk hk hke fm1 fm2 fm3 fm4 fm5 fm6 r1 r2 had ht
      cases t with
      | row r =>
        have : r = [] := hn
        subst this
        have h1 : Tk.d (.row []) = .tup [] := rfl
        have h2 := nil_ne
        rw [h1]
        walk_at "ev"
      | wd w =>
        have h1 : Tk.d (.wd w) = .str w := rfl
        rw [h1]
        clear hn
        walk_at "ev"
  rw [w_tn]
  show Wp (b_law_6 [x0, x1, x2, x3, x4, x5, .pl (.lst (KS.map DK)), x7, .pl (DK kd), x9, x10, x11, x12, x13, x14, .un]) _
  unfold b_law_6
  clear hall n1 n2 gL gG gk hk hke had z1 z2 gs hal hy
  generalize DK (mkd kd) = A at *
  generalize DK (hkd kd) = B at *
  walk_at "ev"
  exact ⟨(_, _, _), rfl, pl_pl _, pl_pl _, pl_pl _⟩
theorem enP_at (r : List Str) (k : Kd) : enP (r, k.fl) = .tup [RD r, DK k] := rfl
theorem wrP_at (r : List Str) (ts : List Tk) : wrP (r, ts) = .str (S (wrL r ts)) := rfl
theorem inner_ok {Q : O → Prop} {k : MS} {R : List (List Str)} {KS : List Kd} {r : List Str} (gr : Lr r) (gk : ∀ k ∈ KS, k.Ld ∧ k.sz ≤ 41) (hkl : KS.length ≤ 20) {X : List Pr2} (gX : ∀ x ∈ X, Lp x) {m : Nat} (hX : X.length ≤ m) (hm : m ≤ 100000) (d0 d1 d2 d3 d7 : D) (x5 x8 x9 x10 x14 : Sl) (p5 : Pl x5) (p8 : Pl x8) (p9 : Pl x9) (p10 : Pl x10) (p14 : Pl x14)
    (hk : ∀ (X : List Pr2) (x8 x14 : Sl), (∀ x ∈ X, Lp x) → X.length ≤ m + 20 → Pl x8 → Pl x14 → Wp (k [.pl d0, .pl d1, .pl d2, .pl d3, .pl (.lst (R.map RD)), x5, .pl (.lst (KS.map DK)), .pl d7, x8, x9, x10, .ow (.lst (X.map enP)), .ow (.lst (X.map wrP)), .pl (RD r), x14, .un]) Q) :
    Wp (kO (f_law_10 [.pl d0, .pl d1, .pl d2, .pl d3, .pl (.lst (R.map RD)), x5, .pl (.lst (KS.map DK)), .pl d7, x8, x9, x10, .ow (.lst (X.map enP)), .ow (.lst (X.map wrP)), .pl (RD r), x14, .un]) k) Q := by
  have hKl2 : (KS.map DK).length = KS.length := List.length_map _
  unfold f_law_10
  walk_at "ev"
  refine w_for (Y := List Pr2 × Sl × Sl) (fun y => [.pl d0, .pl d1, .pl d2, .pl d3, .pl (.lst (R.map RD)), x5, .pl (.lst (KS.map DK)), .pl d7, y.2.1, x9, x10, .ow (.lst (y.1.map enP)), .ow (.lst (y.1.map wrP)), .pl (RD r), y.2.2, .un]) (fun i y => (∀ x ∈ y.1, Lp x) ∧ y.1.length ≤ m + i ∧ Pl y.2.1 ∧ Pl y.2.2) (X, x8, x14) rfl ⟨gX, by show X.length ≤ _; omega, p8, p14⟩ (fun i d y hd hy => ?_) fun y hy => hk y.1 y.2.1 y.2.2 hy.1 (by have := hy.2.1; rw [hKl2] at this; omega) hy.2.2.1 hy.2.2.2
  obtain ⟨X, x8, x14⟩ := y
  obtain ⟨gX, hX, p8, p14⟩ := hy
  dsimp only at gX hX p8 p14
  rw [List.getElem?_map, Option.map_eq_some_iff] at hd
  obtain ⟨kd, hkd, rfl⟩ := hd
  have hi : i < KS.length := (List.getElem?_eq_some_iff.mp hkd).1
  obtain ⟨gL, gs⟩ := gk kd (List.mem_of_getElem? hkd)
  have gw : ∀ w ∈ r, Gw w := fun w hw => (gr.2 w hw).gw
  have hx : Lp (r, kd.fl) := ⟨gr, gL⟩
  have m1 : F_wrap_word [RD r, DK kd] = .ok (wrP (r, kd.fl)) none := wrap_ok gr.1 gw gL.gd (by rw [kd.fl_len]; omega)
  have m2 : F__law_wrap [RD r, DK kd] = .ok (wrP (r, kd.fl)) none := lwrap_ok gr.1 gw gL.gd (by rw [kd.fl_len]; omega)
  obtain ⟨z, m3⟩ := wr_rk gr.1 gw gL.gd (ts := kd.fl) (by rw [kd.fl_len]; omega)
  have m3 : dRepr [wrP (r, kd.fl)] = some (.str z) := m3
  have m4 : F_is_data_word [wrP (r, kd.fl)] = .ok (.bl true) none := by
    have h := wr_cw gr.1 gw gL.gd (ts := kd.fl) (by rw [kd.fl_len]; omega)
    have h2 := data_ok (w := S (wrL r kd.fl)) (c := 87) rfl h.al h.ln
    have h3 : strIn ⟨#[87]⟩ caps = true := by decide +kernel
    rw [h3] at h2; exact h2
  obtain ⟨b, hb, hb2⟩ := in_pairs hx gX
  rw [enP_at] at hb
  have l1 : (X.map enP).length = X.length := List.length_map _
  have l2 : (X.map wrP).length = X.length := List.length_map _
  have hid5 := p5.hide
  have hid9 := p9.hide
  have hid10 := p10.hide
  have hne : dNe (wrP (r, kd.fl)) (wrP (r, kd.fl)) = some (.bl false) := by
    rw [wrP_at]
    show some (D.bl (!decide _)) = _
    rw [decide_eq_true rfl]; rfl
  rw [w_tn]
  show Wp (b_law_9 [.pl d0, .pl d1, .pl d2, .pl d3, .pl (.lst (R.map RD)), x5, .pl (.lst (KS.map DK)), .pl d7, .pl (DK kd), x9, x10, .ow (.lst (X.map enP)), .ow (.lst (X.map wrP)), .pl (RD r), x14, .un]) _
  unfold b_law_9 i_law_8
  cases b with
  | true =>
    obtain ⟨j, hj1, hj2⟩ := index_ok hx gX (hb2.mp rfl)
    rw [enP_at] at hj1
    have hj3 := told_at hj2
    clear hb2 hk hkd gk gL gw gr hj2
    generalize wrP (r, kd.fl) = W at *
    have fin : ∃ y' : List Pr2 × Sl × Sl, [.pl d0, .pl d1, .pl d2, .pl d3, .pl (.lst (R.map RD)), x5, .pl (.lst (KS.map DK)), .pl d7, .pl (DK kd), x9, x10, .ow (.lst (X.map enP)), .ow (.lst (X.map wrP)), .pl (RD r), .pl W, .un] = [.pl d0, .pl d1, .pl d2, .pl d3, .pl (.lst (R.map RD)), x5, .pl (.lst (KS.map DK)), .pl d7, y'.2.1, x9, x10, .ow (.lst (y'.1.map enP)), .ow (.lst (y'.1.map wrP)), .pl (RD r), y'.2.2, .un] ∧ ((∀ x ∈ y'.1, Lp x) ∧ y'.1.length ≤ m + (i + 1) ∧ Pl y'.2.1 ∧ Pl y'.2.2) := ⟨(X, _, _), rfl, gX, by show X.length ≤ _; omega, pl_pl _, pl_pl _⟩
    generalize hXe : X.map enP = XE at *
    generalize hXw : X.map wrP = XW at *
    clear gX hx hXe hXw
    walk_at "ev"
  | false =>
    have ht := in_told hx gX fun h => by have := hb2.mpr h; cases this
    have hfin : ∀ x ∈ X ++ [(r, kd.fl)], Lp x := fun x h => (List.mem_append.mp h).elim (gX x) fun h => by simp at h; subst h; exact hx
    have fin : ∃ y' : List Pr2 × Sl × Sl, [.pl d0, .pl d1, .pl d2, .pl d3, .pl (.lst (R.map RD)), x5, .pl (.lst (KS.map DK)), .pl d7, .pl (DK kd), x9, x10, .ow (.lst (X.map enP ++ [.tup [RD r, DK kd]])), .ow (.lst (X.map wrP ++ [wrP (r, kd.fl)])), .pl (RD r), .pl (wrP (r, kd.fl)), .un] = [.pl d0, .pl d1, .pl d2, .pl d3, .pl (.lst (R.map RD)), x5, .pl (.lst (KS.map DK)), .pl d7, y'.2.1, x9, x10, .ow (.lst (y'.1.map enP)), .ow (.lst (y'.1.map wrP)), .pl (RD r), y'.2.2, .un] ∧ ((∀ x ∈ y'.1, Lp x) ∧ y'.1.length ≤ m + (i + 1) ∧ Pl y'.2.1 ∧ Pl y'.2.2) := ⟨(X ++ [(r, kd.fl)], .pl (DK kd), .pl (wrP (r, kd.fl))), by simp [← enP_at], hfin, by simp; omega, pl_pl _, pl_pl _⟩
    clear hb2 hk hkd gk gL gw gr hfin hx gX
    generalize wrP (r, kd.fl) = W at *
    generalize hXe : X.map enP = XE at *
    generalize hXw : X.map wrP = XW at *
    clear hXe hXw
    walk_at "ev"
theorem pairs_ok {Q : O → Prop} {k : MS} {R : List (List Str)} {KS : List Kd} (gr : ∀ r ∈ R, Lr r) (hr : R.length ≤ 100) (gk : ∀ k ∈ KS, k.Ld ∧ k.sz ≤ 41) (hkl : KS.length ≤ 20) (d0 d1 d2 d3 d7 : D) (x5 x8 x9 x10 : Sl) (p5 : Pl x5) (p8 : Pl x8) (p9 : Pl x9) (p10 : Pl x10)
    (hk : ∀ (X : List Pr2) (x8 x13 x14 : Sl), Wp (k [.pl d0, .pl d1, .pl d2, .pl d3, .pl (.lst (R.map RD)), x5, .pl (.lst (KS.map DK)), .pl d7, x8, x9, x10, .ow (.lst (X.map enP)), .ow (.lst (X.map wrP)), x13, x14, .un]) Q) :
    Wp (kO (f_law_12 [.pl d0, .pl d1, .pl d2, .pl d3, .ow (.lst (R.map RD)), x5, .pl (.lst (KS.map DK)), .pl d7, x8, x9, x10, .ow (.lst []), .ow (.lst []), .un, .un, .un]) k) Q := by
  have hRl2 : (R.map RD).length = R.length := List.length_map _
  have hcut : List.drop 1 (R.map RD) = (R.drop 1).map RD := by rw [List.map_drop]
  unfold f_law_12
  walk_at "ev"
  refine w_for (Y := List Pr2 × Sl × Sl × Sl) (fun y => [.pl d0, .pl d1, .pl d2, .pl d3, .pl (.lst (R.map RD)), x5, .pl (.lst (KS.map DK)), .pl d7, y.2.1, x9, x10, .ow (.lst (y.1.map enP)), .ow (.lst (y.1.map wrP)), y.2.2.1, y.2.2.2, .un]) (fun i y => (∀ x ∈ y.1, Lp x) ∧ y.1.length ≤ 20 * i ∧ Pl y.2.1 ∧ Pl y.2.2.2) ([], x8, .un, .un) rfl ⟨by simp, Nat.zero_le _, p8, .inl rfl⟩ (fun i d y hd hy => ?_) fun y hy => hk y.1 y.2.1 y.2.2.1 y.2.2.2
  obtain ⟨X, x8, x13, x14⟩ := y
  obtain ⟨gX, hX, p8, p14⟩ := hy
  dsimp only at gX hX p8 p14
  rw [List.getElem?_map, Option.map_eq_some_iff] at hd
  obtain ⟨r, hrm, rfl⟩ := hd
  have hi : i < R.length := by
    have := (List.getElem?_eq_some_iff.mp hrm).1
    rw [List.length_drop] at this
    omega
  have g := gr r (List.mem_of_mem_drop (List.mem_of_getElem? hrm))
  rw [w_tn]
  show Wp (b_law_11 [.pl d0, .pl d1, .pl d2, .pl d3, .pl (.lst (R.map RD)), x5, .pl (.lst (KS.map DK)), .pl d7, x8, x9, x10, .ow (.lst (X.map enP)), .ow (.lst (X.map wrP)), .pl (RD r), x14, .un]) _
  unfold b_law_11
  refine w_end ?_
  refine inner_ok g gk hkl gX hX (by omega) d0 d1 d2 d3 d7 x5 x8 x9 x10 x14 p5 p8 p9 p10 p14 fun X x8 x14 h1 h2 h3 h4 => ?_
  clear hk gk gr gX
  walk_at "ev"
  exact ⟨(X, x8, _, x14), rfl, h1, by show X.length ≤ _; omega, h3, h4⟩
theorem one_ne {w : Str} (h : Gw w) : dNe (.tup [.str w]) (.tup [.str w]) = some (.bl false) := by
  have : eqD (.tup [.str w]) (.tup [.str w]) = some true := by
    show eqP (.tup ([w].map .str)) (.tup ([w].map .str)) = some true
    have hs := row_sh (r := [w]) fun v hv => by simp at hv; subst hv; exact h
    unfold eqP
    simp only [py, pyW_eq, Option.map_some]
    rw [if_pos ⟨hs, hs⟩]
    exact congrArg some (eqvW.mpr rfl)
  unfold dNe
  rw [this]; rfl
theorem hone {w : Str} (gd : (Kd.wd w).Gd) : F_helper_kind [.tup [.str w]] = .ok (.tup [.str w]) none := by
  have key : ∀ (kk : Kd), kk = .wd w → kk.Gd → R_helper_kind 64 [kk.d] = .ok (hkd kk).d none := fun kk e g => by
    have hs : kk.sz = 1 := by subst e; rfl
    exact helper_ok 64 kk g (by omega) (by omega)
  have h := key _ rfl gd
  have q1 : (Kd.wd w).d = .tup [.str w] := rfl
  have q2 : (hkd (.wd w)).d = .tup [.str w] := rfl
  rw [q2, q1] at h
  exact h
theorem last_ok {Q : O → Prop} {k : MS} {ws : List Str} (gw : ∀ w ∈ ws, Lw w) (hl : ws.length ≤ 100) (x0 x1 x2 x4 x5 x6 x7 x8 x9 x10 x11 x12 x13 x14 x15 : Sl)
    (hk : ∀ x14 : Sl, Wp (k [x0, x1, x2, .pl (.lst (ws.map .str)), x4, x5, x6, x7, x8, x9, x10, x11, x12, x13, x14, x15]) Q) :
    Wp (kO (f_law_14 [x0, x1, x2, .pl (.lst (ws.map .str)), x4, x5, x6, x7, x8, x9, x10, x11, x12, x13, x14, x15]) k) Q := by
  unfold f_law_14
  walk_at "ev"
  refine w_for (Y := Sl) (fun y => [x0, x1, x2, .pl (.lst (ws.map .str)), x4, x5, x6, x7, x8, x9, x10, x11, x12, x13, y, x15]) (fun i y => True) x14 rfl trivial (fun i d y hd hy => ?_) fun y hy => hk y
  rw [List.getElem?_map, Option.map_eq_some_iff] at hd
  obtain ⟨w, hw, rfl⟩ := hd
  have g := gw w (List.mem_of_getElem? hw)
  have gd : (Kd.wd w).Gd := fun t ht => by
    have : t = .wd w := by simpa [Kd.fl] using ht
    subst this; exact g.gw
  have m1 : F_made_kind [.tup [.str w]] = .ok (.tup [.str w]) none := made_ok (k := .wd w) gd (by show 1 ≤ 1000; omega)
  have m2 : F_helper_kind [.tup [.str w]] = .ok (.tup [.str w]) none := hone gd
  have m3 := one_ne g.gw
  rw [w_tn]
  show Wp (b_law_13 [x0, x1, x2, .pl (.lst (ws.map .str)), x4, x5, x6, x7, x8, x9, x10, x11, x12, x13, .pl (.str w), x15]) _
  unfold b_law_13
  clear hk gw hw g gd
  walk_at "ev"
  exact ⟨_, rfl⟩
end VM.K62

set_option Elab.async false
set_option linter.all false
set_option autoImplicit false
set_option maxRecDepth 100000
set_option maxHeartbeats 400000
namespace VM.K62
open PySem PySem.Spec PyProof.Rows L2 VM
local macro_rules | `(tactic| walk_at "ev") => `(tactic| simp (disch := first | omega | (simp only [List.length_cons, List.length_nil, List.length_map, List.length_append, List.length_replicate, List.length_set, rngs_length]; omega)) only [*, q_seq, q_skip, q_knx, q_krt, q_kro, q_kbk, q_kct, q_ker, q_kk, q_bind, q_bok, q_ber, q_drop, q_ret, q_reto, q_ifs, q_ct, q_cf, q_asg, q_asgo, q_asgt, q_rok, q_rer, q_c, q_rd, q_mv, q_fz, fz_lst, fz_dct, fz_obj, fz_dlst, fz_ddct, fz_dobj, q_tk, q_2, q_1, q_os, q_b, q_not, q_and, q_or, q_at, q_af, q_ao, q_rt, q_rf, q_ro, q_andv, q_orv, q_avt, q_avf, q_avo, q_rvt, q_rvf, q_rvo, q_ife, q_it, q_if, q_io, q_on, q_oS, q_sl, q_nil, q_cons, q_tup, q_lst, q_call1, q_call, q_f0, q_f1, q_f2, q_f3, q_f4, q_f5, q_f6, q_f7, q_callk, q_frok, q_frer, q_calli, q_s1, q_idx, q_ixo, q_mihere, q_micons, q_fri, q_sdo, q_sdi, q_rso, q_rsi, q_app, q_ext, q_ext2, q_put, q_pop, q_with, q_wok, q_for, q_enum, q_items, q_raise, q_gt, q_grt, q_lt, q_le, q_rng1, q_rng2, q_rg1, q_lrg, q_lrgi, q_rg2, q_add, q_adds, q_addl, q_addt, q_cat, q_sub, q_mulr, q_mull, q_div, q_mod, q_p18, q_p12, q_cmplt, q_cmple, q_cmpgt, q_cmpge, q_eqi, q_eqs, q_eqb, q_nei, q_nes, q_isn, q_isnn, q_isb, q_isnb, q_neg, q_dnot, q_lenl, q_lent, q_lenf, q_lens, q_int, q_intb, q_tupl, q_tupt, q_lstl, q_lstt, q_min, q_max, q_ixn, q_ixm, q_ixl, q_ixt, q_ixf, q_rep, q_isi_tt, q_isi_ts, q_isi_ti, q_isi_ss, q_isi_st, q_isi_ii, q_isi_it, q_isi_is, q_isi_bi, q_lfi, q_lfb, q_lfs, q_lfn, q_itt, q_itl, q_itf, q_slt, q_sll, q_sls, tk_row, tk_wd, q_cut, q_cutf, q_cutt, q_try, q_tryo, q_tnx, q_trt, q_tonx, q_tort, w_irt, w_inx, w_iro, w_lnx, w_lct, w_lbk, w_lrt, w_lro, w_ler, w_nnx, w_nrt, w_nro, w_ner, w_rnx, w_rrt, w_rro, w_rer, w_tn, w_tt, w_tt3, ev_ownL, ev_putL, ev_lend, ev_hn, ev_hp, ev_hu, ev_ho, ev_hi, ev_i0, ev_i1, ev_tN, ev_tnil, ev_tcons, ev_tTup, List.getElem?_cons_zero, List.getElem?_cons_succ, List.set_cons_zero, List.set_cons_succ, List.length_cons, List.length_nil, List.length_append, List.length_map, List.length_replicate, List.length_set, rngs_length, List.nil_append, List.cons_append, Int.toNat_natCast, Int.toNat_zero, Int.toNat_one, Int.reduceToNat, List.getElem?_map, Option.map_some, Nat.reduceAdd, Nat.reduceSub, Nat.reduceLT, Nat.reduceLeDiff, Nat.reduceEqDiff, Int.reduceEq, Int.reduceLT, Int.reduceLE, Int.reduceAdd, Int.reduceSub, Int.reduceMul, Int.reduceNeg, List.replicate_succ, List.replicate_zero, Bool.not_true, Bool.not_false, Bool.and_true, Bool.true_and, Bool.and_false, Bool.false_and, Bool.or_true, Bool.true_or, Bool.or_false, Bool.false_or, decide_true, decide_false, if_true, if_false, and_self, true_and, and_true, Nat.sub_self, Nat.add_zero, Nat.zero_add, Bool.true_eq_false, Bool.false_eq_true, ite_true, ite_false, reduceIte, eq_self])
def stT : MS :=
  (mSeq (mIfS (mB (m2 (dCI ciLe) (mCall1 dLen (mCons (mRd 7) mNil)) (mC (.int 41)))) (mApp 6 (mRd 7)) mSkip)
  (mSeq f_law_7
  (mSeq (mAsgO 11 (mLst mNil))
  (mSeq (mAsgO 12 (mLst mNil))
  (mSeq f_law_12
  (mSeq f_law_14
  (mRet (mC (.bl true)))))))))
theorem law_eq : m_law = (mSeq (mAsg 1 (mFz (mCall 2 F__law_digits [] (mCons (mCall 2 F__law_cell [] (mCons (mRd 0) (mCons (mC (.int 0)) mNil))) (mCons (mLst (mCons (mC (.int 8)) (mCons (mC (.int 8)) (mCons (mC (.int 5)) (mCons (mC (.int 97)) (mCons (mC (.int 97)) (mCons (mC (.int 12)) (mCons (mC (.int 12)) mNil)))))))) mNil))))) (mSeq (mAsgO 2 (mLc [14] (mItems (mSl (mFz (mCall 2 F__law_menu [] (mCons (m2 dIx (mRd 1) (mC (.int 0))) (mCons (mC (.str "ask")) mNil)))) moN (moS (m2 dAdd (mC (.int 1)) (m2 (dI2 cMod) (mCall1 dInt (mCons (m2 dIx (mRd 1) (mC (.int 2))) mNil)) (mC (.int 4))))))) (mtN 14) mYes (mSl (m2 dAdd (mRd 14) (mC (.str "longer0word"))) moN (moS (mCall1 dMax2 (mCons (mCall1 dLen (mCons (mRd 14) mNil)) (mCons (m2 dAdd (m2 dIx (mRd 1) (mC (.int 5))) (mC (.int 1))) mNil))))))) (mSeq (mAsg 3 (m2 dAdd (mLc [14] (mItems (mSl (mFz (mCall 2 F__law_menu [] (mCons (m2 dIx (mRd 1) (mC (.int 1))) (mCons (mC (.str "data")) mNil)))) moN (moS (mC (.int 3))))) (mtN 14) mYes (mSl (m2 dAdd (mRd 14) (mC (.str "Longer0word"))) moN (moS (mCall1 dMax2 (mCons (mCall1 dLen (mCons (mRd 14) mNil)) (mCons (m2 dAdd (m2 dIx (mRd 1) (mC (.int 6))) (mC (.int 1))) mNil)))))) (mLst (mCons (mC (.str "o")) (mCons (mC (.str "num")) mNil))))) (mSeq (mAsgO 4 (mLst (mCons (mTup mNil) mNil))) (mSeq f_law_1 (mSeq (mAsgO 6 (mLst mNil)) (mSeq f_law_3 (mSeq (mAsg 7 (mWith lfree 6 (m2 dIx (mRd 6) (mC (.int 0))))) (mSeq f_law_5 stT))))))))) := rfl
theorem tail_ok {R : List (List Str)} {KS : List Kd} {ws : List Str} {K : Kd} (gr : ∀ r ∈ R, Lr r) (hr : R.length ≤ 100) (gk : ∀ k ∈ KS, k.Ld ∧ k.sz ≤ 7) (hkl : KS.length = 14) (gw : ∀ w ∈ ws, Lw w) (hwl : ws.length ≤ 100) (gK : K.Ld) (hK : K.sz ≤ 1000) (d0 d1 d2 : D) (x5 : Sl) (p5 : Pl x5) :
    Wp (stT [.pl d0, .pl d1, .pl d2, .pl (.lst (ws.map .str)), .ow (.lst (R.map RD)), x5, .ow (.lst (KS.map DK)), .pl (DK K), .un, .un, .un, .un, .un, .un, .un, .un]) (RtQ false (fun e => e = .bl true) fun _ => False) := by
  have hKl2 : (KS.map DK).length = KS.length := List.length_map _
  have len : dLen [DK K] = some (.int ((K.sz : Nat) : Int)) := by
    show some (D.int _) = _
    rw [List.length_map, Kd.fl_len]
  have rest : ∀ KS : List Kd, (∀ k ∈ KS, k.Ld ∧ k.sz ≤ 41) → KS.length ≤ 20 → Wp ((mSeq f_law_7 (mSeq (mAsgO 11 (mLst mNil)) (mSeq (mAsgO 12 (mLst mNil)) (mSeq f_law_12 (mSeq f_law_14 (mRet (mC (.bl true)))))))) [.pl d0, .pl d1, .pl d2, .pl (.lst (ws.map .str)), .ow (.lst (R.map RD)), x5, .ow (.lst (KS.map DK)), .pl (DK K), .un, .un, .un, .un, .un, .un, .un, .un]) (RtQ false (fun e => e = .bl true) fun _ => False) := fun KS g hl => by
    have L1 := fun (Q : O → Prop) (k : MS) => check_ok (Q := Q) (k := k) g hl (.pl d0) (.pl d1) (.pl d2) (.pl (.lst (ws.map .str))) (.ow (.lst (R.map RD))) x5 (.pl (DK K)) .un .un .un .un
    have L2 := fun (Q : O → Prop) (k : MS) x8 x9 x10 (p8 : Pl x8) (p9 : Pl x9) (p10 : Pl x10) => pairs_ok (Q := Q) (k := k) gr hr g hl d0 d1 d2 (.lst (ws.map .str)) (DK K) x5 x8 x9 x10 p5 p8 p9 p10
    have L3 := fun (Q : O → Prop) (k : MS) x0 x1 x2 x4 x5 x6 x7 x8 x9 x10 x11 x12 x13 x14 x15 => last_ok (Q := Q) (k := k) gw hwl x0 x1 x2 x4 x5 x6 x7 x8 x9 x10 x11 x12 x13 x14 x15
    clear gr gk gw g gK
    walk_at "ev"
    refine L1 _ _ fun x8 x9 x10 p8 p9 p10 => ?_
    clear L1
    walk_at "ev"
    refine L2 _ _ x8 x9 x10 p8 p9 p10 fun X x8 x13 x14 => ?_
    clear L2
    walk_at "ev"
    refine L3 _ _ _ _ _ _ _ _ _ _ _ _ _ _ _ _ _ fun x14 => ?_
    clear L3
    walk_at "ev"
  unfold stT
  by_cases hb : (K.sz : Int) ≤ 41
  · have hd : decide ((K.sz : Int) ≤ 41) = true := decide_eq_true hb
    have f := rest (KS ++ [K]) (fun k hk => (List.mem_append.mp hk).elim (fun h => ⟨(gk k h).1, by have := (gk k h).2; omega⟩) fun h => by simp at h; subst h; exact ⟨gK, by omega⟩) (by simp; omega)
    have e : KS.map DK ++ [DK K] = (KS ++ [K]).map DK := by simp
    clear rest gr gk gw gK hb
    generalize (KS ++ [K]).map DK = KX at *
    generalize mSeq f_law_7 (mSeq (mAsgO 11 (mLst mNil)) (mSeq (mAsgO 12 (mLst mNil)) (mSeq f_law_12 (mSeq f_law_14 (mRet (mC (.bl true))))))) = rs at *
    walk_at "ev"
  · have hd : decide ((K.sz : Int) ≤ 41) = false := decide_eq_false hb
    have f := rest KS (fun k h => ⟨(gk k h).1, by have := (gk k h).2; omega⟩) (by omega)
    clear rest gr gk gw gK hb
    generalize mSeq f_law_7 (mSeq (mAsgO 11 (mLst mNil)) (mSeq (mAsgO 12 (mLst mNil)) (mSeq f_law_12 (mSeq f_law_14 (mRet (mC (.bl true))))))) = rs at *
    walk_at "ev"
def lwB (w : Str) : Bool := match w.cps.toList with
  | [] => false
  | c :: r => (lower.cps.toList.contains c || caps.cps.toList.contains c) && (c :: r).all (fun c => alnum.contains c) && decide (w.length ≤ 12)
theorem lwB_ok {w : Str} (h : lwB w = true) : Lw w := by
  unfold lwB at h
  cases hw : w.cps.toList with
  | nil => rw [hw] at h; cases h
  | cons c r =>
    rw [hw] at h
    simp only [Bool.and_eq_true, Bool.or_eq_true, List.contains_iff_mem, List.all_eq_true, decide_eq_true_eq] at h
    exact ⟨⟨c, r, hw, h.1.1⟩, by rw [hw]; exact h.1.2, h.2⟩
def cutA (w z : Str) (h : Nat) : Str := cutS (w ++ z) none (some (max (w.length : Int) ((h : Int) + 1)))
theorem cut_asks {w : Str} (h : w ∈ asksM) {n : Nat} (hn : n < 12) : Lw (cutA w "longer0word" n) ∧ w.length ≤ 5 := by
  have h1 : (asksM.all fun w => (List.range 12).all fun n => lwB (cutA w "longer0word" n)) = true := by decide +kernel
  have h2 : (asksM.all fun w => decide (w.length ≤ 5)) = true := by decide +kernel
  exact ⟨lwB_ok (List.all_eq_true.mp (List.all_eq_true.mp h1 w h) n (List.mem_range.mpr hn)), by simpa using List.all_eq_true.mp h2 w h⟩
theorem cut_data {w : Str} (h : w ∈ dataM) {n : Nat} (hn : n < 12) : Lw (cutA w "Longer0word" n) ∧ w.length ≤ 5 := by
  have h1 : (dataM.all fun w => (List.range 12).all fun n => lwB (cutA w "Longer0word" n)) = true := by decide +kernel
  have h2 : (dataM.all fun w => decide (w.length ≤ 5)) = true := by decide +kernel
  exact ⟨lwB_ok (List.all_eq_true.mp (List.all_eq_true.mp h1 w h) n (List.mem_range.mpr hn)), by simpa using List.all_eq_true.mp h2 w h⟩
theorem cut_ev {w z : Str} {n : Nat} (hw : w.length ≤ 5) (hz : z.length ≤ 20) : dAdd (.str w) (.str z) = some (.str (w ++ z)) ∧ dSl (.str (w ++ z)) none (some (max (w.length : Int) ((n : Int) + 1))) = some (.str (cutA w z n)) := by
  refine ⟨q_adds (a := w) (b := z) (by omega), q_sls (a := w ++ z) none _ ?_⟩
  have : (w ++ z).length = w.length + z.length := by
    show (w.cps ++ z.cps).size = _
    rw [Array.size_append]; rfl
  omega
theorem law_true : ∀ ns : List Int, ns.length ≤ 63 → F_law [.fl (ns.map .int)] = .ok (.bl true) none := fun ns _ => Cmp.eq <| cmp_of <| by
  rw [law_eq]
  obtain ⟨d0, hc, c, rfl⟩ := (cell_ok ns 0).eq
  have hc : F__law_cell [.fl (ns.map .int), .int 0] = .ok (.int c) none := hc
  obtain ⟨H, hH, hHl, hHb⟩ := digN c [8, 8, 5, 97, 97, 12, 12] (by intro z hz; simp only [List.mem_cons, List.not_mem_nil, or_false] at hz; unfold SizeOk; omega) (by decide)
  have hH : F__law_digits [.int c, .lst [.int 8, .int 8, .int 5, .int 97, .int 97, .int 12, .int 12]] = .ok (.lst (iN H)) none := hH
  have hHl : H.length = 7 := hHl
  obtain ⟨h0, e0⟩ : ∃ n, H[0]? = some n := ⟨_, List.getElem?_eq_getElem (by omega)⟩
  have l0 : h0 < 8 := by have := hHb 0 8 _ rfl e0; omega
  have i0 : (iN H)[0]? = some (.int (h0 : Int)) := iN_at e0
  obtain ⟨h1, e1⟩ : ∃ n, H[1]? = some n := ⟨_, List.getElem?_eq_getElem (by omega)⟩
  have l1 : h1 < 8 := by have := hHb 1 8 _ rfl e1; omega
  have i1 : (iN H)[1]? = some (.int (h1 : Int)) := iN_at e1
  obtain ⟨h2, e2⟩ : ∃ n, H[2]? = some n := ⟨_, List.getElem?_eq_getElem (by omega)⟩
  have l2 : h2 < 5 := by have := hHb 2 5 _ rfl e2; omega
  have i2 : (iN H)[2]? = some (.int (h2 : Int)) := iN_at e2
  obtain ⟨h3, e3⟩ : ∃ n, H[3]? = some n := ⟨_, List.getElem?_eq_getElem (by omega)⟩
  have l3 : h3 < 97 := by have := hHb 3 97 _ rfl e3; omega
  have i3 : (iN H)[3]? = some (.int (h3 : Int)) := iN_at e3
  obtain ⟨h4, e4⟩ : ∃ n, H[4]? = some n := ⟨_, List.getElem?_eq_getElem (by omega)⟩
  have l4 : h4 < 97 := by have := hHb 4 97 _ rfl e4; omega
  have i4 : (iN H)[4]? = some (.int (h4 : Int)) := iN_at e4
  obtain ⟨h5, e5⟩ : ∃ n, H[5]? = some n := ⟨_, List.getElem?_eq_getElem (by omega)⟩
  have l5 : h5 < 12 := by have := hHb 5 12 _ rfl e5; omega
  have i5 : (iN H)[5]? = some (.int (h5 : Int)) := iN_at e5
  obtain ⟨h6, e6⟩ : ∃ n, H[6]? = some n := ⟨_, List.getElem?_eq_getElem (by omega)⟩
  have l6 : h6 < 12 := by have := hHb 6 12 _ rfl e6; omega
  have i6 : (iN H)[6]? = some (.int (h6 : Int)) := iN_at e6
  obtain ⟨W1, hW1, hW1l, hMW1⟩ := menu_ok (M := asksM) (z := "ask") (.inl ⟨rfl, rfl⟩) h0
  obtain ⟨W2, hW2, hW2l, hMW2⟩ := menu_ok (M := dataM) (z := "data") (.inr ⟨rfl, rfl⟩) h1
  obtain ⟨m, hm1, hm4, hme⟩ : ∃ m : Nat, 1 ≤ m ∧ m ≤ 4 ∧ 1 + (h2 : Int) % 4 = (m : Int) := ⟨1 + h2 % 4, by omega, by omega, by omega⟩
  clear hHb
  have lc1 : (mLc [14] (mItems (mSl (mFz (mCall 2 F__law_menu [] (mCons (m2 dIx (mRd 1) (mC (.int 0))) (mCons (mC (.str "ask")) mNil)))) moN (moS (m2 dAdd (mC (.int 1)) (m2 (dI2 cMod) (mCall1 dInt (mCons (m2 dIx (mRd 1) (mC (.int 2))) mNil)) (mC (.int 4))))))) (mtN 14) mYes (mSl (m2 dAdd (mRd 14) (mC (.str "longer0word"))) moN (moS (mCall1 dMax2 (mCons (mCall1 dLen (mCons (mRd 14) mNil)) (mCons (m2 dAdd (m2 dIx (mRd 1) (mC (.int 5))) (mC (.int 1))) mNil)))))) [.pl (.fl (ns.map .int)), .pl (.lst (iN H)), .un, .un, .un, .un, .un, .un, .un, .un, .un, .un, .un, .un, .un, .un] = .ok (.lst ((W1.take m).map fun w => D.str (cutA w "longer0word" h5))) [.pl (.fl (ns.map .int)), .pl (.lst (iN H)), .un, .un, .un, .un, .un, .un, .un, .un, .un, .un, .un, .un, .un, .un] :=
    lc_map (own := [14]) (W1.take m) (fun w => D.str w) (fun w => D.str (cutA w "longer0word" h5)) (by
      have hm2 := List.map_take (f := D.str) (l := W1) (i := m)
      clear hMW1 hMW2
      walk_at "ev") rfl (by simp; omega) fun w hw => ⟨[.pl (.fl (ns.map .int)), .pl (.lst (iN H)), .un, .un, .un, .un, .un, .un, .un, .un, .un, .un, .un, .un, .pl (.str w), .un], rfl, by
      have hw5 := (cut_asks (hMW1 w (List.mem_of_mem_take hw)) l5).2
      obtain ⟨c1, c2⟩ := cut_ev (w := w) (z := "longer0word") (n := h5) hw5 (by decide)
      clear hMW1 hMW2 hw
      walk_at "ev", rfl⟩
  have gA : ∀ w ∈ (W1.take m).map fun w => cutA w "longer0word" h5, Lw w := fun w hw => by
    obtain ⟨v, hv, rfl⟩ := List.mem_map.mp hw
    exact (cut_asks (hMW1 v (List.mem_of_mem_take hv)) l5).1
  have hAl : ((W1.take m).map fun w => cutA w "longer0word" h5).length = m := by simp; omega
  have eA : ((W1.take m).map fun w => D.str (cutA w "longer0word" h5)) = ((W1.take m).map fun w => cutA w "longer0word" h5).map .str := by rw [List.map_map]; rfl
  rw [eA] at lc1
  generalize hAA : ((W1.take m).map fun w => cutA w "longer0word" h5) = A at *
  have lc2 : (mLc [14] (mItems (mSl (mFz (mCall 2 F__law_menu [] (mCons (m2 dIx (mRd 1) (mC (.int 1))) (mCons (mC (.str "data")) mNil)))) moN (moS (mC (.int 3))))) (mtN 14) mYes (mSl (m2 dAdd (mRd 14) (mC (.str "Longer0word"))) moN (moS (mCall1 dMax2 (mCons (mCall1 dLen (mCons (mRd 14) mNil)) (mCons (m2 dAdd (m2 dIx (mRd 1) (mC (.int 6))) (mC (.int 1))) mNil)))))) [.pl (.fl (ns.map .int)), .pl (.lst (iN H)), .ow (.lst (A.map .str)), .un, .un, .un, .un, .un, .un, .un, .un, .un, .un, .un, .un, .un] = .ok (.lst ((W2.take 3).map fun w => D.str (cutA w "Longer0word" h6))) [.pl (.fl (ns.map .int)), .pl (.lst (iN H)), .ow (.lst (A.map .str)), .un, .un, .un, .un, .un, .un, .un, .un, .un, .un, .un, .un, .un] :=
    lc_map (own := [14]) (W2.take 3) (fun w => D.str w) (fun w => D.str (cutA w "Longer0word" h6)) (by
      have hm2 := List.map_take (f := D.str) (l := W2) (i := 3)
      clear hMW1 hMW2 lc1 gA
      walk_at "ev") rfl (by simp; omega) fun w hw => ⟨[.pl (.fl (ns.map .int)), .pl (.lst (iN H)), .ow (.lst (A.map .str)), .un, .un, .un, .un, .un, .un, .un, .un, .un, .un, .un, .pl (.str w), .un], rfl, by
      have hw5 := (cut_data (hMW2 w (List.mem_of_mem_take hw)) l6).2
      obtain ⟨c1, c2⟩ := cut_ev (w := w) (z := "Longer0word") (n := h6) hw5 (by decide)
      clear hMW1 hMW2 lc1 gA hw
      walk_at "ev", rfl⟩
  have gB : ∀ w ∈ (W2.take 3).map (fun w => cutA w "Longer0word" h6) ++ (["o", "num"] : List Str), Lw w := fun w hw => by
    rcases List.mem_append.mp hw with hw | hw
    · obtain ⟨v, hv, rfl⟩ := List.mem_map.mp hw
      exact (cut_data (hMW2 v (List.mem_of_mem_take hv)) l6).1
    · simp only [List.mem_cons, List.not_mem_nil, or_false] at hw
      rcases hw with rfl | rfl <;> exact lwB_ok (by decide +kernel)
  have hBl : ((W2.take 3).map (fun w => cutA w "Longer0word" h6) ++ (["o", "num"] : List Str)).length = 5 := by simp; omega
  have eB : dAdd (.lst ((W2.take 3).map fun w => D.str (cutA w "Longer0word" h6))) (.lst [.str "o", .str "num"]) = some (.lst (((W2.take 3).map (fun w => cutA w "Longer0word" h6) ++ (["o", "num"] : List Str)).map .str)) :=
    (q_addl (xs := (W2.take 3).map fun w => D.str (cutA w "Longer0word" h6)) (ys := [.str "o", .str "num"]) (by simp; omega)).trans (by rw [List.map_append, List.map_map]; rfl)
  generalize ((W2.take 3).map fun w => D.str (cutA w "Longer0word" h6)) = BD at *
  generalize (W2.take 3).map (fun w => cutA w "Longer0word" h6) ++ (["o", "num"] : List Str) = ws at *
  have LR := fun (Q : O → Prop) (k : MS) => rows_ok (Q := Q) (k := k) (A := A) (by omega) (by omega) gA (.pl (.fl (ns.map .int))) (.pl (.lst (iN H))) (.pl (.lst (ws.map .str))) .un .un .un .un .un .un .un .un .un .un
  have LK := fun (Q : O → Prop) (k : MS) R (g : ∀ r ∈ R, Lr r) h1 h2 => kinds_ok (Q := Q) (k := k) ns (ws := ws) (R := R) (by omega) (by omega) gB h1 h2 g (.lst (iN H)) (.lst (A.map .str))
  have LL := fun (Q : O → Prop) (k : MS) R KS K0 (g : ∀ r ∈ R, Lr r) h1 h2 gk hkl g0 s0 => long_ok (Q := Q) (k := k) e3 e4 (R := R) (KS := KS) h1 h2 g gk hkl (K0 := K0) g0 s0 (.fl (ns.map .int)) (.lst (A.map .str)) (.lst (ws.map .str))
  have LT := fun R KS K g h1 gk hkl gK hK => tail_ok (R := R) (KS := KS) (ws := ws) (K := K) g h1 gk hkl gB (by omega) gK hK (.fl (ns.map .int)) (.lst (iN H)) (.lst (A.map .str))
  clear gA gB hMW1 hMW2 hAA eA e0 e1 e2 e3 e4 e5 e6
  walk_at "ev"
  refine LR _ _ fun R x5 gR hR1 hR9 p5 => ?_
  clear LR
  walk_at "ev"
  refine LK _ _ R gR (by omega) (by omega) x5 p5 fun KS x5 gK hKl p5 => ?_
  clear LK
  obtain ⟨K0, K0m, eK0⟩ := at_mem (xs := KS) (n := 0) (by omega)
  have lf0 : lfree (DK K0) = true := lf_kd K0
  have hid := p5.hide
  walk_at "ev"
  refine LL _ _ R KS K0 gR (by omega) (by omega) gK hKl (gK K0 K0m).1 (gK K0 K0m).2 x5 p5 fun K x5 gL hLs p5 => ?_
  exact LT R KS K gR (by omega) gK hKl gL hLs x5 p5
end VM.K62

set_option Elab.async false
set_option linter.all false
set_option autoImplicit false
set_option maxRecDepth 100000
set_option maxHeartbeats 400000
namespace VM.K62
open PySem PySem.Spec PyProof.Rows L2 VM
theorem all_mk {P : Program} {w : World} {K : PySem.W.Frag} {h : Heap} {mg : Str → Option Value} {fa : Addr} (X : K.In h) (G : h.Ns mainGlobals mg) (hfa : mg "law" = some (.ref fa))
    {f0 : Addr} {od0 an0 : Option Addr} {sl0 : Array (Option Value)} {oc0 kV0 dc0 pm0 cd0 ct0 : Value}
    {f1 : Addr} {od1 an1 : Option Addr} {sl1 : Array (Option Value)} {oc1 kV1 dc1 pm1 cd1 ct1 : Value}
    {f2 : Addr} {od2 an2 : Option Addr} {sl2 : Array (Option Value)} {oc2 kV2 dc2 pm2 cd2 ct2 : Value}
    {f3 : Addr} {od3 an3 : Option Addr} {sl3 : Array (Option Value)} {oc3 kV3 dc3 pm3 cd3 ct3 : Value}
    {f4 : Addr} {od4 an4 : Option Addr} {sl4 : Array (Option Value)} {oc4 kV4 dc4 pm4 cd4 ct4 : Value}
    {f5 : Addr} {od5 an5 : Option Addr} {sl5 : Array (Option Value)} {oc5 kV5 dc5 pm5 cd5 ct5 : Value}
    {f6 : Addr} {od6 an6 : Option Addr} {sl6 : Array (Option Value)} {oc6 kV6 dc6 pm6 cd6 ct6 : Value}
    {f7 : Addr} {od7 an7 : Option Addr} {sl7 : Array (Option Value)} {oc7 kV7 dc7 pm7 cd7 ct7 : Value}
    {f8 : Addr} {od8 an8 : Option Addr} {sl8 : Array (Option Value)} {oc8 kV8 dc8 pm8 cd8 ct8 : Value}
    {f9 : Addr} {od9 an9 : Option Addr} {sl9 : Array (Option Value)} {oc9 kV9 dc9 pm9 cd9 ct9 : Value}
    {f10 : Addr} {od10 an10 : Option Addr} {sl10 : Array (Option Value)} {oc10 kV10 dc10 pm10 cd10 ct10 : Value}
    {f11 : Addr} {od11 an11 : Option Addr} {sl11 : Array (Option Value)} {oc11 kV11 dc11 pm11 cd11 ct11 : Value}
    {f12 : Addr} {od12 an12 : Option Addr} {sl12 : Array (Option Value)} {oc12 kV12 dc12 pm12 cd12 ct12 : Value}
    {f13 : Addr} {od13 an13 : Option Addr} {sl13 : Array (Option Value)} {oc13 kV13 dc13 pm13 cd13 ct13 : Value}
    {f14 : Addr} {od14 an14 : Option Addr} {sl14 : Array (Option Value)} {oc14 kV14 dc14 pm14 cd14 ct14 : Value}
    {f15 : Addr} {od15 an15 : Option Addr} {sl15 : Array (Option Value)} {oc15 kV15 dc15 pm15 cd15 ct15 : Value}
    {f16 : Addr} {od16 an16 : Option Addr} {sl16 : Array (Option Value)} {oc16 kV16 dc16 pm16 cd16 ct16 : Value}
    {f17 : Addr} {od17 an17 : Option Addr} {sl17 : Array (Option Value)} {oc17 kV17 dc17 pm17 cd17 ct17 : Value}
    {f18 : Addr} {od18 an18 : Option Addr} {sl18 : Array (Option Value)} {oc18 kV18 dc18 pm18 cd18 ct18 : Value}
    {f19 : Addr} {od19 an19 : Option Addr} {sl19 : Array (Option Value)} {oc19 kV19 dc19 pm19 cd19 ct19 : Value}
    {f20 : Addr} {od20 an20 : Option Addr} {sl20 : Array (Option Value)} {oc20 kV20 dc20 pm20 cd20 ct20 : Value}
    {f21 : Addr} {od21 an21 : Option Addr} {sl21 : Array (Option Value)} {oc21 kV21 dc21 pm21 cd21 ct21 : Value}
    {f22 : Addr} {od22 an22 : Option Addr} {sl22 : Array (Option Value)} {oc22 kV22 dc22 pm22 cd22 ct22 : Value}
    {f23 : Addr} {od23 an23 : Option Addr} {sl23 : Array (Option Value)} {oc23 kV23 dc23 pm23 cd23 ct23 : Value}
    {f24 : Addr} {od24 an24 : Option Addr} {sl24 : Array (Option Value)} {oc24 kV24 dc24 pm24 cd24 ct24 : Value}
    {f25 : Addr} {od25 an25 : Option Addr} {sl25 : Array (Option Value)} {oc25 kV25 dc25 pm25 cd25 ct25 : Value}
    (a0 : PySem.W.nsIn K mainGlobals "begins_in" = some (some (.ref f0))) (l0 : K.lookup f0 = some ⟨oc0, od0, .func (PySem.W.fnOf "begins_in" "begins_in" (defArgs s_begins_in) (defBody s_begins_in) (defScope s_begins_in) .none kV0 dc0 pm0 an0 cd0 ct0), sl0⟩) (c0 : PySem.W.codeIn K cd0 "begins_in" = true) (k0 : PySem.W.keepIn K (.ref f0) = true)
    (a1 : PySem.W.nsIn K mainGlobals "is_base_word" = some (some (.ref f1))) (l1 : K.lookup f1 = some ⟨oc1, od1, .func (PySem.W.fnOf "is_base_word" "is_base_word" (defArgs s_is_base_word) (defBody s_is_base_word) (defScope s_is_base_word) .none kV1 dc1 pm1 an1 cd1 ct1), sl1⟩) (c1 : PySem.W.codeIn K cd1 "is_base_word" = true) (k1 : PySem.W.keepIn K (.ref f1) = true)
    (a2 : PySem.W.nsIn K mainGlobals "is_data_word" = some (some (.ref f2))) (l2 : K.lookup f2 = some ⟨oc2, od2, .func (PySem.W.fnOf "is_data_word" "is_data_word" (defArgs s_is_data_word) (defBody s_is_data_word) (defScope s_is_data_word) .none kV2 dc2 pm2 an2 cd2 ct2), sl2⟩) (c2 : PySem.W.codeIn K cd2 "is_data_word" = true) (k2 : PySem.W.keepIn K (.ref f2) = true)
    (a3 : PySem.W.nsIn K mainGlobals "is_plain_word" = some (some (.ref f3))) (l3 : K.lookup f3 = some ⟨oc3, od3, .func (PySem.W.fnOf "is_plain_word" "is_plain_word" (defArgs s_is_plain_word) (defBody s_is_plain_word) (defScope s_is_plain_word) .none kV3 dc3 pm3 an3 cd3 ct3), sl3⟩) (c3 : PySem.W.codeIn K cd3 "is_plain_word" = true) (k3 : PySem.W.keepIn K (.ref f3) = true)
    (a4 : PySem.W.nsIn K mainGlobals "is_row" = some (some (.ref f4))) (l4 : K.lookup f4 = some ⟨oc4, od4, .func (PySem.W.fnOf "is_row" "is_row" (defArgs s_is_row) (defBody s_is_row) (defScope s_is_row) .none kV4 dc4 pm4 an4 cd4 ct4), sl4⟩) (c4 : PySem.W.codeIn K cd4 "is_row" = true) (k4 : PySem.W.keepIn K (.ref f4) = true)
    (a5 : PySem.W.nsIn K mainGlobals "is_kind" = some (some (.ref f5))) (l5 : K.lookup f5 = some ⟨oc5, od5, .func (PySem.W.fnOf "is_kind" "is_kind" (defArgs s_is_kind) (defBody s_is_kind) (defScope s_is_kind) .none kV5 dc5 pm5 an5 cd5 ct5), sl5⟩) (c5 : PySem.W.codeIn K cd5 "is_kind" = true) (k5 : PySem.W.keepIn K (.ref f5) = true)
    (a6 : PySem.W.nsIn K mainGlobals "kind_ends" = some (some (.ref f6))) (l6 : K.lookup f6 = some ⟨oc6, od6, .func (PySem.W.fnOf "kind_ends" "kind_ends" (defArgs s_kind_ends) (defBody s_kind_ends) (defScope s_kind_ends) .none kV6 dc6 pm6 an6 cd6 ct6), sl6⟩) (c6 : PySem.W.codeIn K cd6 "kind_ends" = true) (k6 : PySem.W.keepIn K (.ref f6) = true)
    (a7 : PySem.W.nsIn K mainGlobals "function_kind" = some (some (.ref f7))) (l7 : K.lookup f7 = some ⟨oc7, od7, .func (PySem.W.fnOf "function_kind" "function_kind" (defArgs s_function_kind) (defBody s_function_kind) (defScope s_function_kind) .none kV7 dc7 pm7 an7 cd7 ct7), sl7⟩) (c7 : PySem.W.codeIn K cd7 "function_kind" = true) (k7 : PySem.W.keepIn K (.ref f7) = true)
    (a8 : PySem.W.nsIn K mainGlobals "is_function" = some (some (.ref f8))) (l8 : K.lookup f8 = some ⟨oc8, od8, .func (PySem.W.fnOf "is_function" "is_function" (defArgs s_is_function) (defBody s_is_function) (defScope s_is_function) .none kV8 dc8 pm8 an8 cd8 ct8), sl8⟩) (c8 : PySem.W.codeIn K cd8 "is_function" = true) (k8 : PySem.W.keepIn K (.ref f8) = true)
    (a9 : PySem.W.nsIn K mainGlobals "left_of" = some (some (.ref f9))) (l9 : K.lookup f9 = some ⟨oc9, od9, .func (PySem.W.fnOf "left_of" "left_of" (defArgs s_left_of) (defBody s_left_of) (defScope s_left_of) .none kV9 dc9 pm9 an9 cd9 ct9), sl9⟩) (c9 : PySem.W.codeIn K cd9 "left_of" = true) (k9 : PySem.W.keepIn K (.ref f9) = true)
    (a10 : PySem.W.nsIn K mainGlobals "right_of" = some (some (.ref f10))) (l10 : K.lookup f10 = some ⟨oc10, od10, .func (PySem.W.fnOf "right_of" "right_of" (defArgs s_right_of) (defBody s_right_of) (defScope s_right_of) .none kV10 dc10 pm10 an10 cd10 ct10), sl10⟩) (c10 : PySem.W.codeIn K cd10 "right_of" = true) (k10 : PySem.W.keepIn K (.ref f10) = true)
    (a11 : PySem.W.nsIn K mainGlobals "word_code" = some (some (.ref f11))) (l11 : K.lookup f11 = some ⟨oc11, od11, .func (PySem.W.fnOf "word_code" "word_code" (defArgs s_word_code) (defBody s_word_code) (defScope s_word_code) .none kV11 dc11 pm11 an11 cd11 ct11), sl11⟩) (c11 : PySem.W.codeIn K cd11 "word_code" = true) (k11 : PySem.W.keepIn K (.ref f11) = true)
    (a12 : PySem.W.nsIn K mainGlobals "kind_code" = some (some (.ref f12))) (l12 : K.lookup f12 = some ⟨oc12, od12, .func (PySem.W.fnOf "kind_code" "kind_code" (defArgs s_kind_code) (defBody s_kind_code) (defScope s_kind_code) .none kV12 dc12 pm12 an12 cd12 ct12), sl12⟩) (c12 : PySem.W.codeIn K cd12 "kind_code" = true) (k12 : PySem.W.keepIn K (.ref f12) = true)
    (a13 : PySem.W.nsIn K mainGlobals "wrap_word" = some (some (.ref f13))) (l13 : K.lookup f13 = some ⟨oc13, od13, .func (PySem.W.fnOf "wrap_word" "wrap_word" (defArgs s_wrap_word) (defBody s_wrap_word) (defScope s_wrap_word) .none kV13 dc13 pm13 an13 cd13 ct13), sl13⟩) (c13 : PySem.W.codeIn K cd13 "wrap_word" = true) (k13 : PySem.W.keepIn K (.ref f13) = true)
    (a14 : PySem.W.nsIn K mainGlobals "made_kind" = some (some (.ref f14))) (l14 : K.lookup f14 = some ⟨oc14, od14, .func (PySem.W.fnOf "made_kind" "made_kind" (defArgs s_made_kind) (defBody s_made_kind) (defScope s_made_kind) .none kV14 dc14 pm14 an14 cd14 ct14), sl14⟩) (c14 : PySem.W.codeIn K cd14 "made_kind" = true) (k14 : PySem.W.keepIn K (.ref f14) = true)
    (a15 : PySem.W.nsIn K mainGlobals "helper_kind" = some (some (.ref f15))) (l15 : K.lookup f15 = some ⟨oc15, od15, .func (PySem.W.fnOf "helper_kind" "helper_kind" (defArgs s_helper_kind) (defBody s_helper_kind) (defScope s_helper_kind) .none kV15 dc15 pm15 an15 cd15 ct15), sl15⟩) (c15 : PySem.W.codeIn K cd15 "helper_kind" = true) (k15 : PySem.W.keepIn K (.ref f15) = true)
    (a16 : PySem.W.nsIn K mainGlobals "_law_cell" = some (some (.ref f16))) (l16 : K.lookup f16 = some ⟨oc16, od16, .func (PySem.W.fnOf "_law_cell" "_law_cell" (defArgs s__law_cell) (defBody s__law_cell) (defScope s__law_cell) .none kV16 dc16 pm16 an16 cd16 ct16), sl16⟩) (c16 : PySem.W.codeIn K cd16 "_law_cell" = true) (k16 : PySem.W.keepIn K (.ref f16) = true)
    (a17 : PySem.W.nsIn K mainGlobals "_law_digits" = some (some (.ref f17))) (l17 : K.lookup f17 = some ⟨oc17, od17, .func (PySem.W.fnOf "_law_digits" "_law_digits" (defArgs s__law_digits) (defBody s__law_digits) (defScope s__law_digits) .none kV17 dc17 pm17 an17 cd17 ct17), sl17⟩) (c17 : PySem.W.codeIn K cd17 "_law_digits" = true) (k17 : PySem.W.keepIn K (.ref f17) = true)
    (a18 : PySem.W.nsIn K mainGlobals "_law_kind_ends" = some (some (.ref f18))) (l18 : K.lookup f18 = some ⟨oc18, od18, .func (PySem.W.fnOf "_law_kind_ends" "_law_kind_ends" (defArgs s__law_kind_ends) (defBody s__law_kind_ends) (defScope s__law_kind_ends) .none kV18 dc18 pm18 an18 cd18 ct18), sl18⟩) (c18 : PySem.W.codeIn K cd18 "_law_kind_ends" = true) (k18 : PySem.W.keepIn K (.ref f18) = true)
    (a19 : PySem.W.nsIn K mainGlobals "_law_split" = some (some (.ref f19))) (l19 : K.lookup f19 = some ⟨oc19, od19, .func (PySem.W.fnOf "_law_split" "_law_split" (defArgs s__law_split) (defBody s__law_split) (defScope s__law_split) .none kV19 dc19 pm19 an19 cd19 ct19), sl19⟩) (c19 : PySem.W.codeIn K cd19 "_law_split" = true) (k19 : PySem.W.keepIn K (.ref f19) = true)
    (a20 : PySem.W.nsIn K mainGlobals "_law_kind" = some (some (.ref f20))) (l20 : K.lookup f20 = some ⟨oc20, od20, .func (PySem.W.fnOf "_law_kind" "_law_kind" (defArgs s__law_kind) (defBody s__law_kind) (defScope s__law_kind) .none kV20 dc20 pm20 an20 cd20 ct20), sl20⟩) (c20 : PySem.W.codeIn K cd20 "_law_kind" = true) (k20 : PySem.W.keepIn K (.ref f20) = true)
    (a21 : PySem.W.nsIn K mainGlobals "_law_menu" = some (some (.ref f21))) (l21 : K.lookup f21 = some ⟨oc21, od21, .func (PySem.W.fnOf "_law_menu" "_law_menu" (defArgs s__law_menu) (defBody s__law_menu) (defScope s__law_menu) .none kV21 dc21 pm21 an21 cd21 ct21), sl21⟩) (c21 : PySem.W.codeIn K cd21 "_law_menu" = true) (k21 : PySem.W.keepIn K (.ref f21) = true)
    (a22 : PySem.W.nsIn K mainGlobals "_law_wrap" = some (some (.ref f22))) (l22 : K.lookup f22 = some ⟨oc22, od22, .func (PySem.W.fnOf "_law_wrap" "_law_wrap" (defArgs s__law_wrap) (defBody s__law_wrap) (defScope s__law_wrap) .none kV22 dc22 pm22 an22 cd22 ct22), sl22⟩) (c22 : PySem.W.codeIn K cd22 "_law_wrap" = true) (k22 : PySem.W.keepIn K (.ref f22) = true)
    (a23 : PySem.W.nsIn K mainGlobals "_law_made" = some (some (.ref f23))) (l23 : K.lookup f23 = some ⟨oc23, od23, .func (PySem.W.fnOf "_law_made" "_law_made" (defArgs s__law_made) (defBody s__law_made) (defScope s__law_made) .none kV23 dc23 pm23 an23 cd23 ct23), sl23⟩) (c23 : PySem.W.codeIn K cd23 "_law_made" = true) (k23 : PySem.W.keepIn K (.ref f23) = true)
    (a24 : PySem.W.nsIn K mainGlobals "_law_quiet_kind" = some (some (.ref f24))) (l24 : K.lookup f24 = some ⟨oc24, od24, .func (PySem.W.fnOf "_law_quiet_kind" "_law_quiet_kind" (defArgs s__law_quiet_kind) (defBody s__law_quiet_kind) (defScope s__law_quiet_kind) .none kV24 dc24 pm24 an24 cd24 ct24), sl24⟩) (c24 : PySem.W.codeIn K cd24 "_law_quiet_kind" = true) (k24 : PySem.W.keepIn K (.ref f24) = true)
    (a25 : PySem.W.nsIn K mainGlobals "law" = some (some (.ref f25))) (l25 : K.lookup f25 = some ⟨oc25, od25, .func (PySem.W.fnOf "law" "law" (defArgs s_law) (defBody s_law) (defScope s_law) .none kV25 dc25 pm25 an25 cd25 ct25), sl25⟩) (c25 : PySem.W.codeIn K cd25 "law" = true) (k25 : PySem.W.keepIn K (.ref f25) = true)
    {ta_RESERVED : Addr} {to_RESERVED : Option Addr} {tn_RESERVED : Nat} {tsl_RESERVED : Array (Option Value)} {tt0_RESERVED tt1_RESERVED tt2_RESERVED tt3_RESERVED tt4_RESERVED tt5_RESERVED tt6_RESERVED tt7_RESERVED tt8_RESERVED tt9_RESERVED tt10_RESERVED tt11_RESERVED : PySem.Tok} (c_RESERVED : PySem.W.nsIn K mainGlobals "RESERVED" = some (some (.ref ta_RESERVED))) (tl_RESERVED : K.lookup ta_RESERVED = some ⟨.type "tuple", to_RESERVED, .seq #[.str "fun" tt0_RESERVED, .str "of" tt1_RESERVED, .str "case" tt2_RESERVED, .str "ask" tt3_RESERVED, .str "keep" tt4_RESERVED, .str "under" tt5_RESERVED, .str "as" tt6_RESERVED, .str "to" tt7_RESERVED, .str "with" tt8_RESERVED, .str "gives" tt9_RESERVED, .str "data" tt10_RESERVED, .str "maker" tt11_RESERVED] tn_RESERVED, tsl_RESERVED⟩)
    {t_CAPITAL : PySem.Tok} (c_CAPITAL : PySem.W.nsIn K mainGlobals "CAPITAL" = some (some (.str "ABCDEFGHIJKLMNOPQRSTUVWXYZ" t_CAPITAL)))
    {t_SIGNS : PySem.Tok} (c_SIGNS : PySem.W.nsIn K mainGlobals "SIGNS" = some (some (.str "abcdefghijklmnopqrstuvwxyzABCDEFGHIJKLMNOPQRSTUVWXYZ0123456789" t_SIGNS)))
    {t_SMALL : PySem.Tok} (c_SMALL : PySem.W.nsIn K mainGlobals "SMALL" = some (some (.str "abcdefghijklmnopqrstuvwxyz" t_SMALL)))
    (n_int : PySem.W.nsIn K mainGlobals "int" = some none)
    (n_isinstance : PySem.W.nsIn K mainGlobals "isinstance" = some none)
    (n_len : PySem.W.nsIn K mainGlobals "len" = some none)
    (n_max : PySem.W.nsIn K mainGlobals "max" = some none)
    (n_range : PySem.W.nsIn K mainGlobals "range" = some none)
    (n_repr : PySem.W.nsIn K mainGlobals "repr" = some none)
    (n_sorted : PySem.W.nsIn K mainGlobals "sorted" = some none)
    (n_str : PySem.W.nsIn K mainGlobals "str" = some none)
    (n_tuple : PySem.W.nsIn K mainGlobals "tuple" = some none)
    {C_BadKind i_BadKind : Addr} {iod_BadKind ian_BadKind : Option Addr} {isl_BadKind : Array (Option Value)} {ioc_BadKind ikV_BadKind idc_BadKind ipm_BadKind icd_BadKind ict_BadKind : Value}
    (eA_BadKind : PySem.W.nsIn K mainGlobals "BadKind" = some (some (.ref C_BadKind))) (eF_BadKind : PySem.W.findIn K (.ref C_BadKind) "__init__" = some (some (.ref i_BadKind))) (eT_BadKind : PySem.W.typeIn K (.ref i_BadKind) = some (.type "function")) (eL_BadKind : K.lookup i_BadKind = some ⟨ioc_BadKind, iod_BadKind, .func (PySem.W.fnOf "__init__" "BadKind.__init__" (defArgs sI_BadKind) (defBody sI_BadKind) (defScope sI_BadKind) .none ikV_BadKind idc_BadKind ipm_BadKind ian_BadKind icd_BadKind ict_BadKind), isl_BadKind⟩) (eC_BadKind : PySem.W.codeIn K icd_BadKind "BadKind.__init__" = true) (eK_BadKind : PySem.W.keepIn K (.ref i_BadKind) = true)
    (eB : errB K errTop errNs errFs = true) :
    ∃ fd : FuncData, (∀ (s : Shared) (v : Value), BindsTo s fd ⟨[v], []⟩ [("script", v)]) ∧ ∀ base : Heap, K.In base → base.Ns mainGlobals mg → FnG P w K mg base 70 fa fd ["script"] (spLaw K) := by
  have e := hfa.symm.trans (PySem.W.mg_of X G a25)
  cases e
  let T : Txt K mg := {
    i_BadKind := i_BadKind, di_BadKind := _, I_BadKind := fun_mk (st := sI_BadKind) eL_BadKind eC_BadKind eK_BadKind, iC_BadKind := by rw [adIn_of eA_BadKind]; exact eF_BadKind, tI_BadKind := eT_BadKind, bI_BadKind := (fun_mk (st := sI_BadKind) eL_BadKind eC_BadKind eK_BadKind).binds (ps := ["self", "kind"]) fun _ _ _ _ _ _ us hl => match us, hl with | [_, _], _ => rfl,
    err := errB_ok X G eB,
    a_begins_in := f0, d_begins_in := _, F_begins_in := fun_mk (st := s_begins_in) l0 c0 k0, g_begins_in := PySem.W.mg_of X G a0, b_begins_in := (fun_mk (st := s_begins_in) l0 c0 k0).binds (ps := ["value", "letters"]) fun _ _ _ _ _ _ us hl => match us, hl with | [_, _], _ => rfl,
    a_is_base_word := f1, d_is_base_word := _, F_is_base_word := fun_mk (st := s_is_base_word) l1 c1 k1, g_is_base_word := PySem.W.mg_of X G a1, b_is_base_word := (fun_mk (st := s_is_base_word) l1 c1 k1).binds (ps := ["value"]) fun _ _ _ _ _ _ us hl => match us, hl with | [_], _ => rfl,
    a_is_data_word := f2, d_is_data_word := _, F_is_data_word := fun_mk (st := s_is_data_word) l2 c2 k2, g_is_data_word := PySem.W.mg_of X G a2, b_is_data_word := (fun_mk (st := s_is_data_word) l2 c2 k2).binds (ps := ["value"]) fun _ _ _ _ _ _ us hl => match us, hl with | [_], _ => rfl,
    a_is_plain_word := f3, d_is_plain_word := _, F_is_plain_word := fun_mk (st := s_is_plain_word) l3 c3 k3, g_is_plain_word := PySem.W.mg_of X G a3, b_is_plain_word := (fun_mk (st := s_is_plain_word) l3 c3 k3).binds (ps := ["value"]) fun _ _ _ _ _ _ us hl => match us, hl with | [_], _ => rfl,
    a_is_row := f4, d_is_row := _, F_is_row := fun_mk (st := s_is_row) l4 c4 k4, g_is_row := PySem.W.mg_of X G a4, b_is_row := (fun_mk (st := s_is_row) l4 c4 k4).binds (ps := ["value"]) fun _ _ _ _ _ _ us hl => match us, hl with | [_], _ => rfl,
    a_is_kind := f5, d_is_kind := _, F_is_kind := fun_mk (st := s_is_kind) l5 c5 k5, g_is_kind := PySem.W.mg_of X G a5, b_is_kind := (fun_mk (st := s_is_kind) l5 c5 k5).binds (ps := ["value"]) fun _ _ _ _ _ _ us hl => match us, hl with | [_], _ => rfl,
    a_kind_ends := f6, d_kind_ends := _, F_kind_ends := fun_mk (st := s_kind_ends) l6 c6 k6, g_kind_ends := PySem.W.mg_of X G a6, b_kind_ends := (fun_mk (st := s_kind_ends) l6 c6 k6).binds (ps := ["kind"]) fun _ _ _ _ _ _ us hl => match us, hl with | [_], _ => rfl,
    a_function_kind := f7, d_function_kind := _, F_function_kind := fun_mk (st := s_function_kind) l7 c7 k7, g_function_kind := PySem.W.mg_of X G a7, b_function_kind := (fun_mk (st := s_function_kind) l7 c7 k7).binds (ps := ["left", "row", "right"]) fun _ _ _ _ _ _ us hl => match us, hl with | [_, _, _], _ => rfl,
    a_is_function := f8, d_is_function := _, F_is_function := fun_mk (st := s_is_function) l8 c8 k8, g_is_function := PySem.W.mg_of X G a8, b_is_function := (fun_mk (st := s_is_function) l8 c8 k8).binds (ps := ["kind"]) fun _ _ _ _ _ _ us hl => match us, hl with | [_], _ => rfl,
    a_left_of := f9, d_left_of := _, F_left_of := fun_mk (st := s_left_of) l9 c9 k9, g_left_of := PySem.W.mg_of X G a9, b_left_of := (fun_mk (st := s_left_of) l9 c9 k9).binds (ps := ["kind"]) fun _ _ _ _ _ _ us hl => match us, hl with | [_], _ => rfl,
    a_right_of := f10, d_right_of := _, F_right_of := fun_mk (st := s_right_of) l10 c10 k10, g_right_of := PySem.W.mg_of X G a10, b_right_of := (fun_mk (st := s_right_of) l10 c10 k10).binds (ps := ["kind"]) fun _ _ _ _ _ _ us hl => match us, hl with | [_], _ => rfl,
    a_word_code := f11, d_word_code := _, F_word_code := fun_mk (st := s_word_code) l11 c11 k11, g_word_code := PySem.W.mg_of X G a11, b_word_code := (fun_mk (st := s_word_code) l11 c11 k11).binds (ps := ["word"]) fun _ _ _ _ _ _ us hl => match us, hl with | [_], _ => rfl,
    a_kind_code := f12, d_kind_code := _, F_kind_code := fun_mk (st := s_kind_code) l12 c12 k12, g_kind_code := PySem.W.mg_of X G a12, b_kind_code := (fun_mk (st := s_kind_code) l12 c12 k12).binds (ps := ["kind"]) fun _ _ _ _ _ _ us hl => match us, hl with | [_], _ => rfl,
    a_wrap_word := f13, d_wrap_word := _, F_wrap_word := fun_mk (st := s_wrap_word) l13 c13 k13, g_wrap_word := PySem.W.mg_of X G a13, b_wrap_word := (fun_mk (st := s_wrap_word) l13 c13 k13).binds (ps := ["row", "kind"]) fun _ _ _ _ _ _ us hl => match us, hl with | [_, _], _ => rfl,
    a_made_kind := f14, d_made_kind := _, F_made_kind := fun_mk (st := s_made_kind) l14 c14 k14, g_made_kind := PySem.W.mg_of X G a14, b_made_kind := (fun_mk (st := s_made_kind) l14 c14 k14).binds (ps := ["kind"]) fun _ _ _ _ _ _ us hl => match us, hl with | [_], _ => rfl,
    a_helper_kind := f15, d_helper_kind := _, F_helper_kind := fun_mk (st := s_helper_kind) l15 c15 k15, g_helper_kind := PySem.W.mg_of X G a15, b_helper_kind := (fun_mk (st := s_helper_kind) l15 c15 k15).binds (ps := ["kind"]) fun _ _ _ _ _ _ us hl => match us, hl with | [_], _ => rfl,
    a__law_cell := f16, d__law_cell := _, F__law_cell := fun_mk (st := s__law_cell) l16 c16 k16, g__law_cell := PySem.W.mg_of X G a16, b__law_cell := (fun_mk (st := s__law_cell) l16 c16 k16).binds (ps := ["script", "k"]) fun _ _ _ _ _ _ us hl => match us, hl with | [_, _], _ => rfl,
    a__law_digits := f17, d__law_digits := _, F__law_digits := fun_mk (st := s__law_digits) l17 c17 k17, g__law_digits := PySem.W.mg_of X G a17, b__law_digits := (fun_mk (st := s__law_digits) l17 c17 k17).binds (ps := ["cell", "sizes"]) fun _ _ _ _ _ _ us hl => match us, hl with | [_, _], _ => rfl,
    a__law_kind_ends := f18, d__law_kind_ends := _, F__law_kind_ends := fun_mk (st := s__law_kind_ends) l18 c18 k18, g__law_kind_ends := PySem.W.mg_of X G a18, b__law_kind_ends := (fun_mk (st := s__law_kind_ends) l18 c18 k18).binds (ps := ["kind"]) fun _ _ _ _ _ _ us hl => match us, hl with | [_], _ => rfl,
    a__law_split := f19, d__law_split := _, F__law_split := fun_mk (st := s__law_split) l19 c19 k19, g__law_split := PySem.W.mg_of X G a19, b__law_split := (fun_mk (st := s__law_split) l19 c19 k19).binds (ps := ["kind"]) fun _ _ _ _ _ _ us hl => match us, hl with | [_], _ => rfl,
    a__law_kind := f20, d__law_kind := _, F__law_kind := fun_mk (st := s__law_kind) l20 c20 k20, g__law_kind := PySem.W.mg_of X G a20, b__law_kind := (fun_mk (st := s__law_kind) l20 c20 k20).binds (ps := ["row", "words", "rows"]) fun _ _ _ _ _ _ us hl => match us, hl with | [_, _, _], _ => rfl,
    a__law_menu := f21, d__law_menu := _, F__law_menu := fun_mk (st := s__law_menu) l21 c21 k21, g__law_menu := PySem.W.mg_of X G a21, b__law_menu := (fun_mk (st := s__law_menu) l21 c21 k21).binds (ps := ["digit", "sort_word"]) fun _ _ _ _ _ _ us hl => match us, hl with | [_, _], _ => rfl,
    a__law_wrap := f22, d__law_wrap := _, F__law_wrap := fun_mk (st := s__law_wrap) l22 c22 k22, g__law_wrap := PySem.W.mg_of X G a22, b__law_wrap := (fun_mk (st := s__law_wrap) l22 c22 k22).binds (ps := ["row", "kind"]) fun _ _ _ _ _ _ us hl => match us, hl with | [_, _], _ => rfl,
    a__law_made := f23, d__law_made := _, F__law_made := fun_mk (st := s__law_made) l23 c23 k23, g__law_made := PySem.W.mg_of X G a23, b__law_made := (fun_mk (st := s__law_made) l23 c23 k23).binds (ps := ["kind"]) fun _ _ _ _ _ _ us hl => match us, hl with | [_], _ => rfl,
    a__law_quiet_kind := f24, d__law_quiet_kind := _, F__law_quiet_kind := fun_mk (st := s__law_quiet_kind) l24 c24 k24, g__law_quiet_kind := PySem.W.mg_of X G a24, b__law_quiet_kind := (fun_mk (st := s__law_quiet_kind) l24 c24 k24).binds (ps := ["kind"]) fun _ _ _ _ _ _ us hl => match us, hl with | [_], _ => rfl,
    a_law := fa, d_law := _, F_law := fun_mk (st := s_law) l25 c25 k25, g_law := PySem.W.mg_of X G a25, b_law := (fun_mk (st := s_law) l25 c25 k25).binds (ps := ["script"]) fun _ _ _ _ _ _ us hl => match us, hl with | [_], _ => rfl,
    ad_RESERVED := ta_RESERVED, c_RESERVED := PySem.W.mg_of X G c_RESERVED, k_RESERVED := ⟨_, _, _, tl_RESERVED, rfl, rfl, (show 12 ≤ sizeLine by rw [sizeLine_eq]; decide), (.cons ⟨_, rfl⟩ (.cons ⟨_, rfl⟩ (.cons ⟨_, rfl⟩ (.cons ⟨_, rfl⟩ (.cons ⟨_, rfl⟩ (.cons ⟨_, rfl⟩ (.cons ⟨_, rfl⟩ (.cons ⟨_, rfl⟩ (.cons ⟨_, rfl⟩ (.cons ⟨_, rfl⟩ (.cons ⟨_, rfl⟩ (.cons ⟨_, rfl⟩ .nil))))))))))))⟩,
    t_CAPITAL := t_CAPITAL, c_CAPITAL := PySem.W.mg_of X G c_CAPITAL,
    t_SIGNS := t_SIGNS, c_SIGNS := PySem.W.mg_of X G c_SIGNS,
    t_SMALL := t_SMALL, c_SMALL := PySem.W.mg_of X G c_SMALL,
    n_int := PySem.W.mg_none_of X G n_int,
    n_isinstance := PySem.W.mg_none_of X G n_isinstance,
    n_len := PySem.W.mg_none_of X G n_len,
    n_max := PySem.W.mg_none_of X G n_max,
    n_range := PySem.W.mg_none_of X G n_range,
    n_repr := PySem.W.mg_none_of X G n_repr,
    n_sorted := PySem.W.mg_none_of X G n_sorted,
    n_str := PySem.W.mg_none_of X G n_str,
    n_tuple := PySem.W.mg_none_of X G n_tuple }
  exact ⟨T.d_law, fun s v => .of_eq rfl, fun base _ _ => law_of rfl (ok_law T) law_true⟩
end VM.K62
open PySem PySem.W PyProof.Rows
set_option maxHeartbeats 0 in
theorem PySem.Challenge.cw_ownleft_k62_made_kinds_and_words_holds : PySem.Challenge.rw_ownleft_k62_made_kinds_and_words.Holds := by
  w_on; o_law; k_head; (case hw => w_witness2)
  k_fill
  refine VM.walk_ofG (l := PySem.Challenge.rw_ownleft_k62_made_kinds_and_words) (k := 70) (x := "script") rfl rfl ⟨rfl, by decide, by decide⟩ (fun w h Y => PySem.W.kIn_of Y) ?F
  case F =>
    intro w mg fa h KX G hmg
    refine' VM.K62.all_mk KX G hmg ?a0 ?l0 ?c0 ?k0 ?a1 ?l1 ?c1 ?k1 ?a2 ?l2 ?c2 ?k2 ?a3 ?l3 ?c3 ?k3 ?a4 ?l4 ?c4 ?k4 ?a5 ?l5 ?c5 ?k5 ?a6 ?l6 ?c6 ?k6 ?a7 ?l7 ?c7 ?k7 ?a8 ?l8 ?c8 ?k8 ?a9 ?l9 ?c9 ?k9 ?a10 ?l10 ?c10 ?k10 ?a11 ?l11 ?c11 ?k11 ?a12 ?l12 ?c12 ?k12 ?a13 ?l13 ?c13 ?k13 ?a14 ?l14 ?c14 ?k14 ?a15 ?l15 ?c15 ?k15 ?a16 ?l16 ?c16 ?k16 ?a17 ?l17 ?c17 ?k17 ?a18 ?l18 ?c18 ?k18 ?a19 ?l19 ?c19 ?k19 ?a20 ?l20 ?c20 ?k20 ?a21 ?l21 ?c21 ?k21 ?a22 ?l22 ?c22 ?k22 ?a23 ?l23 ?c23 ?k23 ?a24 ?l24 ?c24 ?k24 ?a25 ?l25 ?c25 ?k25 ?c_RESERVED ?tl_RESERVED ?c_CAPITAL ?c_SIGNS ?c_SMALL ?n_int ?n_isinstance ?n_len ?n_max ?n_range ?n_repr ?n_sorted ?n_str ?n_tuple ?eA_BadKind ?eF_BadKind ?eT_BadKind ?eL_BadKind ?eC_BadKind ?eK_BadKind ?eB
    (case a0 => k_is); (case l0 => k_is); (case c0 => k_is); (case k0 => k_is); (case a1 => k_is); (case l1 => k_is); (case c1 => k_is); (case k1 => k_is); (case a2 => k_is); (case l2 => k_is); (case c2 => k_is); (case k2 => k_is); (case a3 => k_is); (case l3 => k_is); (case c3 => k_is); (case k3 => k_is); (case a4 => k_is); (case l4 => k_is); (case c4 => k_is); (case k4 => k_is); (case a5 => k_is); (case l5 => k_is); (case c5 => k_is); (case k5 => k_is); (case a6 => k_is); (case l6 => k_is); (case c6 => k_is); (case k6 => k_is); (case a7 => k_is); (case l7 => k_is); (case c7 => k_is); (case k7 => k_is); (case a8 => k_is); (case l8 => k_is); (case c8 => k_is); (case k8 => k_is); (case a9 => k_is); (case l9 => k_is); (case c9 => k_is); (case k9 => k_is); (case a10 => k_is); (case l10 => k_is); (case c10 => k_is); (case k10 => k_is); (case a11 => k_is); (case l11 => k_is); (case c11 => k_is); (case k11 => k_is); (case a12 => k_is); (case l12 => k_is); (case c12 => k_is); (case k12 => k_is); (case a13 => k_is); (case l13 => k_is); (case c13 => k_is); (case k13 => k_is); (case a14 => k_is); (case l14 => k_is); (case c14 => k_is); (case k14 => k_is); (case a15 => k_is); (case l15 => k_is); (case c15 => k_is); (case k15 => k_is); (case a16 => k_is); (case l16 => k_is); (case c16 => k_is); (case k16 => k_is); (case a17 => k_is); (case l17 => k_is); (case c17 => k_is); (case k17 => k_is); (case a18 => k_is); (case l18 => k_is); (case c18 => k_is); (case k18 => k_is); (case a19 => k_is); (case l19 => k_is); (case c19 => k_is); (case k19 => k_is); (case a20 => k_is); (case l20 => k_is); (case c20 => k_is); (case k20 => k_is); (case a21 => k_is); (case l21 => k_is); (case c21 => k_is); (case k21 => k_is); (case a22 => k_is); (case l22 => k_is); (case c22 => k_is); (case k22 => k_is); (case a23 => k_is); (case l23 => k_is); (case c23 => k_is); (case k23 => k_is); (case a24 => k_is); (case l24 => k_is); (case c24 => k_is); (case k24 => k_is); (case a25 => k_is); (case l25 => k_is); (case c25 => k_is); (case k25 => k_is); (case c_RESERVED => k_is); (case tl_RESERVED => k_is); (case c_CAPITAL => k_is); (case c_SIGNS => k_is); (case c_SMALL => k_is); (case n_int => k_is); (case n_isinstance => k_is); (case n_len => k_is); (case n_max => k_is); (case n_range => k_is); (case n_repr => k_is); (case n_sorted => k_is); (case n_str => k_is); (case n_tuple => k_is); (case eA_BadKind => k_is); (case eF_BadKind => k_is); (case eT_BadKind => k_is); (case eL_BadKind => k_is); (case eC_BadKind => k_is); (case eK_BadKind => k_is)
    case eB => kernel_rfl

