import PyProof.Rows.All
import Wide.All
import OpenK.AllK
import Wide.FinOn
import HandS.ForMost
import HandS.Exc
import HandS.ExcOwn
import HandS.WordsExc
import HandS.CallSlots
import HandS.IsInst
import HandS.Wide
import HandS.Deep
import HandS.ExcCtx
import HandS.Hot
import HandS.HotCalls
import HandS.ExcInit
import HandS.ExcInitHot
import HandS.ExcField
import HandS.ExcIs
import HandS.Defaults
import HandS.DictComp
import HandS.Nested
import HandS.Flow
import KE.KExcIs
import HandS.TupAny
import HandS.Style
import KE.GoesEnum
import HandS.Ends
import HandS.Conv
import PyProof.AutoSeq1
import PySem.Challenge.RW_ownleft_k15_places_and_levels
set_option Elab.async false
set_option linter.all false
set_option autoImplicit false
set_option maxRecDepth 100000
set_option maxHeartbeats 1000000
namespace VM
open PySem PySem.Spec PyProof.Rows L2

/-- where a name of the module leads -/
def adIn (K : PySem.W.Frag) (c : Str) : Addr := match PySem.W.nsIn K mainGlobals c with
  | some (some (.ref a)) => a
  | _ => 0
/-! ### data -/
/-- deep: a container whose items may be its own (own ..); else what a container holds is frozen -/
inductive D where
  | non | bl (b : Bool) | int (i : Int) | str (x : Str)
  | tup (xs : List D) | lst (xs : List D) | fl (xs : List D)
  | dct (ks : List Key) (xs : List D)
  | obj (c : Str) (ns : List Str) (xs : List D)
  | deep (d : D) | own (d : D)
  deriving Inhabited

mutual
def Rp (K : PySem.W.Frag) (F : Hp) : D → V → Prop
  | .non, v => v = .non
  | .bl b, v => v = .bl b
  | .int i, v => v = .int i
  | .str x, v => v = .str x
  | .tup ds, v => ∃ a vs, v = .ref a ∧ SqT K F a vs ∧ RpL K F ds vs
  | .lst ds, v => ∃ a vs, v = .ref a ∧ F a = some (.lst vs) ∧ RpL K F ds vs
  | .fl ds, v => ∃ a vs, v = .ref a ∧ SqL K F a vs ∧ RpL K F ds vs
  | .dct ks ds, v => ∃ a kvs, v = .ref a ∧ F a = some (.dK kvs) ∧ kvs.map (·.1) = ks ∧ RpL K F ds (kvs.map (·.2))
  | .obj c ns ds, v => ∃ a dx fs, v = .ref a ∧ F a = some (.ins (adIn K c) dx fs) ∧ fs.map (·.1) = ns ∧ RpL K F ds (fs.map (·.2))
  | .deep _, _ => False
  | .own _, _ => False
def RpL (K : PySem.W.Frag) (F : Hp) : List D → List V → Prop
  | [], vs => vs = []
  | d :: ds, vs => ∃ v r, vs = v :: r ∧ Rp K F d v ∧ RpL K F ds r
end

section
variable {K : PySem.W.Frag} {F F' H : Hp}
theorem sqT_mono {a : Addr} {xs : List V} (e : Same F F') (h : SqT K F a xs) : SqT K F' a xs := by
  rcases h with (h | ⟨o, h⟩) | h
  · exact .inl (.inl (e _ _ h))
  · exact .inl (.inr ⟨o, e _ _ h⟩)
  · exact .inr h
mutual
theorem Rp.mono (e : Same F F') : ∀ (d : D) (v : V), Rp K F d v → Rp K F' d v
  | .non, _, h => h
  | .bl _, _, h => h
  | .int _, _, h => h
  | .str _, _, h => h
  | .tup ds, v, h => by
    obtain ⟨a, vs, rfl, h1, h2⟩ := h
    exact ⟨a, vs, rfl, sqT_mono e h1, RpL.mono e ds vs h2⟩
  | .lst ds, v, h => by
    obtain ⟨a, vs, rfl, h1, h2⟩ := h
    exact ⟨a, vs, rfl, e _ _ h1, RpL.mono e ds vs h2⟩
  | .fl ds, v, h => by
    obtain ⟨a, vs, rfl, h1, h2⟩ := h
    exact ⟨a, vs, rfl, e.seq h1, RpL.mono e ds vs h2⟩
  | .dct ks ds, v, h => by
    obtain ⟨a, kvs, rfl, h1, h2, h3⟩ := h
    exact ⟨a, kvs, rfl, e _ _ h1, h2, RpL.mono e ds _ h3⟩
  | .obj c ns ds, v, h => by
    obtain ⟨a, dx, fs, rfl, h1, h2, h3⟩ := h
    exact ⟨a, dx, fs, rfl, e _ _ h1, h2, RpL.mono e ds _ h3⟩
  | .deep _, _, h => h
  | .own _, _, h => h
theorem RpL.mono (e : Same F F') : ∀ (ds : List D) (vs : List V), RpL K F ds vs → RpL K F' ds vs
  | [], vs, h => h
  | d :: ds, vs, h => by
    obtain ⟨v, r, rfl, h1, h2⟩ := h
    exact ⟨v, r, rfl, Rp.mono e d v h1, RpL.mono e ds r h2⟩
end
theorem RpL.length : ∀ {ds : List D} {vs : List V}, RpL K F ds vs → ds.length = vs.length
  | [], vs, h => by cases h; rfl
  | d :: ds, vs, h => by
    obtain ⟨v, r, rfl, _, h2⟩ := h
    simp [RpL.length h2]
theorem RpL.get : ∀ {ds : List D} {vs : List V} (i : Nat) (d : D), RpL K F ds vs → ds[i]? = some d → ∃ v, vs[i]? = some v ∧ Rp K F d v
  | [], vs, i, d, h, e => by simp at e
  | d0 :: ds, vs, i, d, h, e => by
    obtain ⟨v, r, rfl, h1, h2⟩ := h
    cases i with
    | zero => simp at e; subst e; exact ⟨v, rfl, h1⟩
    | succ i => exact RpL.get (ds := ds) (vs := r) i d h2 (by simpa using e)
theorem RpL.get' : ∀ {ds : List D} {vs : List V} (i : Nat) (v : V), RpL K F ds vs → vs[i]? = some v → ∃ d, ds[i]? = some d ∧ Rp K F d v := fun {ds vs} i v h e => by
  have hl := h.length
  obtain ⟨hi, _⟩ := List.getElem?_eq_some_iff.mp e
  have : ds[i]? = some ds[i] := List.getElem?_eq_getElem (by omega)
  obtain ⟨v', e', h'⟩ := h.get i _ this
  rw [e] at e'; cases e'
  exact ⟨_, this, h'⟩
theorem RpL.append : ∀ {ds es : List D} {vs us : List V}, RpL K F ds vs → RpL K F es us → RpL K F (ds ++ es) (vs ++ us)
  | [], es, vs, us, h, h' => by cases h; exact h'
  | d :: ds, es, vs, us, h, h' => by
    obtain ⟨v, r, rfl, h1, h2⟩ := h
    exact ⟨v, r ++ us, rfl, h1, RpL.append h2 h'⟩
theorem RpL.set : ∀ {ds : List D} {vs : List V} {d : D} {v : V} (i : Nat), RpL K F ds vs → Rp K F d v → RpL K F (ds.set i d) (vs.set i v)
  | [], vs, d, v, i, h, _ => by cases h; exact rfl
  | d0 :: ds, vs, d, v, i, h, hv => by
    obtain ⟨v0, r, rfl, h1, h2⟩ := h
    cases i with
    | zero => exact ⟨v, r, rfl, hv, h2⟩
    | succ i => exact ⟨v0, _, rfl, h1, RpL.set i h2 hv⟩
theorem RpL.take : ∀ {ds : List D} {vs : List V} (n : Nat), RpL K F ds vs → RpL K F (ds.take n) (vs.take n)
  | _, _, 0, _ => rfl
  | [], vs, n + 1, h => by cases h; exact rfl
  | d :: ds, vs, n + 1, h => by
    obtain ⟨v, r, rfl, h1, h2⟩ := h
    exact ⟨v, _, rfl, h1, RpL.take n h2⟩
theorem RpL.drop : ∀ {ds : List D} {vs : List V} (n : Nat), RpL K F ds vs → RpL K F (ds.drop n) (vs.drop n)
  | _, _, 0, h => h
  | [], vs, n + 1, h => by cases h; exact rfl
  | d :: ds, vs, n + 1, h => by
    obtain ⟨v, r, rfl, h1, h2⟩ := h
    exact RpL.drop (ds := ds) n h2
theorem RpL.one {d : D} {v : V} (h : Rp K F d v) : RpL K F [d] [v] := ⟨v, [], rfl, h, rfl⟩
end

/-! ### slots -/
structure Exn where
  c : Str
  fs : List (Str × D)
inductive Sl where
  | un | pl (d : D) | ow (d : D) | io (k : Nat) (d : D) | ex (x : Exn)
  deriving Inhabited
abbrev SV := List Sl

/-- the module's names; the exception that is in hand -/
structure MX where
  mg : Str → Option Value
  hx : Option (Addr × Obj)
def _root_.L2.Cx.mx (X : Cx) : MX := ⟨X.mg, if X.calm = true then none else X.pn.head?⟩

/-- a frame's ghost: what is protected, where the frozen part is fixed, the in-out objects -/
structure G where
  K : PySem.W.Frag
  pH : Hp
  fx : Addr → Prop
  F0 : Hp
  io : Nat → Option Addr
  mx : MX

/-- what a container of the heap holds, as a container of the data -/
inductive Shp (K : PySem.W.Frag) : D → HO → List D → List V → Prop
  | lst {ds : List D} {vs : List V} : Shp K (.lst ds) (.lst vs) ds vs
  | dct {ks : List Key} {ds : List D} {kvs : List (Key × V)} (h : kvs.map (·.1) = ks) : Shp K (.dct ks ds) (.dK kvs) ds (kvs.map (·.2))
  | obj {c : Str} {ns : List Str} {ds : List D} {dx : Addr} {fs : List (Str × V)} (h : fs.map (·.1) = ns) : Shp K (.obj c ns ds) (.ins (adIn K c) dx fs) ds (fs.map (·.2))
theorem Shp.uniq {K : PySem.W.Frag} {d : D} {o : HO} {ds ds' : List D} {vs vs' : List V} (h : Shp K d o ds vs) (h' : Shp K d o ds' vs') : ds = ds' ∧ vs = vs' := by
  cases h <;> cases h' <;> exact ⟨rfl, rfl⟩
/-- the places that an owned thing has for itself -/
inductive Ft (K : PySem.W.Frag) (H : Hp) : D → Addr → Addr → Prop
  | here {d : D} {p : Addr} : Ft K H d p p
  | kid {d e : D} {p q a : Addr} {o : HO} {ds : List D} {vs : List V} {i : Nat} (hH : H p = some o) (hs : Shp K d o ds vs) (hd : ds[i]? = some (.own e)) (hv : vs[i]? = some (.ref q)) (h : Ft K H e q a) : Ft K H (.deep d) p a
def isOwn : D → Bool
  | .own _ => true
  | _ => false
/-- an owned object at p -/
inductive OwnP (K : PySem.W.Frag) (F H : Hp) : D → Addr → Prop
  | flat {d : D} {p : Addr} {o : HO} {ds : List D} {vs : List V} (hF : F p = none) (hH : H p = some o) (hs : Shp K d o ds vs) (hr : RpL K F ds vs) : OwnP K F H d p
  | deep {d : D} {p : Addr} {o : HO} {ds : List D} {vs : List V} (hF : F p = none) (hH : H p = some o) (hs : Shp K d o ds vs) (hl : ds.length = vs.length)
      (hr : ∀ (i : Nat) (e : D) (v : V), ds[i]? = some e → vs[i]? = some v → isOwn e = false → Rp K F e v)
      (hq : ∀ (i : Nat) (e : D), ds[i]? = some (.own e) → ∃ q, vs[i]? = some (.ref q))
      (hk : ∀ (i : Nat) (e : D) (q : Addr), ds[i]? = some (.own e) → vs[i]? = some (.ref q) → OwnP K F H e q)
      (hp : ∀ (i : Nat) (e : D) (q : Addr), ds[i]? = some (.own e) → vs[i]? = some (.ref q) → ¬ Ft K H e q p)
      (hj : ∀ (i j : Nat) (e e' : D) (q q' a : Addr), i ≠ j → ds[i]? = some (.own e) → vs[i]? = some (.ref q) → ds[j]? = some (.own e') → vs[j]? = some (.ref q') → Ft K H e q a → ¬ Ft K H e' q' a) : OwnP K F H (.deep d) p
theorem OwnP.lst {K : PySem.W.Frag} {F H : Hp} {ds : List D} {vs : List V} {p : Addr} (hF : F p = none) (hH : H p = some (.lst vs)) (hr : RpL K F ds vs) : OwnP K F H (.lst ds) p := .flat hF hH .lst hr
theorem OwnP.lst_inv {K : PySem.W.Frag} {F H : Hp} {ds : List D} {p : Addr} (h : OwnP K F H (.lst ds) p) : F p = none ∧ ∃ vs, H p = some (.lst vs) ∧ RpL K F ds vs := by
  cases h with
  | flat hF hH hs hr =>
    cases hs
    exact ⟨hF, _, hH, hr⟩
theorem OwnP.fp {K : PySem.W.Frag} {F H : Hp} {d : D} {p : Addr} (h : OwnP K F H d p) : F p = none := by
  cases h with
  | flat hF _ _ _ => exact hF
  | deep hF _ _ _ _ _ _ _ _ => exact hF
theorem OwnP.nn {K : PySem.W.Frag} {F H : Hp} {d : D} {p : Addr} (h : OwnP K F H d p) : H p ≠ none := by
  cases h with
  | flat _ hH _ _ => rw [hH]; exact fun z => nomatch z
  | deep _ hH _ _ _ _ _ _ _ => rw [hH]; exact fun z => nomatch z
theorem Ft.flat {K : PySem.W.Frag} {H : Hp} {d : D} {p a : Addr} (h : Ft K H d p a) (hd : ∀ e, d ≠ .deep e) : a = p := by
  cases h with
  | here => rfl
  | kid _ _ _ _ _ => exact absurd rfl (hd _)
theorem shp_deep {K : PySem.W.Frag} {d : D} {o : HO} {ds : List D} {vs : List V} (h : Shp K d o ds vs) : ∀ e, d ≠ .deep e := fun e z => by subst z; cases h
theorem OwnP.ft {K : PySem.W.Frag} {F H : Hp} {d : D} {p : Addr} (o : OwnP K F H d p) : ∀ {a : Addr}, Ft K H d p a → F a = none ∧ H a ≠ none := by
  induction o with
  | flat hF hH hs hr =>
    intro a h
    have := h.flat (shp_deep hs)
    subst this
    exact ⟨hF, by rw [hH]; exact fun z => nomatch z⟩
  | deep hF hH hs hl hr hq hk hp hj ih =>
    intro a h
    cases h with
    | here => exact ⟨hF, by rw [hH]; exact fun z => nomatch z⟩
    | kid hH' hs' hd hv h =>
      rw [hH] at hH'; cases hH'
      obtain ⟨rfl, rfl⟩ := hs.uniq hs'
      exact ih _ _ _ hd hv h
theorem Ft.to {K : PySem.W.Frag} {H H' : Hp} {d : D} {p a : Addr} (h : Ft K H d p a) (e : ∀ b, Ft K H d p b → H' b = H b) : Ft K H' d p a := by
  induction h with
  | here => exact .here
  | kid hH hs hd hv h ih => exact .kid ((e _ .here).trans hH) hs hd hv (ih fun b hb => e b (.kid hH hs hd hv hb))
theorem Ft.from {K : PySem.W.Frag} {H H' : Hp} {d : D} {p a : Addr} (h : Ft K H' d p a) (e : ∀ b, Ft K H d p b → H' b = H b) : Ft K H d p a := by
  induction h with
  | here => exact .here
  | kid hH hs hd hv h ih =>
    have hH2 := (e _ .here).symm.trans hH
    exact .kid hH2 hs hd hv (ih fun b hb => e b (.kid hH2 hs hd hv hb))
theorem OwnP.mono {K : PySem.W.Frag} {F F' H H' : Hp} {d : D} {p : Addr} (o : OwnP K F H d p) (s : Same F F') : (∀ a, Ft K H d p a → F' a = none) → (∀ a, Ft K H d p a → H' a = H a) → OwnP K F' H' d p := by
  induction o with
  | flat hF hH hs hr => exact fun h1 h2 => .flat (h1 _ .here) ((h2 _ .here).trans hH) hs (RpL.mono s _ _ hr)
  | @deep d p o ds vs hF hH hs hl hr hq hk hp hj ih =>
    intro h1 h2
    have k2 : ∀ (i : Nat) (e : D) (q : Addr), ds[i]? = some (.own e) → vs[i]? = some (.ref q) → ∀ b, Ft K H e q b → H' b = H b := fun i e q hd hv b hb => h2 b (.kid hH hs hd hv hb)
    refine .deep (h1 _ .here) ((h2 _ .here).trans hH) hs hl (fun i e v hd hv ho => Rp.mono s e v (hr i e v hd hv ho)) hq (fun i e q hd hv => ih i e q hd hv (fun a ha => h1 a (.kid hH hs hd hv ha)) fun a ha => h2 a (.kid hH hs hd hv ha)) (fun i e q hd hv hf => hp i e q hd hv (hf.from (k2 i e q hd hv))) fun i j e e' q q' a ne hd hv hd' hv' hf hf' => hj i j e e' q q' a ne hd hv hd' hv' (hf.from (k2 i e q hd hv)) (hf'.from (k2 j e' q' hd' hv'))

/-- how an exception is represented: its class, the dict's fields -/
def ErrOk (K : PySem.W.Frag) (mg : Str → Option Value) (F : Hp) (x : Exn) (cls : Value) (dd : Option Addr) : Prop :=
  ∃ C, mg x.c = some (.ref C) ∧ cls = .ref C ∧ ((x.fs = [] ∧ dd = none) ∨ ∃ a vs, dd = some a ∧ F a = some (.xd ((x.fs.map (·.1)).zip vs)) ∧ RpL K F (x.fs.map (·.2)) vs)

theorem ErrOk.mono {K : PySem.W.Frag} {mg : Str → Option Value} {F F' : Hp} {x : Exn} {cls : Value} {dd : Option Addr} (e : Same F F') (h : ErrOk K mg F x cls dd) : ErrOk K mg F' x cls dd := by
  obtain ⟨C, h1, h2, h3⟩ := h
  refine ⟨C, h1, h2, ?_⟩
  rcases h3 with h3 | ⟨a, vs, h4, h5, h6⟩
  · exact .inl h3
  · exact .inr ⟨a, vs, h4, e _ _ h5, RpL.mono e _ _ h6⟩
def SlOk (g : G) (F H : Hp) (ov : Option (Option V)) : Sl → Prop
  | .un => True
  | .pl d => ∃ v, ov = some (some v) ∧ Rp g.K F d v
  | .ow d => ∃ p, ov = some (some (.ref p)) ∧ (∀ a, Ft g.K H d p a → ¬ g.fx a) ∧ OwnP g.K F H d p
  | .io k d => ∃ p, ov = some (some (.ref p)) ∧ g.io k = some p ∧ (∀ a, Ft g.K H d p a → g.pH a = none) ∧ OwnP g.K F H d p
  | .ex x => ∃ a oe d cls, ov = some (some (.ref a)) ∧ g.mx.hx = some (a, oe) ∧ Zc cls d oe ∧ (∃ vs, oe.data = .fields vs) ∧ ErrOk g.K g.mx.mg F x cls d

theorem SlOk.exm {g : G} {F F' H H' : Hp} {ov : Option (Option V)} {x : Exn} (e : Same F F') (h : SlOk g F H ov (.ex x)) : SlOk g F' H' ov (.ex x) := by
  obtain ⟨a, oe, d, cls, h1, h2, h3, h4, h5⟩ := h
  exact ⟨a, oe, d, cls, h1, h2, h3, h4, h5.mono e⟩
/-- what a slot owns -/
def slD : Sl → Option D
  | .ow d => some d
  | .io _ d => some d
  | _ => none
/-- slot i has the place a for itself -/
def Ref (K : PySem.W.Frag) (H : Hp) (σ : L2.St) (sv : SV) (i : Nat) (a : Addr) : Prop := ∃ s d p, sv[i]? = some s ∧ slD s = some d ∧ σ[i]? = some (some (.ref p)) ∧ Ft K H d p a

structure Rl (g : G) (F H : Hp) (σ : L2.St) (sv : SV) : Prop where
  sub : Same F H
  kH : Same g.pH H
  kF : ∀ a, g.fx a → F a = g.F0 a
  fxH : ∀ a, g.fx a → H a ≠ none
  pf : ∀ a o, g.pH a = some o → g.fx a
  ion : ∀ k p, g.io k = some p → g.pH p = none ∧ g.fx p
  len : sv.length = σ.length
  sl : ∀ (i : Nat) (s : Sl), sv[i]? = some s → SlOk g F H σ[i]? s
  dj : ∀ (i j : Nat) (p : Addr), Ref g.K H σ sv i p → Ref g.K H σ sv j p → i = j

inductive R (α : Type) where
  | ok (a : α) (s : SV) | err (x : Exn) (s : SV) | bad
abbrev M (α : Type) := SV → R α
@[simp] def R.bind {α β : Type} (r : R α) (f : α → SV → R β) : R β := match r with
  | .ok a s => f a s
  | .err x s => .err x s
  | .bad => .bad

abbrev WX' := Value → Option Addr → L2.St → Hp → Prop

def PostG {α β : Type} (mg : MX) (g : G) (F : Hp) (σ : L2.St) (r : R α) (W : WX') (Rel : G → Hp → Hp → L2.St → SV → α → β → Prop) (Q : β → Hp → Prop) : Prop := match r with
  | .ok a sv' => ∀ b F' H', Same F F' → Rl g F' H' σ sv' → Rel g F' H' σ sv' a b → Q b H'
  | .err x sv' => ∀ cls dd F' H', Same F F' → Rl g F' H' σ sv' → ErrOk g.K mg.mg F' x cls dd → W cls dd σ H'
  | .bad => False
def RelE (g : G) (F' _H' : Hp) (_ : L2.St) (_ : SV) (d : D) (v : V) : Prop := Rp g.K F' d v
def RelO' (g : G) (F' H' : Hp) (σ : L2.St) (sv : SV) (d : D) (v : V) : Prop := ∃ p, v = .ref p ∧ (∀ a, Ft g.K H' d p a → ¬ g.fx a) ∧ OwnP g.K F' H' d p ∧ ∀ a, Ft g.K H' d p a → ∀ i, ¬ Ref g.K H' σ sv i a
def RelT (_ : G) (_F' _H' : Hp) (_ : L2.St) (_ : SV) (b : Bool) (c : Bool) : Prop := c = b
def tG {α β : Type} (K : PySem.W.Frag) (mg : MX) (W : WX') (Rel : G → Hp → Hp → L2.St → SV → α → β → Prop) (m : M α) : L2.St → Hp → (β → Hp → Prop) → Prop :=
  fun σ H Q => ∃ g F sv, (g.K = K ∧ g.mx = mg) ∧ Rl g F H σ sv ∧ PostG mg g F σ (m sv) W Rel Q
abbrev tE (K : PySem.W.Frag) (mg : MX) (W : WX') (m : M D) : TE := tG K mg W RelE m
abbrev tO (K : PySem.W.Frag) (mg : MX) (W : WX') (m : M D) : TE := tG K mg W RelO' m
abbrev tT (K : PySem.W.Frag) (mg : MX) (W : WX') (m : M Bool) : TT := tG K mg W RelT m

theorem PostG.bind {α β γ δ : Type} {mg : MX} {g : G} {F : Hp} {σ : L2.St} {r : R α} {k : α → SV → R γ} {W : WX'} {Rel1 : G → Hp → Hp → L2.St → SV → α → β → Prop} {Rel2 : G → Hp → Hp → L2.St → SV → γ → δ → Prop} {Q : δ → Hp → Prop} {Q1 : β → Hp → Prop}
    (h : PostG mg g F σ (r.bind k) W Rel2 Q)
    (kk : ∀ a sv1 b F1 H1, Same F F1 → Rl g F1 H1 σ sv1 → Rel1 g F1 H1 σ sv1 a b → PostG mg g F1 σ (k a sv1) W Rel2 Q → Q1 b H1) : PostG mg g F σ r W Rel1 Q1 := by
  cases r with
  | ok a s =>
    intro b F1 H1 e rl rel
    refine kk a s b F1 H1 e rl rel ?_
    have h' : PostG mg g F σ (k a s) W Rel2 Q := h
    revert h'
    cases k a s with
    | ok c s2 => exact fun h' d F2 H2 e2 => h' d F2 H2 (e.trans e2)
    | err x s2 => exact fun h' cls dd F2 H2 e2 => h' cls dd F2 H2 (e.trans e2)
    | bad => exact fun h' => h'
  | err x s => exact h
  | bad => exact h

abbrev SE (X : Cx) (W : WX') (e : Expr) (m : M D) : Prop := PE X e (tE X.K X.mx W m)
abbrev SO (X : Cx) (W : WX') (e : Expr) (m : M D) : Prop := PE X e (tO X.K X.mx W m)
abbrev ST (X : Cx) (W : WX') (e : Expr) (m : M Bool) : Prop := PT X e (tT X.K X.mx W m)

theorem pe_imp {X : Cx} {e : Expr} {t t' : TE} (h : PE X e t) (k : ∀ σ H Q, t' σ H Q → t σ H Q) : PE X e t' := ⟨fun pins s σ H Q I q => h.run pins s σ H Q I (k σ H Q q)⟩
theorem pt_imp {X : Cx} {e : Expr} {t t' : TT} (h : PT X e t) (k : ∀ σ H Q, t' σ H Q → t σ H Q) : PT X e t' := ⟨fun pins s σ H Q I q => h.run pins s σ H Q I (k σ H Q q)⟩
theorem pw_imp {X : Cx} {e : Expr} {t t' : TT} (h : PW X e t) (k : ∀ σ H Q, t' σ H Q → t σ H Q) : PW X e t' := ⟨fun w pins s σ H Q I q => h.run w pins s σ H Q I (k σ H Q q)⟩

section
variable {g : G} {F H F' H' : Hp} {σ : L2.St} {sv : SV}
theorem same_upd {H : Hp} {p : Addr} {o : HO} (h : H p = none) : Same H (upd H p o) := fun b x e => by
  rw [upd_ne (ne_of_none e h)]
  exact e
/-- a slot that owns a -/
theorem Rl.own (r : Rl g F H σ sv) {i : Nat} {a : Addr} (h : Ref g.K H σ sv i a) : F a = none ∧ H a ≠ none ∧ g.pH a = none := by
  obtain ⟨s, d, p, e1, e2, e3, hf⟩ := h
  have q := r.sl i s e1
  cases s with
  | ow d' =>
    cases e2
    obtain ⟨p', e4, nf, o⟩ := q
    rw [e3] at e4; cases e4
    refine ⟨(o.ft hf).1, (o.ft hf).2, ?_⟩
    cases hh : g.pH a with
    | none => rfl
    | some x => exact absurd (r.pf _ _ hh) (nf a hf)
  | io k d' =>
    cases e2
    obtain ⟨p', e4, nf, np, o⟩ := q
    rw [e3] at e4; cases e4
    exact ⟨(o.ft hf).1, (o.ft hf).2, np a hf⟩
  | _ => cases e2
/-- what a slot says, elsewhere -/
theorem SlOk.move (r : Rl g F H σ sv) {i : Nat} {s : Sl} (e : sv[i]? = some s) (sF : Same F F') (hF : ∀ a, Ref g.K H σ sv i a → F' a = none) (hH : ∀ a, Ref g.K H σ sv i a → H' a = H a) : SlOk g F' H' σ[i]? s := by
  have q := r.sl i s e
  cases s with
  | un => trivial
  | ex x => exact SlOk.exm sF q
  | pl d =>
    obtain ⟨v, e1, h⟩ := q
    exact ⟨v, e1, Rp.mono sF d v h⟩
  | ow d =>
    obtain ⟨p, e1, nf, o⟩ := q
    have hh : ∀ a, Ft g.K H d p a → H' a = H a := fun a ha => hH a ⟨_, d, p, e, rfl, e1, ha⟩
    exact ⟨p, e1, fun a ha => nf a (ha.from hh), o.mono sF (fun a ha => hF a ⟨_, d, p, e, rfl, e1, ha⟩) hh⟩
  | io k d =>
    obtain ⟨p, e1, nf, np, o⟩ := q
    have hh : ∀ a, Ft g.K H d p a → H' a = H a := fun a ha => hH a ⟨_, d, p, e, rfl, e1, ha⟩
    exact ⟨p, e1, nf, fun a ha => np a (ha.from hh), o.mono sF (fun a ha => hF a ⟨_, d, p, e, rfl, e1, ha⟩) hh⟩
theorem Ref.from {K : PySem.W.Frag} {i : Nat} {a : Addr} (h : Ref K H' σ sv i a) (hH : ∀ a, Ref K H σ sv i a → H' a = H a) : Ref K H σ sv i a := by
  obtain ⟨s, d, p, e1, e2, e3, hf⟩ := h
  exact ⟨s, d, p, e1, e2, e3, hf.from fun b hb => hH b ⟨s, d, p, e1, e2, e3, hb⟩⟩
/-- the heap changes where no slot has anything for itself -/
theorem Rl.move (r : Rl g F H σ sv) (s2 : Same F' H') (kH : Same g.pH H') (kF : ∀ a, g.fx a → F' a = F a) (fxH : ∀ a, g.fx a → H' a ≠ none) (sF : Same F F') (hF : ∀ i a, Ref g.K H σ sv i a → F' a = none) (hH : ∀ i a, Ref g.K H σ sv i a → H' a = H a) : Rl g F' H' σ sv :=
  ⟨s2, kH, fun a ha => (kF a ha).trans (r.kF a ha), fxH, r.pf, r.ion, r.len, fun i s e => SlOk.move r e sF (hF i) (hH i), fun i j a x y => r.dj i j a (x.from (hH i)) (y.from (hH j))⟩
/-- the heap grows at a place that nobody has: laid open, frozen at once -/
theorem Rl.lay (r : Rl g F H σ sv) {p : Addr} {o : HO} (n : H p = none) : Rl g (upd F p o) (upd H p o) σ sv := by
  have nF : F p = none := r.sub.free n
  have ne : ∀ i q, Ref g.K H σ sv i q → q ≠ p := fun i q h e => by
    have := (r.own h).2.1
    rw [e] at this
    exact this n
  refine r.move (fun a u e => ?_) (r.kH.trans (same_upd n)) (fun a ha => ?_) (fun a ha => ?_) (same_upd nF) (fun i a h => ?_) fun i a h => upd_ne (ne i a h)
  · by_cases h : a = p
    · subst h; rw [upd_same] at e ⊢; exact e
    · rw [upd_ne h] at e ⊢; exact r.sub a u e
  · have : a ≠ p := fun e => by subst e; exact r.fxH _ ha n
    exact upd_ne this
  · have : a ≠ p := fun e => by subst e; exact r.fxH _ ha n
    rw [upd_ne this]; exact r.fxH a ha
  · rw [upd_ne (ne i a h)]; exact (r.own h).1
/-- .. laid open, not frozen -/
theorem Rl.layO (r : Rl g F H σ sv) {p : Addr} {o : HO} (n : H p = none) : Rl g F (upd H p o) σ sv := by
  have ne : ∀ i q, Ref g.K H σ sv i q → q ≠ p := fun i q h e => by
    have := (r.own h).2.1
    rw [e] at this
    exact this n
  refine r.move (r.sub.trans (same_upd n)) (r.kH.trans (same_upd n)) (fun _ _ => rfl) (fun a ha => ?_) (Same.refl F) (fun i a h => (r.own h).1) fun i a h => upd_ne (ne i a h)
  have : a ≠ p := fun e => by subst e; exact r.fxH _ ha n
  rw [upd_ne this]; exact r.fxH a ha
theorem Rl.noRef (r : Rl g F H σ sv) {p : Addr} (n : H p = none) : ∀ i, ¬ Ref g.K H σ sv i p := fun i h => (r.own h).2.1 n
theorem Rl.nofx (r : Rl g F H σ sv) {p : Addr} (n : H p = none) : ¬ g.fx p := fun h => r.fxH _ h n
/-- a flat thing that was just laid open -/
theorem Rl.newO (r : Rl g F H σ sv) {p : Addr} {o : HO} {d : D} {ds : List D} {vs : List V} (n : H p = none) (hs : Shp g.K d o ds vs) (hr : RpL g.K F ds vs) : RelO' g F (upd H p o) σ sv d (.ref p) := by
  have ef : ∀ a, Ft g.K (upd H p o) d p a → a = p := fun a ha => ha.flat (shp_deep hs)
  have ne : ∀ i q, Ref g.K H σ sv i q → q ≠ p := fun i q h e => by
    have := (r.own h).2.1
    rw [e] at this
    exact this n
  refine ⟨p, rfl, fun a ha => by rw [ef a ha]; exact r.nofx n, .flat (r.sub.free n) upd_same hs hr, fun a ha i hi => ?_⟩
  rw [ef a ha] at hi
  exact r.noRef n i (hi.from fun b hb => upd_ne (ne i b hb))
/-- the heap with what is told as frozen -/
noncomputable def ovl (F H : Hp) (φ : Addr → Prop) : Hp := by
  classical
  exact fun a => if φ a then H a else F a
theorem ovl_in {F H : Hp} {φ : Addr → Prop} {a : Addr} (h : φ a) : ovl F H φ a = H a := if_pos h
theorem ovl_out {F H : Hp} {φ : Addr → Prop} {a : Addr} (h : ¬ φ a) : ovl F H φ a = F a := if_neg h
theorem same_ovl {φ : Addr → Prop} (h : ∀ a, φ a → F a = none) : Same F (ovl F H φ) := fun a u e => by
  rw [ovl_out (fun z => by rw [h a z] at e; cases e)]; exact e
/-- what no slot owns is frozen -/
theorem Rl.frz (r : Rl g F H σ sv) {φ : Addr → Prop} (nf : ∀ a, φ a → ¬ g.fx a) (nF : ∀ a, φ a → F a = none) (nr : ∀ a, φ a → ∀ i, ¬ Ref g.K H σ sv i a) : Rl g (ovl F H φ) H σ sv := by
  refine r.move (fun a u e => ?_) r.kH (fun a ha => ovl_out fun z => nf a z ha) r.fxH (same_ovl nF) (fun i a h => ?_) fun i a h => rfl
  · by_cases h : φ a
    · rw [ovl_in h] at e; exact e
    · rw [ovl_out h] at e; exact r.sub a u e
  · rw [ovl_out fun z => nr a z i h]; exact (r.own h).1
/-- slots that say less, or the same -/
theorem Rl.sight (r : Rl g F H σ sv) {σ' : L2.St} {sv' : SV} (hl : σ'.length = σ.length) (hl' : sv'.length = sv.length) (h : ∀ (j : Nat) (s : Sl), sv'[j]? = some s → s = .un ∨ (sv[j]? = some s ∧ σ'[j]? = σ[j]?)) : Rl g F H σ' sv' := by
  have rr : ∀ j p, Ref g.K H σ' sv' j p → Ref g.K H σ sv j p := fun j p ⟨s, d, q, e1, e2, e3, e4⟩ => by
    rcases h j s e1 with rfl | ⟨h1, h2⟩
    · cases e2
    · exact ⟨s, d, q, h1, e2, by rw [← h2]; exact e3, e4⟩
  refine ⟨r.sub, r.kH, r.kF, r.fxH, r.pf, r.ion, by rw [hl, hl', r.len], fun j s e => ?_, fun i j p a b => r.dj i j p (rr _ _ a) (rr _ _ b)⟩
  rcases h j s e with rfl | ⟨h1, h2⟩
  · trivial
  · rw [h2]; exact r.sl j s h1
/-- a slot is forgotten -/
theorem Rl.forget (r : Rl g F H σ sv) (i : Nat) : Rl g F H σ (sv.set i .un) := r.sight rfl (by simp) fun j s e => by
  by_cases h : i = j
  · subst h
    by_cases hl : i < sv.length
    · rw [List.getElem?_set_self hl] at e
      cases e
      exact .inl rfl
    · rw [List.getElem?_eq_none (by simp; omega)] at e; cases e
  · rw [List.getElem?_set_ne h] at e
    exact .inr ⟨e, rfl⟩
/-- a slot gets what it is told -/
theorem Rl.setSl (r : Rl g F H σ sv) (i : Nat) {ov : Option V} {s' : Sl} (h : SlOk g F H (some ov) s') (hn : ∀ d p, slD s' = some d → ov = some (.ref p) → ∀ a, Ft g.K H d p a → ∀ j, j ≠ i → ¬ Ref g.K H σ sv j a) : Rl g F H (σ.set i ov) (sv.set i s') := by
  have rr : ∀ j a, Ref g.K H (σ.set i ov) (sv.set i s') j a → (j = i ∧ ∃ d p, slD s' = some d ∧ ov = some (.ref p) ∧ Ft g.K H d p a) ∨ (j ≠ i ∧ Ref g.K H σ sv j a) := fun j a ⟨s, d, p, e1, e2, e3, e4⟩ => by
    by_cases h : i = j
    · subst h
      have hl : i < sv.length := by
        have := (List.getElem?_eq_some_iff.mp e1).1
        simpa using this
      rw [List.getElem?_set_self hl] at e1
      rw [List.getElem?_set_self (by rw [← r.len]; exact hl)] at e3
      cases e1; cases e3
      exact .inl ⟨rfl, d, p, e2, rfl, e4⟩
    · rw [List.getElem?_set_ne h] at e1 e3
      exact .inr ⟨Ne.symm h, s, d, p, e1, e2, e3, e4⟩
  refine ⟨r.sub, r.kH, r.kF, r.fxH, r.pf, r.ion, by simp [r.len], fun j s e => ?_, fun j k a x y => ?_⟩
  · by_cases hj : i = j
    · subst hj
      have hl : i < sv.length := by
        have := (List.getElem?_eq_some_iff.mp e).1
        simpa using this
      rw [List.getElem?_set_self hl] at e
      cases e
      rw [List.getElem?_set_self (by rw [← r.len]; exact hl)]
      exact h
    · rw [List.getElem?_set_ne hj] at e
      rw [List.getElem?_set_ne hj]
      exact r.sl j s e
  · rcases rr j a x with ⟨rfl, d, p, e2, e3, e4⟩ | ⟨h1, h2⟩
    · rcases rr k a y with ⟨rfl, _⟩ | ⟨h3, h4⟩
      · rfl
      · exact absurd h4 (hn d p e2 e3 a e4 k h3)
    · rcases rr k a y with ⟨rfl, d, p, e2, e3, e4⟩ | ⟨h3, h4⟩
      · exact absurd h2 (hn d p e2 e3 a e4 j h1)
      · exact r.dj j k a h2 h4
/-- a slot of plain value -/
theorem Rl.setPl (r : Rl g F H σ sv) (i : Nat) {d : D} {v : V} (h : Rp g.K F d v) : Rl g F H (σ.set i (some v)) (sv.set i (.pl d)) := r.setSl i ⟨v, rfl, h⟩ fun d p e => by cases e
/-- a slot of an owned object -/
theorem Rl.setOw (r : Rl g F H σ sv) (i : Nat) {d : D} {p : Addr} (nf : ∀ a, Ft g.K H d p a → ¬ g.fx a) (h : OwnP g.K F H d p) (nr : ∀ a, Ft g.K H d p a → ∀ i, ¬ Ref g.K H σ sv i a) : Rl g F H (σ.set i (some (.ref p))) (sv.set i (.ow d)) := r.setSl i ⟨p, rfl, nf, h⟩ fun d p e e' a ha j _ => by
  cases e; cases e'
  exact nr a ha j
end
end VM

set_option Elab.async false
set_option linter.all false
set_option autoImplicit false
set_option maxRecDepth 100000
set_option maxHeartbeats 200000
namespace VM
open PySem PySem.Spec PyProof.Rows L2

/-! ### two-place operations on data -/
def m2 (f : D → D → Option D) (ma mb : M D) : M D := fun sv => (ma sv).bind fun a s1 => (mb s1).bind fun b s2 => match f a b with
  | some d => .ok d s2
  | none => .bad
def m1 (f : D → Option D) (ma : M D) : M D := fun sv => (ma sv).bind fun a s1 => match f a with
  | some d => .ok d s1
  | none => .bad
def O2 (K : PySem.W.Frag) (r : R2) (f : D → D → Option D) : Prop :=
  ∀ (g : G) (F H : Hp) (σ : L2.St) (sv : SV) (a b d : D) (x y : V) (Q : VK), g.K = K → Rl g F H σ sv → f a b = some d → Rp K F a x → Rp K F b y →
    (∀ v F' H', Same F F' → Rl g F' H' σ sv → Rp K F' d v → Q v H') → r x y H Q
def O1 (K : PySem.W.Frag) (r : V → Hp → VK → Prop) (f : D → Option D) : Prop :=
  ∀ (g : G) (F H : Hp) (σ : L2.St) (sv : SV) (a d : D) (x : V) (Q : VK), g.K = K → Rl g F H σ sv → f a = some d → Rp K F a x →
    (∀ v F' H', Same F F' → Rl g F' H' σ sv → Rp K F' d v → Q v H') → r x H Q
theorem O2.or {K : PySem.W.Frag} {r r' : R2} {f f' : D → D → Option D} (h : O2 K r f) (h' : O2 K r' f') : O2 K (fun x y H Q => r x y H Q ∨ r' x y H Q) (fun a b => (f a b).or (f' a b)) := by
  intro g F H σ sv a b d x y Q hK rl e ha hb q
  dsimp only at e
  cases e1 : f a b with
  | some d' =>
    rw [e1] at e
    cases (show d' = d by simpa using e)
    exact .inl (h g F H σ sv a b d x y Q hK rl e1 ha hb q)
  | none =>
    rw [e1] at e
    exact .inr (h' g F H σ sv a b d x y Q hK rl (by simpa using e) ha hb q)
theorem OpR.or {X : Cx} {f : Value → Value → Sem Value} {r r' : R2} (h : OpR X f r) (h' : OpR X f r') : OpR X f (fun x y H Q => r x y H Q ∨ r' x y H Q) := by
  intro pins s σ H x y v u Q I rx ry q
  rcases q with q | q
  · exact h pins s σ H x y v u Q I rx ry q
  · exact h' pins s σ H x y v u Q I rx ry q

section
variable {K : PySem.W.Frag} {mg : MX} {W : WX'}
theorem tg_op2 {r : R2} {f : D → D → Option D} (hf : O2 K r f) {ma mb : M D} {σ : L2.St} {H : Hp} {Q : VK} (h : tE K mg W (m2 f ma mb) σ H Q) : tOp r (tE K mg W ma) (tE K mg W mb) σ H Q := by
  obtain ⟨g, F, sv, hK, rl, h⟩ := h
  refine ⟨g, F, sv, hK, rl, PostG.bind h fun a s1 x F1 H1 e1 rl1 rp1 h1 => ?_⟩
  refine ⟨g, F1, s1, hK, rl1, PostG.bind h1 fun b s2 y F2 H2 e2 rl2 rp2 h2 => ?_⟩
  obtain ⟨hK, hMx⟩ := hK; subst hK
  cases e : f a b with
  | none => rw [e] at h2; exact False.elim h2
  | some d =>
    rw [e] at h2
    exact hf g F2 H2 σ s2 a b d x y Q rfl rl2 e (Rp.mono e2 a x rp1) rp2 fun v F' H' e3 rl3 rp3 => h2 v F' H' e3 rl3 rp3
theorem tg_op1 {r : V → Hp → VK → Prop} {f : D → Option D} (hf : O1 K r f) {ma : M D} {σ : L2.St} {H : Hp} {Q : VK} (h : tE K mg W (m1 f ma) σ H Q) : tUn r (tE K mg W ma) σ H Q := by
  obtain ⟨g, F, sv, hK, rl, h⟩ := h
  refine ⟨g, F, sv, hK, rl, PostG.bind h fun a s1 x F1 H1 e1 rl1 rp1 h1 => ?_⟩
  obtain ⟨hK, hMx⟩ := hK; subst hK
  cases e : f a with
  | none => rw [e] at h1; exact False.elim h1
  | some d =>
    rw [e] at h1
    exact hf g F1 H1 σ s1 a d x Q rfl rl1 e rp1 fun v F' H' e3 rl3 rp3 => h1 v F' H' e3 rl3 rp3
end
/-- a pure operation: nothing is laid -/
theorem o2_pure {K : PySem.W.Frag} {r : R2} {f : D → D → Option D} (h : ∀ (F H : Hp) (a b d : D) (x y : V) (Q : VK), Same F H → f a b = some d → Rp K F a x → Rp K F b y → (∀ v, Rp K F d v → Q v H) → r x y H Q) : O2 K r f :=
  fun g F H σ sv a b d x y Q _ rl e ha hb q => h F H a b d x y Q rl.sub e ha hb fun v rv => q v F H (Same.refl F) rl rv
theorem o1_pure {K : PySem.W.Frag} {r : V → Hp → VK → Prop} {f : D → Option D} (h : ∀ (F H : Hp) (a d : D) (x : V) (Q : VK), Same F H → f a = some d → Rp K F a x → (∀ v, Rp K F d v → Q v H) → r x H Q) : O1 K r f :=
  fun g F H σ sv a d x Q _ rl e ha q => h F H a d x Q rl.sub e ha fun v rv => q v F H (Same.refl F) rl rv

/-! #### arithmetic -/
def dI2 (c : Int → Int → Option D) : D → D → Option D
  | .int i, .int j => c i j
  | _, _ => none
theorem o2_int {K : PySem.W.Frag} {C : Int → Int → Prop} {gg : Int → Int → V} {c : Int → Int → Option D} (hc : ∀ i j d, c i j = some d → C i j) (hg : ∀ i j d F v, c i j = some d → v = gg i j → Rp K F d v) : O2 K (rI C gg) (dI2 c) :=
  o2_pure fun F H a b d x y Q _ e ha hb q => by
    cases a <;> try (cases e; done)
    cases b <;> try (cases e; done)
    rename_i i j
    exact ⟨i, j, ha, hb, hc i j d e, q _ (hg i j d F _ e rfl)⟩
def cSub (i j : Int) : Option D := some (.int (i - j))
def cAdd (i j : Int) : Option D := some (.int (i + j))
def cMul (i j : Int) : Option D := if (-(2 ^ 64) < i ∧ i < 2 ^ 64) ∨ (-(2 ^ 64) < j ∧ j < 2 ^ 64) then some (.int (i * j)) else none
def cDiv (i j : Int) : Option D := if 0 < j ∧ j < 1073741824 then some (.int (i / j)) else none
def cMod (i j : Int) : Option D := if 0 < j then some (.int (i % j)) else none
def cPow (i j : Int) : Option D := if 0 ≤ j ∧ j ≤ 1000000 ∧ i.natAbs < 2 ^ 64 then some (.int (i ^ j.toNat)) else none
theorem op_toI {X : Cx} {f : Value → Value → Sem Value} {g : Int → Int → V} (h : OpR X f (rI0 g)) : OpR X f (rI (fun _ _ => True) g) := by
  intro pins s σ H x y v u Q I rx ry q
  obtain ⟨i, j, e1, e2, _, q⟩ := q
  exact h pins s σ H x y v u Q I rx ry ⟨i, j, e1, e2, q⟩
section
variable {K : PySem.W.Frag}
theorem o2_subI : O2 K (rI (fun _ _ => True) fun i j => .int (i - j)) (dI2 cSub) := o2_int (fun _ _ _ _ => trivial) fun i j d F v e ev => by cases e; exact ev
theorem o2_addI : O2 K (rI (fun _ _ => True) fun i j => .int (i + j)) (dI2 cAdd) := o2_int (fun _ _ _ _ => trivial) fun i j d F v e ev => by cases e; exact ev
theorem o2_mulI : O2 K (rI CMul fun i j => .int (i * j)) (dI2 cMul) := o2_int (fun i j d e => by
    unfold cMul at e
    split at e
    · assumption
    · cases e) fun i j d F v e ev => by
    unfold cMul at e
    split at e
    · cases e; exact ev
    · cases e
theorem o2_divI : O2 K (rI CDiv fun i j => .int (i / j)) (dI2 cDiv) := o2_int (fun i j d e => by
    unfold cDiv at e
    split at e
    · assumption
    · cases e) fun i j d F v e ev => by
    unfold cDiv at e
    split at e
    · cases e; exact ev
    · cases e
theorem o2_modI : O2 K (rI (fun _ j => 0 < j) fun i j => .int (i % j)) (dI2 cMod) := o2_int (fun i j d e => by
    unfold cMod at e
    split at e
    · assumption
    · cases e) fun i j d F v e ev => by
    unfold cMod at e
    split at e
    · cases e; exact ev
    · cases e
theorem o2_powI : O2 K (rI CPow fun i j => .int (i ^ j.toNat)) (dI2 cPow) := o2_int (fun i j d e => by
    unfold cPow at e
    split at e
    · assumption
    · cases e) fun i j d F v e ev => by
    unfold cPow at e
    split at e
    · cases e; exact ev
    · cases e
end
/-- + : ints, texts, lists, tuples -/
def dAdd : D → D → Option D
  | .int i, .int j => some (.int (i + j))
  | .str a, .str b => if a.length + b.length ≤ sizeLine then some (.str (a ++ b)) else none
  | .lst xs, .lst ys => if xs.length + ys.length ≤ sizeLine then some (.lst (xs ++ ys)) else none
  | .tup xs, .tup ys => if xs.length + ys.length ≤ sizeLine then some (.tup (xs ++ ys)) else none
  | _, _ => none
def rAddA (K : PySem.W.Frag) : R2 := fun x y H Q =>
  (((rI (fun _ _ => True) fun i j => .int (i + j)) x y H Q ∨ (∃ i j, x = .str i ∧ y = .str j ∧ i.length + j.length ≤ sizeLine ∧ Q (.str (i ++ j)) H)) ∨ rCat x y H Q) ∨ rCatA K x y H Q
theorem op_addA {X : Cx} : OpR X (binaryOp .Add) (rAddA X.K) := OpR.or (OpR.or (OpR.or (op_toI op_add) op_add_str) op_cat) op_catA
theorem o2_addA {K : PySem.W.Frag} : O2 K (rAddA K) dAdd := by
  intro g F H σ sv a b d x y Q hK rl e ha hb q
  subst hK
  cases a <;> cases b <;> try (cases e; done)
  · rename_i i j
    cases e
    exact .inl (.inl (.inl ⟨i, j, ha, hb, trivial, q _ F H (Same.refl F) rl rfl⟩))
  · rename_i i j
    simp only [dAdd] at e
    split at e
    · cases e
      exact .inl (.inl (.inr ⟨i, j, ha, hb, by assumption, q _ F H (Same.refl F) rl rfl⟩))
    · cases e
  · rename_i xs ys
    simp only [dAdd] at e
    split at e
    · cases e
      rename_i hz
      obtain ⟨a, vs, rfl, h1, h2⟩ := ha
      obtain ⟨b, us, rfl, h3, h4⟩ := hb
      refine .inr ⟨a, b, vs, us, rfl, rfl, sqT_mono rl.sub h1, sqT_mono rl.sub h3, by rw [← h2.length, ← h4.length]; exact hz, fun z => ?_, fun z z2 => ?_, fun z z2 p hp => ?_⟩
      · subst z
        have : xs = [] := List.length_eq_zero_iff.mp h2.length
        subst this
        exact q _ F H (Same.refl F) rl ⟨b, us, rfl, h3, h4⟩
      · subst z2
        have : ys = [] := List.length_eq_zero_iff.mp h4.length
        subst this
        refine q _ F H (Same.refl F) rl ⟨a, vs, rfl, h1, ?_⟩
        rw [List.append_nil]; exact h2
      · have sF : Same F (upd F p (.tup (vs ++ us))) := same_upd (rl.sub.free hp)
        exact q _ _ _ sF (rl.lay hp) ⟨p, _, rfl, .inl (.inl upd_same), (RpL.mono sF _ _ h2).append (RpL.mono sF _ _ h4)⟩
    · cases e
  · rename_i xs ys
    simp only [dAdd] at e
    split at e
    · cases e
      rename_i hz
      obtain ⟨a, vs, rfl, h1, h2⟩ := ha
      obtain ⟨b, us, rfl, h3, h4⟩ := hb
      refine .inl (.inr ⟨a, b, vs, us, rfl, rfl, rl.sub _ _ h1, rl.sub _ _ h3, by rw [← h2.length, ← h4.length]; exact hz, fun p hp => ?_⟩)
      have sF : Same F (upd F p (.lst (vs ++ us))) := same_upd (rl.sub.free hp)
      exact q _ _ _ sF (rl.lay hp) ⟨p, _, rfl, upd_same, (RpL.mono sF _ _ h2).append (RpL.mono sF _ _ h4)⟩
    · cases e

/-! #### comparisons -/
mutual
def py : D → Option PyData
  | .non => some .none
  | .bl b => some (.bool b)
  | .int i => some (.int i)
  | .str x => some (.str x)
  | .tup xs => (pyL xs).map .tuple
  | .lst xs => (pyL xs).map .list
  | .fl xs => (pyL xs).map .list
  | .dct _ _ => none
  | .obj _ _ _ => none
  | .deep _ => none
  | .own _ => none
def pyL : List D → Option (List PyData)
  | [] => some []
  | d :: ds => match py d, pyL ds with
    | some p, some ps => some (p :: ps)
    | _, _ => none
end
section
variable {K : PySem.W.Frag} {F H : Hp}
mutual
theorem dp_of (e : Same F H) : ∀ (d : D) (v : V) (p : PyData), Rp K F d v → py d = some p → Dp K H v p
  | .non, v, p, h, q => by cases h; cases q; exact .non
  | .bl b, v, p, h, q => by cases h; cases q; exact .bl b
  | .int i, v, p, h, q => by cases h; cases q; exact .int i
  | .str x, v, p, h, q => by cases h; cases q; exact .str x
  | .tup ds, v, p, h, q => by
    obtain ⟨a, vs, rfl, h1, h2⟩ := h
    simp only [py, Option.map_eq_some_iff] at q
    obtain ⟨ps, q1, rfl⟩ := q
    exact .tup (sqT_mono e h1) (dpL_of e ds vs ps h2 q1)
  | .lst ds, v, p, h, q => by
    obtain ⟨a, vs, rfl, h1, h2⟩ := h
    simp only [py, Option.map_eq_some_iff] at q
    obtain ⟨ps, q1, rfl⟩ := q
    exact .lst (.inl (.inl (e _ _ h1))) (dpL_of e ds vs ps h2 q1)
  | .fl ds, v, p, h, q => by
    obtain ⟨a, vs, rfl, h1, h2⟩ := h
    simp only [py, Option.map_eq_some_iff] at q
    obtain ⟨ps, q1, rfl⟩ := q
    exact .lst (e.seq h1) (dpL_of e ds vs ps h2 q1)
  | .dct _ _, v, p, h, q => by cases q
  | .obj _ _ _, v, p, h, q => by cases q
  | .deep _, v, p, h, q => by cases q
  | .own _, v, p, h, q => by cases q
theorem dpL_of (e : Same F H) : ∀ (ds : List D) (vs : List V) (ps : List PyData), RpL K F ds vs → pyL ds = some ps → DpAll K H vs ps
  | [], vs, ps, h, q => by
    cases h
    simp only [pyL, Option.some.injEq] at q
    subst q
    exact .nil
  | d :: ds, vs, ps, h, q => by
    obtain ⟨v, r, rfl, h1, h2⟩ := h
    unfold pyL at q
    cases e1 : py d with
    | none => rw [e1] at q; cases q
    | some p =>
      cases e2 : pyL ds with
      | none => rw [e1, e2] at q; cases q
      | some ps' =>
        rw [e1, e2] at q
        cases q
        exact .cons (dp_of e d v p h1 e1) (dpL_of e ds r ps' h2 e2)
end
end
def eqP (a b : D) : Option Bool := match py a, py b with
  | some p, some q => if SeqAt.shaped p = true ∧ SeqAt.shaped q = true then some (PyData.eqv p q) else none
  | _, _ => none
def eqD : D → D → Option Bool
  | .str x, .str y => some (decide (x = y))
  | .int i, .int j => some (decide (i = j))
  | .bl i, .bl j => some (decide (i = j))
  | a, b => eqP a b
def dEq (a b : D) : Option D := (eqD a b).map .bl
def dNe (a b : D) : Option D := (eqD a b).map fun c => .bl !c
def rEqA (K : PySem.W.Frag) : R2 := fun x y H Q => rEq x y H Q ∨ rEqD K x y H Q
def rNeA (K : PySem.W.Frag) : R2 := fun x y H Q => rNe x y H Q ∨ rNeD K x y H Q
theorem op_eqA {X : Cx} (hu : X.A.units + 64 < cLine) : OpR X (compareOp .Eq) (rEqA X.K) := OpR.or op_eq (op_eqD hu)
theorem op_neA {X : Cx} (hu : X.A.units + 64 < cLine) : OpR X (compareOp .NotEq) (rNeA X.K) := OpR.or op_ne (op_neD hu)
theorem eqP_of {K : PySem.W.Frag} {F H : Hp} {a b : D} {x y : V} {c : Bool} (e : eqP a b = some c) (s : Same F H) (ha : Rp K F a x) (hb : Rp K F b y) :
    ∃ p q, Dp K H x p ∧ Dp K H y q ∧ SeqAt.shaped p = true ∧ SeqAt.shaped q = true ∧ PyData.eqv p q = c := by
  unfold eqP at e
  cases e1 : py a with
  | none => rw [e1] at e; cases e
  | some p =>
    cases e2 : py b with
    | none => rw [e1, e2] at e; cases e
    | some q =>
      rw [e1, e2] at e
      dsimp only at e
      split at e
      · rename_i hs
        cases e
        exact ⟨p, q, dp_of s a x p ha e1, dp_of s b y q hb e2, hs.1, hs.2, rfl⟩
      · cases e
theorem eqD_cases {a b : D} {c : Bool} (e : eqD a b = some c) :
    (∃ x y, a = .str x ∧ b = .str y ∧ c = decide (x = y)) ∨ (∃ i j, a = .int i ∧ b = .int j ∧ c = decide (i = j)) ∨ (∃ i j, a = .bl i ∧ b = .bl j ∧ c = decide (i = j)) ∨ eqP a b = some c := by
  unfold eqD at e
  split at e
  · cases e; exact .inl ⟨_, _, rfl, rfl, rfl⟩
  · cases e; exact .inr (.inl ⟨_, _, rfl, rfl, rfl⟩)
  · cases e; exact .inr (.inr (.inl ⟨_, _, rfl, rfl, rfl⟩))
  · exact .inr (.inr (.inr e))
theorem o2_eqA {K : PySem.W.Frag} : O2 K (rEqA K) dEq := o2_pure fun F H a b d x y Q s e ha hb q => by
  unfold dEq at e
  obtain ⟨c, e1, rfl⟩ := Option.map_eq_some_iff.mp e
  rcases eqD_cases e1 with ⟨i, j, rfl, rfl, rfl⟩ | ⟨i, j, rfl, rfl, rfl⟩ | ⟨i, j, rfl, rfl, rfl⟩ | e2
  · cases ha; cases hb
    exact .inl ⟨rfl, q _ (by show V.bl _ = V.bl _; congr 1; simp)⟩
  · cases ha; cases hb
    exact .inl ⟨rfl, q _ (by show V.bl _ = V.bl _; congr 1; simp)⟩
  · cases ha; cases hb
    exact .inl ⟨rfl, q _ (by show V.bl _ = V.bl _; congr 1; simp)⟩
  · obtain ⟨p, p', h1, h2, h3, h4, rfl⟩ := eqP_of e2 s ha hb
    exact .inr ⟨p, p', h1, h2, h3, h4, q _ rfl⟩
theorem o2_neA {K : PySem.W.Frag} : O2 K (rNeA K) dNe := o2_pure fun F H a b d x y Q s e ha hb q => by
  unfold dNe at e
  obtain ⟨c, e1, rfl⟩ := Option.map_eq_some_iff.mp e
  rcases eqD_cases e1 with ⟨i, j, rfl, rfl, rfl⟩ | ⟨i, j, rfl, rfl, rfl⟩ | ⟨i, j, rfl, rfl, rfl⟩ | e2
  · cases ha; cases hb
    exact .inl ⟨rfl, q _ (by show V.bl _ = V.bl _; congr 1; simp)⟩
  · cases ha; cases hb
    exact .inl ⟨rfl, q _ (by show V.bl _ = V.bl _; congr 1; simp)⟩
  · cases ha; cases hb
    exact .inl ⟨rfl, q _ (by show V.bl _ = V.bl _; congr 1; simp)⟩
  · obtain ⟨p, p', h1, h2, h3, h4, rfl⟩ := eqP_of e2 s ha hb
    exact .inr ⟨p, p', h1, h2, h3, h4, q _ rfl⟩
/-- order of ints and texts -/
def dCmp (ci : Int → Int → Bool) (cs : List Nat → List Nat → Bool) : D → D → Option D
  | .int i, .int j => some (.bl (ci i j))
  | .str x, .str y => some (.bl (cs x.cps.toList y.cps.toList))
  | _, _ => none
def rCmp (ci : Int → Int → Bool) (cs : List Nat → List Nat → Bool) : R2 := fun x y H Q => (rI0 fun i j => .bl (ci i j)) x y H Q ∨ (∃ i j, x = .str i ∧ y = .str j ∧ Q (.bl (cs i.cps.toList j.cps.toList)) H)
theorem o2_cmp {K : PySem.W.Frag} {ci : Int → Int → Bool} {cs : List Nat → List Nat → Bool} : O2 K (rCmp ci cs) (dCmp ci cs) := o2_pure fun F H a b d x y Q s e ha hb q => by
  cases a <;> cases b <;> try (cases e; done)
  · cases e; exact .inl ⟨_, _, ha, hb, q _ rfl⟩
  · cases e; exact .inr ⟨_, _, ha, hb, q _ rfl⟩
def csLt (a b : List Nat) : Bool := decide (a < b)
def csLe (a b : List Nat) : Bool := !decide (b < a)
def ciLt (i j : Int) : Bool := decide (i < j)
def ciLe (i j : Int) : Bool := decide (i ≤ j)
def ciGt (i j : Int) : Bool := decide (j < i)
def ciGe (i j : Int) : Bool := decide (j ≤ i)
theorem op_ltA {X : Cx} : OpR X (compareOp .Lt) (rCmp ciLt csLt) := OpR.or op_lt op_lt_str
theorem op_leI {X : Cx} : OpR X (compareOp .LtE) (rI0 fun i j => .bl (ciLe i j)) := op_le
theorem op_gtI {X : Cx} : OpR X (compareOp .Gt) (rI0 fun i j => .bl (ciGt i j)) := op_gt
theorem op_geI {X : Cx} : OpR X (compareOp .GtE) (rI0 fun i j => .bl (ciGe i j)) := op_ge
def dCI (ci : Int → Int → Bool) : D → D → Option D
  | .int i, .int j => some (.bl (ci i j))
  | _, _ => none
theorem o2_ci {K : PySem.W.Frag} {ci : Int → Int → Bool} : O2 K (rI0 fun i j => .bl (ci i j)) (dCI ci) := o2_pure fun F H a b d x y Q s e ha hb q => by
  cases a <;> cases b <;> try (cases e; done)
  cases e; exact ⟨_, _, ha, hb, q _ rfl⟩
/-- in, not in -/
def strIn (x y : Str) : Bool := !(Builtin.Str.occurrences y x 0 y.length 1).isEmpty
def flatD : D → Bool
  | .non => true
  | .bl _ => true
  | .int _ => true
  | .str _ => true
  | _ => false
def eqF : D → D → Bool
  | .non, .non => true
  | .bl a, .bl b => a == b
  | .bl a, .int b => (if a then 1 else 0) == b
  | .int a, .bl b => a == (if b then 1 else 0)
  | .int a, .int b => a == b
  | .str a, .str b => a == b
  | _, _ => false
def inF (x : D) (xs : List D) : Bool := xs.any fun y => eqF y x
def inSeq (x : D) (xs : List D) : Option Bool := if flatD x = true ∧ xs.all flatD = true then some (inF x xs) else none
def inP (x : D) (xs : List D) : Option Bool := match py x, pyL xs with
  | some p, some ps => if SeqAt.shaped p = true ∧ SeqAt.shaped (.list ps) = true then some (ps.any fun z => PyData.eqv z p) else none
  | _, _ => none
def inD : D → D → Option Bool
  | .str x, .str y => some (strIn x y)
  | x, .tup xs => inSeq x xs
  | x, .lst xs => (inSeq x xs).or (inP x xs)
  | x, .fl xs => (inSeq x xs).or (inP x xs)
  | _, _ => none
def dIn (a b : D) : Option D := (inD a b).map .bl
def dNotIn (a b : D) : Option D := (inD a b).map fun c => .bl !c
theorem flat_rel {K : PySem.W.Frag} {F : Hp} {d : D} {v : V} (h : Rp K F d v) (f : flatD d = true) : flatV v = true := by
  cases d <;> first | (cases h; rfl) | (cases f)
theorem eq_rel {K : PySem.W.Frag} {F : Hp} {d e : D} {v u : V} (h : Rp K F d v) (f : flatD d = true) (h' : Rp K F e u) (f' : flatD e = true) : eqV v u = eqF d e := by
  cases d <;> first | (cases f; done) | skip
  all_goals cases e <;> first | (cases f'; done) | skip
  all_goals (cases h; cases h'; rfl)
theorem flatL_rel {K : PySem.W.Frag} {F : Hp} : ∀ {ds : List D} {vs : List V}, RpL K F ds vs → ds.all flatD = true → vs.all flatV = true
  | [], vs, h, _ => by cases h; rfl
  | d :: ds, vs, h, f => by
    obtain ⟨v, r, rfl, h1, h2⟩ := h
    simp only [List.all_cons, Bool.and_eq_true] at f ⊢
    exact ⟨flat_rel h1 f.1, flatL_rel h2 f.2⟩
theorem in_rel {K : PySem.W.Frag} {F : Hp} {d : D} {v : V} (h : Rp K F d v) (f : flatD d = true) : ∀ {ds : List D} {vs : List V}, RpL K F ds vs → ds.all flatD = true → inV v vs = inF d ds
  | [], vs, h, _ => by cases h; rfl
  | e :: ds, vs, h', f' => by
    obtain ⟨u, r, rfl, h1, h2⟩ := h'
    simp only [List.all_cons, Bool.and_eq_true] at f'
    show (eqV u v || inV v r) = (eqF e d || inF d ds)
    rw [eq_rel h1 f'.1 h f, in_rel h f h2 f'.2]
def rInA (K : PySem.W.Frag) : R2 := fun x y H Q => ((∃ i j, x = .str i ∧ y = .str j ∧ Q (.bl (!(Builtin.Str.occurrences j i 0 j.length 1).isEmpty)) H) ∨ rIn K false x y H Q) ∨ rInD K x y H Q
def rNotInA (K : PySem.W.Frag) : R2 := fun x y H Q => ((∃ i j, x = .str i ∧ y = .str j ∧ Q (.bl (!(!(Builtin.Str.occurrences j i 0 j.length 1).isEmpty))) H) ∨ rIn K true x y H Q) ∨ rNotInD K x y H Q
theorem op_inA {X : Cx} (hu : X.A.units + 65 < cLine) : OpR X (compareOp .In) (rInA X.K) := OpR.or (OpR.or op_in_str op_in_seq) (op_inD hu)
theorem op_notInA {X : Cx} (hu : X.A.units + 65 < cLine) : OpR X (compareOp .NotIn) (rNotInA X.K) := OpR.or (OpR.or op_notIn_str op_notIn_seq) (op_notInD hu)
theorem inSeq_of {K : PySem.W.Frag} {F H : Hp} {a : D} {xs : List D} {x : V} {vs : List V} {c : Bool} (e : inSeq a xs = some c) (ha : Rp K F a x) (hx : RpL K F xs vs) : flatV x = true ∧ vs.all flatV = true ∧ inV x vs = c := by
  unfold inSeq at e
  split at e
  · rename_i hf
    cases e
    exact ⟨flat_rel ha hf.1, flatL_rel hx hf.2, in_rel ha hf.1 hx hf.2⟩
  · cases e
theorem inP_of {K : PySem.W.Frag} {F H : Hp} {a : D} {xs : List D} {x : V} {p : Addr} {vs : List V} {c : Bool} (e : inP a xs = some c) (s : Same F H) (ha : Rp K F a x) (hp : SqL K H p vs) (hx : RpL K F xs vs) :
    ∃ q qs, Dp K H x q ∧ Dp K H (.ref p) (.list qs) ∧ SeqAt.shaped q = true ∧ SeqAt.shaped (.list qs) = true ∧ (qs.any fun z => PyData.eqv z q) = c := by
  unfold inP at e
  cases e1 : py a with
  | none => rw [e1] at e; cases e
  | some q =>
    cases e2 : pyL xs with
    | none => rw [e1, e2] at e; cases e
    | some qs =>
      rw [e1, e2] at e
      dsimp only at e
      split at e
      · rename_i hs
        cases e
        exact ⟨q, qs, dp_of s a x q ha e1, .lst hp (dpL_of s xs vs qs hx e2), hs.1, hs.2, rfl⟩
      · cases e
def InC (K : PySem.W.Frag) (H : Hp) (x y : V) (c : Bool) : Prop :=
    (∃ i j, x = .str i ∧ y = .str j ∧ (!(Builtin.Str.occurrences j i 0 j.length 1).isEmpty) = c) ∨
    (∃ p xs, y = .ref p ∧ (SqL K H p xs ∨ SqT K H p xs) ∧ flatV x = true ∧ xs.all flatV = true ∧ inV x xs = c) ∨
    (∃ q qs, Dp K H x q ∧ Dp K H y (.list qs) ∧ SeqAt.shaped q = true ∧ SeqAt.shaped (.list qs) = true ∧ (qs.any fun z => PyData.eqv z q) = c)
theorem inL_of {K : PySem.W.Frag} {F H : Hp} {a : D} {x : V} {c : Bool} (s : Same F H) (ha : Rp K F a x) {xs : List D} {p : Addr} {vs : List V} (e : (inSeq a xs).or (inP a xs) = some c) (h1 : SqL K H p vs) (h2 : RpL K F xs vs) : InC K H x (.ref p) c := by
  cases e1 : inSeq a xs with
  | some c' =>
    rw [e1] at e
    cases (show c' = c by simpa using e)
    obtain ⟨h3, h4, h5⟩ := inSeq_of (H := H) e1 ha h2
    exact .inr (.inl ⟨p, vs, rfl, .inl h1, h3, h4, h5⟩)
  | none =>
    rw [e1] at e
    exact .inr (.inr (inP_of (by simpa using e) s ha h1 h2))
theorem inD_of {K : PySem.W.Frag} {F H : Hp} {a b : D} {x y : V} {c : Bool} (e : inD a b = some c) (s : Same F H) (ha : Rp K F a x) (hb : Rp K F b y) : InC K H x y c := by
  unfold inD at e
  split at e
  · cases e; cases ha; cases hb
    exact .inl ⟨_, _, rfl, rfl, rfl⟩
  · obtain ⟨p, vs, rfl, h1, h2⟩ := hb
    obtain ⟨h3, h4, h5⟩ := inSeq_of (H := H) e ha h2
    exact .inr (.inl ⟨p, vs, rfl, .inr (sqT_mono s h1), h3, h4, h5⟩)
  · obtain ⟨p, vs, rfl, h1, h2⟩ := hb
    exact inL_of s ha e (.inl (.inl (s _ _ h1))) h2
  · obtain ⟨p, vs, rfl, h1, h2⟩ := hb
    exact inL_of s ha e (s.seq h1) h2
  · cases e
theorem o2_inA {K : PySem.W.Frag} : O2 K (rInA K) dIn := o2_pure fun F H a b d x y Q s e ha hb q => by
  unfold dIn at e
  obtain ⟨c, e1, rfl⟩ := Option.map_eq_some_iff.mp e
  rcases inD_of e1 s ha hb with ⟨i, j, rfl, rfl, rfl⟩ | ⟨p, xs, rfl, h1, h2, h3, rfl⟩ | ⟨u, us, h1, h2, h3, h4, rfl⟩
  · exact .inl (.inl ⟨i, j, rfl, rfl, q _ rfl⟩)
  · exact .inl (.inr ⟨p, xs, rfl, h1, h2, h3, q _ rfl⟩)
  · exact .inr ⟨u, us, h1, h2, h3, h4, q _ rfl⟩
theorem o2_notInA {K : PySem.W.Frag} : O2 K (rNotInA K) dNotIn := o2_pure fun F H a b d x y Q s e ha hb q => by
  unfold dNotIn at e
  obtain ⟨c, e1, rfl⟩ := Option.map_eq_some_iff.mp e
  rcases inD_of e1 s ha hb with ⟨i, j, rfl, rfl, rfl⟩ | ⟨p, xs, rfl, h1, h2, h3, rfl⟩ | ⟨u, us, h1, h2, h3, h4, rfl⟩
  · exact .inl (.inl ⟨i, j, rfl, rfl, q _ rfl⟩)
  · exact .inl (.inr ⟨p, xs, rfl, h1, h2, h3, q _ rfl⟩)
  · exact .inr ⟨u, us, h1, h2, h3, h4, q _ rfl⟩
/-- is None, is not None -/
def isNon : D → Bool
  | .non => true
  | _ => false
def dIs : D → D → Option D
  | a, .non => some (.bl (isNon a))
  | .bl a, .bl b => some (.bl (decide (a = b)))
  | _, _ => none
def dIsNot : D → D → Option D
  | a, .non => some (.bl !(isNon a))
  | .bl a, .bl b => some (.bl !(decide (a = b)))
  | _, _ => none
theorem isNon_rel {K : PySem.W.Frag} {F : Hp} {d : D} {v : V} (h : Rp K F d v) : decide (v = .non) = isNon d := by
  cases d with
  | non => cases h; rfl
  | bl b => cases h; rfl
  | int b => cases h; rfl
  | str b => cases h; rfl
  | tup ds => obtain ⟨a, vs, rfl, _⟩ := h; rfl
  | lst ds => obtain ⟨a, vs, rfl, _⟩ := h; rfl
  | fl ds => obtain ⟨a, vs, rfl, _⟩ := h; rfl
  | dct ks ds => obtain ⟨a, vs, rfl, _⟩ := h; rfl
  | obj c ns ds => obtain ⟨a, dx, vs, rfl, _⟩ := h; rfl
  | deep _ => exact False.elim h
  | own _ => exact False.elim h
end VM

set_option Elab.async false
set_option linter.all false
set_option autoImplicit false
set_option maxRecDepth 100000
set_option maxHeartbeats 400000
namespace VM
open PySem PySem.Spec PyProof.Rows L2

/-! ### expressions -/
section
variable {X : Cx} {W : WX'} {a b c e : Expr} {pos : Pos} {ma mb m : M D} {mt mu : M Bool}
def mC (d : D) : M D := fun sv => .ok d sv
theorem se_const {d : D} {v : V} (h : PE X e (tC v)) (r : ∀ F, Rp X.K F d v) : SE X W e (mC d) := pe_imp h fun σ H Q q => by
  obtain ⟨g, F, sv, hK, rl, q⟩ := q
  exact q v F H (Same.refl F) rl (by show Rp g.K F d v; rw [hK.1]; exact r F)
theorem se_int {i j pos} : SE X W (.Constant (.int i) j pos) (mC (.int i)) := se_const pe_int fun _ => rfl
theorem se_bl {b j pos} : SE X W (.Constant (.bool b) j pos) (mC (.bl b)) := se_const pe_bl fun _ => rfl
theorem se_non {j pos} : SE X W (.Constant .none j pos) (mC .non) := se_const pe_non fun _ => rfl
theorem se_str {x j pos} : SE X W (.Constant (.str x) j pos) (mC (.str x)) := se_const pe_str fun _ => rfl
/-- a slot of plain value is read -/
def mRd (i : Nat) : M D := fun sv => match sv[i]? with
  | some (.pl d) => .ok d sv
  | _ => .bad
/-! an owned thing once it is frozen -/
mutual
def fz : D → D
  | .deep d => fzC d
  | d => d
def fzC : D → D
  | .lst ds => .lst (fzL ds)
  | .dct ks ds => .dct ks (fzL ds)
  | .obj c ns ds => .obj c ns (fzL ds)
  | d => d
def fzE : D → D
  | .own e => fz e
  | d => d
def fzL : List D → List D
  | [] => []
  | d :: ds => fzE d :: fzL ds
end
theorem fz_flat {d : D} (h : ∀ e, d ≠ .deep e) : fz d = d := by
  cases d <;> first | rfl | exact absurd rfl (h _)
theorem fzL_len : ∀ ds : List D, (fzL ds).length = ds.length
  | [] => rfl
  | d :: ds => by simp [fzL, fzL_len ds]
theorem fzL_get : ∀ (ds : List D) (i : Nat), (fzL ds)[i]? = ds[i]?.map fzE
  | [], i => by simp [fzL]
  | d :: ds, 0 => by simp [fzL]
  | d :: ds, i + 1 => by simp [fzL, fzL_get ds i]
/-- a slot is read for good: what it owns is frozen -/
def mMv (i : Nat) : M D := fun sv => match sv[i]? with
  | some (.pl d) => .ok d sv
  | some (.ow d) => .ok (fz d) (sv.set i (.pl (fz d)))
  | _ => .bad
/-- what a slot owns is taken -/
def mTk (i : Nat) : M D := fun sv => match sv[i]? with
  | some (.ow d) => .ok d (sv.set i .un)
  | _ => .bad
theorem Rl.at {g : G} {F H : Hp} {σ : L2.St} {sv : SV} (rl : Rl g F H σ sv) {i : Nat} {s : Sl} (h : sv[i]? = some s) : SlOk g F H σ[i]? s := rl.sl i s h
theorem se_rd {i : Nat} {x : Str} {pos : Pos} (h : PE X (.Name x pos) (tVar i)) : SE X W (.Name x pos) (mRd i) := pe_imp h fun σ H Q q => by
  obtain ⟨g, F, sv, hK, rl, q⟩ := q
  unfold mRd at q
  split at q
  · rename_i d hd
    obtain ⟨v, e1, hv⟩ := rl.at hd
    exact ⟨v, e1, q v F H (Same.refl F) rl hv⟩
  · exact False.elim q
theorem set_self {α : Type} {xs : List α} {i : Nat} {x : α} (h : xs[i]? = some x) : xs.set i x = xs := by
  apply List.ext_getElem?
  intro j
  by_cases e : i = j
  · subst e
    rw [List.getElem?_set_self (List.getElem?_eq_some_iff.mp h).1, h]
  · rw [List.getElem?_set_ne e]
theorem Rl.take {g : G} {F H : Hp} {σ : L2.St} {sv : SV} {i : Nat} {d : D} (rl : Rl g F H σ sv) (h : sv[i]? = some (.ow d)) :
    ∃ p, σ[i]? = some (some (.ref p)) ∧ (∀ a, Ft g.K H d p a → ¬ g.fx a) ∧ OwnP g.K F H d p ∧ Rl g F H σ (sv.set i .un) ∧ ∀ a, Ft g.K H d p a → ∀ j, ¬ Ref g.K H σ (sv.set i .un) j a := by
  obtain ⟨p, e1, nf, o⟩ := rl.at h
  refine ⟨p, e1, nf, o, rl.forget i, fun a ha j hj => ?_⟩
  have hi : i < sv.length := (List.getElem?_eq_some_iff.mp h).1
  obtain ⟨s, d', p', e2, e3, e4, hf⟩ := hj
  by_cases hij : i = j
  · subst hij
    rw [List.getElem?_set_self hi] at e2
    cases e2
    cases e3
  · rw [List.getElem?_set_ne hij] at e2
    exact hij (rl.dj i j a ⟨_, d, p, h, rfl, e1, ha⟩ ⟨s, d', p', e2, e3, e4, hf⟩)
theorem RpL.of_get {K : PySem.W.Frag} {F : Hp} : ∀ {ds : List D} {vs : List V}, ds.length = vs.length → (∀ (i : Nat) (d : D) (v : V), ds[i]? = some d → vs[i]? = some v → Rp K F d v) → RpL K F ds vs
  | [], [], _, _ => rfl
  | [], _ :: _, h, _ => by cases h
  | _ :: _, [], h, _ => by cases h
  | d :: ds, v :: vs, hl, h => ⟨v, vs, rfl, h 0 d v rfl rfl, RpL.of_get (by simpa using hl) fun i d' v' h1 h2 => h (i + 1) d' v' (by simpa using h1) (by simpa using h2)⟩
theorem Shp.rpE {K : PySem.W.Frag} {F : Hp} {d : D} {o : HO} {ds : List D} {vs : List V} {p : Addr} (hs : Shp K d o ds vs) (h : F p = some o) (hr : RpL K F ds vs) : Rp K F d (.ref p) := by
  cases hs with
  | lst => exact ⟨p, _, rfl, h, hr⟩
  | dct hk => exact ⟨p, _, rfl, h, hk, hr⟩
  | obj hn => exact ⟨p, _, _, rfl, h, hn, hr⟩
theorem Shp.rpZ {K : PySem.W.Frag} {F : Hp} {d : D} {o : HO} {ds : List D} {vs : List V} {p : Addr} (hs : Shp K d o ds vs) (h : F p = some o) (hr : RpL K F (fzL ds) vs) : Rp K F (fzC d) (.ref p) := by
  cases hs with
  | lst => exact ⟨p, _, rfl, h, hr⟩
  | dct hk => exact ⟨p, _, rfl, h, hk, hr⟩
  | obj hn => exact ⟨p, _, _, rfl, h, hn, hr⟩
theorem ovl_le {F H : Hp} {φ ψ : Addr → Prop} (h : ∀ a, φ a → ψ a) (hn : ∀ a, ψ a → F a = none) : Same (ovl F H φ) (ovl F H ψ) := fun a u e => by
  by_cases hp : φ a
  · rw [ovl_in hp] at e; rw [ovl_in (h a hp)]; exact e
  · rw [ovl_out hp] at e
    rw [ovl_out (fun z => by rw [hn a z] at e; cases e)]; exact e
theorem OwnP.rep {K : PySem.W.Frag} {F H : Hp} {d : D} {p : Addr} (o : OwnP K F H d p) : Rp K (ovl F H (Ft K H d p)) (fz d) (.ref p) := by
  have hN : ∀ a, Ft K H d p a → F a = none := fun a ha => (o.ft ha).1
  induction o with
  | flat hF hH hs hr =>
    rw [fz_flat (shp_deep hs)]
    exact hs.rpE ((ovl_in Ft.here).trans hH) (RpL.mono (same_ovl hN) _ _ hr)
  | @deep d p o ds vs hF hH hs hl hr hq hk hp hj ih =>
    show Rp K _ (fzC d) _
    refine hs.rpZ ((ovl_in Ft.here).trans hH) (RpL.of_get (by rw [fzL_len]; exact hl) fun i e v h1 h2 => ?_)
    rw [fzL_get] at h1
    obtain ⟨e0, h3, rfl⟩ := Option.map_eq_some_iff.mp h1
    cases e0 with
    | own e =>
      obtain ⟨q, h4⟩ := hq i e h3
      rw [h2] at h4; cases h4
      have := ih i e q h3 h2 (fun a ha => hN a (.kid hH hs h3 h2 ha))
      exact Rp.mono (ovl_le (fun a ha => .kid hH hs h3 h2 ha) hN) _ _ this
    | _ => exact Rp.mono (same_ovl hN) _ _ (hr i _ v h3 h2 rfl)
/-- an owned object that is in no slot is frozen -/
theorem Rl.freeze {g : G} {F H : Hp} {σ : L2.St} {sv : SV} {d : D} {p : Addr} (rl : Rl g F H σ sv) (nf : ∀ a, Ft g.K H d p a → ¬ g.fx a) (o : OwnP g.K F H d p) (nr : ∀ a, Ft g.K H d p a → ∀ i, ¬ Ref g.K H σ sv i a) :
    ∃ F', Same F F' ∧ Rl g F' H σ sv ∧ Rp g.K F' (fz d) (.ref p) :=
  ⟨_, same_ovl fun a ha => (o.ft ha).1, rl.frz nf (fun a ha => (o.ft ha).1) nr, o.rep⟩
theorem se_mv {i : Nat} {x : Str} {pos : Pos} (h : PE X (.Name x pos) (tVar i)) : SE X W (.Name x pos) (mMv i) := pe_imp h fun σ H Q q => by
  obtain ⟨g, F, sv, hK, rl, q⟩ := q
  unfold mMv at q
  split at q
  · rename_i d hd
    obtain ⟨v, e1, hv⟩ := rl.at hd
    exact ⟨v, e1, q v F H (Same.refl F) rl hv⟩
  · rename_i d hd
    obtain ⟨p, e1, nf, o, rl1, nr⟩ := rl.take hd
    obtain ⟨F', s1, rl2, rp⟩ := rl1.freeze nf o nr
    refine ⟨.ref p, e1, q _ F' H s1 ?_ rp⟩
    have rl3 := rl2.setPl i rp
    rw [set_self e1, List.set_set] at rl3
    exact rl3
  · exact False.elim q
theorem so_tk {i : Nat} {x : Str} {pos : Pos} (h : PE X (.Name x pos) (tVar i)) : SO X W (.Name x pos) (mTk i) := pe_imp h fun σ H Q q => by
  obtain ⟨g, F, sv, hK, rl, q⟩ := q
  unfold mTk at q
  split at q
  · rename_i d hd
    obtain ⟨p, e1, nf, o, rl1, nr⟩ := rl.take hd
    exact ⟨.ref p, e1, q _ F H (Same.refl F) rl1 ⟨p, rfl, nf, o, nr⟩⟩
  · exact False.elim q
/-- what it gives holds nothing of its own -/
class Fl (m : M D) : Prop where
  h : ∀ sv d s, m sv = .ok d s → ∀ e, d ≠ .deep e
def mFz (m : M D) : M D := fun sv => (m sv).bind fun d s => .ok (fz d) s
/-- an owned value, frozen -/
theorem se_fz (h : SO X W e m) : SE X W e (mFz m) := pe_imp h fun σ H Q q => by
  obtain ⟨g, F, sv, hK, rl, q⟩ := q
  refine ⟨g, F, sv, hK, rl, PostG.bind q fun d s v F1 H1 e1 rl1 r1 h1 => ?_⟩
  obtain ⟨p, rfl, nf, o, nr⟩ := r1
  obtain ⟨F', s1, rl2, rp⟩ := rl1.freeze nf o nr
  exact h1 _ F' H1 s1 rl2 rp
theorem se_of [hf : Fl m] (h : SO X W e m) : SE X W e m := pe_imp h fun σ H Q q => by
  obtain ⟨g, F, sv, hK, rl, q⟩ := q
  refine ⟨g, F, sv, hK, rl, ?_⟩
  have hf := hf.h sv
  revert q hf
  cases m sv with
  | ok d s =>
    intro q hf v F1 H1 e1 rl1 r1
    obtain ⟨p, rfl, nf, o, nr⟩ := r1
    obtain ⟨F', s1, rl2, rp⟩ := rl1.freeze nf o nr
    rw [fz_flat (hf d s rfl)] at rp
    exact q _ F' H1 (e1.trans s1) rl2 rp
  | err x s => exact fun q _ => q
  | bad => exact fun q _ => q

/-! #### operators -/
theorem se_op {op : Operator} {r : R2} {f : D → D → Option D} (ho : OpR X (binaryOp op) r) (hf : O2 X.K r f) (ha : SE X W a ma) (hb : SE X W b mb) : SE X W (.BinOp a op b pos) (m2 f ma mb) := pe_imp (pe_op ho ha hb) fun σ H Q q => tg_op2 hf q
theorem se_cmp {op : CmpOp} {r : R2} {f : D → D → Option D} (ho : OpR X (compareOp op) r) (hf : O2 X.K r f) (ha : SE X W a ma) (hb : SE X W b mb) (hm : behindInMarks op b = false) : SE X W (.Compare a [op] [b] pos) (m2 f ma mb) := pe_imp (pe_cmpR ho ha hb hm) fun σ H Q q => tg_op2 hf q
theorem se_un {op : UnaryOp} {r : V → Hp → VK → Prop} {f : D → Option D} (ho : UnR X (unaryOp op) r) (hf : O1 X.K r f) (ha : SE X W a ma) : SE X W (.UnaryOp op a pos) (m1 f ma) := pe_imp (pe_un ho ha) fun σ H Q q => tg_op1 hf q
theorem se_add (ha : SE X W a ma) (hb : SE X W b mb) : SE X W (.BinOp a .Add b pos) (m2 dAdd ma mb) := se_op op_addA o2_addA ha hb
theorem se_sub (ha : SE X W a ma) (hb : SE X W b mb) : SE X W (.BinOp a .Sub b pos) (m2 (dI2 cSub) ma mb) := se_op (op_toI op_sub) o2_subI ha hb
theorem se_mul (ha : SE X W a ma) (hb : SE X W b mb) : SE X W (.BinOp a .Mult b pos) (m2 (dI2 cMul) ma mb) := se_op op_mul o2_mulI ha hb
theorem se_div (ha : SE X W a ma) (hb : SE X W b mb) : SE X W (.BinOp a .FloorDiv b pos) (m2 (dI2 cDiv) ma mb) := se_op op_fdiv o2_divI ha hb
theorem se_mod (ha : SE X W a ma) (hb : SE X W b mb) : SE X W (.BinOp a .Mod b pos) (m2 (dI2 cMod) ma mb) := se_op op_mod o2_modI ha hb
theorem se_pow (ha : SE X W a ma) (hb : SE X W b mb) : SE X W (.BinOp a .Pow b pos) (m2 (dI2 cPow) ma mb) := se_op op_pow o2_powI ha hb
theorem se_eq (hu : X.A.units + 65 < cLine) (ha : SE X W a ma) (hb : SE X W b mb) : SE X W (.Compare a [.Eq] [b] pos) (m2 dEq ma mb) := se_cmp (op_eqA (by omega)) o2_eqA ha hb (nomark _)
theorem se_ne (hu : X.A.units + 65 < cLine) (ha : SE X W a ma) (hb : SE X W b mb) : SE X W (.Compare a [.NotEq] [b] pos) (m2 dNe ma mb) := se_cmp (op_neA (by omega)) o2_neA ha hb (nomark _)
theorem se_lt (ha : SE X W a ma) (hb : SE X W b mb) : SE X W (.Compare a [.Lt] [b] pos) (m2 (dCmp ciLt csLt) ma mb) := se_cmp op_ltA o2_cmp ha hb (nomark _)
theorem se_le (ha : SE X W a ma) (hb : SE X W b mb) : SE X W (.Compare a [.LtE] [b] pos) (m2 (dCI ciLe) ma mb) := se_cmp op_leI o2_ci ha hb (nomark _)
theorem se_gt (ha : SE X W a ma) (hb : SE X W b mb) : SE X W (.Compare a [.Gt] [b] pos) (m2 (dCI ciGt) ma mb) := se_cmp op_gtI o2_ci ha hb (nomark _)
theorem se_ge (ha : SE X W a ma) (hb : SE X W b mb) : SE X W (.Compare a [.GtE] [b] pos) (m2 (dCI ciGe) ma mb) := se_cmp op_geI o2_ci ha hb (nomark _)
theorem se_in (hu : X.A.units + 65 < cLine) (ha : SE X W a ma) (hb : SE X W b mb) (hm : behindInMarks .In b = false := by rfl) : SE X W (.Compare a [.In] [b] pos) (m2 dIn ma mb) := se_cmp (op_inA hu) o2_inA ha hb hm
theorem se_notIn (hu : X.A.units + 65 < cLine) (ha : SE X W a ma) (hb : SE X W b mb) (hm : behindInMarks .NotIn b = false := by rfl) : SE X W (.Compare a [.NotIn] [b] pos) (m2 dNotIn ma mb) := se_cmp (op_notInA hu) o2_notInA ha hb hm
theorem o2_is {K : PySem.W.Frag} : O2 K (fun x y H Q => (y = .non ∧ Q (.bl (decide (x = .non))) H) ∨ rIsB x y H Q) dIs := o2_pure fun F H a b d x y Q s e ha hb q => by
  unfold dIs at e
  split at e
  · cases e; cases hb
    exact .inl ⟨rfl, q _ (congrArg V.bl (isNon_rel ha))⟩
  · cases e; cases ha; cases hb
    exact .inr ⟨_, _, rfl, rfl, q _ rfl⟩
  · cases e
theorem o2_isNot {K : PySem.W.Frag} : O2 K (fun x y H Q => (y = .non ∧ Q (.bl (!decide (x = .non))) H) ∨ rNotB x y H Q) dIsNot := o2_pure fun F H a b d x y Q s e ha hb q => by
  unfold dIsNot at e
  split at e
  · cases e; cases hb
    exact .inl ⟨rfl, q _ (by show V.bl _ = V.bl _; rw [isNon_rel ha])⟩
  · cases e; cases ha; cases hb
    exact .inr ⟨_, _, rfl, rfl, q _ rfl⟩
  · cases e
theorem se_is (ha : SE X W a ma) (hb : SE X W b mb) : SE X W (.Compare a [.Is] [b] pos) (m2 dIs ma mb) := se_cmp (OpR.or op_isN op_isBl) o2_is ha hb (nomark _)
theorem se_isNot (ha : SE X W a ma) (hb : SE X W b mb) : SE X W (.Compare a [.IsNot] [b] pos) (m2 dIsNot ma mb) := se_cmp (OpR.or op_notN op_notBl) o2_isNot ha hb (nomark _)
def dNeg : D → Option D
  | .int i => some (.int (-i))
  | _ => none
theorem o1_neg {K : PySem.W.Frag} : O1 K (rU fun i => .int (-i)) dNeg := o1_pure fun F H a d x Q s e ha q => by
  cases a <;> try (cases e; done)
  cases e; exact ⟨_, ha, q _ rfl⟩
theorem se_neg (ha : SE X W a ma) : SE X W (.UnaryOp .USub a pos) (m1 dNeg ma) := se_un un_neg o1_neg ha

/-! #### tests -/
def mB (m : M D) : M Bool := fun sv => (m sv).bind fun d s => match d with
  | .bl b => .ok b s
  | _ => .bad
def mV (m : M Bool) : M D := fun sv => (m sv).bind fun b s => .ok (.bl b) s
def mNot (m : M Bool) : M Bool := fun sv => (m sv).bind fun b s => .ok (!b) s
def mAnd (ma mb : M Bool) : M Bool := fun sv => (ma sv).bind fun b s => if b = true then mb s else .ok false s
def mOr (ma mb : M Bool) : M Bool := fun sv => (ma sv).bind fun b s => if b = true then .ok true s else mb s
theorem tg_bl {K : PySem.W.Frag} {mg : MX} {σ : L2.St} {H : Hp} {Q : Bool → Hp → Prop} (h : tT K mg W (mB m) σ H Q) : tE K mg W m σ H fun x H1 => ∃ k, x = .bl k ∧ Q k H1 := by
  obtain ⟨g, F, sv, hK, rl, h⟩ := h
  refine ⟨g, F, sv, hK, rl, PostG.bind h fun d s1 x F1 H1 e1 rl1 rp1 h1 => ?_⟩
  cases d with
  | bl b => exact ⟨b, rp1, h1 b F1 H1 (Same.refl F1) rl1 rfl⟩
  | _ => exact False.elim h1
theorem st_val (h : SE X W e m) (he : ∀ whole, isTrue e X.env whole = (do let v ← whole; standAt e.pos; holding [v] (truthy v)) := by intro _; rfl) : ST X W e (mB m) := pt_imp (pt_val h he) fun σ H Q q => tg_bl q
theorem st_cmp {op : CmpOp} {r : R2} {f : D → D → Option D} (ho : OpR X (compareOp op) r) (hf : O2 X.K r f) (ha : SE X W a ma) (hb : SE X W b mb) (hm : behindInMarks op b = false) : ST X W (.Compare a [op] [b] pos) (mB (m2 f ma mb)) := pt_imp (pt_cmpR ho ha hb hm) fun σ H Q q => tg_op2 hf (tg_bl q)
theorem st_eq (hu : X.A.units + 65 < cLine) (ha : SE X W a ma) (hb : SE X W b mb) : ST X W (.Compare a [.Eq] [b] pos) (mB (m2 dEq ma mb)) := st_cmp (op_eqA (by omega)) o2_eqA ha hb (nomark _)
theorem st_ne (hu : X.A.units + 65 < cLine) (ha : SE X W a ma) (hb : SE X W b mb) : ST X W (.Compare a [.NotEq] [b] pos) (mB (m2 dNe ma mb)) := st_cmp (op_neA (by omega)) o2_neA ha hb (nomark _)
theorem st_lt (ha : SE X W a ma) (hb : SE X W b mb) : ST X W (.Compare a [.Lt] [b] pos) (mB (m2 (dCmp ciLt csLt) ma mb)) := st_cmp op_ltA o2_cmp ha hb (nomark _)
theorem st_le (ha : SE X W a ma) (hb : SE X W b mb) : ST X W (.Compare a [.LtE] [b] pos) (mB (m2 (dCI ciLe) ma mb)) := st_cmp op_leI o2_ci ha hb (nomark _)
theorem st_gt (ha : SE X W a ma) (hb : SE X W b mb) : ST X W (.Compare a [.Gt] [b] pos) (mB (m2 (dCI ciGt) ma mb)) := st_cmp op_gtI o2_ci ha hb (nomark _)
theorem st_ge (ha : SE X W a ma) (hb : SE X W b mb) : ST X W (.Compare a [.GtE] [b] pos) (mB (m2 (dCI ciGe) ma mb)) := st_cmp op_geI o2_ci ha hb (nomark _)
theorem st_in (hu : X.A.units + 65 < cLine) (ha : SE X W a ma) (hb : SE X W b mb) (hm : behindInMarks .In b = false := by rfl) : ST X W (.Compare a [.In] [b] pos) (mB (m2 dIn ma mb)) := st_cmp (op_inA hu) o2_inA ha hb hm
theorem st_notIn (hu : X.A.units + 65 < cLine) (ha : SE X W a ma) (hb : SE X W b mb) (hm : behindInMarks .NotIn b = false := by rfl) : ST X W (.Compare a [.NotIn] [b] pos) (mB (m2 dNotIn ma mb)) := st_cmp (op_notInA hu) o2_notInA ha hb hm
theorem st_is (ha : SE X W a ma) (hb : SE X W b mb) : ST X W (.Compare a [.Is] [b] pos) (mB (m2 dIs ma mb)) := st_cmp (OpR.or op_isN op_isBl) o2_is ha hb (nomark _)
theorem st_isNot (ha : SE X W a ma) (hb : SE X W b mb) : ST X W (.Compare a [.IsNot] [b] pos) (mB (m2 dIsNot ma mb)) := st_cmp (OpR.or op_notN op_notBl) o2_isNot ha hb (nomark _)
theorem st_not (h : ST X W a mt) : ST X W (.UnaryOp .Not a pos) (mNot mt) := pt_imp (pt_not h) fun σ H Q q => by
  obtain ⟨g, F, sv, hK, rl, q⟩ := q
  refine ⟨g, F, sv, hK, rl, PostG.bind q fun b s1 c F1 H1 e1 rl1 rp1 h1 => ?_⟩
  cases rp1
  exact h1 _ F1 H1 (Same.refl F1) rl1 rfl
abbrev SW (X : Cx) (W : WX') (e : Expr) (m : M Bool) : Prop := PW X e (tT X.K X.mx W m)
variable {rest : List Expr}
theorem sw_and1 (h : ST X W a mt) : SW X W (.BoolOp .And [a] pos) mt := pw_and1 h
theorem sw_or1 (h : ST X W a mt) : SW X W (.BoolOp .Or [a] pos) mt := pw_or1 h
theorem sw_and (ha : ST X W a mt) (hb : SW X W (.BoolOp .And (b :: rest) pos) mu) : SW X W (.BoolOp .And (a :: b :: rest) pos) (mAnd mt mu) := pw_imp (pw_and ha hb) fun σ H Q q => by
  obtain ⟨g, F, sv, hK, rl, q⟩ := q
  refine ⟨g, F, sv, hK, rl, PostG.bind q fun c s1 c' F1 H1 e1 rl1 rp1 h1 => ?_⟩
  cases rp1
  cases c with
  | true => exact ⟨g, F1, s1, hK, rl1, h1⟩
  | false => exact h1 false F1 H1 (Same.refl F1) rl1 rfl
theorem sw_or (ha : ST X W a mt) (hb : SW X W (.BoolOp .Or (b :: rest) pos) mu) : SW X W (.BoolOp .Or (a :: b :: rest) pos) (mOr mt mu) := pw_imp (pw_or ha hb) fun σ H Q q => by
  obtain ⟨g, F, sv, hK, rl, q⟩ := q
  refine ⟨g, F, sv, hK, rl, PostG.bind q fun c s1 c' F1 H1 e1 rl1 rp1 h1 => ?_⟩
  cases rp1
  cases c with
  | true => exact h1 true F1 H1 (Same.refl F1) rl1 rfl
  | false => exact ⟨g, F1, s1, hK, rl1, h1⟩
/-- and, or, not as values (of bools) -/
theorem se_one {op : BoolOp} (h : SE X W a ma) : SE X W (.BoolOp op [a] pos) ma := pe_one h
def mAndV (ma mb : M D) : M D := fun sv => (ma sv).bind fun d s => match d with
  | .bl c => if c = true then mb s else .ok (.bl false) s
  | _ => .bad
theorem se_and (ha : SE X W a ma) (hb : SE X W (.BoolOp .And (b :: rest) pos) mb) : SE X W (.BoolOp .And (a :: b :: rest) pos) (mAndV ma mb) := pe_imp (pe_and ha hb) fun σ H Q q => by
  obtain ⟨g, F, sv, hK, rl, q⟩ := q
  refine ⟨g, F, sv, hK, rl, PostG.bind q fun d s1 x F1 H1 e1 rl1 rp1 h1 => ?_⟩
  cases d with
  | bl c =>
    refine ⟨c, rp1, ?_⟩
    cases c with
    | true => exact ⟨g, F1, s1, hK, rl1, h1⟩
    | false => exact h1 _ F1 H1 (Same.refl F1) rl1 rfl
  | _ => exact False.elim h1
def mOrV (ma mb : M D) : M D := fun sv => (ma sv).bind fun d s => match d with
  | .bl c => if c = true then .ok (.bl true) s else mb s
  | _ => .bad
theorem se_or (ha : SE X W a ma) (hb : SE X W (.BoolOp .Or (b :: rest) pos) mb) : SE X W (.BoolOp .Or (a :: b :: rest) pos) (mOrV ma mb) := pe_imp (pe_or ha hb) fun σ H Q q => by
  obtain ⟨g, F, sv, hK, rl, q⟩ := q
  refine ⟨g, F, sv, hK, rl, PostG.bind q fun d s1 x F1 H1 e1 rl1 rp1 h1 => ?_⟩
  cases d with
  | bl c =>
    refine ⟨c, rp1, ?_⟩
    cases c with
    | true => exact h1 _ F1 H1 (Same.refl F1) rl1 rfl
    | false => exact ⟨g, F1, s1, hK, rl1, h1⟩
  | _ => exact False.elim h1
def dNot : D → Option D
  | .bl b => some (.bl !b)
  | _ => none
theorem se_not (ha : SE X W a ma) : SE X W (.UnaryOp .Not a pos) (m1 dNot ma) := pe_imp (pe_not ha) fun σ H Q q => by
  obtain ⟨g, F, sv, hK, rl, q⟩ := q
  refine ⟨g, F, sv, hK, rl, PostG.bind q fun d s1 x F1 H1 e1 rl1 rp1 h1 => ?_⟩
  cases d with
  | bl c => exact ⟨c, rp1, h1 _ F1 H1 (Same.refl F1) rl1 rfl⟩
  | _ => exact False.elim h1
def mIf (t : M Bool) (ma mb : M D) : M D := fun sv => (t sv).bind fun b s => if b = true then ma s else mb s
theorem se_if (hc : ST X W c mt) (ha : SE X W a ma) (hb : SE X W b mb) : SE X W (.IfExp c a b pos) (mIf mt ma mb) := pe_imp (pe_ifExp hc ha hb) fun σ H Q q => by
  obtain ⟨g, F, sv, hK, rl, q⟩ := q
  refine ⟨g, F, sv, hK, rl, PostG.bind q fun c s1 c' F1 H1 e1 rl1 rp1 h1 => ?_⟩
  cases rp1
  cases c with
  | true => exact ⟨g, F1, s1, hK, rl1, h1⟩
  | false => exact ⟨g, F1, s1, hK, rl1, h1⟩

/-! #### subscripts -/
def dIx : D → D → Option D
  | .tup xs, .int i => atI xs i
  | .lst xs, .int i => atI xs i
  | .fl xs, .int i => atI xs i
  | .str z, .int i => if z.length ≤ sizeLine then (atI z.cps.toList i).map fun c => .str ⟨#[c]⟩ else none
  | _, _ => none
theorem atI_rel {K : PySem.W.Frag} {F : Hp} {ds : List D} {vs : List V} {i : Int} {d : D} (h : RpL K F ds vs) (e : atI ds i = some d) : ∃ v, atI vs i = some v ∧ Rp K F d v := by
  unfold atI at e ⊢
  rw [← h.length]
  cases hx : ixN ds.length i with
  | none => rw [hx] at e; cases e
  | some j =>
    rw [hx] at e
    exact h.get j d e
theorem o2_ix {K : PySem.W.Frag} : O2 K (rIx K) dIx := o2_pure fun F H a b d x y Q s e ha hb q => by
  unfold dIx at e
  split at e
  · obtain ⟨p, vs, rfl, h1, h2⟩ := ha
    obtain ⟨v, e1, rv⟩ := atI_rel h2 e
    exact .inr (.inl ⟨p, vs, _, v, rfl, hb, sqT_mono s h1, e1, q v rv⟩)
  · obtain ⟨p, vs, rfl, h1, h2⟩ := ha
    obtain ⟨v, e1, rv⟩ := atI_rel h2 e
    exact .inl ⟨p, vs, _, v, rfl, hb, .inl (.inl (s _ _ h1)), e1, q v rv⟩
  · obtain ⟨p, vs, rfl, h1, h2⟩ := ha
    obtain ⟨v, e1, rv⟩ := atI_rel h2 e
    exact .inl ⟨p, vs, _, v, rfl, hb, s.seq h1, e1, q v rv⟩
  · split at e
    · obtain ⟨c, e1, rfl⟩ := Option.map_eq_some_iff.mp e
      exact .inr (.inr ⟨_, _, c, ha, hb, by assumption, e1, q _ rfl⟩)
    · cases e
  · cases e
theorem se_ix (ha : SE X W a ma) (hb : SE X W b mb) (hs : PlainIx b := by exact fun _ _ => rfl) : SE X W (.Subscript a b pos) (m2 dIx ma mb) := pe_imp (pe_ix ix_seq ha hb hs) fun σ H Q q => tg_op2 o2_ix q

/-! #### slices -/
abbrev MO := M (Option Int)
def RelOI (_ : G) (_ _ : Hp) (_ : L2.St) (_ : SV) (a b : Option Int) : Prop := b = a
abbrev SP' (X : Cx) (W : WX') (e : Option Expr) (m : MO) : Prop := PO X e (tG X.K X.mx W RelOI m)
def moN : MO := fun sv => .ok none sv
def moS (m : M D) : MO := fun sv => (m sv).bind fun d s => match d with
  | .int i => .ok (some i) s
  | _ => .bad
theorem po_imp {eo : Option Expr} {t t' : TO} (h : PO X eo t) (k : ∀ σ H Q, t' σ H Q → t σ H Q) : PO X eo t' := ⟨fun pins s σ H Q I q => h.run pins s σ H Q I (k σ H Q q)⟩
theorem sp_none : SP' X W none moN := po_imp po_none fun σ H Q q => by
  obtain ⟨g, F, sv, hK, rl, q⟩ := q
  exact q none F H (Same.refl F) rl rfl
theorem sp_some (h : SE X W a ma) : SP' X W (some a) (moS ma) := po_imp (po_some h) fun σ H Q q => by
  obtain ⟨g, F, sv, hK, rl, q⟩ := q
  refine ⟨g, F, sv, hK, rl, PostG.bind q fun d s1 x F1 H1 e1 rl1 rp1 h1 => ?_⟩
  cases d with
  | int i => exact ⟨i, rp1, h1 _ F1 H1 (Same.refl F1) rl1 rfl⟩
  | _ => exact False.elim h1
def cutD {α : Type} (xs : List α) (lo hi : Option Int) : List α := (xs.drop (HT.sIx xs.length 0 lo)).take (HT.sIx xs.length xs.length hi - HT.sIx xs.length 0 lo)
def dSl : D → Option Int → Option Int → Option D
  | .tup xs, lo, hi => some (.tup (cutD xs lo hi))
  | .lst xs, lo, hi => some (.lst (cutD xs lo hi))
  | .fl xs, lo, hi => some (.lst (cutD xs lo hi))
  | .str z, lo, hi => if z.length ≤ sizeLine then some (.str (cutS z lo hi)) else none
  | _, _, _ => none
def mSl (m : M D) (ml mh : MO) : M D := fun sv => (m sv).bind fun d s1 => (ml s1).bind fun lo s2 => (mh s2).bind fun hi s3 => match dSl d lo hi with
  | some r => .ok r s3
  | none => .bad
def rSlAll (K : PySem.W.Frag) : V → Option Int → Option Int → Hp → VK → Prop := fun x lo hi H Q => (rSlL K x lo hi H Q ∨ rSlA K x lo hi H Q) ∨ rSlS x lo hi H Q
theorem sl_all : SlR X (rSlAll X.K) := SlR.or (SlR.or sl_list sl_tupA) sl_str
theorem cut_rel {K : PySem.W.Frag} {F : Hp} {ds : List D} {vs : List V} (lo hi : Option Int) (h : RpL K F ds vs) : RpL K F (cutD ds lo hi) (cutV vs lo hi) := by
  unfold cutD cutV
  rw [← h.length]
  exact (h.drop _).take _
theorem se_slice {eo eu : Option Expr} {p2 : Pos} {ml mh : MO} (ha : SE X W a ma) (hl : SP' X W eo ml) (hu : SP' X W eu mh) : SE X W (.Subscript a (.Slice eo eu none p2) pos) (mSl ma ml mh) := pe_imp (pe_slice sl_all ha hl hu) fun σ H Q q => by
  obtain ⟨g, F, sv, hK, rl, q⟩ := q
  refine ⟨g, F, sv, hK, rl, PostG.bind q fun d s1 x F1 H1 e1 rl1 rp1 h1 => ?_⟩
  refine ⟨g, F1, s1, hK, rl1, PostG.bind h1 fun lo s2 lo' F2 H2 e2 rl2 rp2 h2 => ?_⟩
  refine ⟨g, F2, s2, hK, rl2, PostG.bind h2 fun hi s3 hi' F3 H3 e3 rl3 rp3 h3 => ?_⟩
  cases rp2; cases rp3
  have rp : Rp g.K F3 d x := Rp.mono (e2.trans e3) _ _ rp1
  rw [← hK.1]
  have list : ∀ {ds : List D} {p : Addr} {vs : List V}, x = .ref p → SqL g.K H3 p vs → RpL g.K F3 ds vs → PostG X.mx g F3 σ (.ok (.lst (cutD ds lo hi)) s3) W RelE Q → rSlAll g.K x lo hi H3 Q := fun {ds p vs} ex h4 h5 h6 => by
    refine .inl (.inl ⟨p, vs, ex, h4, fun l hl => ?_⟩)
    have sF : Same F3 (upd F3 l (.lst (cutV vs lo hi))) := same_upd (rl3.sub.free hl)
    exact h6 _ _ _ sF (rl3.lay hl) ⟨l, _, rfl, upd_same, RpL.mono sF _ _ (cut_rel lo hi h5)⟩
  cases d with
  | tup ds =>
    obtain ⟨p, vs, rfl, h4, h5⟩ := rp
    have h5' := cut_rel lo hi h5
    refine .inl (.inr ⟨p, vs, rfl, sqT_mono rl3.sub h4, fun w => ?_, fun w l hl => ?_⟩)
    · refine h3 _ F3 H3 (Same.refl F3) rl3 ⟨p, vs, rfl, h4, ?_⟩
      have : cutV vs lo hi = vs := by
        unfold cutV
        rw [w.1, w.2]
        simp
      rwa [this] at h5'
    · have sF : Same F3 (upd F3 l (.tup (cutV vs lo hi))) := same_upd (rl3.sub.free hl)
      exact h3 _ _ _ sF (rl3.lay hl) ⟨l, _, rfl, .inl (.inl upd_same), RpL.mono sF _ _ h5'⟩
  | lst ds =>
    obtain ⟨p, vs, rfl, h4, h5⟩ := rp
    exact list rfl (.inl (.inl (rl3.sub _ _ h4))) h5 h3
  | fl ds =>
    obtain ⟨p, vs, rfl, h4, h5⟩ := rp
    exact list rfl (rl3.sub.seq h4) h5 h3
  | str z =>
    have h3' : PostG X.mx g F3 σ (match dSl (.str z) lo hi with | some r => .ok r s3 | none => .bad) W RelE Q := h3
    simp only [dSl] at h3'
    split at h3'
    · rename_i r hr
      split at hr
      · cases hr
        exact .inr ⟨z, rp, by assumption, h3' _ F3 H3 (Same.refl F3) rl3 rfl⟩
      · cases hr
    · exact False.elim h3'
  | _ => exact False.elim h3

/-! #### arguments, displays -/
def RelL (g : G) (F' _H' : Hp) (_ : L2.St) (_ : SV) (ds : List D) (vs : List V) : Prop := RpL g.K F' ds vs
abbrev SA (X : Cx) (W : WX') (es : List Expr) (m : M (List D)) : Prop := PA X es (tG X.K X.mx W RelL m)
theorem pa_imp {es : List Expr} {t t' : TA} (h : PA X es t) (k : ∀ σ H Q, t' σ H Q → t σ H Q) : PA X es t' := ⟨fun p pins s σ H Q I q => h.run p pins s σ H Q I (k σ H Q q)⟩
def mNil : M (List D) := fun sv => .ok [] sv
def mCons (m : M D) (ms : M (List D)) : M (List D) := fun sv => (m sv).bind fun d s1 => (ms s1).bind fun ds s2 => .ok (d :: ds) s2
variable {es : List Expr} {ms : M (List D)}
theorem sa_nil : SA X W [] mNil := pa_imp pa_nil fun σ H Q q => by
  obtain ⟨g, F, sv, hK, rl, q⟩ := q
  exact q [] F H (Same.refl F) rl rfl
theorem sa_cons (ha : SE X W e m) (hr : SA X W es ms) (hs : starEach (e :: es) X.env = (false, eval e X.env) :: starEach es X.env := by rfl) : SA X W (e :: es) (mCons m ms) := pa_imp (pa_cons ha hr hs) fun σ H Q q => by
  obtain ⟨g, F, sv, hK, rl, q⟩ := q
  refine ⟨g, F, sv, hK, rl, PostG.bind q fun d s1 x F1 H1 e1 rl1 rp1 h1 => ?_⟩
  refine ⟨g, F1, s1, hK, rl1, PostG.bind h1 fun ds s2 xs F2 H2 e2 rl2 rp2 h2 => ?_⟩
  exact h2 _ F2 H2 (Same.refl F2) rl2 ⟨x, xs, rfl, Rp.mono e2 _ _ rp1, rp2⟩
def mTup (ms : M (List D)) : M D := fun sv => (ms sv).bind fun ds s => if ds.length ≤ sizeLine then .ok (.tup ds) s else .bad
def mLst (ms : M (List D)) : M D := fun sv => (ms sv).bind fun ds s => if ds.length ≤ sizeLine then .ok (.lst ds) s else .bad
theorem se_tup {x1} (h : SA X W es ms) : SE X W (.Tuple es x1 pos) (mTup ms) := pe_imp (pe_tup h) fun σ H Q q => by
  obtain ⟨g, F, sv, hK, rl, q⟩ := q
  refine ⟨g, F, sv, hK, rl, PostG.bind q fun ds s1 vs F1 H1 e1 rl1 rp1 h1 => ?_⟩
  split at h1
  · refine ⟨by rw [← RpL.length rp1]; assumption, fun p hp => ?_⟩
    have sF : Same F1 (upd F1 p (.tup vs)) := same_upd (rl1.sub.free hp)
    exact h1 _ _ _ sF (rl1.lay hp) ⟨p, _, rfl, .inl (.inl upd_same), RpL.mono sF _ _ rp1⟩
  · exact False.elim h1
theorem so_lst (h : SA X W es ms) : SO X W (.List es pos) (mLst ms) := pe_imp (pe_lst h) fun σ H Q q => by
  obtain ⟨g, F, sv, hK, rl, q⟩ := q
  refine ⟨g, F, sv, hK, rl, PostG.bind q fun ds s1 vs F1 H1 e1 rl1 rp1 h1 => ?_⟩
  split at h1
  · refine ⟨by rw [← RpL.length rp1]; assumption, fun p hp => ?_⟩
    exact h1 _ _ _ (Same.refl F1) (rl1.layO hp) (rl1.newO hp .lst rp1)
  · exact False.elim h1
instance fl_lst {ms : M (List D)} : Fl (mLst ms) := ⟨fun sv d s h e => by
  unfold mLst at h
  cases hm : ms sv with
  | ok ds s1 =>
    rw [hm] at h
    have h : (if ds.length ≤ sizeLine then R.ok (D.lst ds) s1 else .bad) = .ok d s := h
    split at h <;> cases h
    exact fun z => nomatch z
  | err x s1 => rw [hm] at h; cases h
  | bad => rw [hm] at h; cases h⟩
theorem se_lst (h : SA X W es ms) : SE X W (.List es pos) (mLst ms) := se_of (so_lst h)
/-- xs * k: a new list -/
def dRep : D → D → Option D
  | .lst xs, .int k => if -(2 ^ 63) ≤ k ∧ k < 2 ^ 63 ∧ xs.length * k.toNat ≤ sizeLine then some (.lst (List.replicate k.toNat xs).flatten) else none
  | _, _ => none
theorem rep_rel {K : PySem.W.Frag} {F : Hp} {ds : List D} {vs : List V} (h : RpL K F ds vs) : ∀ n : Nat, RpL K F (List.replicate n ds).flatten (List.replicate n vs).flatten
  | 0 => rfl
  | n + 1 => by
    rw [List.replicate_succ, List.replicate_succ, List.flatten_cons, List.flatten_cons]
    exact h.append (rep_rel h n)
theorem so_rep (ha : SE X W a ma) (hb : SE X W b mb) : SO X W (.BinOp a .Mult b pos) (m2 dRep ma mb) := pe_imp (pe_op op_rep ha hb) fun σ H Q q => by
  obtain ⟨g, F, sv, hK, rl, q⟩ := q
  refine ⟨g, F, sv, hK, rl, PostG.bind q fun d s1 x F1 H1 e1 rl1 rp1 h1 => ?_⟩
  refine ⟨g, F1, s1, hK, rl1, PostG.bind h1 fun d2 s2 y F2 H2 e2 rl2 rp2 h2 => ?_⟩
  cases hd : dRep d d2 with
  | none => rw [hd] at h2; exact False.elim h2
  | some r =>
    rw [hd] at h2
    unfold dRep at hd
    split at hd
    · split at hd
      · rename_i hz
        cases hd
        obtain ⟨p, vs, rfl, h4, h5⟩ := (Rp.mono e2 _ _ rp1 : Rp g.K F2 (.lst _) x)
        refine ⟨p, _, vs, rfl, rp2, rl2.sub _ _ h4, hz.1, hz.2.1, by rw [← h5.length]; exact hz.2.2, fun l hl => ?_⟩
        exact h2 _ _ _ (Same.refl F2) (rl2.layO hl) (rl2.newO hl .lst (rep_rel h5 _))
      · cases hd
    · cases hd
theorem fl_m2 {f : D → D → Option D} {ma mb : M D} (hf : ∀ a b d, f a b = some d → ∀ e, d ≠ .deep e) : Fl (m2 f ma mb) := ⟨fun sv d s h e => by
  unfold m2 at h
  cases hm : ma sv with
  | ok a s1 =>
    rw [hm] at h
    dsimp only [R.bind] at h
    cases hn : mb s1 with
    | ok b s2 =>
      rw [hn] at h
      dsimp only [R.bind] at h
      cases hk : f a b with
      | none => rw [hk] at h; cases h
      | some r => rw [hk] at h; cases h; exact hf a b _ hk e
    | err x s2 => rw [hn] at h; cases h
    | bad => rw [hn] at h; cases h
  | err x s1 => rw [hm] at h; cases h
  | bad => rw [hm] at h; cases h⟩
instance fl_rep {ma mb : M D} : Fl (m2 dRep ma mb) := fl_m2 fun a b d h e => by
  unfold dRep at h
  split at h
  · split at h
    · cases h; exact fun z => nomatch z
    · cases h
  · cases h
theorem se_rep (ha : SE X W a ma) (hb : SE X W b mb) : SE X W (.BinOp a .Mult b pos) (m2 dRep ma mb) := se_of (so_rep ha hb)
end
end VM

set_option Elab.async false
set_option linter.all false
set_option autoImplicit false
set_option maxRecDepth 100000
set_option maxHeartbeats 400000
namespace VM
open PySem PySem.Spec PyProof.Rows L2

/-! ### built-ins called with values -/
def OC (K : PySem.W.Frag) (r : List V → Hp → VK → Prop) (f : List D → Option D) : Prop :=
  ∀ (g : G) (F H : Hp) (σ : L2.St) (sv : SV) (ds : List D) (d : D) (vs : List V) (Q : VK), g.K = K → Rl g F H σ sv → f ds = some d → RpL K F ds vs →
    (∀ v F' H', Same F F' → Rl g F' H' σ sv → Rp K F' d v → Q v H') → r vs H Q
/-- .. whose answer is a new, owned object -/
def OCO (K : PySem.W.Frag) (r : List V → Hp → VK → Prop) (f : List D → Option D) : Prop :=
  ∀ (g : G) (F H : Hp) (σ : L2.St) (sv : SV) (ds : List D) (d : D) (vs : List V) (Q : VK), g.K = K → Rl g F H σ sv → f ds = some d → RpL K F ds vs →
    (∀ v F' H', Same F F' → Rl g F' H' σ sv → RelO' g F' H' σ sv d v → Q v H') → r vs H Q
def mCall1 (f : List D → Option D) (ms : M (List D)) : M D := fun sv => (ms sv).bind fun ds s => match f ds with
  | some d => .ok d s
  | none => .bad
theorem oc_pure {K : PySem.W.Frag} {r : List V → Hp → VK → Prop} {f : List D → Option D} (h : ∀ (F H : Hp) (ds : List D) (d : D) (vs : List V) (Q : VK), Same F H → f ds = some d → RpL K F ds vs → (∀ v, Rp K F d v → Q v H) → r vs H Q) : OC K r f :=
  fun g F H σ sv ds d vs Q _ rl e hv q => h F H ds d vs Q rl.sub e hv fun v rv => q v F H (Same.refl F) rl rv
theorem OC.or {K : PySem.W.Frag} {r r' : List V → Hp → VK → Prop} {f f' : List D → Option D} (h : OC K r f) (h' : OC K r' f') : OC K (fun x H Q => r x H Q ∨ r' x H Q) (fun a => (f a).or (f' a)) := by
  intro g F H σ sv ds d vs Q hK rl e hv q
  dsimp only at e
  cases e1 : f ds with
  | some d' =>
    rw [e1] at e
    cases (show d' = d by simpa using e)
    exact .inl (h g F H σ sv ds d vs Q hK rl e1 hv q)
  | none =>
    rw [e1] at e
    exact .inr (h' g F H σ sv ds d vs Q hK rl (by simpa using e) hv q)
section
variable {X : Cx} {W : WX'} {x : Str} {p pos : Pos} {e : Expr} {es : List Expr} {ms : M (List D)} {id T : String} {r : List V → Hp → VK → Prop} {f : List D → Option D}
theorem tg_call {K : PySem.W.Frag} {mg : MX} (hf : OC K r f) {σ : L2.St} {H : Hp} {Q : VK} (h : tE K mg W (mCall1 f ms) σ H Q) : tCB r (tG K mg W RelL ms) σ H Q := by
  obtain ⟨g, F, sv, hK, rl, h⟩ := h
  refine ⟨g, F, sv, hK, rl, PostG.bind h fun ds s1 vs F1 H1 e1 rl1 rp1 h1 => ?_⟩
  obtain ⟨hK, hMx⟩ := hK; subst hK
  cases hd : f ds with
  | none => rw [hd] at h1; exact False.elim h1
  | some d =>
    rw [hd] at h1
    exact hf g F1 H1 σ s1 ds d vs Q rfl rl1 hd rp1 fun v F' H' e3 rl3 rp3 => h1 v F' H' e3 rl3 rp3
theorem tg_callO {K : PySem.W.Frag} {mg : MX} (hf : OCO K r f) {σ : L2.St} {H : Hp} {Q : VK} (h : tO K mg W (mCall1 f ms) σ H Q) : tCB r (tG K mg W RelL ms) σ H Q := by
  obtain ⟨g, F, sv, hK, rl, h⟩ := h
  refine ⟨g, F, sv, hK, rl, PostG.bind h fun ds s1 vs F1 H1 e1 rl1 rp1 h1 => ?_⟩
  obtain ⟨hK, hMx⟩ := hK; subst hK
  cases hd : f ds with
  | none => rw [hd] at h1; exact False.elim h1
  | some d =>
    rw [hd] at h1
    exact hf g F1 H1 σ s1 ds d vs Q rfl rl1 hd rp1 fun v F' H' e3 rl3 rp3 => h1 v F' H' e3 rl3 rp3
theorem se_callB (hc : CallR X (.builtin id) r) (hf : OC X.K r f) (hg : Gl X x) (hm : X.mg x = none) (hv : bootBuiltins x = some (.builtin id)) (ha : SA X W (e :: es) ms) (hn : x ≠ "__name__" := by decide) (hdb : (x == ("__debug__" : Str)) = false := by decide)
    (h1 : starEach (e :: es) X.env = (false, eval e X.env) :: starEach es X.env := by rfl) (h2 : (backTo pos (starEach es X.env)).any (·.1) = false := by rfl) : SE X W (.Call (.Name x p) (e :: es) [] pos) (mCall1 f ms) :=
  pe_imp (pe_callB hc hg hm hv ha hn hdb h1 h2) fun σ H Q q => tg_call hf q
theorem so_callB (hc : CallR X (.builtin id) r) (hf : OCO X.K r f) (hg : Gl X x) (hm : X.mg x = none) (hv : bootBuiltins x = some (.builtin id)) (ha : SA X W (e :: es) ms) (hn : x ≠ "__name__" := by decide) (hdb : (x == ("__debug__" : Str)) = false := by decide)
    (h1 : starEach (e :: es) X.env = (false, eval e X.env) :: starEach es X.env := by rfl) (h2 : (backTo pos (starEach es X.env)).any (·.1) = false := by rfl) : SO X W (.Call (.Name x p) (e :: es) [] pos) (mCall1 f ms) :=
  pe_imp (pe_callB hc hg hm hv ha hn hdb h1 h2) fun σ H Q q => tg_callO hf q
theorem se_callTy (hc : CallR X (.type T) r) (hf : OC X.K r f) (hg : Gl X x) (hm : X.mg x = none) (hv : bootBuiltins x = some (.type T)) (ha : SA X W (e :: es) ms) (hn : x ≠ "__name__" := by decide) (hdb : (x == ("__debug__" : Str)) = false := by decide)
    (h1 : starEach (e :: es) X.env = (false, eval e X.env) :: starEach es X.env := by rfl) (h2 : (backTo pos (starEach es X.env)).any (·.1) = false := by rfl) : SE X W (.Call (.Name x p) (e :: es) [] pos) (mCall1 f ms) :=
  pe_imp (pe_callTy hc hg hm hv ha hn hdb h1 h2) fun σ H Q q => tg_call hf q
theorem so_callTy (hc : CallR X (.type T) r) (hf : OCO X.K r f) (hg : Gl X x) (hm : X.mg x = none) (hv : bootBuiltins x = some (.type T)) (ha : SA X W (e :: es) ms) (hn : x ≠ "__name__" := by decide) (hdb : (x == ("__debug__" : Str)) = false := by decide)
    (h1 : starEach (e :: es) X.env = (false, eval e X.env) :: starEach es X.env := by rfl) (h2 : (backTo pos (starEach es X.env)).any (·.1) = false := by rfl) : SO X W (.Call (.Name x p) (e :: es) [] pos) (mCall1 f ms) :=
  pe_imp (pe_callTy hc hg hm hv ha hn hdb h1 h2) fun σ H Q q => tg_callO hf q

/-! #### len, int, tuple, list, min, max, sorted, repr -/
def dLen : List D → Option D
  | [.tup xs] => some (.int xs.length)
  | [.lst xs] => some (.int xs.length)
  | [.fl xs] => some (.int xs.length)
  | [.str z] => if z.length ≤ sizeLine then some (.int z.length) else none
  | _ => none
def dInt : List D → Option D
  | [.int i] => some (.int i)
  | [.bl b] => some (.int (if b then 1 else 0))
  | _ => none
def dTuple : List D → Option D
  | [.tup xs] => some (.tup xs)
  | [.lst xs] => some (.tup xs)
  | [.fl xs] => some (.tup xs)
  | _ => none
def dList : List D → Option D
  | [.tup xs] => some (.lst xs)
  | [.lst xs] => some (.lst xs)
  | [.fl xs] => some (.lst xs)
  | _ => none
def dMin2 : List D → Option D
  | [.int i, .int j] => some (.int (if j < i then j else i))
  | _ => none
def dMax2 : List D → Option D
  | [.int i, .int j] => some (.int (if j > i then j else i))
  | _ => none
theorem RpL.one_inv {K : PySem.W.Frag} {F : Hp} {d : D} {vs : List V} (h : RpL K F [d] vs) : ∃ v, vs = [v] ∧ Rp K F d v := by
  obtain ⟨v, r, rfl, h1, rfl⟩ := h
  exact ⟨v, rfl, h1⟩
theorem oc_len {K : PySem.W.Frag} : OC K (fun xs H Q => (∃ p ys, xs = [.ref p] ∧ (SqL K H p ys ∨ SqT K H p ys) ∧ Q (.int ys.length) H) ∨ (∃ z, xs = [.str z] ∧ z.length ≤ sizeLine ∧ Q (.int z.length) H)) dLen := oc_pure fun F H ds d vs Q s e hv q => by
  unfold dLen at e
  split at e
  · cases e
    obtain ⟨v, rfl, p, us, rfl, h1, h2⟩ := hv.one_inv
    exact .inl ⟨p, us, rfl, .inr (sqT_mono s h1), q _ (by rw [← h2.length]; rfl)⟩
  · cases e
    obtain ⟨v, rfl, p, us, rfl, h1, h2⟩ := hv.one_inv
    exact .inl ⟨p, us, rfl, .inl (.inl (.inl (s _ _ h1))), q _ (by rw [← h2.length]; rfl)⟩
  · cases e
    obtain ⟨v, rfl, p, us, rfl, h1, h2⟩ := hv.one_inv
    exact .inl ⟨p, us, rfl, .inl (s.seq h1), q _ (by rw [← h2.length]; rfl)⟩
  · split at e
    · cases e
      obtain ⟨v, rfl, h1⟩ := hv.one_inv
      cases h1
      exact .inr ⟨_, rfl, by assumption, q _ rfl⟩
    · cases e
  · cases e
theorem oc_int {K : PySem.W.Frag} : OC K (fun xs H Q => (∃ i, xs = [V.int i] ∧ Q (.int i) H) ∨ ∃ k, xs = [V.bl k] ∧ Q (.int (if k then 1 else 0)) H) dInt := oc_pure fun F H ds d vs Q s e hv q => by
  unfold dInt at e
  split at e
  · cases e
    obtain ⟨v, rfl, h1⟩ := hv.one_inv
    cases h1
    exact .inl ⟨_, rfl, q _ rfl⟩
  · cases e
    obtain ⟨v, rfl, h1⟩ := hv.one_inv
    cases h1
    exact .inr ⟨_, rfl, q _ rfl⟩
  · cases e
theorem oc_tuple {K : PySem.W.Frag} : OC K (fun xs H Q => ∃ p ys, xs = [V.ref p] ∧ ((SqL K H p ys ∧ ∀ l, H l = none → Q (.ref l) (upd H l (.tup ys))) ∨ (SqT K H p ys ∧ Q (.ref p) H))) dTuple := by
  intro g F H σ sv ds d vs Q hK rl e hv q
  have list : ∀ {xs : List D} {p : Addr} {us : List V}, SqL K H p us → RpL K F xs us → d = .tup xs → ∃ p' ys, [V.ref p] = [V.ref p'] ∧ ((SqL K H p' ys ∧ ∀ l, H l = none → Q (.ref l) (upd H l (.tup ys))) ∨ (SqT K H p' ys ∧ Q (.ref p') H)) := fun {xs p us} h1 h2 ed => by
    subst ed
    refine ⟨p, us, rfl, .inl ⟨h1, fun l hl => ?_⟩⟩
    have sF : Same F (upd F l (.tup us)) := same_upd (rl.sub.free hl)
    exact q _ _ _ sF (rl.lay hl) ⟨l, _, rfl, .inl (.inl upd_same), RpL.mono sF _ _ h2⟩
  unfold dTuple at e
  split at e
  · cases e
    obtain ⟨v, rfl, p, us, rfl, h1, h2⟩ := hv.one_inv
    exact ⟨p, us, rfl, .inr ⟨sqT_mono rl.sub h1, q _ F H (Same.refl F) rl ⟨p, us, rfl, h1, h2⟩⟩⟩
  · cases e
    obtain ⟨v, rfl, p, us, rfl, h1, h2⟩ := hv.one_inv
    exact list (.inl (.inl (rl.sub _ _ h1))) h2 rfl
  · cases e
    obtain ⟨v, rfl, p, us, rfl, h1, h2⟩ := hv.one_inv
    exact list (rl.sub.seq h1) h2 rfl
  · cases e
theorem oc_list {K : PySem.W.Frag} : OCO K (fun xs H Q => ∃ p ys, xs = [V.ref p] ∧ (SqL K H p ys ∨ SqT K H p ys) ∧ ∀ l, H l = none → Q (.ref l) (upd H l (.lst ys))) dList := by
  intro g F H σ sv ds d vs Q hK rl e hv q
  subst hK
  have fin : ∀ {xs : List D} {us : List V}, RpL g.K F xs us → d = .lst xs → ∀ l, H l = none → Q (.ref l) (upd H l (.lst us)) := fun {xs us} h2 ed l hl => by
    subst ed
    exact q _ F _ (Same.refl F) (rl.layO hl) (rl.newO hl .lst h2)
  unfold dList at e
  split at e
  · cases e
    obtain ⟨v, rfl, p, us, rfl, h1, h2⟩ := hv.one_inv
    exact ⟨p, us, rfl, .inr (sqT_mono rl.sub h1), fin h2 rfl⟩
  · cases e
    obtain ⟨v, rfl, p, us, rfl, h1, h2⟩ := hv.one_inv
    exact ⟨p, us, rfl, .inl (.inl (.inl (rl.sub _ _ h1))), fin h2 rfl⟩
  · cases e
    obtain ⟨v, rfl, p, us, rfl, h1, h2⟩ := hv.one_inv
    exact ⟨p, us, rfl, .inl (rl.sub.seq h1), fin h2 rfl⟩
  · cases e
theorem RpL.two_inv {K : PySem.W.Frag} {F : Hp} {d e : D} {vs : List V} (h : RpL K F [d, e] vs) : ∃ v u, vs = [v, u] ∧ Rp K F d v ∧ Rp K F e u := by
  obtain ⟨v, r, rfl, h1, u, r', rfl, h2, rfl⟩ := h
  exact ⟨v, u, rfl, h1, h2⟩
theorem oc_min2 {K : PySem.W.Frag} : OC K (fun xs H Q => ∃ i j, xs = [V.int i, V.int j] ∧ Q (.int (if j < i then j else i)) H) dMin2 := oc_pure fun F H ds d vs Q s e hv q => by
  unfold dMin2 at e
  split at e
  · cases e
    obtain ⟨v, u, rfl, h1, h2⟩ := hv.two_inv
    cases h1; cases h2
    exact ⟨_, _, rfl, q _ rfl⟩
  · cases e
theorem oc_max2 {K : PySem.W.Frag} : OC K (fun xs H Q => ∃ i j, xs = [V.int i, V.int j] ∧ Q (.int (if j > i then j else i)) H) dMax2 := oc_pure fun F H ds d vs Q s e hv q => by
  unfold dMax2 at e
  split at e
  · cases e
    obtain ⟨v, u, rfl, h1, h2⟩ := hv.two_inv
    cases h1; cases h2
    exact ⟨_, _, rfl, q _ rfl⟩
  · cases e
theorem se_len (hg : Gl X "len") (hm : X.mg "len" = none) (ha : SA X W (e :: es) ms)
    (h1 : starEach (e :: es) X.env = (false, eval e X.env) :: starEach es X.env := by rfl) (h2 : (backTo pos (starEach es X.env)).any (·.1) = false := by rfl) : SE X W (.Call (.Name "len" p) (e :: es) [] pos) (mCall1 dLen ms) :=
  se_callB (CallR.or call_len_seq call_len_str) oc_len hg hm PySem.boot_len ha (by decide) (by decide) h1 h2
theorem boot_int' : bootBuiltins "int" = some (.type "int") := by decide +kernel
theorem boot_tuple' : bootBuiltins "tuple" = some (.type "tuple") := by decide +kernel
theorem boot_list' : bootBuiltins "list" = some (.type "list") := by decide +kernel
theorem boot_min' : bootBuiltins "min" = some (.builtin "min") := by decide +kernel
theorem boot_max' : bootBuiltins "max" = some (.builtin "max") := by decide +kernel
theorem boot_sorted' : bootBuiltins "sorted" = some (.builtin "sorted") := by decide +kernel
theorem boot_repr' : bootBuiltins "repr" = some (.builtin "repr") := by decide +kernel
theorem boot_isinstance' : bootBuiltins "isinstance" = some (.builtin "isinstance") := by decide +kernel
theorem se_intc (hg : Gl X "int") (hm : X.mg "int" = none) (ha : SA X W (e :: es) ms)
    (h1 : starEach (e :: es) X.env = (false, eval e X.env) :: starEach es X.env := by rfl) (h2 : (backTo pos (starEach es X.env)).any (·.1) = false := by rfl) : SE X W (.Call (.Name "int" p) (e :: es) [] pos) (mCall1 dInt ms) :=
  se_callTy call_int1 oc_int hg hm boot_int' ha (by decide) (by decide) h1 h2
theorem se_tuplec (hg : Gl X "tuple") (hm : X.mg "tuple" = none) (ha : SA X W (e :: es) ms)
    (h1 : starEach (e :: es) X.env = (false, eval e X.env) :: starEach es X.env := by rfl) (h2 : (backTo pos (starEach es X.env)).any (·.1) = false := by rfl) : SE X W (.Call (.Name "tuple" p) (e :: es) [] pos) (mCall1 dTuple ms) :=
  se_callTy call_tuple_of oc_tuple hg hm boot_tuple' ha (by decide) (by decide) h1 h2
theorem so_listc (hg : Gl X "list") (hm : X.mg "list" = none) (ha : SA X W (e :: es) ms)
    (h1 : starEach (e :: es) X.env = (false, eval e X.env) :: starEach es X.env := by rfl) (h2 : (backTo pos (starEach es X.env)).any (·.1) = false := by rfl) : SO X W (.Call (.Name "list" p) (e :: es) [] pos) (mCall1 dList ms) :=
  so_callTy call_list_of oc_list hg hm boot_list' ha (by decide) (by decide) h1 h2
theorem se_min (hc : X.calm = true) (hg : Gl X "min") (hm : X.mg "min" = none) (ha : SA X W (e :: es) ms)
    (h1 : starEach (e :: es) X.env = (false, eval e X.env) :: starEach es X.env := by rfl) (h2 : (backTo pos (starEach es X.env)).any (·.1) = false := by rfl) : SE X W (.Call (.Name "min" p) (e :: es) [] pos) (mCall1 dMin2 ms) :=
  se_callB (call_min2 hc) oc_min2 hg hm boot_min' ha (by decide) (by decide) h1 h2
theorem se_max (hc : X.calm = true) (hg : Gl X "max") (hm : X.mg "max" = none) (ha : SA X W (e :: es) ms)
    (h1 : starEach (e :: es) X.env = (false, eval e X.env) :: starEach es X.env := by rfl) (h2 : (backTo pos (starEach es X.env)).any (·.1) = false := by rfl) : SE X W (.Call (.Name "max" p) (e :: es) [] pos) (mCall1 dMax2 ms) :=
  se_callB (call_max2 hc) oc_max2 hg hm boot_max' ha (by decide) (by decide) h1 h2

/-- sorted of a list of texts -/
def leS (a b : Str) : Bool := !ltCps b.cps.toList a.cps.toList
def sortS (xs : List Str) : List Str := xs.mergeSort leS
theorem lt_irr : ∀ a : List Nat, ltCps a a = false
  | [] => rfl
  | x :: a => by simp [ltCps, lt_irr a]
theorem lt_tri : ∀ a b : List Nat, ltCps a b = false → ltCps b a = false → a = b
  | [], [], _, _ => rfl
  | [], _ :: _, h, _ => by cases h
  | _ :: _, [], _, h => by cases h
  | x :: a, y :: b, h, h' => by
    simp only [ltCps, Bool.or_eq_false_iff, Bool.and_eq_false_iff, decide_eq_false_iff_not, beq_eq_false_iff_ne] at h h'
    have e : x = y := by omega
    subst e
    have h2 : ltCps a b = false := by rcases h.2 with z | z; exact absurd rfl z; exact z
    have h3 : ltCps b a = false := by rcases h'.2 with z | z; exact absurd rfl z; exact z
    rw [lt_tri a b h2 h3]
theorem lt_trans' : ∀ a b c : List Nat, ltCps a b = true → ltCps b c = true → ltCps a c = true
  | [], [], _, h, _ => by cases h
  | [], _ :: _, [], _, h => by cases h
  | [], _ :: _, _ :: _, _, _ => rfl
  | _ :: _, [], _, h, _ => by cases h
  | _ :: _, _ :: _, [], _, h => by cases h
  | x :: a, y :: b, z :: c, h, h' => by
    simp only [ltCps, Bool.or_eq_true, Bool.and_eq_true, decide_eq_true_eq, beq_iff_eq] at h h' ⊢
    rcases h with h | ⟨h, h2⟩
    · rcases h' with h' | ⟨h', h3⟩
      · exact .inl (by omega)
      · exact .inl (by omega)
    · rcases h' with h' | ⟨h', h3⟩
      · exact .inl (by omega)
      · exact .inr ⟨by omega, lt_trans' a b c h2 h3⟩
theorem le_trans' (a b c : Str) (h : leS a b = true) (h' : leS b c = true) : leS a c = true := by
  unfold leS at *
  simp only [Bool.not_eq_true'] at *
  cases e : ltCps c.cps.toList a.cps.toList with
  | false => rfl
  | true =>
    -- a <= b, b <= c, c < a
    cases e1 : ltCps a.cps.toList b.cps.toList with
    | true =>
      have := lt_trans' _ _ _ e e1
      rw [this] at h'; cases h'
    | false =>
      have := lt_tri _ _ e1 h
      rw [← this, e] at h'; cases h'
theorem le_total' (a b : Str) : (leS a b || leS b a) = true := by
  unfold leS
  cases e : ltCps b.cps.toList a.cps.toList with
  | false => simp
  | true =>
    cases e1 : ltCps a.cps.toList b.cps.toList with
    | false => simp
    | true =>
      have := lt_trans' _ _ _ e e1
      rw [lt_irr] at this; cases this
theorem str_ext {a b : Str} (h : a.cps.toList = b.cps.toList) : a = b := by
  cases a; cases b
  congr 1
  exact Array.ext' h
theorem le_anti (a b : Str) (h : leS a b = true) (h' : leS b a = true) : a = b := by
  unfold leS at *
  simp only [Bool.not_eq_true'] at *
  exact str_ext (lt_tri _ _ h' h)
theorem rising_pw : ∀ (p : Str) (xs : List Str), risingS p xs = true → (∀ x ∈ xs, leS p x = true) ∧ xs.Pairwise fun a b => leS a b = true
  | _, [], _ => ⟨fun _ h => (nomatch h), .nil⟩
  | p, x :: xs, h => by
    simp only [risingS, Bool.and_eq_true] at h
    obtain ⟨h1, h2⟩ := rising_pw x xs h.2
    have hp : leS p x = true := h.1
    exact ⟨fun y hy => by
      rcases List.mem_cons.mp hy with rfl | hy
      · exact hp
      · exact le_trans' _ _ _ hp (h1 y hy), .cons h1 h2⟩
theorem sorted_pw {xs : List Str} (h : sortedS xs = true) : xs.Pairwise fun a b => leS a b = true := by
  cases xs with
  | nil => exact .nil
  | cons x xs =>
    obtain ⟨h1, h2⟩ := rising_pw x xs h
    exact .cons h1 h2
theorem sort_unique {xs ys : List Str} (hp : ys.Perm xs) (hs : sortedS ys = true) : ys = sortS xs := by
  refine List.Perm.eq_of_pairwise (fun a b _ _ h1 h2 => le_anti a b h1 h2) (sorted_pw hs) ?_ (hp.trans (List.mergeSort_perm _ _).symm)
  exact List.pairwise_mergeSort le_trans' le_total' xs
def txts : List D → Option (List Str)
  | [] => some []
  | .str x :: r => (txts r).map (x :: ·)
  | _ => none
def dSorted : List D → Option D
  | [.lst xs] => match txts xs with
    | some ss => if ss.length < 64 then some (.lst ((sortS ss).map .str)) else none
    | none => none
  | _ => none
theorem strs_eq : ∀ {xs : List D} {ss : List Str}, txts xs = some ss → xs = ss.map .str
  | [], ss, h => by cases h; rfl
  | .str x :: r, ss, h => by
    simp only [txts, Option.map_eq_some_iff] at h
    obtain ⟨t, h1, rfl⟩ := h
    rw [strs_eq h1]; rfl
  | .non :: _, _, h => by cases h
  | .bl _ :: _, _, h => by cases h
  | .int _ :: _, _, h => by cases h
  | .tup _ :: _, _, h => by cases h
  | .lst _ :: _, _, h => by cases h
  | .fl _ :: _, _, h => by cases h
  | .dct _ _ :: _, _, h => by cases h
  | .obj _ _ _ :: _, _, h => by cases h
  | .deep _ :: _, _, h => by cases h
  | .own _ :: _, _, h => by cases h
theorem strs_map (ss : List Str) : txts (ss.map .str) = some ss := by
  induction ss with
  | nil => rfl
  | cons x r ih => simp [txts, ih]
theorem rel_strs {K : PySem.W.Frag} {F : Hp} : ∀ {ss : List Str} {vs : List V}, RpL K F (ss.map .str) vs → vs = ss.map .str
  | [], vs, h => by cases h; rfl
  | x :: ss, vs, h => by
    obtain ⟨v, r, rfl, h1, h2⟩ := h
    cases h1
    rw [rel_strs h2]; rfl
theorem strs_rel {K : PySem.W.Frag} {F : Hp} : ∀ (ss : List Str), RpL K F (ss.map .str) (ss.map .str)
  | [] => rfl
  | x :: ss => ⟨_, _, rfl, rfl, strs_rel ss⟩
theorem oc_sorted {K : PySem.W.Frag} : OCO K (rSortedS K) dSorted := by
  intro g F H σ sv ds d vs Q hK rl e hv q
  subst hK
  unfold dSorted at e
  split at e
  · split at e
    · rename_i xs ss hs
      split at e
      · rename_i hz
        cases e
        obtain ⟨v, rfl, p, us, rfl, h1, h2⟩ := hv.one_inv
        have ex := strs_eq hs
        subst ex
        have eu := rel_strs h2
        subst eu
        refine ⟨p, ss, rfl, .inl (.inl (rl.sub _ _ h1)), hz, fun ys l hp hso hl => ?_⟩
        have ey := sort_unique hp hso
        subst ey
        exact q _ F _ (Same.refl F) (rl.layO hl) (rl.newO hl .lst (strs_rel _))
      · cases e
    · cases e
  · cases e
theorem so_sorted (hg : Gl X "sorted") (hm : X.mg "sorted" = none) (ha : SA X W (e :: es) ms)
    (h1 : starEach (e :: es) X.env = (false, eval e X.env) :: starEach es X.env := by rfl) (h2 : (backTo pos (starEach es X.env)).any (·.1) = false := by rfl) : SO X W (.Call (.Name "sorted" p) (e :: es) [] pos) (mCall1 dSorted ms) :=
  so_callB cr_sortedS oc_sorted hg hm boot_sorted' ha (by decide) (by decide) h1 h2

/-- repr of data -/
def reprOk (q : PyData) : Bool := q.showable && !q.hasDict && decide (q.depth ≤ 60) && decide (q.shown.length ≤ sizeLine)
def dRepr : List D → Option D
  | [d] => match py d with
    | some q => if reprOk q = true then some (.str q.shown) else none
    | none => none
  | _ => none
def rRepr (K : PySem.W.Frag) : List V → Hp → VK → Prop := fun xs H Q => ∃ v d, xs = [v] ∧ Dp K H v d ∧ reprOk d = true ∧ Q (.str d.shown) H
theorem call_repr (hu : X.A.units + 64 < cLine) (hg : X.A.guards = some []) : CallR X (.builtin "repr") (rRepr X.K) := by
  intro pins s σ H xs us Q I r h
  obtain ⟨v, d, rfl, hd, hok, q⟩ := h
  unfold reprOk at hok
  simp only [Bool.and_eq_true, Bool.not_eq_true', decide_eq_true_eq] at hok
  obtain ⟨⟨⟨o1, o2⟩, o3⟩, o4⟩ := hok
  obtain ⟨u, rfl, ru⟩ := vals1 r
  cases hd with
  | non =>
    cases ru
    exact PySem.P.repr_of_none ⟨.str _, H, I.tok _, ⟨_, rfl⟩, by simpa only [PyData.shown] using q⟩
  | bl b =>
    cases ru
    refine PySem.P.repr_of_bool ⟨.str _, H, I.tok _, ⟨_, rfl⟩, by simpa only [PyData.shown] using q⟩
  | int i =>
    obtain ⟨t, rfl⟩ := ru
    refine PySem.P.repr_of_int (by simpa [PyData.showable] using o1) ⟨.str _, H, I.tok _, ⟨_, rfl⟩, by simpa only [PyData.shown] using q⟩
  | str x =>
    obtain ⟨t, rfl⟩ := ru
    refine PySem.P.repr_of_str ⟨.str _, H, I.tok _, ⟨_, rfl⟩, by simpa only [PyData.shown] using q⟩ (by simpa only [PyData.shown] using o4)
  | @lst a xs ds hs ha =>
    cases ru
    obtain ⟨as, rd⟩ := Dp.reads I (.list ds) (.ref a) (.ref a) (.lst hs ha) rfl
    exact repr_of_reads' rd o1 (PyData.noDict_hsm o2) hg (by omega) (fun _ _ e => e) (fun h' u tk hk => ⟨.str _, H, I.kept hk, ⟨_, rfl⟩, q⟩) o4
  | @tup a xs ds hs ha =>
    cases ru
    obtain ⟨as, rd⟩ := Dp.reads I (.tuple ds) (.ref a) (.ref a) (.tup hs ha) rfl
    exact repr_of_reads' rd o1 (PyData.noDict_hsm o2) hg (by omega) (fun _ _ e => e) (fun h' u tk hk => ⟨.str _, H, I.kept hk, ⟨_, rfl⟩, q⟩) o4
theorem oc_repr {K : PySem.W.Frag} : OC K (rRepr K) dRepr := oc_pure fun F H ds d vs Q s e hv q => by
  unfold dRepr at e
  split at e
  · rename_i d0
    split at e
    · rename_i q0 hq
      split at e
      · rename_i hok
        cases e
        obtain ⟨v, rfl, h1⟩ := hv.one_inv
        exact ⟨v, q0, rfl, dp_of s d0 v q0 h1 hq, hok, q _ rfl⟩
      · cases e
    · cases e
  · cases e
theorem se_repr (hu : X.A.units + 64 < cLine) (hgd : X.A.guards = some []) (hg : Gl X "repr") (hm : X.mg "repr" = none) (ha : SA X W (e :: es) ms)
    (h1 : starEach (e :: es) X.env = (false, eval e X.env) :: starEach es X.env := by rfl) (h2 : (backTo pos (starEach es X.env)).any (·.1) = false := by rfl) : SE X W (.Call (.Name "repr" p) (e :: es) [] pos) (mCall1 dRepr ms) :=
  se_callB (call_repr hu hgd) oc_repr hg hm boot_repr' ha (by decide) (by decide) h1 h2

/-! #### isinstance -/
def tn : D → String
  | .non => "NoneType"
  | .bl _ => "bool"
  | .int _ => "int"
  | .str _ => "str"
  | .tup _ => "tuple"
  | .lst _ => "list"
  | .fl _ => "list"
  | .dct _ _ => "dict"
  | .obj _ _ _ => "object"
  | .deep _ => ""
  | .own _ => ""
theorem tyX_of {K : PySem.W.Frag} {F H : Hp} {d : D} {v : V} (s : Same F H) (h : Rp K F d v) (ho : ∀ c ns xs, d ≠ .obj c ns xs) : TyX K H v (.type (tn d)) := by
  have sqt : ∀ {a : Addr} {xs : List V}, SqT K H a xs → TyX K H (.ref a) (.type "tuple") := fun {a xs} h => by
    rcases h with (h | ⟨o, h⟩) | ⟨o, its, n, h1, h2, _⟩
    · exact .base (.tup h)
    · exact .fTuple h
    · exact .kTuple h1 h2
  cases d with
  | non => cases h; exact .base .non
  | bl b => cases h; exact .base (.bl b)
  | int i => cases h; exact .base (.int i)
  | str x => cases h; exact .base (.str x)
  | tup ds =>
    obtain ⟨a, vs, rfl, h1, h2⟩ := h
    exact sqt (sqT_mono s h1)
  | lst ds =>
    obtain ⟨a, vs, rfl, h1, h2⟩ := h
    exact .base (.lst (s _ _ h1))
  | fl ds =>
    obtain ⟨a, vs, rfl, h1, h2⟩ := h
    rcases s.seq h1 with (h | ⟨o, h⟩) | ⟨o, its, n, h1, h2, _⟩
    · exact .base (.lst h)
    · exact .base (.frz h)
    · exact .kList h1 h2
  | dct ks ds =>
    obtain ⟨a, kvs, rfl, h1, _⟩ := h
    exact .base (.dK (s _ _ h1))
  | obj c ns ds => exact absurd rfl (ho _ _ _)
  | deep _ => exact False.elim h
  | own _ => exact False.elim h
def isi (T : String) : D → Option D
  | .obj _ _ _ => none
  | d => (kitB (tn d) T).map .bl
theorem isi_of {T : String} {d r : D} (h : isi T d = some r) : (∀ c ns xs, d ≠ .obj c ns xs) ∧ ∃ b, kitB (tn d) T = some b ∧ r = .bl b := by
  unfold isi at h
  split at h
  · cases h
  · rename_i hn
    obtain ⟨b, hb, rfl⟩ := Option.map_eq_some_iff.mp h
    exact ⟨fun c ns xs z => hn c ns xs z, b, hb, rfl⟩
theorem se_isi {T : String} {y : Str} {py : Pos} {m : M D} (hg : Gl X "isinstance") (hm : X.mg "isinstance" = none) (hgT : Gl X y) (hmT : X.mg y = none) (hvT : bootBuiltins y = some (.type T)) (ha : SE X W e m) (hn : y ≠ "__name__" := by decide) (hdb : (y == ("__debug__" : Str)) = false := by decide)
    (h1 : starEach [e, .Name y py] X.env = (false, eval e X.env) :: starEach [.Name y py] X.env := by rfl) (h2 : (backTo pos (starEach [.Name y py] X.env)).any (·.1) = false := by rfl) :
    SE X W (.Call (.Name "isinstance" p) [e, .Name y py] [] pos) (m1 (isi T) m) :=
  pe_imp (pe_callB call_isi hg hm boot_isinstance' (pa_cons ha (pa_cons (pe_bltn (v := .ty T) hgT hmT hvT rfl hn hdb) pa_nil) h1) (by decide) (by decide) h1 h2) fun σ H Q q => by
    obtain ⟨g, F, sv, hK, rl, q⟩ := q
    refine ⟨g, F, sv, hK, rl, PostG.bind q fun d s1 v F1 H1 e1 rl1 rp1 h1 => ?_⟩
    rw [← hK.1]
    cases hd : isi T d with
    | none => rw [hd] at h1; exact False.elim h1
    | some r =>
      rw [hd] at h1
      obtain ⟨ho, b, hb, rfl⟩ := isi_of hd
      exact ⟨v, .ty T, .type (tn d), .type T, b, rfl, .ty T, tyX_of rl1.sub rp1 ho, kit_ty hb, h1 _ F1 H1 (Same.refl F1) rl1 rfl⟩
end
end VM

set_option Elab.async false
set_option linter.all false
set_option autoImplicit false
set_option maxRecDepth 100000
set_option maxHeartbeats 400000
namespace VM
open PySem PySem.Spec PyProof.Rows L2

/-! ### statements -/
inductive O where
  | nx (s : SV) | rt (d : D) (s : SV) | ro (d : D) (s : SV) | bk (s : SV) | ct (s : SV) | err (x : Exn) (s : SV) | bad
abbrev MS := SV → O

def PostS (mg : MX) (g : G) (F : Hp) (o : O) (W : WX') (Dn : Ends) : Prop := match o with
  | .nx sv' => ∀ σ' F' H', Same F F' → Rl g F' H' σ' sv' → Dn.nx σ' H'
  | .rt d sv' => ∀ v σ' F' H', Same F F' → Rl g F' H' σ' sv' → Rp g.K F' d v → Dn.rt v H'
  | .ro d sv' => ∀ v σ' F' H', Same F F' → Rl g F' H' σ' sv' → RelO' g F' H' σ' sv' d v → Dn.rt v H'
  | .bk sv' => ∀ σ' F' H', Same F F' → Rl g F' H' σ' sv' → Dn.bk σ' H'
  | .ct sv' => ∀ σ' F' H', Same F F' → Rl g F' H' σ' sv' → Dn.ct σ' H'
  | .err x sv' => ∀ cls dd σ' F' H', Same F F' → Rl g F' H' σ' sv' → ErrOk g.K mg.mg F' x cls dd → W cls dd σ' H'
  | .bad => False
def tS (K : PySem.W.Frag) (mg : MX) (W : WX') (m : MS) : TS := fun Dn σ H => ∃ g F sv, (g.K = K ∧ g.mx = mg) ∧ Rl g F H σ sv ∧ PostS mg g F (m sv) W Dn
abbrev SS (X : Cx) (W : WX') (st : Stmt) (m : MS) : Prop := PS X st (tS X.K X.mx W m)
abbrev SSs (X : Cx) (W : WX') (sts : List Stmt) (m : MS) : Prop := PSs X sts (tS X.K X.mx W m)
theorem ps_imp {X : Cx} {st : Stmt} {t t' : TS} (h : PS X st t) (k : ∀ Dn σ H, t' Dn σ H → t Dn σ H) : PS X st t' := ⟨fun pins s σ H Dn I q => h.run pins s σ H Dn I (k Dn σ H q)⟩
theorem pss_imp {X : Cx} {st : List Stmt} {t t' : TS} (h : PSs X st t) (k : ∀ Dn σ H, t' Dn σ H → t Dn σ H) : PSs X st t' := ⟨fun pins s σ H Dn I q => h.run pins s σ H Dn I (k Dn σ H q)⟩
theorem PostS.mono {mg : MX} {g : G} {F F1 : Hp} {o : O} {W : WX'} {Dn : Ends} (h : PostS mg g F o W Dn) (e : Same F F1) : PostS mg g F1 o W Dn := by
  cases o with
  | nx s => exact fun σ' F' H' e1 => h σ' F' H' (e.trans e1)
  | rt d s => exact fun v σ' F' H' e1 => h v σ' F' H' (e.trans e1)
  | ro d s => exact fun v σ' F' H' e1 => h v σ' F' H' (e.trans e1)
  | bk s => exact fun σ' F' H' e1 => h σ' F' H' (e.trans e1)
  | ct s => exact fun σ' F' H' e1 => h σ' F' H' (e.trans e1)
  | err x s => exact fun c d σ' F' H' e1 => h c d σ' F' H' (e.trans e1)
  | bad => exact h
/-- an expression, then a statement -/
def mBind {α : Type} (m : M α) (k : α → SV → O) : MS := fun sv => match m sv with
  | .ok a s => k a s
  | .err x s => .err x s
  | .bad => .bad
theorem PostS.bind {α β : Type} {mg : MX} {g : G} {F H : Hp} {σ : L2.St} {m : M α} {sv : SV} {k : α → SV → O} {W : WX'} {Rel1 : G → Hp → Hp → L2.St → SV → α → β → Prop} {Dn : Ends} {Q1 : β → Hp → Prop}
    (h : PostS mg g F (mBind m k sv) W Dn)
    (kk : ∀ a sv1 b F1 H1, Same F F1 → Rl g F1 H1 σ sv1 → Rel1 g F1 H1 σ sv1 a b → PostS mg g F1 (k a sv1) W Dn → Q1 b H1) : PostG mg g F σ (m sv) W Rel1 Q1 := by
  unfold mBind at h
  cases hm : m sv with
  | ok a s =>
    rw [hm] at h
    exact fun b F1 H1 e rl rel => kk a s b F1 H1 e rl rel (h.mono e)
  | err x s =>
    rw [hm] at h
    exact fun c d F1 H1 e rl er => h c d σ F1 H1 e rl er
  | bad => rw [hm] at h; exact h

section
variable {X : Cx} {W : WX'} {a b e : Expr} {st : Stmt} {sts body orelse : List Stmt} {pos : Pos} {m : M D} {mt : M Bool} {ms mu : MS}
def mSkip : MS := fun sv => .nx sv
def mSeq (a b : MS) : MS := fun sv => match a sv with
  | .nx s => b s
  | o => o
theorem ss_nil : SSs X W [] mSkip := pss_imp pss_nil fun Dn σ H q => by
  obtain ⟨g, F, sv, hK, rl, q⟩ := q
  exact q σ F H (Same.refl F) rl
theorem ss_one (h : SS X W st ms) : SSs X W [st] ms := pss_one h
theorem ss_cons (h : SS X W st ms) (hr : SSs X W sts mu) : SSs X W (st :: sts) (mSeq ms mu) := pss_imp (pss_cons h hr) fun Dn σ H q => by
  obtain ⟨g, F, sv, hK, rl, q⟩ := q
  refine ⟨g, F, sv, hK, rl, ?_⟩
  revert q
  unfold mSeq
  cases ms sv with
  | nx s => exact fun q σ' F' H' e1 rl1 => ⟨g, F', s, hK, rl1, q.mono e1⟩
  | rt d s => exact fun q => q
  | ro d s => exact fun q => q
  | bk s => exact fun q => q
  | ct s => exact fun q => q
  | err x s => exact fun q => q
  | bad => exact fun q => q
theorem ss_pass : SS X W (.Pass pos) mSkip := ps_imp ps_pass fun Dn σ H q => by
  obtain ⟨g, F, sv, hK, rl, q⟩ := q
  exact q σ F H (Same.refl F) rl
theorem ss_break : SS X W (.Break pos) (fun sv => .bk sv) := ps_imp ps_break fun Dn σ H q => by
  obtain ⟨g, F, sv, hK, rl, q⟩ := q
  exact q σ F H (Same.refl F) rl
theorem ss_continue : SS X W (.Continue pos) (fun sv => .ct sv) := ps_imp ps_continue fun Dn σ H q => by
  obtain ⟨g, F, sv, hK, rl, q⟩ := q
  exact q σ F H (Same.refl F) rl
/-- a statement that is never reached -/
theorem ss_never : SS X W st (fun _ => .bad) := ps_imp ps_never fun Dn σ H q => by
  obtain ⟨g, F, sv, hK, rl, q⟩ := q
  exact q
def mDrop (m : M D) : MS := mBind m fun _ s => .nx s
theorem ss_expr (h : SE X W e m) (hs : swapsWith e none pos.line X.env = pure false := by rfl) : SS X W (.Expr e pos) (mDrop m) := ps_imp (ps_expr h hs) fun Dn σ H q => by
  obtain ⟨g, F, sv, hK, rl, q⟩ := q
  exact ⟨g, F, sv, hK, rl, PostS.bind (H := H) q fun d s v F1 H1 e1 rl1 rp1 h1 => h1 σ F1 H1 (Same.refl F1) rl1⟩
def mRet (m : M D) : MS := mBind m fun d s => .rt d s
def mRetO (m : M D) : MS := mBind m fun d s => .ro d s
theorem ss_ret (h : SE X W e m) : SS X W (.Return (some e) pos) (mRet m) := ps_imp (ps_ret h) fun Dn σ H q => by
  obtain ⟨g, F, sv, hK, rl, q⟩ := q
  exact ⟨g, F, sv, hK, rl, PostS.bind (H := H) q fun d s v F1 H1 e1 rl1 rp1 h1 => h1 v σ F1 H1 (Same.refl F1) rl1 rp1⟩
theorem ss_retO (h : SO X W e m) : SS X W (.Return (some e) pos) (mRetO m) := ps_imp (ps_ret h) fun Dn σ H q => by
  obtain ⟨g, F, sv, hK, rl, q⟩ := q
  exact ⟨g, F, sv, hK, rl, PostS.bind (H := H) q fun d s v F1 H1 e1 rl1 rp1 h1 => h1 v σ F1 H1 (Same.refl F1) rl1 rp1⟩
theorem ss_retN : SS X W (.Return none pos) (fun sv => .rt .non sv) := ps_imp ps_retN fun Dn σ H q => by
  obtain ⟨g, F, sv, hK, rl, q⟩ := q
  exact q .non σ F H (Same.refl F) rl rfl
def mIfS (t : M Bool) (a b : MS) : MS := mBind t fun c s => if c = true then a s else b s
theorem ss_if {c : Expr} (hc : ST X W c mt) (ha : SSs X W body ms) (hb : SSs X W orelse mu) : SS X W (.If c body orelse pos) (mIfS mt ms mu) := ps_imp (ps_if hc ha hb) fun Dn σ H q => by
  obtain ⟨g, F, sv, hK, rl, q⟩ := q
  refine ⟨g, F, sv, hK, rl, PostS.bind (H := H) q fun c s c' F1 H1 e1 rl1 rp1 h1 => ?_⟩
  cases rp1
  cases c with
  | true => exact ⟨g, F1, s, hK, rl1, h1⟩
  | false => exact ⟨g, F1, s, hK, rl1, h1⟩

/-! #### targets -/
abbrev MT := D → SV → Option SV
/-- the slots outside of some are as they were -/
def Agree (is : List Nat) (σ σ' : L2.St) : Prop := σ'.length = σ.length ∧ ∀ j, j ∉ is → σ'[j]? = σ[j]?
theorem Agree.refl (is : List Nat) (σ : L2.St) : Agree is σ σ := ⟨rfl, fun _ _ => rfl⟩
theorem Agree.trans {is js : List Nat} {σ σ1 σ2 : L2.St} (a : Agree is σ σ1) (b : Agree js σ1 σ2) : Agree (is ++ js) σ σ2 := ⟨b.1.trans a.1, fun j h => (b.2 j fun z => h (List.mem_append_right _ z)).trans (a.2 j fun z => h (List.mem_append_left _ z))⟩
def tGt (K : PySem.W.Frag) (is : List Nat) (mt : MT) : TG := fun v σ H Q => ∃ g F sv d sv', g.K = K ∧ Rl g F H σ sv ∧ Rp K F d v ∧ mt d sv = some sv' ∧ ∀ σ', Rl g F H σ' sv' → Agree is σ σ' → Q σ' H
def tGts (K : PySem.W.Frag) (is : List Nat) (mt : List D → SV → Option SV) : TGs := fun vs σ H Q => ∃ g F sv ds sv', g.K = K ∧ Rl g F H σ sv ∧ RpL K F ds vs ∧ mt ds sv = some sv' ∧ ∀ σ', Rl g F H σ' sv' → Agree is σ σ' → Q σ' H
abbrev SG (X : Cx) (tg : Expr) (is : List Nat) (mt : MT) : Prop := PG X tg (tGt X.K is mt)
abbrev SGs (X : Cx) (tgs : List Expr) (is : List Nat) (mt : List D → SV → Option SV) : Prop := PGs X tgs (tGts X.K is mt)
def mtN (i : Nat) : MT := fun d sv => some (sv.set i (.pl d))
def mtNil : List D → SV → Option SV := fun ds sv => match ds with
  | [] => some sv
  | _ => none
def mtCons (t : MT) (u : List D → SV → Option SV) : List D → SV → Option SV := fun ds sv => match ds with
  | d :: ds => (t d sv).bind fun s => u ds s
  | [] => none
def mtTup (n : Nat) (u : List D → SV → Option SV) : MT := fun d sv => match d with
  | .tup ds => if ds.length = n then u ds sv else none
  | _ => none
theorem pg_imp {tg : Expr} {t t' : TG} (h : PG X tg t) (k : ∀ v σ H Q, t' v σ H Q → t v σ H Q) : PG X tg t' := ⟨fun pins s σ H v u Q I r q => h.run pins s σ H v u Q I r (k v σ H Q q)⟩
theorem pgs_imp {tg : List Expr} {t t' : TGs} (h : PGs X tg t) (k : ∀ v σ H Q, t' v σ H Q → t v σ H Q) : PGs X tg t' := ⟨fun pins s σ H v u Q I r q => h.run pins s σ H v u Q I r (k v σ H Q q)⟩
theorem sg_name {i : Nat} {x : Str} {pos : Pos} (h : PG X (.Name x pos) (gName i)) : SG X (.Name x pos) [i] (mtN i) := pg_imp h fun v σ H Q q => by
  obtain ⟨g, F, sv, d, sv', hK, rl, rp, e, q⟩ := q
  cases e
  exact q _ (rl.setPl i (by rw [hK]; exact rp)) ⟨by simp, fun j hj => List.getElem?_set_ne (fun z => hj (by simp [z]))⟩
theorem sgs_nil : SGs X [] [] mtNil := pgs_imp pgs_nil fun v σ H Q q => by
  obtain ⟨g, F, sv, ds, sv', hK, rl, rp, e, q⟩ := q
  cases ds with
  | nil => cases e; exact ⟨rp, q σ rl (Agree.refl _ _)⟩
  | cons d ds => cases e
theorem sgs_cons {tg : Expr} {tgs : List Expr} {is js : List Nat} {t : MT} {u : List D → SV → Option SV} (h1 : SG X tg is t) (h2 : SGs X tgs js u) (hs : PGs X (tg :: tgs) (gCons (tGt X.K is t) (tGts X.K js u)) := by exact pgs_cons (by assumption) (by assumption)) : SGs X (tg :: tgs) (is ++ js) (mtCons t u) := pgs_imp hs fun vs σ H Q q => by
  obtain ⟨g, F, sv, ds, sv', hK, rl, rp, e, q⟩ := q
  cases ds with
  | nil => cases e
  | cons d ds =>
    obtain ⟨v, r, rfl, r1, r2⟩ := rp
    simp only [mtCons, Option.bind_eq_some_iff] at e
    obtain ⟨s, e1, e2⟩ := e
    exact ⟨v, r, rfl, g, F, sv, d, s, hK, rl, r1, e1, fun σ' rl' a => ⟨g, F, s, ds, sv', hK, rl', r2, e2, fun σ2 rl2 b => q σ2 rl2 (a.trans b)⟩⟩
theorem sg_tup {es : List Expr} {k n : Nat} {is : List Nat} {u : List D → SV → Option SV} {pos : Pos} (hp : PG X (.Tuple es k pos) (gTup X.K n (tGts X.K is u))) : SG X (.Tuple es k pos) is (mtTup n u) := pg_imp hp fun v σ H Q q => by
  obtain ⟨g, F, sv, d, sv', hK, rl, rp, e, q⟩ := q
  unfold mtTup at e
  split at e
  · split at e
    · obtain ⟨a, vs, rfl, h1, h2⟩ := rp
      exact ⟨a, vs, rfl, sqT_mono rl.sub h1, by rw [← h2.length]; assumption, g, F, sv, _, sv', hK, rl, h2, e, q⟩
    · cases e
  · cases e

/-! #### assignments -/
def mAsg (i : Nat) (m : M D) : MS := mBind m fun d s => .nx (s.set i (.pl d))
def mAsgO (i : Nat) (m : M D) : MS := mBind m fun d s => .nx (s.set i (.ow d))
def mAsgT (t : MT) (m : M D) : MS := mBind m fun d s => match t d s with
  | some s' => .nx s'
  | none => .bad
theorem ss_set {i : Nat} {x : Str} {pos' : Pos} (h : ∀ te, PE X e te → PS X (.Assign [.Name x pos'] e pos) (tAsg te (gName i))) (he : SE X W e m) : SS X W (.Assign [.Name x pos'] e pos) (mAsg i m) := ps_imp (h _ he) fun Dn σ H q => by
  obtain ⟨g, F, sv, hK, rl, q⟩ := q
  exact ⟨g, F, sv, hK, rl, PostS.bind (H := H) q fun d s v F1 H1 e1 rl1 rp1 h1 => h1 _ F1 H1 (Same.refl F1) (rl1.setPl i rp1)⟩
theorem ss_setO {i : Nat} {x : Str} {pos' : Pos} (h : ∀ te, PE X e te → PS X (.Assign [.Name x pos'] e pos) (tAsg te (gName i))) (he : SO X W e m) : SS X W (.Assign [.Name x pos'] e pos) (mAsgO i m) := ps_imp (h _ he) fun Dn σ H q => by
  obtain ⟨g, F, sv, hK, rl, q⟩ := q
  refine ⟨g, F, sv, hK, rl, PostS.bind (H := H) q fun d s v F1 H1 e1 rl1 rp1 h1 => ?_⟩
  obtain ⟨p, rfl, nf, o, nr⟩ := rp1
  exact h1 _ F1 H1 (Same.refl F1) (rl1.setOw i nf o nr)
theorem ss_asgT {tg : Expr} {is : List Nat} {t : MT} (h : ∀ te g, PE X e te → PG X tg g → PS X (.Assign [tg] e pos) (tAsg te g)) (he : SE X W e m) (hg : SG X tg is t) : SS X W (.Assign [tg] e pos) (mAsgT t m) := ps_imp (h _ _ he hg) fun Dn σ H q => by
  obtain ⟨g, F, sv, hK, rl, q⟩ := q
  refine ⟨g, F, sv, hK, rl, PostS.bind (H := H) q fun d s v F1 H1 e1 rl1 rp1 h1 => ?_⟩
  cases ht : t d s with
  | none => rw [ht] at h1; exact False.elim h1
  | some s' =>
    rw [ht] at h1
    exact ⟨g, F1, s, d, s', hK.1, rl1, hK.1 ▸ rp1, ht, fun σ' rl' _ => h1 σ' F1 H1 (Same.refl F1) rl'⟩
end

/-! #### what a slot owns is changed -/
/-- the slot's own object, with new content -/
def reSl : Sl → D → Option Sl
  | .ow _, d => some (.ow d)
  | .io k _, d => some (.io k d)
  | _, _ => none
theorem Rl.alt {g : G} {F H F' H' : Hp} {σ : L2.St} {sv : SV} (r : Rl g F H σ sv) {i : Nat} {p : Addr} {s s' : Sl} {d d' : D} (hs : sv[i]? = some s) (hd : slD s = some d) (hs' : reSl s d' = some s') (hp : σ[i]? = some (some (.ref p)))
    (s2 : Same F' H') (kH : Same g.pH H') (kF : ∀ a, g.fx a → F' a = F a) (fxH : ∀ a, g.fx a → H' a ≠ none) (sF : Same F F') (oF : ∀ j a, j ≠ i → Ref g.K H σ sv j a → F' a = none ∧ H' a = H a) (ho : OwnP g.K F' H' d' p)
    (hf : ∀ a, Ft g.K H' d' p a → Ft g.K H d p a ∨ (¬ g.fx a ∧ ∀ j, ¬ Ref g.K H σ sv j a)) : Rl g F' H' σ (sv.set i s') := by
  have hi : i < sv.length := (List.getElem?_eq_some_iff.mp hs).1
  have rr : ∀ j a, Ref g.K H' σ (sv.set i s') j a → (j = i ∧ Ft g.K H' d' p a) ∨ (j ≠ i ∧ Ref g.K H σ sv j a) := fun j a hr => by
    by_cases h : i = j
    · subst h
      obtain ⟨t, e, q, e1, e2, e3, e4⟩ := hr
      rw [List.getElem?_set_self hi] at e1
      cases e1
      rw [hp] at e3; cases e3
      cases s with
      | ow d0 => cases hs'; cases e2; exact .inl ⟨rfl, e4⟩
      | io k d0 => cases hs'; cases e2; exact .inl ⟨rfl, e4⟩
      | _ => cases hd
    · refine .inr ⟨Ne.symm h, ?_⟩
      have h2 : Ref g.K H' σ sv j a := by
        obtain ⟨t, e, q, e1, e2, e3, e4⟩ := hr
        rw [List.getElem?_set_ne h] at e1
        exact ⟨t, e, q, e1, e2, e3, e4⟩
      exact h2.from fun b hb => (oF j b (Ne.symm h) hb).2
  refine ⟨s2, kH, fun a ha => (kF a ha).trans (r.kF a ha), fxH, r.pf, r.ion, by simp [r.len], fun j t e => ?_, fun j k a x y => ?_⟩
  · by_cases h : i = j
    · subst h
      rw [List.getElem?_set_self hi] at e
      cases e
      have q := r.sl i s hs
      cases s with
      | ow d0 =>
        cases hs'; cases hd
        obtain ⟨p', e1, nf, _⟩ := q
        rw [hp] at e1; cases e1
        refine ⟨p, hp, fun a ha => ?_, ho⟩
        rcases hf a ha with h1 | h1
        · exact nf a h1
        · exact h1.1
      | io k d0 =>
        cases hs'; cases hd
        obtain ⟨p', e1, nf, np, _⟩ := q
        rw [hp] at e1; cases e1
        refine ⟨p, hp, nf, fun a ha => ?_, ho⟩
        rcases hf a ha with h1 | h1
        · exact np a h1
        · cases hh : g.pH a with
          | none => rfl
          | some x => exact absurd (r.pf _ _ hh) h1.1
      | _ => cases hd
    · rw [List.getElem?_set_ne h] at e
      exact SlOk.move r e sF (fun a ha => (oF j a (Ne.symm h) ha).1) fun a ha => (oF j a (Ne.symm h) ha).2
  · have own : ∀ a, Ft g.K H d p a → Ref g.K H σ sv i a := fun a ha => ⟨s, d, p, hs, hd, hp, ha⟩
    rcases rr j a x with ⟨rfl, h1⟩ | ⟨h1, h2⟩
    · rcases rr k a y with ⟨rfl, _⟩ | ⟨h3, h4⟩
      · rfl
      · rcases hf a h1 with h5 | h5
        · exact r.dj _ _ a (own a h5) h4
        · exact absurd h4 (h5.2 k)
    · rcases rr k a y with ⟨rfl, h3⟩ | ⟨h3, h4⟩
      · rcases hf a h3 with h5 | h5
        · exact r.dj _ _ a h2 (own a h5)
        · exact absurd h2 (h5.2 j)
      · exact r.dj j k a h2 h4
/-- an object among those that slot i has for itself is changed -/
theorem Rl.put {g : G} {F H : Hp} {σ : L2.St} {sv : SV} (r : Rl g F H σ sv) {i : Nat} {p b : Addr} {s s' : Sl} {d d' : D} {o' : HO} (hs : sv[i]? = some s) (hd : slD s = some d) (hs' : reSl s d' = some s') (hp : σ[i]? = some (some (.ref p)))
    (hb : Ft g.K H d p b) (ho : OwnP g.K F (upd H b o') d' p) (hf : ∀ a, Ft g.K (upd H b o') d' p a → Ft g.K H d p a ∨ (¬ g.fx a ∧ ∀ j, ¬ Ref g.K H σ sv j a)) : Rl g F (upd H b o') σ (sv.set i s') := by
  have ref : Ref g.K H σ sv i b := ⟨s, d, p, hs, hd, hp, hb⟩
  obtain ⟨nF, nH, nP⟩ := r.own ref
  have nep : ∀ {a : Addr} {o : HO}, g.pH a = some o → a ≠ b := fun e z => by rw [z, nP] at e; cases e
  have neF : ∀ {a : Addr} {o : HO}, F a = some o → a ≠ b := fun e z => by rw [z, nF] at e; cases e
  refine r.alt hs hd hs' hp (fun a u e => by rw [upd_ne (neF e)]; exact r.sub a u e) (fun a u e => by rw [upd_ne (nep e)]; exact r.kH a u e) (fun _ _ => rfl) (fun a ha => ?_) (Same.refl F) (fun j a hj h => ⟨(r.own h).1, upd_ne fun z => hj (by rw [z] at h; exact r.dj j i b h ref)⟩) ho hf
  by_cases h : a = b
  · rw [h, upd_same]; exact fun z => nomatch z
  · rw [upd_ne h]; exact r.fxH a ha
/-- .. a flat one -/
theorem Rl.putF {g : G} {F H : Hp} {σ : L2.St} {sv : SV} (r : Rl g F H σ sv) {i : Nat} {p : Addr} {s s' : Sl} {d d' : D} {o' : HO} {ds : List D} {vs : List V} (hs : sv[i]? = some s) (hd : slD s = some d) (hs' : reSl s d' = some s') (hp : σ[i]? = some (some (.ref p)))
    (nF : F p = none) (hS : Shp g.K d' o' ds vs) (hr : RpL g.K F ds vs) : Rl g F (upd H p o') σ (sv.set i s') :=
  r.put hs hd hs' hp .here (.flat nF upd_same hS hr) fun a ha => .inl (by rw [ha.flat (shp_deep hS)]; exact .here)
theorem Rl.ownAt {g : G} {F H : Hp} {σ : L2.St} {sv : SV} (r : Rl g F H σ sv) {i : Nat} {s : Sl} {d : D} (hs : sv[i]? = some s) (hd : slD s = some d) : ∃ p, σ[i]? = some (some (.ref p)) ∧ OwnP g.K F H d p := by
  have q := r.sl i s hs
  cases s with
  | ow d => cases hd; obtain ⟨p, e, _, o⟩ := q; exact ⟨p, e, o⟩
  | io k d => cases hd; obtain ⟨p, e, _, _, o⟩ := q; exact ⟨p, e, o⟩
  | _ => cases hd
/-- the list that slot i owns -/
def ownL (sv : SV) (i : Nat) : Option (Sl × List D) := match sv[i]? with
  | some s => match slD s with
    | some (.lst xs) => some (s, xs)
    | _ => none
  | none => none
def putL (sv : SV) (i : Nat) (xs : List D) : O := match sv[i]? with
  | some s => match reSl s (.lst xs) with
    | some s' => .nx (sv.set i s')
    | none => .bad
  | none => .bad
theorem ownL_eq {sv : SV} {i : Nat} {s : Sl} {xs : List D} (h : ownL sv i = some (s, xs)) : sv[i]? = some s ∧ slD s = some (.lst xs) := by
  unfold ownL at h
  split at h
  · split at h
    · cases h; exact ⟨by assumption, by assumption⟩
    · cases h
  · cases h
theorem re_of {s : Sl} {d d' : D} (h : slD s = some d) : ∃ s', reSl s d' = some s' := by
  cases s with
  | ow d => exact ⟨_, rfl⟩
  | io k d => exact ⟨_, rfl⟩
  | _ => cases h
section
variable {X : Cx} {W : WX'} {a b e : Expr} {pos : Pos} {m mk : M D}
/-- xs.append(e) -/
def mApp (i : Nat) (m : M D) : MS := fun sv => match ownL sv i with
  | none => .bad
  | some _ => mBind m (fun d s => match ownL s i with
    | some (_, xs) => if xs.length < sizeLine then putL s i (xs ++ [d]) else .bad
    | none => .bad) sv
theorem Rl.lst {g : G} {F H : Hp} {σ : L2.St} {sv : SV} (r : Rl g F H σ sv) {i : Nat} {s : Sl} {xs : List D} (h : ownL sv i = some (s, xs)) : ∃ p vs, σ[i]? = some (some (.ref p)) ∧ F p = none ∧ H p = some (.lst vs) ∧ RpL g.K F xs vs := by
  obtain ⟨h1, h2⟩ := ownL_eq h
  obtain ⟨p, e, o⟩ := r.ownAt h1 h2
  obtain ⟨nF, vs, e1, e2⟩ := o.lst_inv
  exact ⟨p, vs, e, nF, e1, e2⟩
theorem putL_post {mg : MX} {g : G} {F H : Hp} {σ : L2.St} {sv : SV} {i : Nat} {s : Sl} {xs ys : List D} {p : Addr} {us : List V} {Dn : Ends} (r : Rl g F H σ sv) (h : ownL sv i = some (s, xs)) (hp : σ[i]? = some (some (.ref p))) (nF : F p = none) (hu : RpL g.K F ys us)
    (q : PostS mg g F (putL sv i ys) W Dn) : Dn.nx σ (upd H p (.lst us)) := by
  obtain ⟨h1, h2⟩ := ownL_eq h
  obtain ⟨s', h3⟩ := re_of (d' := .lst ys) h2
  unfold putL at q
  rw [h1] at q
  dsimp only at q
  rw [h3] at q
  exact q σ F _ (Same.refl F) (r.putF h1 h2 h3 hp nF .lst hu)
theorem ss_app {i : Nat} {x : Str} {p1 apos cpos : Pos} (h : ∀ te, PE X e te → PE X (.Call (.Attribute (.Name x p1) "append" apos) [e] [] cpos) (tBM X.K "list" rAppend (tVar i) (tCons te tNil))) (he : SE X W e m)
    (hs : swapsWith (.Call (.Attribute (.Name x p1) "append" apos) [e] [] cpos) none pos.line X.env = pure false := by rfl) : SS X W (.Expr (.Call (.Attribute (.Name x p1) "append" apos) [e] [] cpos) pos) (mApp i m) :=
  ps_imp (ps_expr (h _ he) hs) fun Dn σ H q => by
    obtain ⟨g, F, sv, hK, rl, q⟩ := q
    unfold mApp at q
    split at q
    · exact False.elim q
    · rename_i z h0
      obtain ⟨s0, xs0⟩ := z
      obtain ⟨p, vs, e1, nF, e2, e3⟩ := rl.lst h0
      refine ⟨.ref p, e1, .inl ⟨rfl, vs, .inl (.inl e2)⟩, g, F, sv, hK, rl, PostS.bind (H := H) q fun d s v F1 H1 f1 rl1 rp1 h1 => ?_⟩
      split at h1
      · rename_i s1 xs1 h2
        split at h1
        · rename_i hz
          obtain ⟨p', vs', e1', nF', e2', e3'⟩ := rl1.lst h2
          rw [e1] at e1'; cases e1'
          refine ⟨p, vs', v, rfl, rfl, e2', by rw [← e3'.length]; exact hz, ?_⟩
          exact putL_post rl1 h2 e1 nF' (e3'.append (RpL.one rp1)) h1
        · exact False.elim h1
      · exact False.elim h1
/-- xs[k] = e -/
def mPut (i : Nat) (m mk : M D) : MS := mBind m fun d s1 => match ownL s1 i with
  | none => .bad
  | some _ => mBind mk (fun k s2 => match k, ownL s2 i with
    | .int z, some (_, xs) => match ixN xs.length z with
      | some j => putL s2 i (xs.set j d)
      | none => .bad
    | _, _ => .bad) s1
theorem ss_put {i : Nat} {x : Str} {p1 tpos : Pos} (h : ∀ te ti, PE X e te → PE X b ti → PS X (.Assign [.Subscript (.Name x p1) b tpos] e pos) (tAsg te (gSub (tVar i) ti rSetL))) (he : SE X W e m) (hk : SE X W b mk) :
    SS X W (.Assign [.Subscript (.Name x p1) b tpos] e pos) (mPut i m mk) := ps_imp (h _ _ he hk) fun Dn σ H q => by
  obtain ⟨g, F, sv, hK, rl, q⟩ := q
  refine ⟨g, F, sv, hK, rl, PostS.bind (H := H) q fun d s v F1 H1 f1 rl1 rp1 h1 => ?_⟩
  split at h1
  · exact False.elim h1
  · rename_i z h0
    obtain ⟨s0, xs0⟩ := z
    obtain ⟨p, vs, e1, nF, e2, e3⟩ := rl1.lst h0
    refine ⟨.ref p, e1, g, F1, s, hK, rl1, PostS.bind (H := H1) h1 fun k s2 y F2 H2 f2 rl2 rp2 h2 => ?_⟩
    split at h2
    · rename_i z s1 xs h3
      split at h2
      · rename_i j hj
        obtain ⟨p', vs', e1', nF', e2', e3'⟩ := rl2.lst h3
        rw [e1] at e1'; cases e1'
        refine ⟨p, vs', z, j, rfl, rp2, e2', by rw [← e3'.length]; exact hj, ?_⟩
        exact putL_post rl2 h3 e1 nF' (e3'.set j (Rp.mono f2 _ _ rp1)) h2
      · exact False.elim h2
    · exact False.elim h2
/-- xs.pop() -/
def mPop (i : Nat) : M D := fun sv => match ownL sv i with
  | some (_, xs) => match xs[xs.length - 1]? with
    | some d => match putL sv i xs.dropLast with
      | .nx s' => .ok d s'
      | _ => .bad
    | none => .bad
  | none => .bad
theorem RpL.dropLast {K : PySem.W.Frag} {F : Hp} {ds : List D} {vs : List V} (h : RpL K F ds vs) : RpL K F ds.dropLast vs.dropLast := by
  rw [List.dropLast_eq_take, List.dropLast_eq_take, ← h.length]
  exact h.take _
theorem se_pop {i : Nat} {x : Str} {p1 apos : Pos} (h : PE X (.Call (.Attribute (.Name x p1) "pop" apos) [] [] pos) (tBM0 X.K "list" rPop (tVar i))) : SE X W (.Call (.Attribute (.Name x p1) "pop" apos) [] [] pos) (mPop i) := pe_imp h fun σ H Q q => by
  obtain ⟨g, F, sv, hK, rl, q⟩ := q
  unfold mPop at q
  split at q
  · rename_i s xs h0
    split at q
    · rename_i d hd
      obtain ⟨p, vs, e1, nF, e2, e3⟩ := rl.lst h0
      obtain ⟨v, ev, rv⟩ := e3.get _ _ hd
      refine ⟨.ref p, e1, .inl ⟨rfl, vs, .inl (.inl e2)⟩, p, vs, v, rfl, rfl, e2, by rw [← e3.length]; exact ev, ?_⟩
      obtain ⟨h1, h2⟩ := ownL_eq h0
      obtain ⟨s', h3⟩ := re_of (d' := .lst xs.dropLast) h2
      unfold putL at q
      rw [h1] at q
      dsimp only at q
      rw [h3] at q
      exact q v F _ (Same.refl F) (rl.putF h1 h2 h3 e1 nF .lst e3.dropLast) rv
    · exact False.elim q
  · exact False.elim q
end

/-! #### while -/
def whileN (c : M Bool) (b : MS) : Nat → SV → Option O
  | 0, _ => none
  | n + 1, sv => match c sv with
    | .ok false s => some (.nx s)
    | .ok true s => match b s with
      | .nx s' => whileN c b n s'
      | .ct s' => whileN c b n s'
      | .bk s' => some (.nx s')
      | o => some o
    | .err x s => some (.err x s)
    | .bad => some .bad
theorem whileN_succ {c : M Bool} {b : MS} : ∀ {n : Nat} {sv : SV} {o : O}, whileN c b n sv = some o → whileN c b (n + 1) sv = some o
  | 0, _, _, h => by cases h
  | n + 1, sv, o, h => by
    unfold whileN at h ⊢
    cases hc : c sv with
    | ok t s =>
      rw [hc] at h
      cases t with
      | false => exact h
      | true =>
        dsimp only at h ⊢
        cases hb : b s with
        | nx s' => rw [hb] at h; exact whileN_succ h
        | ct s' => rw [hb] at h; exact whileN_succ h
        | bk s' => rw [hb] at h; exact h
        | rt d s' => rw [hb] at h; exact h
        | ro d s' => rw [hb] at h; exact h
        | err x s' => rw [hb] at h; exact h
        | bad => rw [hb] at h; exact h
    | err x s => rw [hc] at h; exact h
    | bad => rw [hc] at h; exact h
theorem whileN_le {c : M Bool} {b : MS} {n m : Nat} {sv : SV} {o : O} (h : whileN c b n sv = some o) (hm : n ≤ m) : whileN c b m sv = some o := by
  induction hm with
  | refl => exact h
  | step _ ih => exact whileN_succ ih
open Classical in
noncomputable def mWhile (c : M Bool) (b : MS) : MS := fun sv => if h : ∃ o, ∃ n, whileN c b n sv = some o then h.choose else .bad
theorem mWhile_of {c : M Bool} {b : MS} {n : Nat} {sv : SV} {o : O} (h : whileN c b n sv = some o) : mWhile c b sv = o := by
  have hx : ∃ o, ∃ n, whileN c b n sv = some o := ⟨o, n, h⟩
  unfold mWhile
  rw [dif_pos hx]
  obtain ⟨k, hk⟩ := hx.choose_spec
  have h1 := whileN_le h (Nat.le_max_left n k)
  have h2 := whileN_le hk (Nat.le_max_right n k)
  rw [h1] at h2
  exact (Option.some.inj h2).symm
theorem mWhile_some {c : M Bool} {b : MS} {sv : SV} (h : mWhile c b sv ≠ .bad) : ∃ n, whileN c b n sv = some (mWhile c b sv) := by
  by_cases hx : ∃ o, ∃ n, whileN c b n sv = some o
  · obtain ⟨o, n, hn⟩ := hx
    exact ⟨n, by rw [mWhile_of hn]; exact hn⟩
  · unfold mWhile at h
    rw [dif_neg hx] at h
    exact absurd rfl h
section
variable {X : Cx} {W : WX'} {c : Expr} {body : List Stmt} {pos : Pos} {mt : M Bool} {mb : MS}
theorem ss_while (hp : PassesOwn (model X.prog X.w) X.A X.env X.xe) (hc : ST X W c mt) (hb : SSs X W body mb) : SS X W (.While c body [] pos) (mWhile mt mb) := ps_imp (ps_while hp hc hb) fun Dn σ H q => by
  obtain ⟨g, F, sv, hK, rl, q⟩ := q
  have nb : mWhile mt mb sv ≠ .bad := fun z => by rw [z] at q; exact q
  obtain ⟨n, hn⟩ := mWhile_some nb
  refine ⟨fun k σ H => ∃ F1 sv o, Same F F1 ∧ Rl g F1 H σ sv ∧ whileN mt mb k sv = some o ∧ PostS X.mx g F1 o W Dn, ⟨n, F, sv, _, Same.refl F, rl, hn, q⟩, ?_⟩
  rintro k σ1 H1 ⟨F1, sv1, o, s1, rl1, hk, q1⟩
  cases k with
  | zero => cases hk
  | succ k =>
    unfold whileN at hk
    refine ⟨g, F1, sv1, hK, rl1, ?_⟩
    cases hc : mt sv1 with
    | err x s => rw [hc] at hk; cases hk; exact fun cls dd F2 H2 e2 rl2 er => q1 cls dd σ1 F2 H2 e2 rl2 er
    | bad => rw [hc] at hk; cases hk; exact q1
    | ok t s =>
      rw [hc] at hk
      intro t' F2 H2 e2 rl2 et
      cases et
      cases t with
      | false => cases hk; exact q1 σ1 F2 H2 e2 rl2
      | true =>
        dsimp only at hk
        refine ⟨fun σ H => ∃ F1 sv o, Same F F1 ∧ Rl g F1 H σ sv ∧ whileN mt mb k sv = some o ∧ PostS X.mx g F1 o W Dn, fun σ' H' hN => ⟨k, Nat.lt_succ_self k, hN⟩, g, F2, s, hK, rl2, ?_⟩
        cases hb : mb s with
        | nx s' => rw [hb] at hk; exact fun σ3 F3 H3 e3 rl3 => ⟨F3, s', o, (s1.trans e2).trans e3, rl3, hk, q1.mono (e2.trans e3)⟩
        | ct s' => rw [hb] at hk; exact fun σ3 F3 H3 e3 rl3 => ⟨F3, s', o, (s1.trans e2).trans e3, rl3, hk, q1.mono (e2.trans e3)⟩
        | bk s' => rw [hb] at hk; cases hk; exact q1.mono e2
        | rt d s' => rw [hb] at hk; cases hk; exact q1.mono e2
        | ro d s' => rw [hb] at hk; cases hk; exact q1.mono e2
        | err x s' => rw [hb] at hk; cases hk; exact q1.mono e2
        | bad => rw [hb] at hk; cases hk; exact q1

/-! #### for -/
structure ItOk (K : PySem.W.Frag) (F : Hp) (ds : List D) (J : It) : Prop where
  go : ∀ i H, i < ds.length → Same F H → J.go i H
  stop : ∀ H, Same F H → J.stop ds.length H
  yld : ∀ i d x H H', ds[i]? = some d → Same F H → J.yld i H x H' → (H' = H ∧ Rp K F d x) ∨ ∃ T vs es, d = .tup es ∧ x = .ref T ∧ H T = none ∧ H' = upd H T (.tup vs) ∧ RpL K F es vs
def RelI (g : G) (F' _H' : Hp) (_ : L2.St) (_ : SV) (ds : List D) (J : It) : Prop := ItOk g.K F' ds J
abbrev SI (X : Cx) (W : WX') (tg iter : Expr) (m : M (List D)) : Prop := PI X tg iter (tG X.K X.mx W RelI m)
def forL (t : MT) (b : MS) : List D → MS
  | [], sv => .nx sv
  | d :: ds, sv => match t d sv with
    | none => .bad
    | some s1 => match b s1 with
      | .nx s2 => forL t b ds s2
      | .ct s2 => forL t b ds s2
      | .bk s2 => .nx s2
      | o => o
def mFor (mi : M (List D)) (t : MT) (b : MS) : MS := mBind mi fun ds s => forL t b ds s
theorem ss_for {tg iter : Expr} {mi : M (List D)} {is : List Nat} {t : MT} (hp : PassesOwn (model X.prog X.w) X.A X.env X.xe) (hc : X.calm = true) (hi : SI X W tg iter mi) (hg : SG X tg is t) (hb : SSs X W body mb)
    (hs : ∀ x, foldedSetIterable iter X.env x = pure x := by intro _; rfl) : SS X W (.For tg iter body [] pos) (mFor mi t mb) := ps_imp (ps_for hp hc hi hg hb hs) fun Dn σ H q => by
  obtain ⟨g, F, sv, hK, rl, q⟩ := q
  refine ⟨g, F, sv, hK, rl, PostS.bind (H := H) q fun ds s J F1 H1 e1 rl1 ok q1 => ?_⟩
  refine ⟨fun i m σ H => m = ds.length - i ∧ i ≤ ds.length ∧ ∃ F2 sv2, Same F1 F2 ∧ Rl g F2 H σ sv2 ∧ PostS X.mx g F2 (forL t mb (ds.drop i) sv2) W Dn, ⟨ds.length, by simp, Nat.zero_le _, F1, s, Same.refl F1, rl1, q1⟩, ?_⟩
  rintro i m σ2 H2 ⟨rfl, hi, F2, sv2, s2, rl2, q2⟩
  have sH : Same F1 H2 := s2.trans rl2.sub
  by_cases hlt : i < ds.length
  · refine .inr ⟨ok.go i H2 hlt sH, fun σ H => ∃ F2 sv2, Same F1 F2 ∧ Rl g F2 H σ sv2 ∧ PostS X.mx g F2 (forL t mb (ds.drop (i + 1)) sv2) W Dn, fun σ' H' hN => ⟨ds.length - (i + 1), by omega, rfl, hlt, hN⟩, fun x H' hy => ?_⟩
    have hd : ds[i]? = some ds[i] := List.getElem?_eq_getElem hlt
    rw [List.drop_eq_getElem_cons hlt] at q2
    unfold forL at q2
    -- the item, represented
    have item : ∃ F3, Same F2 F3 ∧ Rl g F3 H' σ2 sv2 ∧ Rp g.K F3 ds[i] x := by
      rcases ok.yld i _ x H2 H' hd sH hy with ⟨rfl, hr⟩ | ⟨T, vs, es, ed, rfl, hT, rfl, hr⟩
      · exact ⟨F2, Same.refl F2, rl2, Rp.mono s2 _ _ hr⟩
      · have sF : Same F2 (upd F2 T (.tup vs)) := same_upd (rl2.sub.free hT)
        refine ⟨upd F2 T (.tup vs), sF, rl2.lay hT, ?_⟩
        rw [ed]
        exact ⟨T, vs, rfl, .inl (.inl upd_same), RpL.mono (s2.trans sF) _ _ hr⟩
    obtain ⟨F3, s3, rl3, rp3⟩ := item
    cases ht : t ds[i] sv2 with
    | none => rw [ht] at q2; exact False.elim q2
    | some sv3 =>
      rw [ht] at q2
      dsimp only at q2
      refine ⟨g, F3, sv2, ds[i], sv3, hK.1, rl3, hK.1 ▸ rp3, ht, fun σ4 rl4 _ => ⟨g, F3, sv3, hK, rl4, ?_⟩⟩
      cases hb : mb sv3 with
      | nx s' => rw [hb] at q2; exact fun σ5 F5 H5 e5 rl5 => ⟨F5, s', (s2.trans s3).trans e5, rl5, q2.mono (s3.trans e5)⟩
      | ct s' => rw [hb] at q2; exact fun σ5 F5 H5 e5 rl5 => ⟨F5, s', (s2.trans s3).trans e5, rl5, q2.mono (s3.trans e5)⟩
      | bk s' => rw [hb] at q2; exact q2.mono s3
      | rt d s' => rw [hb] at q2; exact q2.mono s3
      | ro d s' => rw [hb] at q2; exact q2.mono s3
      | err x s' => rw [hb] at q2; exact q2.mono s3
      | bad => rw [hb] at q2; exact q2
  · have e : i = ds.length := by omega
    subst e
    rw [List.drop_length] at q2
    exact .inl ⟨ok.stop H2 sH, q2 σ2 F2 H2 (Same.refl F2) rl2⟩
end
end VM

set_option Elab.async false
set_option linter.all false
set_option autoImplicit false
set_option maxRecDepth 100000
set_option maxHeartbeats 400000
namespace VM
open PySem PySem.Spec PyProof.Rows L2

/-! ### what is walked -/
theorem pi_imp {X : Cx} {tg e : Expr} {t t' : TI} (h : PI X tg e t) (k : ∀ σ H R, t' σ H R → t σ H R) : PI X tg e t' := ⟨fun pins s σ H R I q => h.run pins s σ H R I (k σ H R q)⟩
/-- a list, a tuple or a text, as it comes -/
def iSeq (K : PySem.W.Frag) (tl : TE) : TI := fun σ H R => tl σ H fun x H1 =>
  (∃ a, x = .ref a ∧ (∃ xs, SqL K H1 a xs) ∧ R (Itl K a) H1) ∨ (∃ a, x = .ref a ∧ (∃ xs, SqT K H1 a xs) ∧ R (Itt K a) H1) ∨ (∃ z, x = .str z ∧ R (Its z) H1)
theorem pi_seq {X : Cx} {tg l : Expr} {tl : TE} (hl : PE X l tl) : PI X tg l (iSeq X.K tl) := by
  constructor
  intro pins s σ H R I h
  apply thn (hl.run pins s σ H _ I h)
  rintro v s1 ⟨x, H1, I1, r1, ⟨a, rfl, ⟨xs, hq⟩, q⟩ | ⟨a, rfl, ⟨xs, hq⟩, q⟩ | ⟨z, rfl, q⟩⟩
  · cases r1
    obtain ⟨its, rv, pl, hz⟩ := I1.list hq
    exact wpAny_pyIter_list pl.isList (pi_one (tk := s1.toks) I1 _ (turn_list a _) ⟨_, Heap.get?_push_size _ rfl, rfl, rfl⟩ q)
  · cases r1
    obtain ⟨its, rv, pl, hz⟩ := I1.tuple hq
    exact wpAny_pyIter_tuple (show s1.heap.IsTuple a its.toArray from pl) (pi_one (tk := s1.toks) I1 _ (turn_tuple a _) ⟨_, Heap.get?_push_size _ rfl, rfl, rfl⟩ q)
  · obtain ⟨t, rfl⟩ := r1
    cases ha : z.cps.all (· < 128)
    · exact wpAny_pyIter_wide ha (pi_one (tk := s1.toks) I1 _ (turn_str _ z t "str_iterator" (.inr rfl)) ⟨_, Heap.get?_push_size _ rfl, rfl, rfl⟩ q)
    · exact wpAny_pyIter_ascii ha (pi_one (tk := s1.toks) I1 _ (turn_str _ z t "str_ascii_iterator" (.inl rfl)) ⟨_, Heap.get?_push_size _ rfl, rfl, rfl⟩ q)
def itemsD : D → Option (List D)
  | .tup xs => some xs
  | .lst xs => some xs
  | .fl xs => some xs
  | .str z => some (z.cps.toList.map fun c => .str ⟨#[c]⟩)
  | _ => none
def mItems (m : M D) : M (List D) := fun sv => (m sv).bind fun d s => match itemsD d with
  | some ds => .ok ds s
  | none => .bad
section
variable {K : PySem.W.Frag} {F H : Hp}
theorem sqL_in {a : Addr} {xs : List V} (s : Same F H) (h : SqL K F a xs) : SqL K H a xs := s.seq h
/-- two readings of one place agree -/
theorem itl_ok {a : Addr} {vs : List V} {ds : List D} (h : SqL K F a vs) (r : RpL K F ds vs) : ItOk K F ds (Itl K a) where
  go := fun i H hi s => ⟨vs, vs[i]'(by rw [← r.length]; exact hi), s.seq h, List.getElem?_eq_getElem _⟩
  stop := fun H s => ⟨vs, s.seq h, by rw [r.length]; exact Nat.le_refl _⟩
  yld := fun i d x H H' hd s y => by
    obtain ⟨rfl, y⟩ := y
    obtain ⟨v, ev, rv⟩ := r.get i d hd
    have := (y vs (s.seq h)).symm.trans ev
    cases this
    exact .inl ⟨rfl, rv⟩
theorem itt_ok {a : Addr} {vs : List V} {ds : List D} (h : SqT K F a vs) (r : RpL K F ds vs) : ItOk K F ds (Itt K a) where
  go := fun i H hi s => ⟨vs, vs[i]'(by rw [← r.length]; exact hi), sqT_mono s h, List.getElem?_eq_getElem _⟩
  stop := fun H s => ⟨vs, sqT_mono s h, by rw [r.length]; exact Nat.le_refl _⟩
  yld := fun i d x H H' hd s y => by
    obtain ⟨rfl, y⟩ := y
    obtain ⟨v, ev, rv⟩ := r.get i d hd
    have := (y vs (sqT_mono s h)).symm.trans ev
    cases this
    exact .inl ⟨rfl, rv⟩
theorem its_ok {z : Str} : ItOk K F (z.cps.toList.map fun c => D.str ⟨#[c]⟩) (Its z) where
  go := fun i H hi s => by show i < z.cps.size; simpa using hi
  stop := fun H s => by simp [Its]
  yld := fun i d x H H' hd s y => by
    obtain ⟨rfl, c, ec, rfl⟩ := y
    refine .inl ⟨rfl, ?_⟩
    have e : z.cps.toList[i]? = some c := by simpa using ec
    rw [List.getElem?_map, e] at hd
    cases hd
    rfl
theorem itr_ok {lo : Int} {n : Nat} : ItOk K F ((List.range n).map fun i => D.int (lo + (i : Nat))) (Itr lo n) where
  go := fun i H hi s => by show i < n; simpa using hi
  stop := fun H s => by simp [Itr]
  yld := fun i d x H H' hd s y => by
    obtain ⟨rfl, rfl⟩ := y
    refine .inl ⟨rfl, ?_⟩
    rw [List.getElem?_map] at hd
    cases hr : (List.range n)[i]? with
    | none => rw [hr] at hd; cases hd
    | some j =>
      rw [hr] at hd
      cases hd
      have : j = i := by
        have := List.getElem?_eq_some_iff.mp hr
        obtain ⟨h1, h2⟩ := this
        simpa using h2.symm
      subst this
      rfl
end
section
variable {X : Cx} {W : WX'} {tg e : Expr} {m : M D} {p pos : Pos}
theorem si_seq (h : SE X W e m) : SI X W tg e (mItems m) := pi_imp (pi_seq h) fun σ H R q => by
  obtain ⟨g, F, sv, hK, rl, q⟩ := q
  refine ⟨g, F, sv, hK, rl, PostG.bind q fun d s x F1 H1 e1 rl1 rp1 q1 => ?_⟩
  have go : ∀ {ds : List D} {J : It}, itemsD d = some ds → ItOk g.K F1 ds J → R J H1 := fun {ds J} he ok => by
    rw [he] at q1
    exact q1 J F1 H1 (Same.refl F1) rl1 ok
  rw [← hK.1]
  cases d with
  | tup ds => obtain ⟨a, vs, rfl, h1, h2⟩ := rp1; exact .inr (.inl ⟨a, rfl, ⟨vs, sqT_mono rl1.sub h1⟩, go rfl (itt_ok h1 h2)⟩)
  | lst ds => obtain ⟨a, vs, rfl, h1, h2⟩ := rp1; exact .inl ⟨a, rfl, ⟨vs, .inl (.inl (rl1.sub _ _ h1))⟩, go rfl (itl_ok (.inl (.inl h1)) h2)⟩
  | fl ds => obtain ⟨a, vs, rfl, h1, h2⟩ := rp1; exact .inl ⟨a, rfl, ⟨vs, rl1.sub.seq h1⟩, go rfl (itl_ok h1 h2)⟩
  | str z => exact .inr (.inr ⟨z, rp1, go rfl its_ok⟩)
  | _ => exact False.elim q1
def rngs (lo : Int) (n : Nat) : List D := (List.range n).map fun i => D.int (lo + (i : Nat))
def mRng1 (ms : M (List D)) : M (List D) := fun sv => (ms sv).bind fun ds s => match ds with
  | [.int j] => if -(2 ^ 62) ≤ j ∧ j < 2 ^ 62 then .ok (rngs 0 j.toNat) s else .bad
  | _ => .bad
def mRng2 (ms : M (List D)) : M (List D) := fun sv => (ms sv).bind fun ds s => match ds with
  | [.int i, .int j] => if -(2 ^ 62) ≤ i ∧ i < 2 ^ 62 ∧ -(2 ^ 62) ≤ j ∧ j < 2 ^ 62 then .ok (rngs i (j - i).toNat) s else .bad
  | _ => .bad
variable {a b : Expr} {ms : M (List D)}
theorem si_range1 (hg : Gl X "range") (hm : X.mg "range" = none) (ha : SA X W [a] ms) (hs : starEach [a] X.env = [(false, eval a X.env)] := by rfl) : SI X W tg (.Call (.Name "range" p) [a] [] pos) (mRng1 ms) := pi_imp (pi_range1 hg hm ha hs) fun σ H R q => by
  obtain ⟨g, F, sv, hK, rl, q⟩ := q
  refine ⟨g, F, sv, hK, rl, PostG.bind q fun ds s x F1 H1 e1 rl1 rp1 q1 => ?_⟩
  split at q1
  · split at q1
    · obtain ⟨v, rfl, hv⟩ := RpL.one_inv rp1
      cases hv
      rename_i hz
      exact ⟨_, rfl, hz.1, hz.2, q1 _ F1 H1 (Same.refl F1) rl1 itr_ok⟩
    · exact False.elim q1
  · exact False.elim q1
theorem si_range2 (hg : Gl X "range") (hm : X.mg "range" = none) (ha : SA X W [a, b] ms) (hs : starEach [a, b] X.env = [(false, eval a X.env), (false, eval b X.env)] := by rfl) (hs2 : starEach [b] X.env = [(false, eval b X.env)] := by rfl) :
    SI X W tg (.Call (.Name "range" p) [a, b] [] pos) (mRng2 ms) := pi_imp (pi_range2 hg hm ha hs hs2) fun σ H R q => by
  obtain ⟨g, F, sv, hK, rl, q⟩ := q
  refine ⟨g, F, sv, hK, rl, PostG.bind q fun ds s x F1 H1 e1 rl1 rp1 q1 => ?_⟩
  split at q1
  · split at q1
    · obtain ⟨v, u, rfl, hv, hu⟩ := RpL.two_inv rp1
      cases hv; cases hu
      rename_i hz
      exact ⟨_, _, rfl, hz, q1 _ F1 H1 (Same.refl F1) rl1 itr_ok⟩
    · exact False.elim q1
  · exact False.elim q1
end

/-! #### enumerate -/
set_option maxHeartbeats 1000000 in
theorem meets_enum1 {v : Value} {o : Obj} {H : Heap → Prop} (B : Begins v o H) :
    Meets (Builtin.«enumerate.__new__» ⟨[.type "enumerate", v], []⟩) (fun _ R s => H s.heap ∧
      R (.ok (.ret (.ref (s.heap.push o).objs.size))) { s with heap := (s.heap.push o).push { cls := .type "enumerate", data := .fields #[.none, .bool false, .ref s.heap.objs.size, rawInt 0, .none, .none] } }) :=
  .of_wp fun prog w A R s h => by
    obtain ⟨hp, g, d, tk, os⟩ := s
    obtain ⟨h1, h⟩ := h
    have hsub := sub_enumerate
    have q1 : ∀ {A' : Around} {E : Value → Shared → Prop} {Q : Value → Shared → Prop}, Q (.ref hp.objs.size) ⟨hp.push o, g, d, tk, os⟩ → wpAny (model prog w) A' (pyIter v) Q E ⟨hp, g, d, tk, os⟩ :=
      fun q => B.iter prog w _ _ ⟨hp, g, d, tk, os⟩ _ h1 q
    wp_walk using q1
    refine wpAny_stack_any fun st => wpAny_pure ?_
    split
    · rename_i c _ _ _ _ _
      cases (c == Value.type "enumerate")
      · wp_walk using q1
        exact ⟨_, rfl, h⟩
      · wp_walk using q1
        exact ⟨_, rfl, h⟩
    · wp_walk using q1
      exact ⟨_, rfl, h⟩
theorem enum1 {prog : Program} {w : World} {A : Around} {E : Value → Shared → Prop} {s : Shared} {v : Value} {o : Obj} {H : Heap → Prop} {Q : Value → Shared → Prop} (B : Begins v o H) (h1 : H s.heap)
    (h : ∀ h', IsEnum h' (s.heap.objs.size + 1) s.heap.objs.size 0 .none → h'.get? s.heap.objs.size = some o → (∀ b o, s.heap.get? b = some o → h'.get? b = some o) → Q (.ref (s.heap.objs.size + 1)) { s with heap := h' }) :
    wpAny (model prog w) A (call (.type "enumerate") [v]) Q E s := by
  refine callType_new F.called_enumerate (by decide) (F.typeCall_enumerate_1 _) (F.newCall_enumerate_1 _) (fun obj => F.args_object_init_2 obj _) F.entry_enumerate_new (meets_enum1 B) ⟨h1, ?_⟩
  have hz : (s.heap.push o).objs.size = s.heap.objs.size + 1 := Heap.size_push ..
  show _ ∧ _
  rw [hz]
  have he : ((s.heap.push o).push { cls := .type "enumerate", data := .fields #[.none, .bool false, .ref s.heap.objs.size, rawInt 0, .none, .none] }).get? (s.heap.objs.size + 1) = some { cls := .type "enumerate", data := .fields #[.none, .bool false, .ref s.heap.objs.size, rawInt 0, .none, .none] } := by
    have := Heap.get?_push_size (s.heap.push o) (o := { cls := .type "enumerate", data := .fields #[.none, .bool false, .ref s.heap.objs.size, rawInt 0, .none, .none] }) rfl
    rw [hz] at this
    exact this
  exact ⟨⟨_, he, rfl⟩, h _ he (Heap.get?_push_of_some _ (Heap.get?_push_size _ B.free)) fun b o x => Heap.get?_push_of_some _ (Heap.get?_push_of_some _ x)⟩
/-- the tuple at a, each item in a new pair -/
def Iet (K : PySem.W.Frag) (a : Addr) : It :=
  ⟨fun i H => ∃ xs x, SqT K H a xs ∧ xs[i]? = some x, fun i H v H' => ∃ T x, v = .ref T ∧ H T = none ∧ H' = upd H T (.tup [.int (i : Nat), x]) ∧ ∀ xs, SqT K H a xs → xs[i]? = some x, fun i H => ∃ xs, SqT K H a xs ∧ xs.length ≤ i⟩
theorem enum_stop {prog : Program} {w : World} {A : Around} {E : Value → Shared → Prop} {s : Shared} {e it t : Addr} {i : Nat} {c : Int} {items : Array Value} {old : Value} {Q : Option Value → Shared → Prop} (hh : A.in1.handled = none)
    (he : IsEnum s.heap e it c old) (hit : s.heap.IsTupleIter it t i) (ht : s.heap.IsTuple t items) (hx : items[i]? = none) (hQ : ∀ h', Heap.ExtBut it s.heap h' → Q none { s with heap := h' }) : wpAny (model prog w) A (pyNext (.ref e)) Q E s := by
  have hT : s.TypeIs (.ref e) "enumerate" := ⟨_, he, rfl⟩
  unfold pyNext
  refine wpAny_bind (wpAny_attempt (wpAny_callSpecial?_slot (name := Str.ofString "__next__") hT F.slot_enumerate_next (wpAny_call_entry F.slot_enumerate_next hT F.entry_enumerate_next ?_ (F.args_enumerate_next_1 _))))
  show wpAny _ _ (field (.ref e) 2 >>= _) _ _ _
  refine wpAny_bind (wpAny_field he rfl (x := .ref it) rfl (wpAny_bind (wpAny_nextOf_tuple_end hh hit ht hx fun h' x he' hx' => ?_)))
  obtain ⟨o, ho, hc⟩ := hx'
  exact wpAny_bind (wpAny_isInstance (T := "StopIteration") (b := true) ⟨o, ho, hc⟩ isSubtype_stop (wpAny_pure (hQ _ he')))
theorem turn_enumT {P : Program} {w : World} {K : PySem.W.Frag} {elts : List Expr} {kk : Nat} {tpos : Pos} (a e it : Addr) :
    Turn P w K (.Tuple elts kk tpos) (Iet K a) [e, it] e (fun i h => (∃ old, IsEnum h e it ((i : Nat) : Int) old) ∧ h.IsTupleIter it a i ∧ e ≠ it ∧ a ≠ it ∧ a ≠ e) where
  mem := by simp
  obj := by
    rintro i h ⟨⟨old, he⟩, ⟨o, ho, hc, hd⟩, _⟩ b hb
    rcases List.mem_cons.mp hb with rfl | hb
    · exact ⟨_, he, fun v q => nomatch q⟩
    · rw [List.mem_singleton.mp hb]
      exact ⟨o, ho, fun v q => by rw [hd] at q; cases q⟩
  keep := by
    rintro i h h' ⟨⟨old, he⟩, hi, hne, hx⟩ k
    exact ⟨⟨old, k e (by simp) _ he⟩, hi.at fun o q => k it (by simp) o q, hne, hx⟩
  item := by
    intro X hP hw hK hc i pins s σ H E I hf st hg
    subst hP hw hK
    obtain ⟨⟨old, he⟩, hit, hne, hai, hae⟩ := st
    obtain ⟨xs, x, hq, hx⟩ := hg
    obtain ⟨its, rv, pl, hz⟩ := I.tuple hq
    obtain ⟨u, hu, ru⟩ := rv.get hx
    have hl := rv.length
    have hix : i < xs.length := (List.getElem?_eq_some_iff.mp hx).1
    have hel : e < s.heap.objs.size := Heap.lt_size he
    have hil : it < s.heap.objs.size := by obtain ⟨_, q, _⟩ := hit; exact Heap.lt_size q
    have hh : X.A.in1.handled = none := I.ok.hd hc
    have D := Draws.tuple (prog := X.prog) (w := X.w) (A := X.A.in1) hh it a hai its.toArray
    refine wpAny_pyNext_enum_itemD D he ⟨hit, show s.heap.IsTuple a its.toArray from pl⟩ (by simpa [← hl] using hix) hne (by simp [hne, Ne.symm hae]) fun y h' tk hy ho st' hT hsz hk => ?_
    have ey : y = u := by
      have hy' : its.toArray[i]? = some y := hy
      rw [List.getElem?_toArray, hu] at hy'
      exact (Option.some.inj hy').symm
    subst ey
    refine ⟨_, rfl, wpAny_letOwnedTupleGo_enum (s := { s with heap := h', toks := tk + 1 }) ho fun h'' he' sb => ?_⟩
    have hT2 : h''.get? s.heap.objs.size = some { cls := .type "tuple", data := .seq #[.int i tk, y] } := (sb.2 _ (Nat.ne_of_gt hel)).trans hT
    have new : ObjOk X.prog X.w (upd H s.heap.objs.size (.tup [.int (i : Nat), x])) h'' s.heap.objs.size (.tup [.int (i : Nat), x]) :=
      ⟨by show 2 ≤ sizeLine; decide, [.int i tk, y], .cons ⟨_, rfl⟩ (.cons ru .nil), ⟨_, hT2, rfl, _, rfl⟩⟩
    have I1 : Inv X pins σ (upd H s.heap.objs.size (.tup [.int (i : Nat), x])) { s with heap := h'', toks := tk + 1 } :=
      I.turnedNew (ch := [e, it]) (fun b ob hb q => (sb.2 b (fun z => hb (by simp [z]))).trans (hk b ob (fun z => hb (by simp [z])) (fun z => hb (by simp [z])) q)) hf (Nat.le_refl _) new
    have e1 : ((i + 1 : Nat) : Int) = (i : Int) + 1 := by omega
    refine ⟨.ref s.heap.objs.size, _, I1, rfl, ⟨_, x, rfl, I.hok.fresh (Nat.le_refl _), rfl, fun ys hy => by rw [I.tuple_inj hy hq]; exact hx⟩, ⟨⟨y, by rw [e1]; exact he'⟩, st'.1.at fun o q => (sb.2 it (Ne.symm hne)).trans q, hne, hai, hae⟩, fun b hb => ?_⟩
    have hb' : b < s.heap.objs.size := by
      rcases List.mem_cons.mp hb with rfl | hb
      · exact hel
      · rw [List.mem_singleton.mp hb]; exact hil
    rw [upd_ne (Nat.ne_of_lt hb')]
    exact (hf b hb).1
  done := by
    intro X hP hw hK hc i pins s σ H E I hf st hg
    subst hP hw hK
    obtain ⟨⟨old, he⟩, hit, hne, hai, hae⟩ := st
    obtain ⟨xs, hq, hx⟩ := hg
    obtain ⟨its, rv, pl, hz⟩ := I.tuple hq
    have hl := rv.length
    obtain ⟨f0, f1, f2, f3, f4, f5⟩ := hf it (by simp)
    have hh : X.A.in1.handled = none := I.ok.hd hc
    exact enum_stop hh he hit (show s.heap.IsTuple a its.toArray from pl) (by rw [List.getElem?_toArray]; exact List.getElem?_eq_none (by omega)) fun h' eb => ⟨rfl, I.turned (t' := s.toks) (fun b o hb q => eb b o hb q) f0 f1 f3 f4 f5⟩
  self := fun A i s Q E st h => let ⟨⟨_, he⟩, _⟩ := st; wpAny_pyIter_enum he h
/-- enumerate of a list or a tuple, as it comes -/
def iEnumA (K : PySem.W.Frag) (ta : TA) : TI := fun σ H R => ta σ H fun vs H1 => ∃ a, vs = [.ref a] ∧ (((∃ xs, SqL K H1 a xs) ∧ R (Ite K a) H1) ∨ ((∃ xs, SqT K H1 a xs) ∧ R (Iet K a) H1))
theorem pi_enumA {X : Cx} {e : Expr} {ta : TA} {p pos tpos : Pos} {elts : List Expr} {kk : Nat} (hg : Gl X "enumerate") (hm : X.mg "enumerate" = none) (ha : PA X [e] ta) (hs : starEach [e] X.env = [(false, eval e X.env)] := by rfl) :
    PI X (.Tuple elts kk tpos) (.Call (.Name "enumerate" p) [e] [] pos) (iEnumA X.K ta) := by
  constructor
  intro pins s σ H R I h
  refine Call_ (ld_blt I hg hm boot_enumerate (PyProof.Rows.callWith_type1 (thn (ha.run pos pins s σ H _ I h) ?_) hs rfl))
  rintro us s1 ⟨vs, H1, I1, r1, a, rfl, q⟩
  have er := r1.ref1
  subst er
  have two : ∀ b, b ∈ [s1.heap.objs.size + 1, s1.heap.objs.size] → s1.heap.objs.size ≤ b := fun b hb => by
    rcases List.mem_cons.mp hb with rfl | hb
    · exact Nat.le_succ _
    · rw [List.mem_singleton.mp hb]; exact Nat.le_refl _
  rcases q with ⟨⟨xs, hq⟩, q⟩ | ⟨⟨xs, hq⟩, q⟩
  · obtain ⟨its, rv, pl, hz⟩ := I1.list hq
    refine enum1 (begins_list a its.toArray) pl.isList fun h' he ho hk => wpAny_pyIter_enum he ?_
    exact ⟨s1.heap.objs.size + 1, [s1.heap.objs.size + 1, s1.heap.objs.size], _, _, H1, rfl, I1.kept (t' := s1.toks) hk, turn_enum a (s1.heap.objs.size + 1) s1.heap.objs.size, ⟨⟨.none, he⟩, ⟨_, ho, rfl, rfl⟩, Nat.succ_ne_self _⟩,
      fun b hb => I1.fpOk (two b hb) (I1.hok.fresh (two b hb)), q⟩
  · obtain ⟨its, rv, pl, hz⟩ := I1.tuple hq
    have hl : a < s1.heap.objs.size := pl.lt
    refine enum1 (begins_tuple a its.toArray) (show s1.heap.IsTuple a its.toArray from pl) fun h' he ho hk => wpAny_pyIter_enum he ?_
    exact ⟨s1.heap.objs.size + 1, [s1.heap.objs.size + 1, s1.heap.objs.size], _, _, H1, rfl, I1.kept (t' := s1.toks) hk, turn_enumT a (s1.heap.objs.size + 1) s1.heap.objs.size,
      ⟨⟨.none, he⟩, ⟨_, ho, rfl, rfl⟩, Nat.succ_ne_self _, Nat.ne_of_lt hl, Nat.ne_of_lt (Nat.lt_succ_of_lt hl)⟩, fun b hb => I1.fpOk (two b hb) (I1.hok.fresh (two b hb)), q⟩
def enumD : Nat → List D → List D
  | _, [] => []
  | n, d :: ds => .tup [.int (n : Nat), d] :: enumD (n + 1) ds
theorem enumD_len : ∀ (n : Nat) (ds : List D), (enumD n ds).length = ds.length
  | _, [] => rfl
  | n, d :: ds => by simp [enumD, enumD_len (n + 1) ds]
theorem enumD_get : ∀ (n : Nat) (ds : List D) (i : Nat) (d : D), (enumD n ds)[i]? = some d → ∃ e, ds[i]? = some e ∧ d = .tup [.int ((n + i : Nat) : Int), e]
  | _, [], i, d, h => by simp [enumD] at h
  | n, e :: ds, 0, d, h => by simp [enumD] at h; exact ⟨e, rfl, h.symm⟩
  | n, e :: ds, i + 1, d, h => by
    obtain ⟨e', h1, h2⟩ := enumD_get (n + 1) ds i d (by simpa [enumD] using h)
    exact ⟨e', by simpa using h1, by rw [h2]; congr 4; omega⟩
theorem ite_ok {K : PySem.W.Frag} {F : Hp} {a : Addr} {vs : List V} {ds : List D} (h : SqL K F a vs) (r : RpL K F ds vs) : ItOk K F (enumD 0 ds) (Ite K a) where
  go := fun i H hi s => ⟨vs, vs[i]'(by rw [← r.length, ← enumD_len 0 ds]; exact hi), s.seq h, List.getElem?_eq_getElem _⟩
  stop := fun H s => ⟨vs, s.seq h, by rw [enumD_len, r.length]; exact Nat.le_refl _⟩
  yld := fun i d x H H' hd s y => by
    obtain ⟨T, u, rfl, hT, rfl, y⟩ := y
    obtain ⟨e, he, rfl⟩ := enumD_get 0 ds i d hd
    obtain ⟨v, ev, rv⟩ := r.get i e he
    have := (y vs (s.seq h)).symm.trans ev
    cases this
    exact .inr ⟨T, _, _, rfl, rfl, hT, rfl, _, _, rfl, by show V.int _ = V.int _; congr 1; omega, _, _, rfl, rv, rfl⟩
theorem iet_ok {K : PySem.W.Frag} {F : Hp} {a : Addr} {vs : List V} {ds : List D} (h : SqT K F a vs) (r : RpL K F ds vs) : ItOk K F (enumD 0 ds) (Iet K a) where
  go := fun i H hi s => ⟨vs, vs[i]'(by rw [← r.length, ← enumD_len 0 ds]; exact hi), sqT_mono s h, List.getElem?_eq_getElem _⟩
  stop := fun H s => ⟨vs, sqT_mono s h, by rw [enumD_len, r.length]; exact Nat.le_refl _⟩
  yld := fun i d x H H' hd s y => by
    obtain ⟨T, u, rfl, hT, rfl, y⟩ := y
    obtain ⟨e, he, rfl⟩ := enumD_get 0 ds i d hd
    obtain ⟨v, ev, rv⟩ := r.get i e he
    have := (y vs (sqT_mono s h)).symm.trans ev
    cases this
    exact .inr ⟨T, _, _, rfl, rfl, hT, rfl, _, _, rfl, by show V.int _ = V.int _; congr 1; omega, _, _, rfl, rv, rfl⟩
def mEnum (ms : M (List D)) : M (List D) := fun sv => (ms sv).bind fun ds s => match ds with
  | [.tup xs] => .ok (enumD 0 xs) s
  | [.lst xs] => .ok (enumD 0 xs) s
  | [.fl xs] => .ok (enumD 0 xs) s
  | _ => .bad
theorem si_enum {X : Cx} {W : WX'} {e : Expr} {ms : M (List D)} {p pos tpos : Pos} {elts : List Expr} {kk : Nat} (hg : Gl X "enumerate") (hm : X.mg "enumerate" = none) (ha : SA X W [e] ms) (hs : starEach [e] X.env = [(false, eval e X.env)] := by rfl) :
    SI X W (.Tuple elts kk tpos) (.Call (.Name "enumerate" p) [e] [] pos) (mEnum ms) := pi_imp (pi_enumA hg hm ha hs) fun σ H R q => by
  obtain ⟨g, F, sv, hK, rl, q⟩ := q
  refine ⟨g, F, sv, hK, rl, PostG.bind q fun ds s x F1 H1 e1 rl1 rp1 q1 => ?_⟩
  rw [← hK.1]
  split at q1
  · obtain ⟨v, rfl, a, vs, rfl, h1, h2⟩ := RpL.one_inv rp1
    exact ⟨a, rfl, .inr ⟨⟨vs, sqT_mono rl1.sub h1⟩, q1 _ F1 H1 (Same.refl F1) rl1 (iet_ok h1 h2)⟩⟩
  · obtain ⟨v, rfl, a, vs, rfl, h1, h2⟩ := RpL.one_inv rp1
    exact ⟨a, rfl, .inl ⟨⟨vs, .inl (.inl (rl1.sub _ _ h1))⟩, q1 _ F1 H1 (Same.refl F1) rl1 (ite_ok (.inl (.inl h1)) h2)⟩⟩
  · obtain ⟨v, rfl, a, vs, rfl, h1, h2⟩ := RpL.one_inv rp1
    exact ⟨a, rfl, .inl ⟨⟨vs, rl1.sub.seq h1⟩, q1 _ F1 H1 (Same.refl F1) rl1 (ite_ok h1 h2)⟩⟩
  · exact False.elim q1
end VM

set_option Elab.async false
set_option linter.all false
set_option autoImplicit false
set_option maxRecDepth 100000
set_option maxHeartbeats 400000
namespace VM
open PySem PySem.Spec PyProof.Rows L2

/-! ### defs -/
inductive FR where
  | ok (d : D) (o : Option D) | err (x : Exn) (o : Option D) | bad
abbrev Fn := List D → FR

/-- a new answer that is the caller's -/
def RoOk (K : PySem.W.Frag) (F' H' H : Hp) (ip : Option Addr) (o : Option D) (d : D) (v : V) : Prop := ∃ p, v = .ref p ∧ OwnP K F' H' d p ∧ (∀ a, Ft K H' d p a → H a = none) ∧ ∀ p' d', ip = some p' → o = some d' → ∀ a, Ft K H' d p a → ¬ Ft K H' d' p' a
/-- ip: the argument that may be changed; φ: what it has for itself -/
def PostF (K : PySem.W.Frag) (mg : Str → Option Value) (F H : Hp) (ip : Option Addr) (φ : Addr → Prop) (ro : Bool) (r : FR) (Q : VK) (E : XK) : Prop := match r with
  | .ok d o => ∀ v F' H', Same F F' → Same F' H' → (∀ a u, H a = some u → ¬ φ a → H' a = some u) → (∀ a, H a ≠ none → F' a = F a) → (∀ a, H a ≠ none → H' a ≠ none) → (∀ p, ip = some p → ∃ d', o = some d' ∧ OwnP K F' H' d' p ∧ ∀ a, Ft K H' d' p a → φ a ∨ H a = none) →
      (if ro = true then RoOk K F' H' H ip o d v else Rp K F' d v) → Q v H'
  | .err x o => ∀ cls dd F' H', Same F F' → Same F' H' → (∀ a u, H a = some u → ¬ φ a → H' a = some u) → (∀ a, H a ≠ none → F' a = F a) → (∀ a, H a ≠ none → H' a ≠ none) → (∀ p, ip = some p → ∃ d', o = some d' ∧ OwnP K F' H' d' p ∧ ∀ a, Ft K H' d' p a → φ a ∨ H a = none) →
      ErrOk K mg F' x cls dd → E cls dd H'
  | .bad => False
/-- what a def promises: it computes fn; io: the place of the argument that it may change; ro: its answer is new and the caller's -/
def spV (K : PySem.W.Frag) (mg : Str → Option Value) (n : Nat) (io : Option Nat) (ro : Bool) (fn : Fn) : Sp := fun vs H Q E => vs.length = n ∧ match io with
  | none => ∃ F ds, Same F H ∧ RpL K F ds vs ∧ PostF K mg F H none (fun _ => False) ro (fn ds) Q E
  | some k => ∃ F ds1 d ds2 vs1 p vs2, Same F H ∧ ds1.length = k ∧ vs = vs1 ++ V.ref p :: vs2 ∧ RpL K F ds1 vs1 ∧ OwnP K F H d p ∧ RpL K F ds2 vs2 ∧ PostF K mg F H (some p) (Ft K H d p) ro (fn (ds1 ++ d :: ds2)) Q E
/-- the heap without some places -/
noncomputable def hole (H : Hp) (φ : Addr → Prop) : Hp := by
  classical
  exact fun a => if φ a then none else H a
theorem hole_in {H : Hp} {φ : Addr → Prop} {a : Addr} (h : φ a) : hole H φ a = none := if_pos h
theorem hole_out {H : Hp} {φ : Addr → Prop} {a : Addr} (h : ¬ φ a) : hole H φ a = H a := if_neg h
theorem hole_some {H : Hp} {φ : Addr → Prop} {a : Addr} {o : HO} (h : hole H φ a = some o) : ¬ φ a ∧ H a = some o := by
  by_cases hp : φ a
  · rw [hole_in hp] at h; cases h
  · rw [hole_out hp] at h; exact ⟨hp, h⟩

/-- FnOk, where no repr is under way -/
structure FnG (P : Program) (w : World) (K : PySem.W.Frag) (mg : Str → Option Value) (base : Heap) (k : Nat) (f : Addr) (fd : FuncData) (ps : List Str) (sp : Sp) : Prop where
  len : ∀ vs H Q E, sp vs H Q E → vs.length = ps.length
  run : ∀ (A : Around) (outer : List Env) (s : Shared) (H : Hp) (args : Args) (us : List Value) (vs : List V) (Q : VK) (E : XK), A.guards = some [] → Room k A → Env0 P w K mg base A outer s H → BindsTo s fd args (ps.zip us) → Vals vs us → sp vs H Q E →
    codeAny (model P w) A (.call (.ref f) args) (CR (L2N.CX P w) outer P w H s Q E) s
theorem FnG.mono {P : Program} {w : World} {K : PySem.W.Frag} {mg : Str → Option Value} {base : Heap} {j k : Nat} {f : Addr} {fd : FuncData} {ps : List Str} {sp : Sp} (F : FnG P w K mg base j f fd ps sp) (h : j ≤ k) : FnG P w K mg base k f fd ps sp :=
  ⟨F.len, fun A outer s H args us vs Q E hg hr => F.run A outer s H args us vs Q E hg (hr.mono h)⟩

/-- what a body's derivation leans on -/
structure Ctx (X : Cx) (W : WX') (k : Nat) : Prop where
  tk : L2N.Takes X W
  hr : Room k X.A
  hg : X.A.guards = some []
  po : PassesOwn (model X.prog X.w) X.A X.env X.xe
theorem Ctx.u {X : Cx} {W : WX'} {k : Nat} (c : Ctx X W k) : X.A.units + 64 < cLine := by have := c.hr.un; omega
theorem Ctx.u5 {X : Cx} {W : WX'} {k : Nat} (c : Ctx X W k) : X.A.units + 65 < cLine := by have := c.hr.un; omega
abbrev WE0 (E : XK) : WX' := fun cls d _ H => E cls d H

/-- the frame at a def's entry -/
def initA (io : Option Nat) : Nat → List D → SV
  | _, [] => []
  | k, d :: ds => (if io = some k then .io 0 d else .pl d) :: initA io (k + 1) ds
def outS (io : Option Nat) (sv : SV) : Option (Option D) := match io with
  | none => some none
  | some k => match sv[k]? with
    | some (.io _ d) => some (some d)
    | _ => none
def fnOf (n : Nat) (io : Option Nat) (ro : Bool) (body : MS) : Fn := fun ds => match body (initA io 0 ds ++ List.replicate (n - ds.length) .un) with
  | .nx s => match outS io s with
    | some o => if ro = true then .bad else .ok .non o
    | none => .bad
  | .rt d s => match outS io s with
    | some o => if ro = true then .bad else .ok d o
    | none => .bad
  | .ro d s => match outS io s with
    | some o => if ro = true then .ok d o else .bad
    | none => .bad
  | .err x s => match outS io s with
    | some o => .err x o
    | none => .bad
  | _ => .bad
theorem initA_len (io : Option Nat) : ∀ (k : Nat) (ds : List D), (initA io k ds).length = ds.length
  | _, [] => rfl
  | k, d :: ds => by simp [initA, initA_len io (k + 1) ds]
theorem initA_get (io : Option Nat) : ∀ (k : Nat) (ds : List D) (i : Nat), (initA io k ds)[i]? = ds[i]?.map fun d => if io = some (k + i) then .io 0 d else .pl d
  | _, [], i => by simp [initA]
  | k, d :: ds, 0 => by simp [initA]
  | k, d :: ds, i + 1 => by
    simp only [initA, List.getElem?_cons_succ]
    rw [initA_get io (k + 1) ds i]
    have : k + 1 + i = k + (i + 1) := by omega
    rw [this]

theorem rl_init {K : PySem.W.Frag} {mx : MX} {F H : Hp} {N : List Str} {ds : List D} {vs : List V} {io : Option Nat} {ip : Option Addr} {φ : Addr → Prop} (sub : Same F H) (hn : vs.length ≤ N.length) (len : ds.length = vs.length)
    (hp : ∀ i d v, ds[i]? = some d → vs[i]? = some v → if io = some i then ∃ p, ip = some p ∧ v = .ref p ∧ OwnP K F H d p ∧ φ = Ft K H d p else Rp K F d v) (hio : ∀ p, ip = some p → H p ≠ none ∧ φ p) :
    Rl ⟨K, hole H φ, fun a => H a ≠ none, F, fun _ => ip, mx⟩ F H (start N vs) (initA io 0 ds ++ List.replicate (N.length - ds.length) .un) := by
  have slot : ∀ (i : Nat) (s : Sl), (initA io 0 ds ++ List.replicate (N.length - ds.length) Sl.un)[i]? = some s → s = .un ∨ ∃ d v, ds[i]? = some d ∧ vs[i]? = some v ∧ (start N vs)[i]? = some (some v) ∧ s = if io = some i then .io 0 d else .pl d := fun i s h => by
    by_cases hi : i < ds.length
    · rw [List.getElem?_append_left (by rw [initA_len]; exact hi), initA_get, List.getElem?_eq_getElem hi] at h
      have hv : i < vs.length := by omega
      have e1 : vs[i]? = some vs[i] := List.getElem?_eq_getElem hv
      refine .inr ⟨ds[i], vs[i], List.getElem?_eq_getElem hi, e1, ?_, ?_⟩
      · unfold L2.start
        rw [List.getElem?_append_left (by simpa using hv), List.getElem?_map, e1]
        rfl
      · simpa using (Option.some.inj h).symm
    · rw [List.getElem?_append_right (by rw [initA_len]; omega)] at h
      obtain ⟨_, h2⟩ := List.getElem?_eq_some_iff.mp h
      exact .inl (by simpa using h2.symm)
  refine ⟨sub, fun a o e => (hole_some e).2, fun a _ => rfl, fun a h => h, fun a o e => (by show H a ≠ none; rw [(hole_some e).2]; exact fun z => nomatch z), fun k p e => ⟨hole_in (hio p e).2, (hio p e).1⟩, ?_, fun i s h => ?_, fun i j p hi hj => ?_⟩
  · unfold L2.start
    simp only [List.length_append, List.length_map, List.length_replicate, initA_len]
    omega
  · rcases slot i s h with rfl | ⟨d, v, e1, e2, e3, rfl⟩
    · trivial
    · have q := hp i d v e1 e2
      split
      · rename_i hio
        rw [if_pos hio] at q
        obtain ⟨p, ep, rfl, o, hf⟩ := q
        exact ⟨p, e3, ep, fun a ha => hole_in (by rw [hf]; exact ha), o⟩
      · rename_i hio
        rw [if_neg hio] at q
        exact ⟨v, e3, q⟩
  · have one : ∀ i, Ref K H (start N vs) (initA io 0 ds ++ List.replicate (N.length - ds.length) Sl.un) i p → io = some i := fun i ⟨s, d0, p0, e1, e2, e3, _⟩ => by
      rcases slot i s e1 with rfl | ⟨d, v, _, _, _, rfl⟩
      · cases e2
      · by_cases h : io = some i
        · exact h
        · rw [if_neg h] at e2
          cases e2
    have h1 := one i hi
    have h2 := one j hj
    rw [h1] at h2
    exact Option.some.inj h2

section
variable {P : Program} {w : World} {K : PySem.W.Frag} {mg : Str → Option Value} {base : Heap}
theorem fin_post {mx : MX} {n : Nat} {io : Option Nat} {ip : Option Addr} {φ : Addr → Prop} {ro : Bool} {body : MS} {ds : List D} {F H : Hp} {Q : VK} {E : XK} {g : G} (eg : g = ⟨K, hole H φ, fun a => H a ≠ none, F, fun _ => ip, mx⟩) (hio : ∀ p, ip = some p → ∃ k, io = some k) (hio2 : io = none → ip = none)
    (q : PostF K mx.mg F H ip φ ro (fnOf n io ro body ds) Q E) : PostS mx g F (body (initA io 0 ds ++ List.replicate (n - ds.length) .un)) (WE0 E) { nx := fun _ H' => Q .non H', rt := Q } := by
  subst eg
  have keep : ∀ {F' H' : Hp} {σ' : L2.St} {sv' : SV}, Rl ⟨K, hole H φ, fun a => H a ≠ none, F, fun _ => ip, mx⟩ F' H' σ' sv' → ∀ a u, H a = some u → ¬ φ a → H' a = some u := fun rl a u e ne => rl.kH a u (by show hole H φ a = some u; rw [hole_out ne]; exact e)
  have atp : ∀ {F' H' : Hp} {σ' : L2.St} {sv' : SV} {o : Option D}, Rl ⟨K, hole H φ, fun a => H a ≠ none, F, fun _ => ip, mx⟩ F' H' σ' sv' → outS io sv' = some o → ∀ p, ip = some p → ∃ k j d', io = some k ∧ o = some d' ∧ sv'[k]? = some (.io j d') ∧ σ'[k]? = some (some (.ref p)) ∧ OwnP K F' H' d' p ∧ ∀ a, Ft K H' d' p a → φ a ∨ H a = none := fun {F' H' σ' sv' o} rl ho p hp => by
    obtain ⟨k, hk⟩ := hio p hp
    subst hk
    unfold outS at ho
    split at ho
    · rename_i z
      cases z
    · rename_i k' z
      cases z
      split at ho
      · rename_i j d hs
        cases ho
        obtain ⟨p', e1, e2, np, o'⟩ := rl.sl _ _ hs
        have e2' : ip = some p' := e2
        rw [hp] at e2'; cases e2'
        refine ⟨_, j, d, rfl, rfl, hs, e1, o', fun a ha => ?_⟩
        have := np a ha
        by_cases h : φ a
        · exact .inl h
        · have this : hole H φ a = none := this
          rw [hole_out h] at this
          exact .inr this
      · cases ho
  have out : ∀ {F' H' : Hp} {σ' : L2.St} {sv' : SV} {o : Option D}, Rl ⟨K, hole H φ, fun a => H a ≠ none, F, fun _ => ip, mx⟩ F' H' σ' sv' → outS io sv' = some o → ∀ p, ip = some p → ∃ d', o = some d' ∧ OwnP K F' H' d' p ∧ ∀ a, Ft K H' d' p a → φ a ∨ H a = none := fun rl ho p hp => by
    obtain ⟨k, j, d', _, h2, _, _, h3, h4⟩ := atp rl ho p hp
    exact ⟨d', h2, h3, h4⟩
  unfold fnOf at q
  cases hb : body (initA io 0 ds ++ List.replicate (n - ds.length) .un) with
  | nx s =>
    rw [hb] at q
    intro σ' F' H' e rl
    cases ho : outS io s with
    | none => simp only [ho] at q; exact False.elim q
    | some o =>
      simp only [ho] at q
      split at q
      · exact False.elim q
      · rename_i hro
        exact q .non F' H' e rl.sub (keep rl) rl.kF rl.fxH (out rl ho) (by rw [if_neg hro]; rfl)
  | rt d s =>
    rw [hb] at q
    intro v σ' F' H' e rl rp
    cases ho : outS io s with
    | none => simp only [ho] at q; exact False.elim q
    | some o =>
      simp only [ho] at q
      split at q
      · exact False.elim q
      · rename_i hro
        exact q v F' H' e rl.sub (keep rl) rl.kF rl.fxH (out rl ho) (by rw [if_neg hro]; exact rp)
  | ro d s =>
    rw [hb] at q
    intro v σ' F' H' e rl rp
    cases ho : outS io s with
    | none => simp only [ho] at q; exact False.elim q
    | some o =>
      simp only [ho] at q
      split at q
      · rename_i hro
        obtain ⟨p, rfl, nf, o', nr⟩ := rp
        refine q _ F' H' e rl.sub (keep rl) rl.kF rl.fxH (out rl ho) ?_
        rw [if_pos hro]
        refine ⟨p, rfl, o', fun a ha => ?_, fun p' d' hp' hd' a ha ha' => ?_⟩
        · cases z : H a with
          | none => rfl
          | some u => exact absurd (show H a ≠ none by rw [z]; exact fun z => nomatch z) (nf a ha)
        · obtain ⟨k, j, d2, _, h2, h3, h4, _⟩ := atp rl ho p' hp'
          rw [hd'] at h2; cases h2
          exact nr a ha k ⟨_, _, p', h3, rfl, h4, ha'⟩
      · exact False.elim q
  | err x s =>
    rw [hb] at q
    intro cls dd σ' F' H' e rl er
    cases ho : outS io s with
    | none => simp only [ho] at q; exact False.elim q
    | some o =>
      simp only [ho] at q
      exact q cls dd F' H' e rl.sub (keep rl) rl.kF rl.fxH (out rl ho) er
  | bk s => rw [hb] at q; exact False.elim q
  | ct s => rw [hb] at q; exact False.elim q
  | bad => rw [hb] at q; exact False.elim q
/-- THE RULE for a def -/
theorem fn_okL {x qual : Str} {st : Stmt} {f : Addr} {oc : Value} {od an : Option Addr} {osl : Array (Option Value)} {dV kV doc pm cdv ct : Value} {N ps : List Str} {k n : Nat} {io : Option Nat} {ro : Bool} {body : MS} (lk : K.lookup f = some ⟨oc, od, .func (PySem.W.fnOf x qual (defArgs st) (defBody st) (defScope st) dV kV doc pm an cdv ct), osl⟩) (hcd : PySem.W.codeIn K cdv qual = true) (S : FnScope N ps (defScope st)) (hn : n = ps.length) (hN : ps.length ≤ N.length)
    (hb : ∀ (cdv : Value) (A : Around) (outer : List Env) (s : Shared) (H : Hp) (E : XK), Ctx (cxOf (L2N.CX P w) P w K mg base N qual (defScope st) f cdv A outer s H E) (WE0 E) k →
      SSs (cxOf (L2N.CX P w) P w K mg base N qual (defScope st) f cdv A outer s H E) (WE0 E) (defBody st) body) :
    FnG P w K mg base (k + 1) f (PySem.W.fnOf x qual (defArgs st) (defBody st) (defScope st) dV kV doc pm an cdv ct) ps (spV K mg n io ro (fnOf N.length io ro body)) := by
  subst hn
  have len : ∀ vs H Q E, spV K mg ps.length io ro (fnOf N.length io ro body) vs H Q E → vs.length = ps.length := fun vs H Q E h => h.1
  constructor
  · exact len
  intro A outer s H args us vs Q E hg hr e0 hbd r hsp
  have hl := len _ _ _ _ hsp
  have KX : K.In s.heap := e0.mod.kin.keeps fun b o e => (e0.bs b o e).1
  have lim : s.heap.NoLimit := e0.mod.nolimit.keeps fun b o e => (e0.bs b o e).1
  have kinds : ∀ y ∈ ps.zip us, (defScope st).names.lookup y.1 = some .local ∨ ((defScope st).names.lookup y.1 = some .cell ∧ ((cellsFrom (s.heap.objs.size + 1) (defScope st).names []).lookup y.1).isSome = true) := fun y hy => by
    rcases S.par y.1 (List.of_mem_zip hy).1 with q | q
    · exact .inl q
    · exact .inr ⟨q, PySem.W.cellsFrom_some _ _ _ (.inl q)⟩
  refine codeAny_call_function hr.depth (KX _ _ lk) rfl S.co S.gen rfl (PySem.W.codeRec_of KX hcd) (hbd _ _ _ _ ?_)
  refine wpAny_newFunctionEnv_cells S.kind kinds fun env he s1 x => ?_
  subst he
  refine ⟨lim.keeps x.toInCall.keep, codeAny_func ?_⟩
  have cx : Ctx (cxOf (L2N.CX P w) P w K mg base N qual (defScope st) f cdv A outer s H E) (WE0 E) k := ⟨L2N.takes_of rfl rfl rfl rfl, hr.deeper _, hg, passes_of rfl⟩
  have ht := hb cdv A outer s H E cx
  have I : Inv (cxOf (L2N.CX P w) P w K mg base N qual (defScope st) f cdv A outer s H E) [] (start N vs) H s1 := inv_start S hr.hd e0 hl r x
  have hq : tS K ⟨mg, none⟩ (WE0 E) body { nx := fun _ H' => Q .non H', rt := Q } (start N vs) H := by
    obtain ⟨_, h⟩ := hsp
    cases io with
    | none =>
      obtain ⟨F, ds, sub, rv, q⟩ := h
      have hv : vs.length ≤ N.length := by omega
      refine ⟨_, F, _, (by exact ⟨rfl, rfl⟩), rl_init (mx := ⟨mg, none⟩) (N := N) (io := none) (ip := none) (φ := fun _ => False) sub hv rv.length (fun i d v e1 e2 => ?_) (fun p hp => nomatch hp), fin_post rfl (fun p hp => nomatch hp) (fun _ => rfl) q⟩
      rw [if_neg (by exact fun z => nomatch z)]
      obtain ⟨v', e3, h3⟩ := rv.get i d e1
      rw [e2] at e3; cases e3
      exact h3
    | some j =>
      obtain ⟨F, ds1, d, ds2, vs1, p, vs2, sub, hj, rfl, r1, o, r2, q⟩ := h
      have l1 := r1.length
      have l2 := r2.length
      refine ⟨_, F, _, (by exact ⟨rfl, rfl⟩), rl_init (mx := ⟨mg, none⟩) (N := N) (io := some j) (ip := some p) (φ := Ft K H d p) (ds := ds1 ++ d :: ds2) sub (by omega) (by simp [l1, l2]) (fun i d' v e1 e2 => ?_) (fun p' hp' => by cases hp'; exact ⟨o.nn, .here⟩), fin_post rfl (fun _ _ => ⟨j, rfl⟩) (fun z => nomatch z) q⟩
      rcases Nat.lt_trichotomy i ds1.length with hi | hi | hi
      · rw [if_neg (by intro z; have := Option.some.inj z; omega)]
        rw [List.getElem?_append_left hi] at e1
        rw [List.getElem?_append_left (by omega)] at e2
        obtain ⟨v', e3, h3⟩ := r1.get i d' e1
        rw [e2] at e3; cases e3
        exact h3
      · have e : j = i := by omega
        subst e
        rw [if_pos rfl]
        rw [List.getElem?_append_right (by omega), hi, Nat.sub_self] at e1
        rw [List.getElem?_append_right (by omega), hi, l1, Nat.sub_self] at e2
        cases e1; cases e2
        exact ⟨p, rfl, rfl, o, rfl⟩
      · rw [if_neg (by intro z; have := Option.some.inj z; omega)]
        obtain ⟨t, ht⟩ : ∃ t, i - ds1.length = t + 1 := ⟨i - ds1.length - 1, by omega⟩
        rw [List.getElem?_append_right (by omega), ht] at e1
        rw [List.getElem?_append_right (by omega), ← l1, ht] at e2
        obtain ⟨v', e3, h3⟩ := r2.get t d' (by simpa using e1)
        have e2' : vs2[t]? = some v := by simpa using e2
        rw [e2'] at e3; cases e3
        exact h3
  refine wpAny_mono (ht.run [] s1 (start N vs) H _ I hq) (fun fl s' hs => ?_) fun e s' hs => hs
  have fin : ∀ {σ' : L2.St} {H' : Hp} {v : V} {u : Value}, Inv (cxOf (L2N.CX P w) P w K mg base N qual (defScope st) f cdv A outer s H E) [] σ' H' s' → RelV v u → Q v H' → CE outer P w H s Q u s' :=
    fun {σ' H' v u} J rv q => ⟨v, H', J.os, J.bare, J.base, J.hok, rv, q⟩
  cases fl with
  | ret u => obtain ⟨v, σ', H', J, rv, q⟩ := hs; exact fin J rv q
  | next => obtain ⟨σ', H', J, q⟩ := hs; exact fin (v := V.non) (u := Value.none) J rfl q
  | brk => obtain ⟨_, _, _, q⟩ := hs; exact False.elim q
  | cont => obtain ⟨_, _, _, q⟩ := hs; exact False.elim q
theorem fn_ok {x qual : Str} {st : Stmt} {f : Addr} {fd : FuncData} {N ps : List Str} {k n : Nat} {io : Option Nat} {ro : Bool} {body : MS} (F : Fun K x qual st f fd) (S : FnScope N ps (defScope st)) (hn : n = ps.length) (hN : ps.length ≤ N.length)
    (hb : ∀ (cdv : Value) (A : Around) (outer : List Env) (s : Shared) (H : Hp) (E : XK), Ctx (cxOf (L2N.CX P w) P w K mg base N qual (defScope st) f cdv A outer s H E) (WE0 E) k →
      SSs (cxOf (L2N.CX P w) P w K mg base N qual (defScope st) f cdv A outer s H E) (WE0 E) (defBody st) body) :
    FnG P w K mg base (k + 1) f fd ps (spV K mg n io ro (fnOf N.length io ro body)) := by
  obtain ⟨oc, od, kV, doc, pm, an, cdv, ct, osl, rfl, lk, hcd⟩ := F.ex
  exact fn_okL lk hcd S hn hN hb
end

/-! ### calls -/
/-- arguments, one of them handed over to be changed -/
def RelAI (g : G) (F' _H' : Hp) (σ : L2.St) (_ : SV) (a : List D × Nat × List D) (vs : List V) : Prop := ∃ vs1 v vs2, vs = vs1 ++ v :: vs2 ∧ RpL g.K F' a.1 vs1 ∧ σ[a.2.1]? = some (some v) ∧ RpL g.K F' a.2.2 vs2
abbrev SAI (X : Cx) (W : WX') (es : List Expr) (m : M (List D × Nat × List D)) : Prop := PA X es (tG X.K X.mx W RelAI m)
section
variable {X : Cx} {W : WX'} {e : Expr} {es : List Expr} {m : M D} {ms : M (List D)} {mi : M (List D × Nat × List D)} {pos p : Pos} {x : Str}
def miHere (i : Nat) (ms : M (List D)) : M (List D × Nat × List D) := fun sv => match sv[i]? with
  | some (.ow _) => (ms sv).bind fun ds s => .ok ([], i, ds) s
  | some (.io _ _) => (ms sv).bind fun ds s => .ok ([], i, ds) s
  | _ => .bad
def miCons (m : M D) (mi : M (List D × Nat × List D)) : M (List D × Nat × List D) := fun sv => (m sv).bind fun d s1 => (mi s1).bind fun a s2 => .ok (d :: a.1, a.2.1, a.2.2) s2
theorem sai_here {i : Nat} {y : Str} {py : Pos} (hv : PE X (.Name y py) (tVar i)) (hr : SA X W es ms) (hs : starEach (.Name y py :: es) X.env = (false, eval (.Name y py) X.env) :: starEach es X.env := by rfl) : SAI X W (.Name y py :: es) (miHere i ms) := pa_imp (pa_cons hv hr hs) fun σ H Q q => by
  obtain ⟨g, F, sv, hK, rl, q⟩ := q
  have two : ∀ {p : Addr}, σ[i]? = some (some (.ref p)) → PostG X.mx g F σ ((ms sv).bind fun ds s => .ok ([], i, ds) s) W RelAI Q → tCons (tVar i) (tG X.K X.mx W RelL ms) σ H Q := fun {p} e1 q => by
    refine ⟨.ref p, e1, g, F, sv, hK, rl, PostG.bind q fun ds s vs F1 H1 e2 rl1 rp1 q1 => ?_⟩
    exact q1 _ F1 H1 (Same.refl F1) rl1 ⟨[], _, vs, rfl, rfl, e1, rp1⟩
  unfold miHere at q
  split at q
  · rename_i d hd
    obtain ⟨p, e1, _⟩ := rl.at hd
    exact two e1 q
  · rename_i k d hd
    obtain ⟨p, e1, _⟩ := rl.at hd
    exact two e1 q
  · exact False.elim q
theorem sai_cons (ha : SE X W e m) (hr : SAI X W es mi) (hs : starEach (e :: es) X.env = (false, eval e X.env) :: starEach es X.env := by rfl) : SAI X W (e :: es) (miCons m mi) := pa_imp (pa_cons ha hr hs) fun σ H Q q => by
  obtain ⟨g, F, sv, hK, rl, q⟩ := q
  refine ⟨g, F, sv, hK, rl, PostG.bind q fun d s1 v F1 H1 e1 rl1 rp1 q1 => ?_⟩
  refine ⟨g, F1, s1, hK, rl1, PostG.bind q1 fun a s2 vs F2 H2 e2 rl2 rp2 q2 => ?_⟩
  obtain ⟨vs1, u, vs2, rfl, r1, r2, r3⟩ := rp2
  exact q2 _ F2 H2 (Same.refl F2) rl2 ⟨v :: vs1, u, vs2, rfl, ⟨v, vs1, rfl, Rp.mono e2 _ _ rp1, r1⟩, r2, r3⟩

/-- the call of a def by name -/
theorem pe_callG {k : Nat} {f : Addr} {fd : FuncData} {ps : List Str} {sp : Sp} {dvs : List V} {ds : List Value} {E : L2.St → XK} {t : TA} (F : FnG X.prog X.w X.K X.mg X.base k f fd ps sp) (hgd : X.A.guards = some []) (hr : Room k X.A) (hg : Gl X x) (hm : X.mg x = some (.ref f)) (hk : PySem.W.keepIn X.K (.ref f) = true) (hb : Binds X.K fd ps ds) (hd : Vals dvs ds) (hx : ∀ σ, PassesAt (L2N.CX X.prog X.w) X σ (E σ))
    (ha : PA X (e :: es) t) (hdb : (x == ("__debug__" : Str)) = false := by decide) (he : starEach (e :: es) X.env = (false, eval e X.env) :: starEach es X.env := by rfl) (hpl : (backTo pos (starEach es X.env)).any (·.1) = false := by rfl) :
    PE X (.Call (.Name x p) (e :: es) [] pos) (tCallSD sp dvs E t) := by
  constructor
  intro pins s σ H Q I h
  refine wpAny_Call_Name_kw (ld_glob I hg hm (PySem.W.callWith_K (h₀ := X.base) I.ok.mod.kin hk (thn (ha.run pos pins s σ H _ I h) fun us s1 ⟨vs, H1, I1, r, q⟩ => ⟨I1.kIn, ?_⟩) he hpl) hdb)
  have r2 : Vals (vs ++ dvs) (us ++ ds) := r.append hd
  have hl : (us ++ ds).length = ps.length := r2.length.symm.trans (F.len _ _ _ _ q)
  refine wpAny_call (codeAny_mono (F.run X.A X.stack s1 H1 ⟨us, []⟩ (us ++ ds) (vs ++ dvs) Q (E σ) hgd hr I1.env0 (hb s1 us I1.kIn hl) r2 q) fun o s' hq => ?_)
  cases o with
  | error er => exact hx σ pins H1 s1 er s' I1 hq
  | ok fl =>
    cases fl with
    | ret u => exact I1.after hq
    | next => exact False.elim hq
    | brk => exact False.elim hq
    | cont => exact False.elim hq
theorem pe_callG0 {k : Nat} {f : Addr} {fd : FuncData} {ps : List Str} {sp : Sp} {dvs : List V} {ds : List Value} {E : L2.St → XK} (F : FnG X.prog X.w X.K X.mg X.base k f fd ps sp) (hgd : X.A.guards = some []) (hr : Room k X.A) (hg : Gl X x) (hm : X.mg x = some (.ref f)) (hk : PySem.W.keepIn X.K (.ref f) = true) (hb : Binds X.K fd ps ds) (hd : Vals dvs ds) (hx : ∀ σ, PassesAt (L2N.CX X.prog X.w) X σ (E σ))
    (hdb : (x == ("__debug__" : Str)) = false := by decide) : PE X (.Call (.Name x p) [] [] pos) (tCallSD sp dvs E tNil) := by
  constructor
  intro pins s σ H Q I h
  have h : sp dvs H Q (E σ) := h
  refine wpAny_Call_Name_kw (ld_glob I hg hm (PySem.W.callWith_K0 I.kIn hk ?_) hdb)
  have hl : ([] ++ ds).length = ps.length := hd.length.symm.trans (F.len _ _ _ _ h)
  refine wpAny_call (codeAny_mono (F.run X.A X.stack s H ⟨[], []⟩ ([] ++ ds) dvs Q (E σ) hgd hr I.env0 (hb s [] I.kIn hl) hd h) fun o s' hq => ?_)
  cases o with
  | error er => exact hx σ pins H s er s' I hq
  | ok fl =>
    cases fl with
    | ret u => exact I.after hq
    | next => exact False.elim hq
    | brk => exact False.elim hq
    | cont => exact False.elim hq

/-- behind a call: the frame's state -/
theorem Rl.after {g : G} {F H F' H' : Hp} {σ : L2.St} {sv : SV} (r : Rl g F H σ sv) (s1 : Same F F') (s2 : Same F' H') (kp : ∀ a u, H a = some u → H' a = some u) (kf : ∀ a, H a ≠ none → F' a = F a) : Rl g F' H' σ sv := by
  have nn : ∀ a, H a ≠ none → H' a = H a := fun a h => by
    cases z : H a with
    | none => exact absurd z h
    | some u => exact kp a u z
  exact r.move s2 (fun a o e => kp _ _ (r.kH a o e)) (fun a h => kf a (r.fxH a h)) (fun a h => by rw [nn a (r.fxH a h)]; exact r.fxH a h) s1 (fun i a h => (kf a (r.own h).2.1).trans (r.own h).1) fun i a h => nn a (r.own h).2.1
theorem Rl.afterIo {g : G} {F H F' H' : Hp} {σ : L2.St} {sv : SV} (r : Rl g F H σ sv) {i : Nat} {p : Addr} {s s' : Sl} {d d' : D} (hs : sv[i]? = some s) (hd : slD s = some d) (hs' : reSl s d' = some s') (hp : σ[i]? = some (some (.ref p)))
    (s1 : Same F F') (s2 : Same F' H') (kp : ∀ a u, H a = some u → ¬ Ft g.K H d p a → H' a = some u) (kf : ∀ a, H a ≠ none → F' a = F a) (kn : ∀ a, H a ≠ none → H' a ≠ none) (ho : OwnP g.K F' H' d' p) (hf : ∀ a, Ft g.K H' d' p a → Ft g.K H d p a ∨ H a = none) : Rl g F' H' σ (sv.set i s') := by
  have ref : ∀ a, Ft g.K H d p a → Ref g.K H σ sv i a := fun a ha => ⟨s, d, p, hs, hd, hp, ha⟩
  have nn : ∀ a, ¬ Ft g.K H d p a → H a ≠ none → H' a = H a := fun a hap h => by
    cases z : H a with
    | none => exact absurd z h
    | some u => exact kp a u z hap
  refine r.alt hs hd hs' hp s2 (fun a o e => ?_) (fun a h => kf a (r.fxH a h)) (fun a h => kn a (r.fxH a h)) s1 (fun j a hj h => ⟨(kf a (r.own h).2.1).trans (r.own h).1, nn a (fun z => hj (r.dj j i a h (ref a z))) (r.own h).2.1⟩) ho fun a ha => (hf a ha).imp id fun hn => ⟨r.nofx hn, r.noRef hn⟩
  refine kp _ _ (r.kH a o e) fun z => ?_
  have := (r.own (ref a z)).2.2
  rw [e] at this; cases this

def frR (r : FR) (s : SV) : R D := match r with
  | .ok d none => .ok d s
  | .err x none => .err x s
  | _ => .bad
def mCall (n : Nat) (fn : Fn) (dd : List D) (ms : M (List D)) : M D := fun sv => (ms sv).bind fun ds s => if (ds ++ dd).length = n then frR (fn (ds ++ dd)) s else .bad
def frI (r : FR) (i : Nat) (s : SV) : R D := match r with
  | .ok d (some o) => match s[i]? with
    | some sl => match reSl sl o with
      | some sl' => .ok d (s.set i sl')
      | none => .bad
    | none => .bad
  | .err x (some o) => match s[i]? with
    | some sl => match reSl sl o with
      | some sl' => .err x (s.set i sl')
      | none => .bad
    | none => .bad
  | _ => .bad
def mCallI (n : Nat) (fn : Fn) (k : Nat) (dd : List D) (mi : M (List D × Nat × List D)) : M D := fun sv => (mi sv).bind fun a s => match s[a.2.1]? with
  | some sl => match slD sl with
    | some d => if a.1.length = k ∧ (a.1 ++ d :: (a.2.2 ++ dd)).length = n then frI (fn (a.1 ++ d :: (a.2.2 ++ dd))) a.2.1 s else .bad
    | none => .bad
  | none => .bad
/-- defaults: values that no heap is asked for -/
def DefOk (K : PySem.W.Frag) (dd : List D) (dvs : List V) : Prop := ∀ F, RpL K F dd dvs
theorem DefOk.nil {K : PySem.W.Frag} : DefOk K [] [] := fun _ => rfl
theorem post_call {g : G} {F H : Hp} {σ : L2.St} {s : SV} {fn : Fn} {ds : List D} {vs : List V} {n : Nat} {ro : Bool} {Rel : G → Hp → Hp → L2.St → SV → D → V → Prop} {Q : VK} (hrel : ∀ F' H' d v, Rl g F' H' σ s → (if ro = true then RelO' g F' H' σ s d v else Rp g.K F' d v) → Rel g F' H' σ s d v)
    (hl : vs.length = n) (rl : Rl g F H σ s) (rp : RpL g.K F ds vs) (q : PostG X.mx g F σ (frR (fn ds) s) W Rel Q) : spV g.K X.mg n none ro fn vs H Q (fun cls dd H' => W cls dd σ H') := by
  refine ⟨hl, F, ds, rl.sub, rp, ?_⟩
  unfold frR at q
  cases hf : fn ds with
  | ok d o =>
    rw [hf] at q
    cases o with
    | none =>
      intro v F' H' e1 e2 kp kf _ _ hr
      have kp' : ∀ a u, H a = some u → H' a = some u := fun a u e => kp a u e (fun z => z)
      have rl' := rl.after e1 e2 kp' kf
      refine q v F' H' e1 rl' (hrel F' H' d v rl' ?_)
      cases ro with
      | false => simpa using hr
      | true =>
        rw [if_pos rfl] at hr
        obtain ⟨p, rfl, o, hn, _⟩ := hr
        rw [if_pos rfl]
        refine ⟨p, rfl, fun a ha => rl.nofx (hn a ha), o, fun a ha i hi => rl.noRef (hn a ha) i (hi.from fun b hb => ?_)⟩
        have := (rl.own hb).2.1
        cases z : H b with
        | none => exact absurd z this
        | some u => exact kp' b u z
    | some _ => exact False.elim q
  | err x o =>
    rw [hf] at q
    cases o with
    | none =>
      intro cls dd F' H' e1 e2 kp kf _ _ er
      exact q cls dd F' H' e1 (rl.after e1 e2 (fun a u e => kp a u e (fun z => z)) kf) er
    | some _ => exact False.elim q
  | bad => rw [hf] at q; exact False.elim q
variable {k n : Nat} {f : Addr} {fd : FuncData} {ps : List Str} {fn : Fn} {dd : List D} {dvs : List V} {ds : List Value} {kk : Nat}
theorem se_call (c : Ctx X W kk) (hkk : k ≤ kk) (Fg : FnG X.prog X.w X.K X.mg X.base k f fd ps (spV X.K X.mg n none false fn)) (hg : Gl X x) (hm : X.mg x = some (.ref f)) (hk : PySem.W.keepIn X.K (.ref f) = true) (hb : Binds X.K fd ps ds) (hd : Vals dvs ds) (hdd : DefOk X.K dd dvs)
    (ha : SA X W (e :: es) ms) (hdb : (x == ("__debug__" : Str)) = false := by decide) (he : starEach (e :: es) X.env = (false, eval e X.env) :: starEach es X.env := by rfl) (hpl : (backTo pos (starEach es X.env)).any (·.1) = false := by rfl) :
    SE X W (.Call (.Name x p) (e :: es) [] pos) (mCall n fn dd ms) := pe_imp (pe_callG Fg c.hg (c.hr.mono hkk) hg hm hk hb hd (fun σ => L2N.passAt c.tk σ) ha hdb he hpl) fun σ H Q q => by
  obtain ⟨g, F, sv, hK, rl, q⟩ := q
  refine ⟨g, F, sv, hK, rl, PostG.bind q fun as s vs F1 H1 e1 rl1 rp1 q1 => ?_⟩
  split at q1
  · rename_i hz
    have rp : RpL g.K F1 (as ++ dd) (vs ++ dvs) := RpL.append rp1 (by rw [hK.1]; exact hdd F1)
    rw [← hK.1]
    exact post_call (fun F' H' d v _ hr => by show Rp g.K F' d v; simpa using hr) (rp.length.symm.trans hz) rl1 rp q1
  · exact False.elim q1
theorem so_call (c : Ctx X W kk) (hkk : k ≤ kk) (Fg : FnG X.prog X.w X.K X.mg X.base k f fd ps (spV X.K X.mg n none true fn)) (hg : Gl X x) (hm : X.mg x = some (.ref f)) (hk : PySem.W.keepIn X.K (.ref f) = true) (hb : Binds X.K fd ps ds) (hd : Vals dvs ds) (hdd : DefOk X.K dd dvs)
    (ha : SA X W (e :: es) ms) (hdb : (x == ("__debug__" : Str)) = false := by decide) (he : starEach (e :: es) X.env = (false, eval e X.env) :: starEach es X.env := by rfl) (hpl : (backTo pos (starEach es X.env)).any (·.1) = false := by rfl) :
    SO X W (.Call (.Name x p) (e :: es) [] pos) (mCall n fn dd ms) := pe_imp (pe_callG Fg c.hg (c.hr.mono hkk) hg hm hk hb hd (fun σ => L2N.passAt c.tk σ) ha hdb he hpl) fun σ H Q q => by
  obtain ⟨g, F, sv, hK, rl, q⟩ := q
  refine ⟨g, F, sv, hK, rl, PostG.bind q fun as s vs F1 H1 e1 rl1 rp1 q1 => ?_⟩
  split at q1
  · rename_i hz
    have rp : RpL g.K F1 (as ++ dd) (vs ++ dvs) := RpL.append rp1 (by rw [hK.1]; exact hdd F1)
    rw [← hK.1]
    refine post_call (fun F' H' d v rl' hr => ?_) (rp.length.symm.trans hz) rl1 rp q1
    rw [if_pos rfl] at hr
    exact hr
  · exact False.elim q1
theorem se_call0 (c : Ctx X W kk) (hkk : k ≤ kk) (Fg : FnG X.prog X.w X.K X.mg X.base k f fd ps (spV X.K X.mg n none false fn)) (hg : Gl X x) (hm : X.mg x = some (.ref f)) (hk : PySem.W.keepIn X.K (.ref f) = true) (hb : Binds X.K fd ps ds) (hd : Vals dvs ds) (hdd : DefOk X.K dd dvs)
    (hdb : (x == ("__debug__" : Str)) = false := by decide) : SE X W (.Call (.Name x p) [] [] pos) (mCall n fn dd mNil) := pe_imp (pe_callG0 Fg c.hg (c.hr.mono hkk) hg hm hk hb hd (fun σ => L2N.passAt c.tk σ) hdb) fun σ H Q q => by
  obtain ⟨g, F, sv, hK, rl, q⟩ := q
  have q : PostG X.mx g F σ (if ([] ++ dd).length = n then frR (fn ([] ++ dd)) sv else .bad) W RelE Q := q
  split at q
  · rename_i hz
    have rp : RpL g.K F ([] ++ dd) ([] ++ dvs) := by rw [hK.1]; exact hdd F
    show spV X.K X.mg n none false fn ([] ++ dvs) H Q _
    rw [← hK.1]
    exact post_call (fun F' H' d v _ hr => by show Rp g.K F' d v; simpa using hr) (rp.length.symm.trans hz) rl rp q
  · exact False.elim q
theorem so_call0 (c : Ctx X W kk) (hkk : k ≤ kk) (Fg : FnG X.prog X.w X.K X.mg X.base k f fd ps (spV X.K X.mg n none true fn)) (hg : Gl X x) (hm : X.mg x = some (.ref f)) (hk : PySem.W.keepIn X.K (.ref f) = true) (hb : Binds X.K fd ps ds) (hd : Vals dvs ds) (hdd : DefOk X.K dd dvs)
    (hdb : (x == ("__debug__" : Str)) = false := by decide) : SO X W (.Call (.Name x p) [] [] pos) (mCall n fn dd mNil) := pe_imp (pe_callG0 Fg c.hg (c.hr.mono hkk) hg hm hk hb hd (fun σ => L2N.passAt c.tk σ) hdb) fun σ H Q q => by
  obtain ⟨g, F, sv, hK, rl, q⟩ := q
  have q : PostG X.mx g F σ (if ([] ++ dd).length = n then frR (fn ([] ++ dd)) sv else .bad) W RelO' Q := q
  split at q
  · rename_i hz
    have rp : RpL g.K F ([] ++ dd) ([] ++ dvs) := by rw [hK.1]; exact hdd F
    show spV X.K X.mg n none true fn ([] ++ dvs) H Q _
    rw [← hK.1]
    refine post_call (fun F' H' d v rl' hr => ?_) (rp.length.symm.trans hz) rl rp q
    rw [if_pos rfl] at hr
    exact hr
  · exact False.elim q
/-- a call that hands over what slot i owns -/
theorem post_callI {g : G} {F H : Hp} {σ : L2.St} {s : SV} {i j : Nat} {sl : Sl} {d0 : D} {ds1 ds2 : List D} {vs1 vs2 : List V} {p : Addr} {ro : Bool} {Rel : G → Hp → Hp → L2.St → SV → D → V → Prop} {Q : VK}
    (hrel : ∀ F' H' s' d v, Rl g F' H' σ s' → (if ro = true then RelO' g F' H' σ s' d v else Rp g.K F' d v) → Rel g F' H' σ s' d v)
    (hl : (vs1 ++ V.ref p :: vs2).length = n) (hj : ds1.length = j) (rl : Rl g F H σ s) (h1 : s[i]? = some sl) (h2 : slD sl = some d0) (hp : σ[i]? = some (some (.ref p))) (o : OwnP g.K F H d0 p) (r1 : RpL g.K F ds1 vs1) (r2 : RpL g.K F ds2 vs2)
    (q : PostG X.mx g F σ (frI (fn (ds1 ++ d0 :: ds2)) i s) W Rel Q) : spV g.K X.mg n (some j) ro fn (vs1 ++ V.ref p :: vs2) H Q (fun cls dd H' => W cls dd σ H') := by
  refine ⟨hl, F, ds1, d0, ds2, vs1, p, vs2, rl.sub, hj, rfl, r1, o, r2, ?_⟩
  have hi : i < s.length := (List.getElem?_eq_some_iff.mp h1).1
  have ref : ∀ a, Ft g.K H d0 p a → Ref g.K H σ s i a := fun a ha => ⟨sl, d0, p, h1, h2, hp, ha⟩
  unfold frI at q
  cases hf : fn (ds1 ++ d0 :: ds2) with
  | ok d oo =>
    rw [hf] at q
    cases oo with
    | none => exact False.elim q
    | some o1 =>
      rw [h1] at q
      dsimp only at q
      obtain ⟨sl', h3⟩ := re_of (d' := o1) h2
      rw [h3] at q
      intro v F' H' e1 e2 kp kf kn ho hr
      obtain ⟨d', ed, o', hf'⟩ := ho p rfl
      cases ed
      have rl' := rl.afterIo h1 h2 h3 hp e1 e2 kp kf kn o' hf'
      refine q v F' H' e1 rl' (hrel F' H' _ d v rl' ?_)
      cases ro with
      | false => simpa using hr
      | true =>
        rw [if_pos rfl] at hr
        obtain ⟨pr, rfl, o, hn, hdj⟩ := hr
        rw [if_pos rfl]
        refine ⟨pr, rfl, fun a ha => rl.nofx (hn a ha), o, fun a ha t ht => ?_⟩
        by_cases hit : i = t
        · subst hit
          obtain ⟨u, e, q, u1, u2, u3, u4⟩ := ht
          rw [List.getElem?_set_self hi] at u1
          cases u1
          rw [hp] at u3; cases u3
          have ee : e = o1 := by
            cases sl with
            | ow d => cases h3; cases u2; rfl
            | io k d => cases h3; cases u2; rfl
            | _ => cases h2
          subst ee
          exact hdj p e rfl rfl a ha u4
        · have h4 : Ref g.K H' σ s t a := by
            obtain ⟨u, e, q, u1, u2, u3, u4⟩ := ht
            rw [List.getElem?_set_ne hit] at u1
            exact ⟨u, e, q, u1, u2, u3, u4⟩
          refine rl.noRef (hn a ha) t (h4.from fun b hb => ?_)
          have := (rl.own hb).2.1
          cases z : H b with
          | none => exact absurd z this
          | some u => exact kp b u z fun zz => hit (rl.dj i t b (ref b zz) hb)
  | err x oo =>
    rw [hf] at q
    cases oo with
    | none => exact False.elim q
    | some o1 =>
      rw [h1] at q
      dsimp only at q
      obtain ⟨sl', h3⟩ := re_of (d' := o1) h2
      rw [h3] at q
      intro cls dd F' H' e1 e2 kp kf kn ho er
      obtain ⟨d', ed, o', hf'⟩ := ho p rfl
      cases ed
      exact q cls dd F' H' e1 (rl.afterIo h1 h2 h3 hp e1 e2 kp kf kn o' hf') er
  | bad => rw [hf] at q; exact False.elim q
theorem se_callI {j : Nat} (c : Ctx X W kk) (hkk : k ≤ kk) (Fg : FnG X.prog X.w X.K X.mg X.base k f fd ps (spV X.K X.mg n (some j) false fn)) (hg : Gl X x) (hm : X.mg x = some (.ref f)) (hk : PySem.W.keepIn X.K (.ref f) = true) (hb : Binds X.K fd ps ds) (hd : Vals dvs ds) (hdd : DefOk X.K dd dvs)
    (ha : SAI X W (e :: es) mi) (hdb : (x == ("__debug__" : Str)) = false := by decide) (he : starEach (e :: es) X.env = (false, eval e X.env) :: starEach es X.env := by rfl) (hpl : (backTo pos (starEach es X.env)).any (·.1) = false := by rfl) :
    SE X W (.Call (.Name x p) (e :: es) [] pos) (mCallI n fn j dd mi) := pe_imp (pe_callG Fg c.hg (c.hr.mono hkk) hg hm hk hb hd (fun σ => L2N.passAt c.tk σ) ha hdb he hpl) fun σ H Q q => by
  obtain ⟨g, F, sv, hK, rl, q⟩ := q
  refine ⟨g, F, sv, hK, rl, PostG.bind q fun a s vs F1 H1 e1 rl1 rp1 q1 => ?_⟩
  obtain ⟨ds1, i, ds2⟩ := a
  obtain ⟨vs1, v, vs2, rfl, r1, hv, r2⟩ := rp1
  dsimp only at q1 hv r1 r2
  split at q1
  · rename_i sl h1
    split at q1
    · rename_i d0 h2
      split at q1
      · rename_i hz
        obtain ⟨p0, e2, o⟩ := rl1.ownAt h1 h2
        have ev : v = .ref p0 := by have := hv.symm.trans e2; simpa using this
        subst ev
        have r2' : RpL g.K F1 (ds2 ++ dd) (vs2 ++ dvs) := RpL.append r2 (by rw [hK.1]; exact hdd F1)
        show spV X.K X.mg n (some j) false fn ((vs1 ++ V.ref p0 :: vs2) ++ dvs) H1 Q _
        rw [List.append_assoc, List.cons_append, ← hK.1]
        refine post_callI (fun F' H' s' d v _ hr => by show Rp g.K F' d v; simpa using hr) ?_ hz.1 rl1 h1 h2 hv o r1 r2' q1
        have := hz.2
        simp only [List.length_append, List.length_cons, r1.length, r2.length, (hdd F1).length] at this ⊢
        omega
      · exact False.elim q1
    · exact False.elim q1
  · exact False.elim q1
theorem so_callI {j : Nat} (c : Ctx X W kk) (hkk : k ≤ kk) (Fg : FnG X.prog X.w X.K X.mg X.base k f fd ps (spV X.K X.mg n (some j) true fn)) (hg : Gl X x) (hm : X.mg x = some (.ref f)) (hk : PySem.W.keepIn X.K (.ref f) = true) (hb : Binds X.K fd ps ds) (hd : Vals dvs ds) (hdd : DefOk X.K dd dvs)
    (ha : SAI X W (e :: es) mi) (hdb : (x == ("__debug__" : Str)) = false := by decide) (he : starEach (e :: es) X.env = (false, eval e X.env) :: starEach es X.env := by rfl) (hpl : (backTo pos (starEach es X.env)).any (·.1) = false := by rfl) :
    SO X W (.Call (.Name x p) (e :: es) [] pos) (mCallI n fn j dd mi) := pe_imp (pe_callG Fg c.hg (c.hr.mono hkk) hg hm hk hb hd (fun σ => L2N.passAt c.tk σ) ha hdb he hpl) fun σ H Q q => by
  obtain ⟨g, F, sv, hK, rl, q⟩ := q
  refine ⟨g, F, sv, hK, rl, PostG.bind q fun a s vs F1 H1 e1 rl1 rp1 q1 => ?_⟩
  obtain ⟨ds1, i, ds2⟩ := a
  obtain ⟨vs1, v, vs2, rfl, r1, hv, r2⟩ := rp1
  dsimp only at q1 hv r1 r2
  split at q1
  · rename_i sl h1
    split at q1
    · rename_i d0 h2
      split at q1
      · rename_i hz
        obtain ⟨p0, e2, o⟩ := rl1.ownAt h1 h2
        have ev : v = .ref p0 := by have := hv.symm.trans e2; simpa using this
        subst ev
        have r2' : RpL g.K F1 (ds2 ++ dd) (vs2 ++ dvs) := RpL.append r2 (by rw [hK.1]; exact hdd F1)
        show spV X.K X.mg n (some j) true fn ((vs1 ++ V.ref p0 :: vs2) ++ dvs) H1 Q _
        rw [List.append_assoc, List.cons_append, ← hK.1]
        refine post_callI (fun F' H' s' d v rl' hr => ?_) ?_ hz.1 rl1 h1 h2 hv o r1 r2' q1
        · rw [if_pos rfl] at hr
          exact hr
        · have := hz.2
          simp only [List.length_append, List.length_cons, r1.length, r2.length, (hdd F1).length] at this ⊢
          omega
      · exact False.elim q1
    · exact False.elim q1
  · exact False.elim q1
end
end VM

set_option Elab.async false
set_option linter.all false
set_option autoImplicit false
set_option maxRecDepth 100000
set_option maxHeartbeats 400000
namespace VM
open PySem PySem.Spec PyProof.Rows L2
theorem takesN0 {X : Cx} : L2N.Takes X (fun _ _ _ _ => False) := fun _ _ ⟨_, _, _, _, _, _, _, _, _, _, _, _, _, _, _, _, z⟩ => False.elim z

/-! ### an owned object is lent for one expression -/
def PuR {α : Type} (sv : SV) : R α → Prop
  | .ok _ s => s = sv
  | .err _ s => s = sv
  | .bad => True
class Pu {α : Type} (m : M α) : Prop where
  h : ∀ sv, PuR sv (m sv)
theorem pu_ok {α : Type} {m : M α} [p : Pu m] {sv s : SV} {a : α} (h : m sv = .ok a s) : s = sv := by
  have := p.h sv
  rw [h] at this
  exact this
theorem pu_err {α : Type} {m : M α} [p : Pu m] {sv s : SV} {x : Exn} (h : m sv = .err x s) : s = sv := by
  have := p.h sv
  rw [h] at this
  exact this
theorem Pu.bind {α β : Type} {m : M α} [Pu m] {k : α → SV → R β} (hk : ∀ a sv, PuR sv (k a sv)) : Pu (fun sv => (m sv).bind k) := ⟨fun sv => by
  cases h : m sv with
  | ok a s =>
    have := pu_ok h
    subst this
    exact hk a s
  | err x s => exact pu_err h
  | bad => trivial⟩
instance pu_c {d : D} : Pu (mC d) := ⟨fun _ => rfl⟩
instance pu_rd {i : Nat} : Pu (mRd i) := ⟨fun sv => by
  unfold mRd
  split
  · rfl
  · trivial⟩
instance pu_2 {f : D → D → Option D} {ma mb : M D} [Pu ma] [Pu mb] : Pu (m2 f ma mb) := Pu.bind fun a sv => (Pu.bind (m := mb) (k := fun b s2 => match f a b with | some d => .ok d s2 | none => .bad) fun b sv => by cases f a b; trivial; rfl).h sv
instance pu_1 {f : D → Option D} {ma : M D} [Pu ma] : Pu (m1 f ma) := Pu.bind fun a sv => by cases f a; trivial; rfl
instance pu_B {m : M D} [Pu m] : Pu (mB m) := Pu.bind fun a sv => by cases a <;> first | rfl | trivial
instance pu_V {m : M Bool} [Pu m] : Pu (mV m) := Pu.bind fun a sv => rfl
instance pu_Not {m : M Bool} [Pu m] : Pu (mNot m) := Pu.bind fun a sv => rfl
instance pu_And {ma mb : M Bool} [Pu ma] [hb : Pu mb] : Pu (mAnd ma mb) := Pu.bind fun a sv => by
  cases a
  · exact rfl
  · exact hb.h sv
instance pu_Or {ma mb : M Bool} [Pu ma] [hb : Pu mb] : Pu (mOr ma mb) := Pu.bind fun a sv => by
  cases a
  · exact hb.h sv
  · exact rfl
instance pu_AndV {ma mb : M D} [Pu ma] [hb : Pu mb] : Pu (mAndV ma mb) := Pu.bind fun a sv => by
  cases a <;> try trivial
  rename_i b
  cases b
  · exact rfl
  · exact hb.h sv
instance pu_OrV {ma mb : M D} [Pu ma] [hb : Pu mb] : Pu (mOrV ma mb) := Pu.bind fun a sv => by
  cases a <;> try trivial
  rename_i b
  cases b
  · exact hb.h sv
  · exact rfl
instance pu_If {t : M Bool} {ma mb : M D} [Pu t] [ha : Pu ma] [hb : Pu mb] : Pu (mIf t ma mb) := Pu.bind fun c sv => by
  cases c
  · exact hb.h sv
  · exact ha.h sv
instance pu_oN : Pu moN := ⟨fun _ => rfl⟩
instance pu_oS {m : M D} [Pu m] : Pu (moS m) := Pu.bind fun a sv => by cases a <;> first | rfl | trivial
instance pu_Sl {m : M D} {ml mh : MO} [Pu m] [Pu ml] [Pu mh] : Pu (mSl m ml mh) := Pu.bind fun d sv => (Pu.bind (m := ml) (k := fun lo s2 => (mh s2).bind fun hi s3 => match dSl d lo hi with | some r => .ok r s3 | none => .bad)
  fun lo sv => (Pu.bind (m := mh) (k := fun hi s3 => match dSl d lo hi with | some r => .ok r s3 | none => .bad) fun hi sv => by cases dSl d lo hi; trivial; rfl).h sv).h sv
instance pu_nil : Pu mNil := ⟨fun _ => rfl⟩
instance pu_cons {m : M D} {ms : M (List D)} [Pu m] [Pu ms] : Pu (mCons m ms) := Pu.bind fun d sv => (Pu.bind (m := ms) (k := fun ds s2 => .ok (d :: ds) s2) fun ds sv => rfl).h sv
instance pu_Tup {ms : M (List D)} [Pu ms] : Pu (mTup ms) := Pu.bind fun ds sv => by split; exact rfl; trivial
instance pu_Lst {ms : M (List D)} [Pu ms] : Pu (mLst ms) := Pu.bind fun ds sv => by split; exact rfl; trivial
instance pu_Call1 {f : List D → Option D} {ms : M (List D)} [Pu ms] : Pu (mCall1 f ms) := Pu.bind fun ds sv => by cases f ds; trivial; rfl
instance pu_Call {n : Nat} {fn : Fn} {dd : List D} {ms : M (List D)} [Pu ms] : Pu (mCall n fn dd ms) := Pu.bind fun ds sv => by
  split
  · unfold frR
    split <;> first | rfl | trivial
  · trivial
instance pu_Items {m : M D} [Pu m] : Pu (mItems m) := Pu.bind fun d sv => by cases itemsD d; trivial; rfl

mutual
def lfree : D → Bool
  | .non => true
  | .bl _ => true
  | .int _ => true
  | .str _ => true
  | .tup xs => lfreeL xs
  | .lst _ => false
  | .fl _ => false
  | .dct _ _ => false
  | .obj _ _ _ => false
  | .deep _ => false
  | .own _ => false
def lfreeL : List D → Bool
  | [] => true
  | d :: ds => lfree d && lfreeL ds
end
mutual
theorem Rp.drop {K : PySem.W.Frag} {F F' : Hp} (h : ∀ a vs, (F a = some (.tup vs) → F' a = some (.tup vs)) ∧ ∀ o, F a = some (.frz o (.tup vs)) → F' a = some (.frz o (.tup vs))) : ∀ (d : D) (v : V), lfree d = true → Rp K F d v → Rp K F' d v
  | .non, _, _, r => r
  | .bl _, _, _, r => r
  | .int _, _, _, r => r
  | .str _, _, _, r => r
  | .tup ds, v, f, r => by
    obtain ⟨a, vs, rfl, h1, h2⟩ := r
    refine ⟨a, vs, rfl, ?_, RpL.dropL h ds vs f h2⟩
    rcases h1 with (h1 | ⟨o, h1⟩) | h1
    · exact .inl (.inl ((h a vs).1 h1))
    · exact .inl (.inr ⟨o, (h a vs).2 o h1⟩)
    · exact .inr h1
  | .lst _, _, f, _ => by cases f
  | .fl _, _, f, _ => by cases f
  | .dct _ _, _, f, _ => by cases f
  | .obj _ _ _, _, f, _ => by cases f
  | .deep _, _, f, _ => by cases f
  | .own _, _, f, _ => by cases f
theorem RpL.dropL {K : PySem.W.Frag} {F F' : Hp} (h : ∀ a vs, (F a = some (.tup vs) → F' a = some (.tup vs)) ∧ ∀ o, F a = some (.frz o (.tup vs)) → F' a = some (.frz o (.tup vs))) : ∀ (ds : List D) (vs : List V), lfreeL ds = true → RpL K F ds vs → RpL K F' ds vs
  | [], vs, _, r => r
  | d :: ds, vs, f, r => by
    obtain ⟨v, u, rfl, h1, h2⟩ := r
    simp only [lfreeL, Bool.and_eq_true] at f
    exact ⟨v, u, rfl, Rp.drop h d v f.1 h1, RpL.dropL h ds u f.2 h2⟩
end
/-- all owned objects but slot i's are out of sight, slot i's is lent -/
def hideS : SV → SV
  | [] => []
  | .un :: r => .un :: hideS r
  | .pl d :: r => .pl d :: hideS r
  | .ow _ :: r => .un :: hideS r
  | .io _ _ :: r => .un :: hideS r
  | .ex _ :: r => .un :: hideS r
def lend (i : Nat) (d : D) (sv : SV) : SV := (hideS sv).set i (.pl d)
theorem hideS_len : ∀ sv, (hideS sv).length = sv.length
  | [] => rfl
  | s :: r => by cases s <;> simp [hideS, hideS_len r]
theorem hideS_get : ∀ (sv : SV) (i : Nat) (s : Sl), (hideS sv)[i]? = some s → s = .un ∨ ∃ d, s = .pl d ∧ sv[i]? = some (.pl d)
  | [], i, s, h => by simp [hideS] at h
  | t :: r, 0, s, h => by cases t <;> simp [hideS] at h <;> subst h <;> simp
  | t :: r, i + 1, s, h => by
    have h' : (hideS r)[i]? = some s := by cases t <;> simpa [hideS] using h
    rcases hideS_get r i s h' with e | ⟨d, e1, e2⟩
    · exact .inl e
    · exact .inr ⟨d, e1, by simpa using e2⟩
def mWith {α : Type} (ok : α → Bool) (i : Nat) (m : M α) : M α := fun sv => match sv[i]? with
  | some sl => match slD sl with
    | some d => match m (lend i (fz d) sv) with
      | .ok r _ => if ok r = true then .ok r sv else .bad
      | _ => .bad
    | none => m sv
  | none => .bad
noncomputable def G.lent (g : G) (F H : Hp) (φ : Addr → Prop) : G := ⟨g.K, H, fun a => H a ≠ none, ovl F H φ, fun _ => none, g.mx⟩
theorem rl_lend {g : G} {F H : Hp} {σ : L2.St} {sv : SV} {i : Nat} {sl : Sl} {d d' : D} {p : Addr} {φ : Addr → Prop} (rl : Rl g F H σ sv) (h1 : sv[i]? = some sl) (h2 : slD sl = some d) (hp : σ[i]? = some (some (.ref p))) (nF : ∀ a, φ a → F a = none) (rp : Rp g.K (ovl F H φ) d' (.ref p)) :
    Rl (g.lent F H φ) (ovl F H φ) H σ (lend i d' sv) := by
  have hi : i < sv.length := (List.getElem?_eq_some_iff.mp h1).1
  refine ⟨fun a o e => ?_, Same.refl H, fun _ _ => rfl, fun _ h => h, fun a o e => (by show H a ≠ none; have e' : H a = some o := e; rw [e']; exact (fun z => nomatch z)), fun k q e => (nomatch e), (by simp [lend, hideS_len, rl.len]), fun j s e => ?_, fun j k q a b => ?_⟩
  · by_cases h : φ a
    · rw [ovl_in h] at e; exact e
    · rw [ovl_out h] at e; exact rl.sub a o e
  · unfold lend at e
    by_cases hj : i = j
    · subst hj
      rw [List.getElem?_set_self (by rw [hideS_len]; exact hi)] at e
      cases e
      exact ⟨_, hp, rp⟩
    · rw [List.getElem?_set_ne hj] at e
      rcases hideS_get sv j s e with rfl | ⟨d', rfl, e2⟩
      · trivial
      · obtain ⟨v, e3, h⟩ := rl.sl j _ e2
        exact ⟨v, e3, Rp.mono (same_ovl nF) _ _ h⟩
  · obtain ⟨s, d0, p0, e1, e2, _⟩ := a
    unfold lend at e1
    by_cases hj : i = j
    · subst hj
      rw [List.getElem?_set_self (by rw [hideS_len]; exact hi)] at e1
      cases e1
      cases e2
    · rw [List.getElem?_set_ne hj] at e1
      rcases hideS_get sv j s e1 with rfl | ⟨d', rfl, _⟩
      · cases e2
      · cases e2
theorem OwnP.ftc {K : PySem.W.Frag} {F H : Hp} {d : D} {p : Addr} (o : OwnP K F H d p) : ∀ {a : Addr}, Ft K H d p a → ∀ vs, H a ≠ some (.tup vs) ∧ ∀ ob, H a ≠ some (.frz ob (.tup vs)) := by
  have key : ∀ {d : D} {p : Addr} {u : HO} {ds : List D} {ws : List V}, H p = some u → Shp K d u ds ws → ∀ vs, H p ≠ some (.tup vs) ∧ ∀ ob, H p ≠ some (.frz ob (.tup vs)) := fun {d p u ds ws} h1 h2 vs => by
    rw [h1]
    cases h2 <;> exact ⟨(fun z => nomatch z), fun ob z => (nomatch z)⟩
  induction o with
  | flat hF hH hs hr =>
    intro a h
    have := h.flat (shp_deep hs)
    subst this
    exact key hH hs
  | deep hF hH hs hl hr hq hk hp hj ih =>
    intro a h
    cases h with
    | here => exact key hH hs
    | kid hH' hs' hd hv h =>
      rw [hH] at hH'; cases hH'
      obtain ⟨rfl, rfl⟩ := hs.uniq hs'
      exact ih _ _ _ hd hv h
theorem post_with {α β : Type} {K : PySem.W.Frag} {mg : MX} {W : WX'} {ok : α → Bool} {Rel : G → Hp → Hp → L2.St → SV → α → β → Prop} {i : Nat} {m : M α} [Pu m] {σ : L2.St} {H : Hp} {Q : β → Hp → Prop}
    (hrel : ∀ (g g1 : G) (F' F'' H' : Hp) (sv sv1 : SV) (a : α) (b : β), g1.K = g.K → ok a = true → (∀ a vs, (F' a = some (.tup vs) → F'' a = some (.tup vs)) ∧ ∀ o, F' a = some (.frz o (.tup vs)) → F'' a = some (.frz o (.tup vs))) → Rel g1 F' H' σ sv1 a b → Rel g F'' H' σ sv a b)
    (h : tG K mg W Rel (mWith ok i m) σ H Q) : tG K mg W Rel m σ H Q := by
  obtain ⟨g, F, sv, hK, rl, q⟩ := h
  unfold mWith at q
  split at q
  · rename_i sl h1
    split at q
    · rename_i d h2
      obtain ⟨p, hp, o⟩ := rl.ownAt h1 h2
      have nF : ∀ a, Ft g.K H d p a → F a = none := fun a ha => (o.ft ha).1
      refine ⟨g.lent F H (Ft g.K H d p), ovl F H (Ft g.K H d p), lend i (fz d) sv, hK, rl_lend rl h1 h2 hp nF o.rep, ?_⟩
      cases hm : m (lend i (fz d) sv) with
      | ok r s =>
        rw [hm] at q
        dsimp only at q
        split at q
        · rename_i hok
          have es := pu_ok hm
          subst es
          intro b F' H' e1 rl1 rel
          have keepF : ∀ a, ¬ Ft g.K H d p a → H a ≠ none → F' a = F a := fun a hap hn => (rl1.kF a hn).trans (ovl_out hap)
          have atp : ∀ a, Ft g.K H d p a → F' a = H a := fun a ha => (rl1.kF a (o.ft ha).2).trans (ovl_in ha)
          have sF : Same F (hole F' (Ft g.K H d p)) := fun a o e => by
            have hap : ¬ Ft g.K H d p a := fun z => by rw [nF a z] at e; cases e
            rw [hole_out hap, keepF a hap (by rw [rl.sub a o e]; exact fun z => nomatch z)]
            exact e
          have sH : Same (hole F' (Ft g.K H d p)) H' := fun a o e => rl1.sub a o (hole_some e).2
          refine q b (hole F' (Ft g.K H d p)) H' sF (rl.after sF sH (fun a o e => rl1.kH a o e) fun a hn => ?_) (hrel g (g.lent F H (Ft g.K H d p)) F' _ H' sv _ r b rfl hok (fun a vs' => ?_) rel)
          · by_cases hap : Ft g.K H d p a
            · rw [hole_in hap, nF a hap]
            · rw [hole_out hap, keepF a hap hn]
          · refine ⟨fun e => ?_, fun ob e => ?_⟩
            · rw [hole_out (fun z => (o.ftc z vs').1 (by rw [← atp a z]; exact e))]; exact e
            · rw [hole_out (fun z => (o.ftc z vs').2 ob (by rw [← atp a z]; exact e))]; exact e
        · exact False.elim q
      | err x s => rw [hm] at q; exact False.elim q
      | bad => rw [hm] at q; exact False.elim q
    · exact ⟨g, F, sv, hK, rl, q⟩
  · exact False.elim q
section
variable {X : Cx} {W : WX'} {e : Expr} {es : List Expr} {i : Nat}
theorem se_with {m : M D} [Pu m] (h : SE X W e m) : SE X W e (mWith lfree i m) := pe_imp h fun σ H Q q => post_with (fun g g1 F' F'' H' sv sv1 a b hK ok hd r => by
  show Rp g.K F'' a b
  rw [← hK]
  exact Rp.drop hd a b ok r) q
theorem st_with {m : M Bool} [Pu m] (h : ST X W e m) : ST X W e (mWith (fun _ => true) i m) := pt_imp h fun σ H Q q => post_with (fun g g1 F' F'' H' sv sv1 a b hK ok hd r => r) q
end

/-! ### list comprehensions -/
def wipeV (sv : SV) : List Nat → SV
  | [] => sv
  | v :: vs => (wipeV sv vs).set v .un
def restV (own : List Nat) (s0 : SV) (s : SV) : SV := match own with
  | [] => s
  | v :: vs => match s0[v]? with
    | some sl => (restV vs s0 s).set v sl
    | none => restV vs s0 s
def ownOk (own : List Nat) (s : SV) : Bool := own.all fun v => match s[v]? with
  | some .un => true
  | some (.pl _) => true
  | _ => false
def lcL (own : List Nat) (t : MT) (mc : M Bool) (me : M D) : List D → SV → List D → R (List D)
  | [], s, acc => .ok acc s
  | d :: ds, s, acc => match t d s with
    | none => .bad
    | some s1 => match mc s1 with
      | .ok false s2 => lcL own t mc me ds (wipeV s2 own) acc
      | .ok true s2 => match me s2 with
        | .ok y s3 => if acc.length < sizeLine then lcL own t mc me ds (wipeV s3 own) (acc ++ [y]) else .bad
        | _ => .bad
      | _ => .bad
theorem lcL_noerr {own : List Nat} {t : MT} {mc : M Bool} {me : M D} : ∀ (ds : List D) (s : SV) (acc : List D) (x : Exn) (s' : SV), lcL own t mc me ds s acc ≠ .err x s'
  | [], _, _, _, _, h => by cases h
  | d :: ds, s, acc, x, s', h => by
    unfold lcL at h
    cases ht : t d s with
    | none => rw [ht] at h; cases h
    | some s1 =>
      rw [ht] at h
      dsimp only at h
      cases hc : mc s1 with
      | err x2 s2 => rw [hc] at h; cases h
      | bad => rw [hc] at h; cases h
      | ok b s2 =>
        rw [hc] at h
        cases b with
        | false => exact lcL_noerr ds _ _ _ _ h
        | true =>
          dsimp only at h
          cases hm : me s2 with
          | err x2 s3 => rw [hm] at h; cases h
          | bad => rw [hm] at h; cases h
          | ok y s3 =>
            rw [hm] at h
            dsimp only at h
            split at h
            · exact lcL_noerr ds _ _ _ _ h
            · cases h
def mLc (own : List Nat) (mi : M (List D)) (t : MT) (mc : M Bool) (me : M D) : M D := fun sv => (mi sv).bind fun ds s => if ownOk own s = true then (lcL own t mc me ds (wipeV s own) []).bind fun acc s' => .ok (.lst acc) (restV own s s') else .bad
def mYes : M Bool := fun sv => .ok true sv
abbrev STs (X : Cx) (W : WX') (ifs : List Expr) (m : M Bool) : Prop := PTs X ifs (tT X.K X.mx W m)
theorem pts_imp {X : Cx} {ifs : List Expr} {t t' : TT} (h : PTs X ifs t) (k : ∀ σ H Q, t' σ H Q → t σ H Q) : PTs X ifs t' := ⟨fun pins s σ H Q I q => h.run pins s σ H Q I (k σ H Q q)⟩
theorem sts_nil {X : Cx} {W : WX'} : STs X W [] mYes := pts_imp pts_nil fun σ H Q q => by
  obtain ⟨g, F, sv, hK, rl, q⟩ := q
  exact q true F H (Same.refl F) rl rfl
theorem sts_one {X : Cx} {W : WX'} {c : Expr} {m : M Bool} (h : ST X W c m) : STs X W [c] m := pts_one h
abbrev WF : WX' := fun _ _ _ _ => False
theorem Ctx.blk {X : Cx} {W : WX'} {k : Nat} (c : Ctx X W k) (s : Shared) (H : Hp) (scope : Scope) (cenv : Env) (fp : List Addr) : Ctx (X.blk s H scope cenv fp) WF k := ⟨takesN0, c.hr, c.hg, PassesOwn.never⟩

section
variable {g : G} {F H : Hp} {σ : L2.St} {sv : SV}
theorem wipeV_len (sv : SV) : ∀ vs, (wipeV sv vs).length = sv.length
  | [] => rfl
  | v :: vs => by simp [wipeV, wipeV_len sv vs]
theorem wipe_get (σ : L2.St) (j : Nat) : ∀ vs, j ∉ vs → (wipe σ vs)[j]? = σ[j]?
  | [], _ => rfl
  | v :: vs, h => by
    unfold wipe
    rw [List.getElem?_set_ne (fun z => h (by simp [z])), wipe_get σ j vs (fun z => h (List.mem_cons_of_mem _ z))]
theorem wipeV_get (sv : SV) (j : Nat) : ∀ vs, j ∉ vs → (wipeV sv vs)[j]? = sv[j]?
  | [], _ => rfl
  | v :: vs, h => by
    unfold wipeV
    rw [List.getElem?_set_ne (fun z => h (by simp [z])), wipeV_get sv j vs (fun z => h (List.mem_cons_of_mem _ z))]
theorem wipeV_in (sv : SV) (j : Nat) (s : Sl) : ∀ vs, j ∈ vs → (wipeV sv vs)[j]? = some s → s = .un
  | v :: vs, h, e => by
    unfold wipeV at e
    by_cases hj : v = j
    · subst hj
      obtain ⟨hl, e2⟩ := List.getElem?_eq_some_iff.mp e
      rw [List.getElem?_set_self (by simpa using hl)] at e
      exact (Option.some.inj e).symm
    · rw [List.getElem?_set_ne hj] at e
      exact wipeV_in sv j s vs (by rcases List.mem_cons.mp h with z | z; exact absurd z.symm hj; exact z) e
theorem Rl.wiped (r : Rl g F H σ sv) (vs : List Nat) : Rl g F H (wipe σ vs) (wipeV sv vs) := r.sight (wipe_length _ _) (wipeV_len _ _) fun j s e => by
  by_cases hj : j ∈ vs
  · exact .inl (wipeV_in sv j s vs hj e)
  · rw [wipeV_get sv j vs hj] at e
    exact .inr ⟨e, wipe_get σ j vs hj⟩
theorem wipe_agree {is own : List Nat} {σ σ' : L2.St} (a : Agree is (wipe σ own) σ') (h : ∀ i ∈ is, i ∈ own) : wipe σ' own = wipe σ own := by
  apply List.ext_getElem?
  intro j
  by_cases hj : j ∈ own
  · -- both forgotten
    have key : ∀ (τ : L2.St) (vs : List Nat), j ∈ vs → (wipe τ vs)[j]? = if j < τ.length then some none else none := fun τ vs => by
      induction vs with
      | nil => intro z; cases z
      | cons v vs ih =>
        intro z
        unfold wipe
        by_cases hv : v = j
        · subst hv
          by_cases hl : v < τ.length
          · rw [List.getElem?_set_self (by rw [wipe_length]; exact hl), if_pos hl]
          · rw [if_neg hl, List.getElem?_eq_none (by rw [List.length_set, wipe_length]; omega)]
        · rw [List.getElem?_set_ne hv]
          exact ih (by rcases List.mem_cons.mp z with z | z; exact absurd z.symm hv; exact z)
    rw [key _ _ hj, key _ _ hj, a.1, wipe_length]
  · rw [wipe_get _ _ _ hj, a.2 j fun z => hj (h j z)]
theorem restV_len (own : List Nat) (s0 s : SV) : (restV own s0 s).length = s.length := by
  induction own with
  | nil => rfl
  | cons v vs ih =>
    unfold restV
    cases s0[v]? with
    | none => exact ih
    | some sl => simp [ih]
theorem restV_get (own : List Nat) (s0 s : SV) (j : Nat) (t : Sl) (h : (restV own s0 s)[j]? = some t) : (j ∉ own ∧ s[j]? = some t) ∨ (j ∈ own ∧ s0[j]? = some t) ∨ (s0[j]? = none ∧ s[j]? = some t) := by
  induction own with
  | nil => exact .inl ⟨by simp, h⟩
  | cons v vs ih =>
    unfold restV at h
    cases e : s0[v]? with
    | none =>
      rw [e] at h
      rcases ih h with ⟨h1, h2⟩ | ⟨h1, h2⟩ | ⟨h1, h2⟩
      · by_cases hv : j = v
        · subst hv
          exact .inr (.inr ⟨e, h2⟩)
        · exact .inl ⟨by simp [hv, h1], h2⟩
      · exact .inr (.inl ⟨List.mem_cons_of_mem _ h1, h2⟩)
      · exact .inr (.inr ⟨h1, h2⟩)
    | some sl =>
      rw [e] at h
      by_cases hv : v = j
      · subst hv
        obtain ⟨hl, _⟩ := List.getElem?_eq_some_iff.mp h
        rw [List.getElem?_set_self (by simpa using hl)] at h
        cases h
        exact .inr (.inl ⟨by simp, e⟩)
      · rw [List.getElem?_set_ne hv] at h
        rcases ih h with ⟨h1, h2⟩ | ⟨h1, h2⟩ | ⟨h1, h2⟩
        · exact .inl ⟨by simp [Ne.symm hv, h1], h2⟩
        · exact .inr (.inl ⟨List.mem_cons_of_mem _ h1, h2⟩)
        · exact .inr (.inr ⟨h1, h2⟩)
/-- an object that no slot has is kept through an expression -/
def G.keep (g : G) (p : Addr) (u : HO) : G := ⟨g.K, upd g.pH p u, fun a => g.fx a ∨ a = p, fun a => if a = p then none else g.F0 a, g.io, g.mx⟩
theorem Rl.keepG (r : Rl g F H σ sv) {p : Addr} {u : HO} (nf : ¬ g.fx p) (nF : F p = none) (hH : H p = some u) (nr : ∀ i, ¬ Ref g.K H σ sv i p) : Rl (g.keep p u) F H σ sv := by
  refine ⟨r.sub, fun a o e => ?_, fun a ha => ?_, fun a ha => ?_, fun a o e => ?_, fun k q e => ?_, r.len, fun i s e => ?_, r.dj⟩
  · have e : upd g.pH p u a = some o := e
    by_cases h : a = p
    · subst h; rw [upd_same] at e; rw [hH]; exact e
    · rw [upd_ne h] at e; exact r.kH a o e
  · show F a = if a = p then none else g.F0 a
    by_cases h : a = p
    · rw [if_pos h, h, nF]
    · rw [if_neg h]
      rcases ha with ha | ha
      · exact r.kF a ha
      · exact absurd ha h
  · rcases ha with ha | ha
    · exact r.fxH a ha
    · rw [ha, hH]; exact fun z => nomatch z
  · have e : upd g.pH p u a = some o := e
    show g.fx a ∨ a = p
    by_cases h : a = p
    · exact .inr h
    · rw [upd_ne h] at e; exact .inl (r.pf a o e)
  · obtain ⟨h1, h2⟩ := r.ion k q e
    have hq : q ≠ p := fun z => nf (z ▸ h2)
    exact ⟨(upd_ne hq).trans h1, .inl h2⟩
  · have q := r.sl i s e
    cases s with
    | un => trivial
    | ex x => exact q
    | pl d => exact q
    | ow d =>
      obtain ⟨q', e1, nf', o'⟩ := q
      refine ⟨q', e1, fun a ha z => ?_, o'⟩
      rcases z with z | z
      · exact nf' a ha z
      · subst z; exact nr i ⟨_, d, q', e, rfl, e1, ha⟩
    | io k d =>
      obtain ⟨q', e1, hk, np, o'⟩ := q
      refine ⟨q', e1, hk, fun a ha => ?_, o'⟩
      have hne : a ≠ p := fun z => by subst z; exact nr i ⟨_, d, q', e, rfl, e1, ha⟩
      exact (upd_ne hne).trans (np a ha)
/-- .. and may then be changed -/
theorem Rl.unkeep {p : Addr} {u u' : HO} (r : Rl (g.keep p u) F H σ sv) (nf : ¬ g.fx p) (nF0 : ∀ a, g.fx a → a ≠ p) (npH : g.pH p = none) : F p = none ∧ H p = some u ∧ Rl g F (upd H p u') σ sv ∧ ∀ i, ¬ Ref g.K (upd H p u') σ sv i p := by
  have hF : F p = none := (r.kF p (.inr rfl)).trans (if_pos rfl)
  have hH : H p = some u := r.kH p u upd_same
  have nr : ∀ i, ¬ Ref g.K H σ sv i p := fun i hi => by
    have := (r.own hi).2.2
    have h2 : upd g.pH p u p = none := this
    rw [upd_same] at h2
    cases h2
  have ne : ∀ i a, Ref g.K H σ sv i a → upd H p u' a = H a := fun i a h => upd_ne fun z => by subst z; exact nr i h
  have r1 : Rl g F H σ sv := by
    refine ⟨r.sub, fun a o e => ?_, fun a ha => ?_, fun a ha => r.fxH a (.inl ha), fun a o e => ?_, fun k q e => ?_, r.len, fun i s e => ?_, r.dj⟩
    · have hap : a ≠ p := fun z => by rw [z, npH] at e; cases e
      exact r.kH a o ((upd_ne hap).trans e)
    · exact (r.kF a (.inl ha)).trans (if_neg (nF0 a ha))
    · have hap : a ≠ p := fun z => by rw [z, npH] at e; cases e
      rcases r.pf a o ((upd_ne hap).trans e) with z | z
      · exact z
      · exact absurd z hap
    · obtain ⟨h1, h2⟩ := r.ion k q e
      rcases h2 with h2 | h2
      · exact ⟨(upd_ne (nF0 q h2)).symm.trans h1, h2⟩
      · have h1 : upd g.pH p u q = none := h1
        rw [h2, upd_same] at h1
        cases h1
    · have q := r.sl i s e
      cases s with
      | un => trivial
      | ex x => exact q
      | pl d => exact q
      | ow d =>
        obtain ⟨q', e1, nf', o'⟩ := q
        exact ⟨q', e1, fun a ha z => nf' a ha (.inl z), o'⟩
      | io k d =>
        obtain ⟨q', e1, hk, np, o'⟩ := q
        refine ⟨q', e1, hk, fun a ha => ?_, o'⟩
        have hne : a ≠ p := fun z => by subst z; exact nr i ⟨_, d, q', e, rfl, e1, ha⟩
        exact (upd_ne hne).symm.trans (np a ha)
  refine ⟨hF, hH, r1.move (fun a o e => ?_) (fun a o e => ?_) (fun _ _ => rfl) (fun a ha => ?_) (Same.refl F) (fun i a h => (r1.own h).1) ne, fun i hi => nr i (hi.from (ne i))⟩
  · rw [upd_ne (fun z => by rw [z, hF] at e; cases e)]; exact r.sub a o e
  · have hap : a ≠ p := fun z => by rw [z, npH] at e; cases e
    rw [upd_ne hap]; exact r1.kH a o e
  · rw [upd_ne (nF0 a ha)]; exact r1.fxH a ha
end
theorem h4w {K : PySem.W.Frag} {H : Hp} {σ4 σ : L2.St} {ow : List Nat} {s : SV} {p : Addr} {j : Nat} (h : ∀ i, ¬ Ref K H σ4 s i p) (ew : wipe σ4 ow = wipe σ ow) (hj : Ref K H (wipe σ ow) (wipeV s ow) j p) : False := by
  obtain ⟨t, d, q, e1, e2, e3, e4⟩ := hj
  by_cases hm : j ∈ ow
  · have := wipeV_in s j t ow hm e1
    subst this
    cases e2
  · rw [wipeV_get s j ow hm] at e1
    rw [← ew, wipe_get σ4 j ow hm] at e3
    exact h j ⟨t, d, q, e1, e2, e3, e4⟩
/-- a new, owned list beside the frame -/
structure Side (g : G) (F H : Hp) (σ : L2.St) (sv : SV) (p : Addr) (acc : List D) : Prop where
  nf : ¬ g.fx p
  nF : F p = none
  at_ : ∃ vs, H p = some (.lst vs) ∧ RpL g.K F acc vs
  nr : ∀ i, ¬ Ref g.K H σ sv i p
theorem Side.nP {g : G} {F H : Hp} {σ : L2.St} {sv : SV} {p : Addr} {acc : List D} (s : Side g F H σ sv p acc) (r : Rl g F H σ sv) : g.pH p = none := by
  cases h : g.pH p with
  | none => rfl
  | some o => exact absurd (r.pf p o h) s.nf

section
variable {X : Cx} {W : WX'} {elt tg iter : Expr} {ifs : List Expr} {scope : Scope} {own : List (Str × Nat)} {pos : Pos} {mi : M (List D)} {is : List Nat} {t : MT} {mc : M Bool} {me : M D}
theorem lc_turns {g : G} (hMx : g.mx = X.mx) {J : It} {ds : List D} {σ : L2.St} {F1 : Hp} {p : Addr} {Q : VK} {ow : List Nat} (his : ∀ i ∈ is, i ∈ ow) (ok : ItOk g.K F1 ds J) {fin : List D → SV → Prop}
    (hfin : ∀ F2 H2 s2 acc, Same F1 F2 → Rl g F2 H2 (wipe σ ow) s2 → Side g F2 H2 (wipe σ ow) s2 p acc → fin acc s2 → Q (.ref p) H2) {H1 : Hp} {s1 : SV} (rl1 : Rl g F1 H1 (wipe σ ow) s1) (sd1 : Side g F1 H1 (wipe σ ow) s1 p [])
    (q : match lcL ow t mc me ds s1 [] with | .ok acc s => fin acc s | _ => False) :
    ∃ Wi : Nat → Nat → Hp → Prop, (∃ m, Wi 0 m H1) ∧ ∀ i m H, Wi i m H → (J.stop i H ∧ Q (.ref p) H) ∨ (J.go i H ∧ ∃ Nx : Hp → Prop, (∀ H', Nx H' → ∃ m', m' < m ∧ Wi (i + 1) m' H') ∧ ∀ x H', J.yld i H x H' →
      tGt g.K is t x (wipe σ ow) H' fun σ2 H2 => wipe σ2 ow = wipe σ ow ∧ tT g.K X.mx WF mc σ2 H2 fun b H3 => if b = true then tE g.K X.mx WF me σ2 H3 fun y H4 => ∃ acc, H4 p = some (.lst acc) ∧ acc.length < sizeLine ∧ Nx (upd H4 p (.lst (acc ++ [y]))) else Nx H3) := by
  refine ⟨fun i m H => m = ds.length - i ∧ i ≤ ds.length ∧ ∃ F2 s2 acc, Same F1 F2 ∧ Rl g F2 H (wipe σ ow) s2 ∧ Side g F2 H (wipe σ ow) s2 p acc ∧ (match lcL ow t mc me (ds.drop i) s2 acc with | .ok acc s => fin acc s | _ => False),
    ⟨ds.length, by simp, Nat.zero_le _, F1, s1, [], Same.refl F1, rl1, sd1, q⟩, ?_⟩
  rintro i m H ⟨rfl, hi, F2, s2, acc, e2, rl2, sd2, q2⟩
  have sH : Same F1 H := e2.trans rl2.sub
  by_cases hlt : i < ds.length
  · have hd : ds[i]? = some ds[i] := List.getElem?_eq_getElem hlt
    rw [List.drop_eq_getElem_cons hlt] at q2
    unfold lcL at q2
    refine .inr ⟨ok.go i H hlt sH, fun H => ∃ F2 s2 acc, Same F1 F2 ∧ Rl g F2 H (wipe σ ow) s2 ∧ Side g F2 H (wipe σ ow) s2 p acc ∧ (match lcL ow t mc me (ds.drop (i + 1)) s2 acc with | .ok acc s => fin acc s | _ => False),
      fun H' hN => ⟨ds.length - (i + 1), by omega, rfl, hlt, hN⟩, fun x H' hy => ?_⟩
    obtain ⟨vs, hv, rv⟩ := sd2.at_
    have npH := sd2.nP rl2
    have nF0 : ∀ a, g.fx a → a ≠ p := fun a h z => sd2.nf (z ▸ h)
    have rk := rl2.keepG sd2.nf sd2.nF hv sd2.nr
    -- the item
    have item : ∃ F3, Same F2 F3 ∧ Rl (g.keep p (.lst vs)) F3 H' (wipe σ ow) s2 ∧ Rp g.K F3 ds[i] x := by
      rcases ok.yld i _ x H H' hd sH hy with ⟨rfl, hr⟩ | ⟨T, us, es, ed, rfl, hT, rfl, hr⟩
      · exact ⟨F2, Same.refl F2, rk, Rp.mono e2 _ _ hr⟩
      · have sF : Same F2 (upd F2 T (.tup us)) := same_upd (rl2.sub.free hT)
        refine ⟨_, sF, rk.lay hT, ?_⟩
        rw [ed]
        exact ⟨T, us, rfl, .inl (.inl upd_same), RpL.mono (e2.trans sF) _ _ hr⟩
    obtain ⟨F3, e3, rl3, rp3⟩ := item
    cases ht : t ds[i] s2 with
    | none => rw [ht] at q2; exact False.elim q2
    | some s3 =>
      rw [ht] at q2
      dsimp only at q2
      refine ⟨g.keep p (.lst vs), F3, s2, ds[i], s3, rfl, rl3, rp3, ht, fun σ4 rl4 ag => ?_⟩
      have ew : wipe σ4 ow = wipe σ ow := wipe_agree ag his
      refine ⟨ew, g.keep p (.lst vs), F3, s3, ⟨rfl, hMx⟩, rl4, ?_⟩
      cases hc : mc s3 with
      | err x' s => rw [hc] at q2; exact False.elim q2
      | bad => rw [hc] at q2; exact False.elim q2
      | ok b s =>
        rw [hc] at q2
        intro b' F5 H5 e5 rl5 eb
        cases eb
        cases b with
        | false =>
          have q2 : match lcL ow t mc me (ds.drop (i + 1)) (wipeV s ow) acc with | .ok acc s => fin acc s | _ => False := q2
          obtain ⟨h1, h2, h3, h4⟩ := rl5.unkeep (u' := .lst vs) sd2.nf nF0 npH
          have hu : upd H5 p (.lst vs) = H5 := by
            funext a
            by_cases ha : a = p
            · rw [ha, upd_same, h2]
            · exact upd_ne ha
          rw [hu] at h3 h4
          have h3w := h3.wiped ow
          rw [ew] at h3w
          show ∃ F2 s2 acc, _
          refine ⟨F5, wipeV s ow, acc, (e2.trans e3).trans e5, h3w, ⟨sd2.nf, h1, ⟨vs, h2, RpL.mono (e3.trans e5) _ _ rv⟩, fun j hj => ?_⟩, q2⟩
          exact h4w h4 ew hj
        | true =>
          have q2 : match (match me s with | .ok y s3 => if acc.length < sizeLine then lcL ow t mc me (ds.drop (i + 1)) (wipeV s3 ow) (acc ++ [y]) else .bad | _ => .bad) with | .ok acc s => fin acc s | _ => False := q2
          refine ⟨g.keep p (.lst vs), F5, s, ⟨rfl, hMx⟩, rl5, ?_⟩
          cases hme : me s with
          | err x' s' => rw [hme] at q2; exact False.elim q2
          | bad => rw [hme] at q2; exact False.elim q2
          | ok y s' =>
            rw [hme] at q2
            dsimp only at q2
            by_cases hz : acc.length < sizeLine
            · rw [if_pos hz] at q2
              intro v F6 H6 e6 rl6 rp6
              obtain ⟨h1, h2, h3, h4⟩ := rl6.unkeep (u' := .lst (vs ++ [v])) sd2.nf nF0 npH
              have h3w := h3.wiped ow
              rw [ew] at h3w
              refine ⟨vs, h2, by rw [← rv.length]; exact hz, F6, wipeV s' ow, acc ++ [y], ((e2.trans e3).trans e5).trans e6, h3w, ⟨sd2.nf, h1, ⟨_, upd_same, (RpL.mono ((e3.trans e5).trans e6) _ _ rv).append (RpL.one rp6)⟩, fun j hj => h4w h4 ew hj⟩, q2⟩
            · rw [if_neg hz] at q2
              exact False.elim q2
  · have e : i = ds.length := by omega
    subst e
    rw [List.drop_length] at q2
    exact .inl ⟨ok.stop H sH, hfin F2 H s2 acc e2 rl2 sd2 q2⟩
/-- the own names are seen again -/
theorem rl_restore {g : G} {F1 H1 F2 H2 : Hp} {σ : L2.St} {ow : List Nat} {s s2 : SV} (rl1 : Rl g F1 H1 σ s) (ho : ownOk ow s = true) (e : Same F1 F2) (rl2 : Rl g F2 H2 (wipe σ ow) s2) : Rl g F2 H2 σ (restV ow s s2) := by
  have hl : s2.length = s.length := by rw [rl2.len, wipe_length, rl1.len]
  have slot : ∀ j tt, (restV ow s s2)[j]? = some tt → (j ∉ ow ∧ s2[j]? = some tt) ∨ (s[j]? = some tt ∧ (tt = .un ∨ ∃ d, tt = .pl d)) := fun j tt h => by
    rcases restV_get ow s s2 j tt h with z | ⟨h1, h2⟩ | ⟨h1, h2⟩
    · exact .inl z
    · refine .inr ⟨h2, ?_⟩
      have := List.all_eq_true.mp ho j h1
      rw [h2] at this
      cases tt with
      | un => exact .inl rfl
      | pl d => exact .inr ⟨d, rfl⟩
      | _ => cases this
    · obtain ⟨z, _⟩ := List.getElem?_eq_some_iff.mp h2
      have := List.getElem?_eq_none_iff.mp h1
      omega
  have rr : ∀ j p, Ref g.K H2 σ (restV ow s s2) j p → Ref g.K H2 (wipe σ ow) s2 j p := fun j p ⟨tt, d, q, e1, e2, e3, e4⟩ => by
    rcases slot j tt e1 with ⟨h1, h2⟩ | ⟨_, rfl | ⟨d, rfl⟩⟩
    · exact ⟨tt, d, q, h2, e2, by rw [wipe_get σ j ow h1]; exact e3, e4⟩
    · cases e2
    · cases e2
  refine ⟨rl2.sub, rl2.kH, rl2.kF, rl2.fxH, rl2.pf, rl2.ion, by rw [restV_len, hl, rl1.len], fun j tt h => ?_, fun i j p a b => rl2.dj i j p (rr _ _ a) (rr _ _ b)⟩
  rcases slot j tt h with ⟨h1, h2⟩ | ⟨h1, rfl | ⟨d, rfl⟩⟩
  · have := rl2.sl j tt h2
    rw [wipe_get σ j ow h1] at this
    exact this
  · trivial
  · obtain ⟨v, e1, hv⟩ := rl1.sl j _ h1
    exact ⟨v, e1, Rp.mono e d v hv⟩
theorem blk_mx (hc : X.calm = true) (s : Shared) (H : Hp) (sc : Scope) (ce : Env) (fp : List Addr) : (X.blk s H sc ce fp).mx = X.mx := by
  unfold L2.Cx.mx
  show MX.mk X.mg (if X.calm = true then none else _) = _
  rw [if_pos hc, if_pos hc]
theorem lc_read {σ : L2.St} {H : Hp} {Q : VK} {ow : List Nat} (his : ∀ i ∈ is, i ∈ ow) (q : tO X.K X.mx W (mLc ow mi t mc me) σ H Q) : tLc (tG X.K X.mx W RelI mi) (tGt X.K is t) (tT X.K X.mx WF mc) (tE X.K X.mx WF me) ow σ H Q := by
  obtain ⟨g, F, sv, hK, rl, q⟩ := q
  refine ⟨g, F, sv, hK, rl, PostG.bind q fun ds s J F1 H1 e1 rl1 ok1 q1 p hp => ?_⟩
  by_cases ho : ownOk ow s = true
  · rw [if_pos ho] at q1
    rw [← hK.1]
    have rlo : Rl g F1 (upd H1 p (.lst [])) (wipe σ ow) (wipeV s ow) := (rl1.layO hp).wiped ow
    refine lc_turns (g := g) hK.2 (fin := fun acc s' => PostG X.mx g F1 σ (.ok (.lst acc) (restV ow s s')) W RelO' Q) his ok1 (fun F2 H2 s2 acc e2 rl2 sd hf => ?_) rlo ⟨rl1.nofx hp, rl1.sub.free hp, ⟨[], upd_same, rfl⟩, fun j hj => ?_⟩ ?_
    · have rl3 := rl_restore rl1 ho e2 rl2
      obtain ⟨vs, hv, rv⟩ := sd.at_
      have ef : ∀ a, Ft g.K H2 (.lst acc) p a → a = p := fun a ha => ha.flat fun e z => nomatch z
      refine hf _ F2 H2 e2 rl3 ⟨p, rfl, fun a ha => by rw [ef a ha]; exact sd.nf, .lst sd.nF hv rv, fun a ha j hj => ?_⟩
      rw [ef a ha] at hj
      obtain ⟨tt, d0, q0, a1, a2, a3, a4⟩ := hj
      rcases restV_get ow s s2 j tt a1 with ⟨b1, b2⟩ | ⟨b1, b2⟩ | ⟨b1, b2⟩
      · exact sd.nr j ⟨tt, d0, q0, b2, a2, by rw [wipe_get σ j ow b1]; exact a3, a4⟩
      · have := List.all_eq_true.mp ho j b1
        rw [b2] at this
        cases tt <;> first | (cases a2; done) | (cases this; done)
      · obtain ⟨z, _⟩ := List.getElem?_eq_some_iff.mp b2
        have := List.getElem?_eq_none_iff.mp b1
        have := rl2.len
        rw [wipe_length, ← rl1.len] at this
        omega
    · exact h4w (fun i hi => rl1.noRef hp i (hi.from fun b hb => upd_ne fun z => by subst z; exact rl1.noRef hp i hb)) rfl hj
    · revert q1
      cases hL : lcL ow t mc me ds (wipeV s ow) [] with
      | ok acc s' => exact fun q => q
      | err x s' => exact absurd hL (lcL_noerr ds _ _ _ _)
      | bad => exact fun q => q
  · rw [if_neg ho] at q1
    exact False.elim q1
theorem so_lc (hc : X.calm = true) (hN : X.N.Nodup) (hi : SI X W tg iter mi) (ok : BlkOk X.N X.env.scope scope own) (his : ∀ i ∈ is, i ∈ own.map (·.2))
    (hg : ∀ (s : Shared) (H : Hp) (C : Addr) (cl : List (Str × Addr)) (fp : List Addr), SG (X.blk s H scope (compEnvC scope cl C X.env) fp) tg is t)
    (ht : ∀ (s : Shared) (H : Hp) (C : Addr) (cl : List (Str × Addr)) (fp : List Addr), STs (X.blk s H scope (compEnvC scope cl C X.env) fp) WF ifs mc)
    (he : ∀ (s : Shared) (H : Hp) (C : Addr) (cl : List (Str × Addr)) (fp : List Addr), SE (X.blk s H scope (compEnvC scope cl C X.env) fp) WF elt me) (hs : ∀ x, foldedSetIterable iter X.env x = pure x := by intro _; rfl) :
    SO X W (.ListComp elt [⟨tg, iter, ifs, 0⟩] scope pos) (mLc (own.map (·.2)) mi t mc me) := pe_imp (pe_lc hc hN hi ok hg (tt := tT X.K X.mx WF mc) (te := tE X.K X.mx WF me) (fun s H C cl fp => by have z := ht s H C cl fp; unfold STs at z; rw [blk_mx hc] at z; exact z) (fun s H C cl fp => by have z := he s H C cl fp; unfold SE at z; rw [blk_mx hc] at z; exact z) hs) fun σ H Q q => by
  exact lc_read his q
theorem lc_set {i : Nat} {y : Str} {py : Pos} {spos : Pos} (h : PS X (.Assign [.Name y py] (.ListComp elt [⟨tg, iter, ifs, 0⟩] scope pos) spos) (tAsg (tLc (tG X.K X.mx W RelI mi) (tGt X.K is t) (tT X.K X.mx WF mc) (tE X.K X.mx WF me) (own.map (·.2))) (gName i)))
    (his : ∀ i ∈ is, i ∈ own.map (·.2)) : SS X W (.Assign [.Name y py] (.ListComp elt [⟨tg, iter, ifs, 0⟩] scope pos) spos) (mAsgO i (mLc (own.map (·.2)) mi t mc me)) := ps_imp h fun Dn σ H q => by
  obtain ⟨g, F, sv, hK, rl, q⟩ := q
  refine lc_read (X := X) (W := W) his ⟨g, F, sv, hK, rl, PostS.bind (H := H) q fun d s v F1 H1 e1 rl1 rp1 h1 => ?_⟩
  obtain ⟨p, rfl, nf, o, nr⟩ := rp1
  exact h1 _ F1 H1 (Same.refl F1) (rl1.setOw i nf o nr)
end
end VM

set_option Elab.async false
set_option linter.all false
set_option autoImplicit false
set_option maxRecDepth 100000
set_option maxHeartbeats 400000
namespace VM
open PySem PySem.Spec PyProof.Rows L2

/-! ### calls with keywords -/
section
variable {X : Cx} {W : WX'} {k n kk : Nat} {f : Addr} {fd : FuncData} {ps ks : List Str} {fn : Fn} {x : Str} {p pos kpos : Pos} {e : Expr} {es : List Expr} {kws : List Keyword} {m : M D} {ms mk : M (List D)} {g : List Value → List Value → List Value} {gV : List V → List V → List V} {nm : Option Str}
abbrev SK (X : Cx) (W : WX') (kws : List Keyword) (m : M (List D)) : Prop := PK X kws (tG X.K X.mx W RelL m)
theorem pk_imp {t t' : TA} (h : PK X kws t) (k : ∀ σ H Q, t' σ H Q → t σ H Q) : PK X kws t' := ⟨fun p pins s σ H Q I q => h.run p pins s σ H Q I (k σ H Q q)⟩
theorem sk_nil : SK X W [] mNil := pk_imp pk_nil fun σ H Q q => by
  obtain ⟨g, F, sv, hK, rl, q⟩ := q
  exact q [] F H (Same.refl F) rl rfl
theorem sk_cons (ha : SE X W e m) (hr : SK X W kws ms) : SK X W (⟨nm, e, kpos⟩ :: kws) (mCons m ms) := pk_imp (pk_cons ha hr) fun σ H Q q => by
  obtain ⟨g, F, sv, hK, rl, q⟩ := q
  refine ⟨g, F, sv, hK, rl, PostG.bind q fun d s1 x F1 H1 e1 rl1 rp1 h1 => ?_⟩
  refine ⟨g, F1, s1, hK, rl1, PostG.bind h1 fun ds s2 xs F2 H2 e2 rl2 rp2 h2 => ?_⟩
  exact h2 _ F2 H2 (Same.refl F2) rl2 ⟨x, xs, rfl, Rp.mono e2 _ _ rp1, rp2⟩
def tCallKG (sp : Sp) (gV : List V → List V → List V) (E : L2.St → XK) (t tk : TA) : TE := fun σ H Q => t σ H fun vs H1 => tk σ H1 fun zs H2 => sp (gV vs zs) H2 Q (E σ)
theorem run_kw {sp : Sp} {E : L2.St → XK} {pins : List (Addr × Obj)} {σ : L2.St} {H : Hp} {s : Shared} {Q : VK} {us ws : List Value} {vs zs : List V} (F : FnG X.prog X.w X.K X.mg X.base k f fd ps sp) (hgd : X.A.guards = some []) (hr : Room k X.A) (hb : KBinds X.K fd ps ks g gV) (hx : ∀ σ, PassesAt (L2N.CX X.prog X.w) X σ (E σ))
    (I : Inv X pins σ H s) (r : Vals vs us) (rz : Vals zs ws) (h : sp (gV vs zs) H Q (E σ)) : wpAny (model X.prog X.w) X.A (call (.ref f) us (ks.zip ws)) (EP X pins σ Q) X.xe s := by
  have r2 := hb.rel r rz
  have hl : (g us ws).length = ps.length := r2.length.symm.trans (F.len _ _ _ _ h)
  refine wpAny_call (codeAny_mono (F.run X.A X.stack s H ⟨us, ks.zip ws⟩ (g us ws) (gV vs zs) Q (E σ) hgd hr I.env0 (hb.to s us ws I.kIn hl) r2 h) fun o s' hq => ?_)
  cases o with
  | error er => exact hx σ pins H s er s' I hq
  | ok fl =>
    cases fl with
    | ret u => exact I.after hq
    | next => exact False.elim hq
    | brk => exact False.elim hq
    | cont => exact False.elim hq
theorem pe_kw0 {sp : Sp} {E : L2.St → XK} {tk : TA} (F : FnG X.prog X.w X.K X.mg X.base k f fd ps sp) (hgd : X.A.guards = some []) (hr : Room k X.A) (hg : Gl X x) (hm : X.mg x = some (.ref f)) (hk : PySem.W.keepIn X.K (.ref f) = true) (hb : KBinds X.K fd ps ks g gV) (hx : ∀ σ, PassesAt (L2N.CX X.prog X.w) X σ (E σ))
    (hkw : PK X kws tk) (hall : (backToKw pos (keywordEach kws X.env)).all (·.1.isSome) = true := by rfl) (hks : (backToKw pos (keywordEach kws X.env)).filterMap (·.1) = ks := by rfl) (hdb : (x == ("__debug__" : Str)) = false := by decide)
    (hpl : ((backTo pos (starEach [] X.env)).any (·.1) || (backToKw pos (keywordEach kws X.env)).any (·.1.isNone)) = false := by rfl) : PE X (.Call (.Name x p) [] kws pos) (tCallKG sp gV E tNil tk) := by
  constructor
  intro pins s σ H Q I h
  have h : tk σ H fun zs H2 => sp (gV [] zs) H2 Q (E σ) := h
  refine wpAny_Call_Name_kw (ld_glob I hg hm (PySem.W.callWith_KW0 (h₀ := X.base) I.ok.mod.kin hk hall (thn (hkw.run pos pins s σ H _ I h) fun ws s2 ⟨zs, H2, I2, rz, q2⟩ => ⟨I2.kIn, ?_⟩) hpl) hdb)
  rw [hks]
  exact run_kw (us := []) (vs := []) F hgd hr hb hx I2 .nil rz q2
theorem pe_kw {sp : Sp} {E : L2.St → XK} {t tk : TA} (F : FnG X.prog X.w X.K X.mg X.base k f fd ps sp) (hgd : X.A.guards = some []) (hr : Room k X.A) (hg : Gl X x) (hm : X.mg x = some (.ref f)) (hk : PySem.W.keepIn X.K (.ref f) = true) (hb : KBinds X.K fd ps ks g gV) (hx : ∀ σ, PassesAt (L2N.CX X.prog X.w) X σ (E σ))
    (ha : PA X (e :: es) t) (hkw : PK X kws tk) (hall : (backToKw pos (keywordEach kws X.env)).all (·.1.isSome) = true := by rfl) (hks : (backToKw pos (keywordEach kws X.env)).filterMap (·.1) = ks := by rfl) (hdb : (x == ("__debug__" : Str)) = false := by decide)
    (he : starEach (e :: es) X.env = (false, eval e X.env) :: starEach es X.env := by rfl) (hpl : ((backTo pos (starEach (e :: es) X.env)).any (·.1) || (backToKw pos (keywordEach kws X.env)).any (·.1.isNone)) = false := by rfl) :
    PE X (.Call (.Name x p) (e :: es) kws pos) (tCallKG sp gV E t tk) := by
  constructor
  intro pins s σ H Q I h
  refine wpAny_Call_Name_kw (ld_glob I hg hm (PySem.W.callWith_KW (h₀ := X.base) I.ok.mod.kin hk hall (thn (ha.run pos pins s σ H _ I h) fun us s1 ⟨vs, H1, I1, r, q⟩ => ?_) hpl he) hdb)
  refine thn (hkw.run pos pins s1 σ H1 _ I1 q) fun ws s2 ⟨zs, H2, I2, rz, q2⟩ => ⟨I2.kIn, ?_⟩
  rw [hks]
  exact run_kw F hgd hr hb hx I2 r rz q2
/-- the order of the parameters, on data -/
structure KOrd (gD : List D → List D → List D) (gV : List V → List V → List V) : Prop where
  rel : ∀ {K : PySem.W.Frag} {F : Hp} {as bs : List D} {vs us : List V}, RpL K F as vs → RpL K F bs us → RpL K F (gD as bs) (gV vs us)
def mCallK (n : Nat) (fn : Fn) (gD : List D → List D → List D) (ms mk : M (List D)) : M D := fun sv => (ms sv).bind fun as s1 => (mk s1).bind fun bs s2 => if (gD as bs).length = n then frR (fn (gD as bs)) s2 else .bad
variable {gD : List D → List D → List D}
theorem se_kw0 (c : Ctx X W kk) (hkk : k ≤ kk) (Fg : FnG X.prog X.w X.K X.mg X.base k f fd ps (spV X.K X.mg n none false fn)) (hg : Gl X x) (hm : X.mg x = some (.ref f)) (hk : PySem.W.keepIn X.K (.ref f) = true) (hb : KBinds X.K fd ps ks g gV) (ho : KOrd gD gV)
    (hkw : SK X W kws mk) (hall : (backToKw pos (keywordEach kws X.env)).all (·.1.isSome) = true := by rfl) (hks : (backToKw pos (keywordEach kws X.env)).filterMap (·.1) = ks := by rfl) (hdb : (x == ("__debug__" : Str)) = false := by decide)
    (hpl : ((backTo pos (starEach [] X.env)).any (·.1) || (backToKw pos (keywordEach kws X.env)).any (·.1.isNone)) = false := by rfl) : SE X W (.Call (.Name x p) [] kws pos) (mCallK n fn gD mNil mk) :=
  pe_imp (pe_kw0 Fg c.hg (c.hr.mono hkk) hg hm hk hb (fun σ => L2N.passAt c.tk σ) hkw hall hks hdb hpl) fun σ H Q q => by
    obtain ⟨g0, F, sv, hK, rl, q⟩ := q
    have q : PostG X.mx g0 F σ ((mk sv).bind fun bs s2 => if (gD [] bs).length = n then frR (fn (gD [] bs)) s2 else .bad) W RelE Q := q
    refine ⟨g0, F, sv, hK, rl, PostG.bind q fun bs s2 us F2 H2 e2 rl2 rp2 q2 => ?_⟩
    split at q2
    · rename_i hz
      have rp : RpL g0.K F2 (gD [] bs) (gV [] us) := ho.rel (by exact rfl) rp2
      rw [← hK.1]
      exact post_call (ro := false) (fun F' H' d v _ hr => by show Rp g0.K F' d v; simpa using hr) (rp.length.symm.trans hz) rl2 rp q2
    · exact False.elim q2
theorem se_kw (c : Ctx X W kk) (hkk : k ≤ kk) (Fg : FnG X.prog X.w X.K X.mg X.base k f fd ps (spV X.K X.mg n none false fn)) (hg : Gl X x) (hm : X.mg x = some (.ref f)) (hk : PySem.W.keepIn X.K (.ref f) = true) (hb : KBinds X.K fd ps ks g gV) (ho : KOrd gD gV)
    (ha : SA X W (e :: es) ms) (hkw : SK X W kws mk) (hall : (backToKw pos (keywordEach kws X.env)).all (·.1.isSome) = true := by rfl) (hks : (backToKw pos (keywordEach kws X.env)).filterMap (·.1) = ks := by rfl) (hdb : (x == ("__debug__" : Str)) = false := by decide)
    (he : starEach (e :: es) X.env = (false, eval e X.env) :: starEach es X.env := by rfl) (hpl : ((backTo pos (starEach (e :: es) X.env)).any (·.1) || (backToKw pos (keywordEach kws X.env)).any (·.1.isNone)) = false := by rfl) :
    SE X W (.Call (.Name x p) (e :: es) kws pos) (mCallK n fn gD ms mk) :=
  pe_imp (pe_kw Fg c.hg (c.hr.mono hkk) hg hm hk hb (fun σ => L2N.passAt c.tk σ) ha hkw hall hks hdb he hpl) fun σ H Q q => by
    obtain ⟨g0, F, sv, hK, rl, q⟩ := q
    refine ⟨g0, F, sv, hK, rl, PostG.bind q fun as s1 vs F1 H1 e1 rl1 rp1 q1 => ?_⟩
    refine ⟨g0, F1, s1, hK, rl1, PostG.bind q1 fun bs s2 us F2 H2 e2 rl2 rp2 q2 => ?_⟩
    split at q2
    · rename_i hz
      have rp : RpL g0.K F2 (gD as bs) (gV vs us) := ho.rel (RpL.mono e2 _ _ rp1) rp2
      rw [← hK.1]
      exact post_call (ro := false) (fun F' H' d v _ hr => by show Rp g0.K F' d v; simpa using hr) (rp.length.symm.trans hz) rl2 rp q2
    · exact False.elim q2
end

/-! ### texts' methods -/
section
variable {X : Cx} {W : WX'} {e : Expr} {m : M D} {apos pos : Pos}
def dUpper : D → Option D
  | .str z => if z.length ≤ 5592405 then some (.str (Txt.upper z)) else none
  | _ => none
theorem se_upper (h : PE X (.Call (.Attribute e "upper" apos) [] [] pos) (tBM0 X.K "str" (fun x xs H Q => ∃ a, x = .str a ∧ xs = [] ∧ a.length ≤ 5592405 ∧ Q (.str (Txt.upper a)) H) (tE X.K X.mx W m))) : SE X W (.Call (.Attribute e "upper" apos) [] [] pos) (m1 dUpper m) := pe_imp h fun σ H Q q => by
  obtain ⟨g, F, sv, hK, rl, q⟩ := q
  refine ⟨g, F, sv, hK, rl, PostG.bind q fun d s1 v F1 H1 e1 rl1 rp1 h1 => ?_⟩
  cases d with
  | str z =>
    cases (show v = V.str z from rp1)
    have h1 : PostG X.mx g F1 σ (match dUpper (.str z) with | some d => .ok d s1 | none => .bad) W RelE Q := h1
    unfold dUpper at h1
    dsimp only at h1
    split at h1
    · rename_i hz
      split at hz
      · cases hz
        exact ⟨rfl, z, rfl, rfl, by assumption, h1 _ F1 H1 (Same.refl F1) rl1 rfl⟩
      · cases hz
    · exact False.elim h1
  | _ => exact False.elim h1
end

/-! ### the end -/
/-- the law's promise: a list of ints in, True out -/
def spLaw (K : PySem.W.Frag) : Sp := fun vs H Q _ => ∃ (a : Addr) (ns : List Int), vs = [V.ref a] ∧ SqL K H a (ns.map V.int) ∧ ns.length ≤ 63 ∧ ∀ H', Q (.bl true) H'
theorem ints_rel {K : PySem.W.Frag} {F : Hp} : ∀ ns : List Int, RpL K F (ns.map D.int) (ns.map V.int)
  | [] => rfl
  | n :: ns => ⟨_, _, rfl, rfl, ints_rel ns⟩
/-- from what the law's def computes -/
theorem law_of {P : Program} {w : World} {K : PySem.W.Frag} {mg : Str → Option Value} {base : Heap} {k : Nat} {f : Addr} {fd : FuncData} {ps : List Str} {fn : Fn} (hp : ps.length = 1) (F : FnG P w K mg base k f fd ps (spV K mg 1 none false fn))
    (h : ∀ ns : List Int, ns.length ≤ 63 → fn [.fl (ns.map .int)] = .ok (.bl true) none) : FnG P w K mg base k f fd ps (spLaw K) := by
  constructor
  · rintro vs H Q E ⟨a, ns, rfl, _⟩
    exact hp.symm
  · intro A outer s H args us vs Q E hg hr e0 hb r hsp
    refine F.run A outer s H args us vs Q E hg hr e0 hb r ?_
    obtain ⟨a, ns, rfl, hS, hl, q⟩ := hsp
    refine ⟨rfl, H, [.fl (ns.map .int)], Same.refl H, ⟨_, [], rfl, ⟨a, _, rfl, hS, ints_rel ns⟩, rfl⟩, ?_⟩
    rw [h ns hl]
    intro v F' H' _ _ _ _ _ _ hv
    have hv' : v = V.bl true := by simpa [Rp] using hv
    subst hv'
    exact q H'
theorem law_callG {P : Program} {w : World} {K : PySem.W.Frag} {mg mb : Str → Option Value} {k : Nat} {fa a : Addr} {fd : FuncData} {x : Str} {sp : Sp} {s1 : Shared} {vs : List Value} {ns : List Int}
    (KX : K.In s1.heap) (hns : s1.heap.Ns mainGlobals mg) (hb : s1.heap.Ns builtinsNs mb) (hbb : ∀ x : Str, x ≠ "__name__" → mb x = bootBuiltins x) (hlim : s1.heap.NoLimit) (hg : s1.gens = #[])
    (ha : s1.heap.get? a = some { cls := .type "list", data := .seq vs.toArray }) (hi : IntsAre vs ns) (hl : ns.length ≤ sizeLine) (hr : Room k callerA)
    (F : ∀ base : Heap, K.In base → base.Ns mainGlobals mg → FnG P w K mg base k fa fd [x] sp) (hbind : ∀ (s : Shared) (u : Value), BindsTo s fd ⟨[u], []⟩ [(x, u)])
    (hsp : ∀ H : Hp, Only H → SqL K H a (ns.map V.int) → sp [.ref a] H (fun v _ => v = .bl true) fun _ _ _ => False) :
    codeAny (model P w) callerA (.call (.ref fa) ⟨[.ref a], []⟩) (fun r s' => r = .ok (.ret (.bool true)) ∧ OldK s1.heap s'.heap ∧ s'.os = s1.os ∧ AllBare s'.gens) s1 := by
  have rv := vals_ints hi
  have lenV := hi.length
  have core : ∀ H : Hp, Only H → SqL K H a (ns.map V.int) → HOk P w H s1.heap → (∀ b, H b ≠ none → b = a) → (H a ≠ none → K.lookup a = none) →
      codeAny (model P w) callerA (.call (.ref fa) ⟨[.ref a], []⟩) (fun r s' => r = .ok (.ret (.bool true)) ∧ OldK s1.heap s'.heap ∧ s'.os = s1.os ∧ AllBare s'.gens) s1 := by
    intro H hO hS hok hA hK
    have hereA : ∀ {b : Addr} {u : HO}, H b = some u → b = a := fun {b u} q => hA b (by rw [q]; exact (fun z => nomatch z))
    have noA : ∀ {b : Addr} {o : Obj} {es : Array DictEntry} {ep : Nat}, s1.heap.get? b = some o → o.data = .dict es ep → H b = none := fun {b o es ep} e d => by
      cases q : H b with
      | none => rfl
      | some u =>
        have := hereA q
        subst this
        rw [ha] at e
        cases e
        have d' : Data.seq vs.toArray _ = Data.dict es ep := d
        cases d'
    have nsK : ∀ {b : Addr} {m : Str → Option Value}, s1.heap.Ns b m → (hidT s1.heap H).Ns b m := fun {b m} ⟨o, es, ep, e, d, r⟩ => ⟨o, es, ep, hidT_get e (noA e d), d, r⟩
    have hKb : K.In (hidT s1.heap H) := fun b o e => hidT_get (KX b o e) (by
      cases q : H b with
      | none => rfl
      | some u =>
        have := hereA q
        subst this
        rw [hK (by rw [q]; exact (fun z => nomatch z))] at e
        cases e)
    have hM : Mod K mg (hidT s1.heap H) := ⟨hKb, nsK hns, ⟨mb, nsK hb, hbb⟩, let ⟨mc, h1, h2⟩ := hlim; ⟨mc, nsK h1, h2⟩⟩
    have e0 : Env0 P w K mg (hidT s1.heap H) callerA [] s1 H := ⟨rfl, hM, fun b o e => of_hidT e, Nat.le_of_eq (hidT_size _ _), trivial, fun b hb => absurd (show b ∈ ([] : List Addr) from hb) (by simp), hok, .of_eq hg⟩
    refine codeAny_mono ((F _ hKb (nsK hns)).run callerA [] s1 H ⟨[.ref a], []⟩ [.ref a] [.ref a] _ _ rfl hr e0 (hbind s1 (.ref a)) (.cons rfl .nil) (hsp H hO hS)) fun r s' h => ?_
    cases r with
    | error e => obtain ⟨_, _, _, _, _, _, _, _, _, _, _, _, z⟩ := h; exact z.elim
    | ok fl =>
      cases fl with
      | next => exact False.elim h
      | brk => exact False.elim h
      | cont => exact False.elim h
      | ret u =>
        obtain ⟨v, H', os, bare, un, hok', r', q⟩ := h
        have q' : v = .bl true := q
        subst q'
        have eu : u = Value.bool true := r'
        subst eu
        refine ⟨rfl, OldK.of_keep fun b o e => ?_, os, bare⟩
        cases q : H b with
        | none => exact un.keep b o e q (fun z => absurd (show b ∈ ([] : List Addr) from z) (by simp)) (by simp)
        | some u =>
          rcases hO b with z | ⟨ob, xs, z⟩
          · rw [q] at z; cases z
          · obtain ⟨e1, _⟩ := hok b _ z
            obtain ⟨e2, _⟩ := hok' b _ (un.frzs b ob _ z)
            rw [e] at e1; cases e1
            exact e2
  cases hk : K.lookup a with
  | some o =>
    have e := KX a o hk
    rw [ha] at e
    cases e
    exact core (fun _ => none) (fun _ => .inl rfl) (.inr ⟨_, vs.toArray, _, hk, rfl, rfl, rfl, by rw [List.size_toArray, lenV]; exact hl, by simpa using rv⟩) (fun b u z => by have z' : (none : Option HO) = some u := z; cases z') (fun b z => absurd rfl z) fun z => absurd rfl z
  | none =>
    refine core (fun b => if b = a then some (.frz { cls := .type "list", data := .seq vs.toArray } (.lst (ns.map V.int))) else none) (fun b => ?_) (.inl (.inr ⟨_, if_pos rfl⟩)) (fun b u z => ?_) (fun b z => ?_) fun _ => hk
    · by_cases hb : b = a
      · exact .inr ⟨_, _, if_pos hb⟩
      · exact .inl (if_neg hb)
    · by_cases hb : b = a
      · have z' := (if_pos hb).symm.trans z
        cases z'
        subst hb
        exact ⟨ha, by rw [List.length_map]; exact hl, vs, _, rv, ha⟩
      · have z' := (if_neg hb).symm.trans z
        cases z'
    · by_cases hb : b = a
      · exact hb
      · exact absurd (if_neg hb) z
theorem walk_ofG {l : PySem.W.OpenLaw} {k : Nat} {q : Program} {loose : List Str} {XP : (Str → Option Value) → Heap → Prop} {YP : World → Heap → Prop} {d : DefRec} {K : Params → PySem.W.Frag} {x : Str}
    (hn : l.most = some 63) (hdf : d.params.defaults = []) (hr : Room k callerA) (hY : ∀ (w : World) (h : Heap), YP w h → (K w.params).In h)
    (F : ∀ (w : World) (mg : Str → Option Value) (fa : Addr) (h : Heap), (K w.params).In h → h.Ns mainGlobals mg → mg d.name = some (.ref fa) →
      ∃ fd : FuncData, (∀ (s : Shared) (u : Value), BindsTo s fd ⟨[u], []⟩ [(x, u)]) ∧ ∀ base : Heap, (K w.params).In base → base.Ns mainGlobals mg → FnG l.prog w (K w.params) mg base k fa fd [x] (spLaw (K w.params))) :
    PySem.W.WalkO q loose XP YP l.row.toRowW d [] (fun f vs => PySem.call f vs) := by
  refine Att.attach_call hn hdf fun w s₀ s₁ mg mb fa o pm cd doc a vs ns G Y ho hd hcd hmg hobj hints hlen hg => ?_
  have KX := hY w _ Y
  obtain ⟨fd, hb, hF⟩ := F w mg fa _ KX G.T.g hmg
  exact law_callG KX G.T.g G.T.b G.T.builtins G.T.nolimit hg hobj hints (Nat.le_trans hlen (by decide)) hr hF hb fun H hO hS => ⟨a, ns, rfl, hS, hlen, fun _ => rfl⟩
end VM

set_option Elab.async false
set_option linter.all false
set_option autoImplicit false
set_option maxRecDepth 100000
set_option maxHeartbeats 400000
namespace VM
open PySem PySem.Spec PyProof.Rows L2

/-! ### further rules -/
section
variable {X : Cx} {W : WX'} {a b e : Expr} {pos : Pos} {ma mb m : M D}
/-- * : ints; a list and an int -/
def dMul : D → D → Option D
  | .int i, .int j => cMul i j
  | .lst xs, .int k => dRep (.lst xs) (.int k)
  | _, _ => none
theorem o2_mulA {K : PySem.W.Frag} : O2 K (fun x y H Q => (rI CMul fun i j => .int (i * j)) x y H Q ∨ rRep x y H Q) dMul := by
  intro g F H σ sv a b d x y Q hK rl e ha hb q
  cases a <;> cases b <;> try (cases e; done)
  · rename_i i j
    exact .inl (o2_mulI g F H σ sv (.int i) (.int j) d x y Q hK rl e ha hb q)
  · rename_i xs k
    simp only [dMul, dRep] at e
    split at e
    · rename_i hz
      cases e
      subst hK
      obtain ⟨p, vs, rfl, h4, h5⟩ := ha
      refine .inr ⟨p, _, vs, rfl, hb, rl.sub _ _ h4, hz.1, hz.2.1, by rw [← h5.length]; exact hz.2.2, fun l hl => ?_⟩
      have sF : Same F (upd F l (.lst (List.replicate k.toNat vs).flatten)) := same_upd (rl.sub.free hl)
      exact q _ _ _ sF (rl.lay hl) ⟨l, _, rfl, upd_same, RpL.mono sF _ _ (rep_rel h5 _)⟩
    · cases e
theorem se_mulA (ha : SE X W a ma) (hb : SE X W b mb) : SE X W (.BinOp a .Mult b pos) (m2 dMul ma mb) := se_op (OpR.or op_mul op_rep) o2_mulA ha hb
/-- xs + ys, a new list that is the frame's own -/
def dCat : D → D → Option D
  | .lst xs, .lst ys => if xs.length + ys.length ≤ sizeLine then some (.lst (xs ++ ys)) else none
  | _, _ => none
theorem so_cat (ha : SE X W a ma) (hb : SE X W b mb) : SO X W (.BinOp a .Add b pos) (m2 dCat ma mb) := pe_imp (pe_op op_cat ha hb) fun σ H Q q => by
  obtain ⟨g, F, sv, hK, rl, q⟩ := q
  refine ⟨g, F, sv, hK, rl, PostG.bind q fun d s1 x F1 H1 e1 rl1 rp1 h1 => ?_⟩
  refine ⟨g, F1, s1, hK, rl1, PostG.bind h1 fun d2 s2 y F2 H2 e2 rl2 rp2 h2 => ?_⟩
  have rp1' := Rp.mono e2 _ _ rp1
  split at h2
  · rename_i r hr
    unfold dCat at hr
    split at hr
    · split at hr
      · rename_i hz
        cases hr
        obtain ⟨p, vs, rfl, h4, h5⟩ := rp1'
        obtain ⟨p2, us, rfl, h6, h7⟩ := rp2
        refine ⟨p, p2, vs, us, rfl, rfl, rl2.sub _ _ h4, rl2.sub _ _ h6, by rw [← h5.length, ← h7.length]; exact hz, fun l hl => ?_⟩
        exact h2 _ _ _ (Same.refl F2) (rl2.layO hl) (rl2.newO hl .lst (h5.append h7))
      · cases hr
    · cases hr
  · exact False.elim h2
/-- a text of the module's own top -/
theorem se_glob {x : Str} {z : Str} {t : Tok} (hg : Gl X x) (hm : X.mg x = some (.str z t)) (hd : (x == ("__debug__" : Str)) = false := by decide) : SE X W (.Name x pos) (mC (.str z)) := se_const (pe_glob (v := .str z) hg hm ⟨_, rfl⟩ hd) fun _ => rfl
theorem se_globI {x : Str} {z : Int} {t : Tok} (hg : Gl X x) (hm : X.mg x = some (.int z t)) (hd : (x == ("__debug__" : Str)) = false := by decide) : SE X W (.Name x pos) (mC (.int z)) := se_const (pe_glob (v := .int z) hg hm ⟨_, rfl⟩ hd) fun _ => rfl
end
end VM

set_option Elab.async false
set_option linter.all false
set_option autoImplicit false
set_option maxRecDepth 100000
set_option maxHeartbeats 400000
namespace VM
open PySem PySem.Spec PyProof.Rows L2

/-! ### keywords that stand in the order of the def -/
def kj {α : Type} (n k : Nat) (us ws : List α) : List α := if us.length = n ∧ ws.length = k then us ++ ws else []
theorem kj_ord (n k : Nat) : KOrd (kj n k) (kj n k) := ⟨fun {K F as bs vs us} h1 h2 => by
  unfold kj
  rw [h1.length, h2.length]
  split
  · exact h1.append h2
  · rfl⟩
theorem kj_binds {K : PySem.W.Frag} {x qual : Str} {st : Stmt} {f : Addr} {fd : FuncData} {ps ks : List Str} {n k : Nat} (hp : ps.length = n + k ∧ 0 < ps.length) (F : Fun K x qual st f fd)
    (h : ∀ (kV doc pm : Value) (an : Option Addr) (cdv ct : Value) (us ws : List Value), us.length = n → ws.length = k → bindArgs (PySem.W.fnOf x qual (defArgs st) (defBody st) (defScope st) .none kV doc pm an cdv ct) ⟨us, ks.zip ws⟩ = pure (ps.zip (us ++ ws))) : KBinds K fd ps ks (kj n k) (kj n k) := by
  obtain ⟨oc, od, kV, doc, pm, an, cdv, ct, osl, rfl, lk, hcd⟩ := F.ex
  constructor
  · intro s us ws _ hl
    unfold kj at hl ⊢
    split at hl
    · rename_i hz
      rw [if_pos hz]
      exact .of_eq (h kV doc pm an cdv ct us ws hz.1 hz.2)
    · have : ps.length = 0 := hl.symm
      omega
  · intro vs us zs ws h1 h2
    unfold kj
    rw [h1.length, h2.length]
    split
    · exact Vals.append h1 h2
    · exact .nil
end VM

set_option Elab.async false
set_option linter.all false
set_option autoImplicit false
set_option maxRecDepth 100000
set_option maxHeartbeats 400000
namespace VM
open PySem PySem.Spec PyProof.Rows L2
/-! ### all(xs), any(xs), sum(xs) over a list -/
def blsD : List D → Option (List Bool)
  | [] => some []
  | .bl b :: r => (blsD r).map (b :: ·)
  | _ => none
def intsD : List D → Option (List Int)
  | [] => some []
  | .int b :: r => (intsD r).map (b :: ·)
  | _ => none
theorem bls_rel {K : PySem.W.Frag} {F : Hp} : ∀ {xs : List D} {bs : List Bool} {vs : List V}, blsD xs = some bs → RpL K F xs vs → vs = bs.map V.bl
  | [], bs, vs, h, r => by cases h; cases r; rfl
  | .bl b :: xs, bs, vs, h, r => by
    simp only [blsD, Option.map_eq_some_iff] at h
    obtain ⟨cs, h1, rfl⟩ := h
    obtain ⟨v, us, rfl, h2, h3⟩ := r
    cases h2
    rw [bls_rel h1 h3]
    rfl
theorem ints_relD {K : PySem.W.Frag} {F : Hp} : ∀ {xs : List D} {bs : List Int} {vs : List V}, intsD xs = some bs → RpL K F xs vs → vs = bs.map V.int
  | [], bs, vs, h, r => by cases h; cases r; rfl
  | .int b :: xs, bs, vs, h, r => by
    simp only [intsD, Option.map_eq_some_iff] at h
    obtain ⟨cs, h1, rfl⟩ := h
    obtain ⟨v, us, rfl, h2, h3⟩ := r
    cases h2
    rw [ints_relD h1 h3]
    rfl
def dAll : List D → Option D
  | [.lst xs] => (blsD xs).map fun bs => .bl (bs.all id)
  | _ => none
def dAny : List D → Option D
  | [.lst xs] => (blsD xs).map fun bs => .bl (bs.any id)
  | _ => none
def dSum : List D → Option D
  | [.lst xs] => (intsD xs).map fun bs => .int bs.sum
  | _ => none
theorem oc_all {K : PySem.W.Frag} : OC K (rAll K) dAll := oc_pure fun F H ds d vs Q s e hv q => by
  unfold dAll at e
  split at e
  · obtain ⟨v, rfl, a, us, rfl, h1, h2⟩ := RpL.one_inv hv
    simp only [Option.map_eq_some_iff] at e
    obtain ⟨bs, e1, rfl⟩ := e
    exact ⟨a, bs, rfl, by rw [← bls_rel e1 h2]; exact .inl (.inl (s _ _ h1)), q _ rfl⟩
  · cases e
theorem oc_any {K : PySem.W.Frag} : OC K (rAny K) dAny := oc_pure fun F H ds d vs Q s e hv q => by
  unfold dAny at e
  split at e
  · obtain ⟨v, rfl, a, us, rfl, h1, h2⟩ := RpL.one_inv hv
    simp only [Option.map_eq_some_iff] at e
    obtain ⟨bs, e1, rfl⟩ := e
    exact ⟨a, bs, rfl, by rw [← bls_rel e1 h2]; exact .inl (.inl (s _ _ h1)), q _ rfl⟩
  · cases e
theorem oc_sum {K : PySem.W.Frag} : OC K (rSum K) dSum := oc_pure fun F H ds d vs Q s e hv q => by
  unfold dSum at e
  split at e
  · obtain ⟨v, rfl, a, us, rfl, h1, h2⟩ := RpL.one_inv hv
    simp only [Option.map_eq_some_iff] at e
    obtain ⟨bs, e1, rfl⟩ := e
    exact ⟨a, bs, rfl, by rw [← ints_relD e1 h2]; exact .inl (.inl (s _ _ h1)), q _ rfl⟩
  · cases e
theorem boot_all' : bootBuiltins "all" = some (.builtin "all") := by decide +kernel
theorem boot_any' : bootBuiltins "any" = some (.builtin "any") := by decide +kernel
theorem boot_sum' : bootBuiltins "sum" = some (.builtin "sum") := by decide +kernel
section
variable {X : Cx} {W : WX'} {e : Expr} {es : List Expr} {ms : M (List D)} {p pos : Pos}
theorem se_all (hc : X.calm = true) (hg : Gl X "all") (hm : X.mg "all" = none) (ha : SA X W (e :: es) ms)
    (h1 : starEach (e :: es) X.env = (false, eval e X.env) :: starEach es X.env := by rfl) (h2 : (backTo pos (starEach es X.env)).any (·.1) = false := by rfl) : SE X W (.Call (.Name "all" p) (e :: es) [] pos) (mCall1 dAll ms) :=
  se_callB (cr_all hc) oc_all hg hm boot_all' ha (by decide) (by decide) h1 h2
theorem se_any (hc : X.calm = true) (hg : Gl X "any") (hm : X.mg "any" = none) (ha : SA X W (e :: es) ms)
    (h1 : starEach (e :: es) X.env = (false, eval e X.env) :: starEach es X.env := by rfl) (h2 : (backTo pos (starEach es X.env)).any (·.1) = false := by rfl) : SE X W (.Call (.Name "any" p) (e :: es) [] pos) (mCall1 dAny ms) :=
  se_callB (cr_any hc) oc_any hg hm boot_any' ha (by decide) (by decide) h1 h2
theorem se_sum (hc : X.calm = true) (hg : Gl X "sum") (hm : X.mg "sum" = none) (ha : SA X W (e :: es) ms)
    (h1 : starEach (e :: es) X.env = (false, eval e X.env) :: starEach es X.env := by rfl) (h2 : (backTo pos (starEach es X.env)).any (·.1) = false := by rfl) : SE X W (.Call (.Name "sum" p) (e :: es) [] pos) (mCall1 dSum ms) :=
  se_callB (cr_sum hc) oc_sum hg hm boot_sum' ha (by decide) (by decide) h1 h2
end
end VM

set_option Elab.async false
set_option linter.all false
set_option autoImplicit false
set_option maxRecDepth 100000
set_option maxHeartbeats 400000
namespace VM
open PySem PySem.Spec PyProof.Rows L2

/-! ### evaluation by simp -/
theorem rng1_a {n : Nat} (h : n ≤ 1000000) : -(2 ^ 62) ≤ (n : Int) ∧ (n : Int) < 2 ^ 62 := by constructor <;> omega
theorem rng1_if {j : Int} {n : Nat} (e : j.toNat = n) (h : -(2 ^ 62) ≤ j ∧ j < 2 ^ 62) (s : SV) : (if -(2 ^ 62) ≤ j ∧ j < 2 ^ 62 then R.ok (rngs 0 j.toNat) s else .bad) = R.ok (rngs 0 n) s := by
  subst e
  exact if_pos h
theorem rng1_of' {ms : M (List D)} {sv s : SV} {j : Int} {n : Nat}  (e : j.toNat = n) (h : -(2 ^ 62) ≤ j ∧ j < 2 ^ 62) (e1 : ms sv = .ok [.int j] s) : mRng1 ms sv = .ok (rngs 0 n) s := by
  unfold mRng1
  rw [e1]
  exact rng1_if e h s
theorem rng1_of {ms : M (List D)} {sv s : SV} {n : Nat} (e : ms sv = .ok [.int (n : Int)] s) (h : n ≤ 1000000) : mRng1 ms sv = .ok (rngs 0 n) s := rng1_of' (Int.toNat_natCast n) (rng1_a h) e
section
variable (sv : SV) (i j n : Nat) (d : D) (m ma mb : M D) (t u : M Bool) (ms : M (List D)) (a b : MS)
@[simp] theorem ev_ok {α β : Type} (x : α) (s : SV) (k : α → SV → R β) : (R.ok x s).bind k = k x s := (rfl)
@[simp] theorem ev_err {α β : Type} (x : Exn) (s : SV) (k : α → SV → R β) : (R.err x s : R α).bind k = .err x s := (rfl)
@[simp] theorem ev_bad {α β : Type} (k : α → SV → R β) : (R.bad : R α).bind k = .bad := (rfl)
@[simp] theorem ev_C : mC d sv = .ok d sv := (rfl)
@[simp] theorem ev_Rd : mRd i sv = match sv[i]? with
  | some (.pl d) => .ok d sv
  | _ => .bad := (rfl)
@[simp] theorem fz_lst (xs : List D) : fz (.lst xs) = .lst xs := (rfl)
@[simp] theorem fz_dct (ks : List Key) (xs : List D) : fz (.dct ks xs) = .dct ks xs := (rfl)
@[simp] theorem fz_obj (c : Str) (ns : List Str) (xs : List D) : fz (.obj c ns xs) = .obj c ns xs := (rfl)
@[simp] theorem fz_dlst (xs : List D) : fz (.deep (.lst xs)) = .lst (fzL xs) := (rfl)
@[simp] theorem fz_ddct (ks : List Key) (xs : List D) : fz (.deep (.dct ks xs)) = .dct ks (fzL xs) := (rfl)
@[simp] theorem fz_dobj (c : Str) (ns : List Str) (xs : List D) : fz (.deep (.obj c ns xs)) = .obj c ns (fzL xs) := (rfl)
@[simp] theorem ev_Mv : mMv i sv = match sv[i]? with
  | some (.pl d) => .ok d sv
  | some (.ow d) => .ok (fz d) (sv.set i (.pl (fz d)))
  | _ => .bad := (rfl)
@[simp] theorem ev_Tk : mTk i sv = match sv[i]? with
  | some (.ow d) => .ok d (sv.set i .un)
  | _ => .bad := (rfl)
@[simp] theorem ev_2 (f : D → D → Option D) : m2 f ma mb sv = (ma sv).bind fun a s1 => (mb s1).bind fun b s2 => match f a b with
  | some d => .ok d s2
  | none => .bad := (rfl)
@[simp] theorem ev_1 (f : D → Option D) : m1 f m sv = (m sv).bind fun a s1 => match f a with
  | some d => .ok d s1
  | none => .bad := (rfl)
@[simp] theorem ev_B : mB m sv = (m sv).bind fun d s => match d with
  | .bl b => .ok b s
  | _ => .bad := (rfl)
@[simp] theorem ev_Not : mNot t sv = (t sv).bind fun b s => .ok (!b) s := (rfl)
@[simp] theorem ev_And : mAnd t u sv = (t sv).bind fun b s => if b = true then u s else .ok false s := (rfl)
@[simp] theorem ev_Or : mOr t u sv = (t sv).bind fun b s => if b = true then .ok true s else u s := (rfl)
@[simp] theorem ev_oN : moN sv = .ok none sv := (rfl)
@[simp] theorem ev_oS : moS m sv = (m sv).bind fun d s => match d with
  | .int i => .ok (some i) s
  | _ => .bad := by
  unfold moS
  rfl
@[simp] theorem ev_Sl (ml mh : MO) : mSl m ml mh sv = (m sv).bind fun d s1 => (ml s1).bind fun lo s2 => (mh s2).bind fun hi s3 => match dSl d lo hi with
  | some r => .ok r s3
  | none => .bad := (rfl)
@[simp] theorem ev_nil : mNil sv = .ok [] sv := (rfl)
@[simp] theorem ev_cons : mCons m ms sv = (m sv).bind fun d s1 => (ms s1).bind fun ds s2 => .ok (d :: ds) s2 := (rfl)
@[simp] theorem ev_Tup : mTup ms sv = (ms sv).bind fun ds s => if ds.length ≤ sizeLine then .ok (.tup ds) s else .bad := (rfl)
@[simp] theorem ev_Lst : mLst ms sv = (ms sv).bind fun ds s => if ds.length ≤ sizeLine then .ok (.lst ds) s else .bad := (rfl)
@[simp] theorem ev_Call1 (f : List D → Option D) : mCall1 f ms sv = (ms sv).bind fun ds s => match f ds with
  | some d => .ok d s
  | none => .bad := (rfl)
@[simp] theorem ev_Call (fn : Fn) (dd : List D) : mCall n fn dd ms sv = (ms sv).bind fun ds s => if (ds ++ dd).length = n then frR (fn (ds ++ dd)) s else .bad := (rfl)
@[simp] theorem ev_CallK (fn : Fn) (g : List D → List D → List D) (mk : M (List D)) : mCallK n fn g ms mk sv = (ms sv).bind fun as s1 => (mk s1).bind fun bs s2 => if (g as bs).length = n then frR (fn (g as bs)) s2 else .bad := (rfl)
@[simp] theorem ev_frok : frR (.ok d none) sv = .ok d sv := (rfl)
@[simp] theorem ev_frbad : frR .bad sv = .bad := (rfl)
@[simp] theorem ev_Seq : mSeq a b sv = match a sv with
  | .nx s => b s
  | o => o := (rfl)
@[simp] theorem ev_Skip : mSkip sv = .nx sv := (rfl)
@[simp] theorem ev_Bind {α : Type} (m : M α) (k : α → SV → O) : mBind m k sv = match m sv with
  | .ok a s => k a s
  | .err x s => .err x s
  | .bad => .bad := by
  unfold mBind
  cases m sv <;> rfl
@[simp] theorem ev_Drop : mDrop m sv = mBind m (fun _ s => .nx s) sv := (rfl)
@[simp] theorem ev_Ret : mRet m sv = mBind m (fun d s => .rt d s) sv := (rfl)
@[simp] theorem ev_RetO : mRetO m sv = mBind m (fun d s => .ro d s) sv := (rfl)
@[simp] theorem ev_IfS : mIfS t a b sv = mBind t (fun c s => if c = true then a s else b s) sv := (rfl)
@[simp] theorem ev_Asg : mAsg i m sv = mBind m (fun d s => .nx (s.set i (.pl d))) sv := (rfl)
@[simp] theorem ev_AsgO : mAsgO i m sv = mBind m (fun d s => .nx (s.set i (.ow d))) sv := (rfl)
@[simp] theorem ev_ownL : ownL sv i = match sv[i]? with
  | some (.ow (.lst xs)) => some (.ow (.lst xs), xs)
  | some (.io k (.lst xs)) => some (.io k (.lst xs), xs)
  | _ => none := by
  unfold ownL
  cases h : sv[i]? with
  | none => rfl
  | some s => cases s <;> first | rfl | (rename_i d; cases d <;> rfl)
@[simp] theorem ev_putL (xs : List D) : putL sv i xs = match sv[i]? with
  | some (.ow _) => .nx (sv.set i (.ow (.lst xs)))
  | some (.io k _) => .nx (sv.set i (.io k (.lst xs)))
  | _ => .bad := by
  unfold putL
  cases h : sv[i]? with
  | none => rfl
  | some s => cases s <;> rfl
@[simp] theorem ev_App : mApp i m sv = match ownL sv i with
  | none => .bad
  | some _ => mBind m (fun d s => match ownL s i with
    | some (_, xs) => if xs.length < sizeLine then putL s i (xs ++ [d]) else .bad
    | none => .bad) sv := (rfl)
@[simp] theorem ev_Put (mk : M D) : mPut i m mk sv = mBind m (fun d s1 => match ownL s1 i with
  | none => .bad
  | some _ => mBind mk (fun k s2 => match k, ownL s2 i with
    | .int z, some (_, xs) => match ixN xs.length z with
      | some j => putL s2 i (xs.set j d)
      | none => .bad
    | _, _ => .bad) s1) sv := (rfl)
@[simp] theorem ev_Pop : mPop i sv = match ownL sv i with
  | some (_, xs) => match xs[xs.length - 1]? with
    | some d => match putL sv i xs.dropLast with
      | .nx s' => .ok d s'
      | _ => .bad
    | none => .bad
  | none => .bad := (rfl)
theorem ev_For (mi : M (List D)) (g : MT) : mFor mi g b sv = mBind mi (fun ds s => forL g b ds s) sv := (rfl)
@[simp] theorem ev_Items : mItems m sv = (m sv).bind fun d s => match itemsD d with
  | some ds => .ok ds s
  | none => .bad := by
  unfold mItems
  rfl
@[simp] theorem ev_Enum : mEnum ms sv = (ms sv).bind fun ds s => match ds with
  | [.tup xs] => .ok (enumD 0 xs) s
  | [.lst xs] => .ok (enumD 0 xs) s
  | [.fl xs] => .ok (enumD 0 xs) s
  | _ => .bad := (rfl)
@[simp] theorem ev_tN : mtN i d sv = some (sv.set i (.pl d)) := (rfl)
@[simp] theorem ev_tnil : mtNil [] sv = some sv := (rfl)
@[simp] theorem ev_tcons (t : MT) (u : List D → SV → Option SV) (ds : List D) : mtCons t u (d :: ds) sv = match t d sv with
  | some s => u ds s
  | none => none := by
  unfold mtCons
  cases h : t d sv <;> (dsimp only; rw [h]; rfl)
@[simp] theorem ev_tTup (u : List D → SV → Option SV) (ds : List D) : mtTup n u (.tup ds) sv = if ds.length = n then u ds sv else none := (rfl)
@[simp] theorem ev_With {α : Type} (ok : α → Bool) (m : M α) : mWith ok i m sv = match sv[i]? with
  | some (.ow d) => (match m (lend i (fz d) sv) with
    | .ok r _ => if ok r = true then .ok r sv else .bad
    | _ => .bad)
  | some (.io _ d) => (match m (lend i (fz d) sv) with
    | .ok r _ => if ok r = true then .ok r sv else .bad
    | _ => .bad)
  | some _ => m sv
  | none => .bad := by
  unfold mWith
  cases h : sv[i]? with
  | none => rfl
  | some s => cases s <;> rfl
@[simp] theorem ev_lend : lend i d sv = (hideS sv).set i (.pl d) := (rfl)
@[simp] theorem ev_IfE : mIf t ma mb sv = (t sv).bind fun b s => if b = true then ma s else mb s := (rfl)
end
@[simp] theorem ev_hn : hideS [] = [] := (rfl)
@[simp] theorem ev_hp (d : D) (r : SV) : hideS (.pl d :: r) = .pl d :: hideS r := (rfl)
@[simp] theorem ev_hu (r : SV) : hideS (.un :: r) = .un :: hideS r := (rfl)
@[simp] theorem ev_ho (d : D) (r : SV) : hideS (.ow d :: r) = .un :: hideS r := (rfl)
@[simp] theorem ev_hi (k : Nat) (d : D) (r : SV) : hideS (.io k d :: r) = .un :: hideS r := (rfl)
@[simp] theorem ev_lcn (own : List Nat) (t : MT) (mc : M Bool) (me : M D) (s : SV) (acc : List D) : lcL own t mc me [] s acc = .ok acc s := (rfl)
@[simp] theorem ev_yes (sv : SV) : mYes sv = .ok true sv := (rfl)
@[simp] theorem ev_it1 (xs : List D) : itemsD (.tup xs) = some xs := (rfl)
@[simp] theorem ev_it2 (xs : List D) : itemsD (.lst xs) = some xs := (rfl)
@[simp] theorem ev_it3 (xs : List D) : itemsD (.fl xs) = some xs := (rfl)
@[simp] theorem ev_i0 (k : Nat) (io : Option Nat) : initA io k [] = [] := (rfl)
@[simp] theorem ev_i1 (k : Nat) (d : D) (ds : List D) : initA none k (d :: ds) = .pl d :: initA none (k + 1) ds := (rfl)
/-- a def without an in-out place -/
def endN (ro : Bool) : O → FR
  | .nx _ => if ro = true then .bad else .ok .non none
  | .rt d _ => if ro = true then .bad else .ok d none
  | .ro d _ => if ro = true then .ok d none else .bad
  | .err x _ => .err x none
  | _ => .bad
theorem fnOf_none (n : Nat) (ro : Bool) (body : MS) (ds : List D) : fnOf n none ro body ds = endN ro (body (initA none 0 ds ++ List.replicate (n - ds.length) .un)) := by
  unfold fnOf endN outS
  cases body (initA none 0 ds ++ List.replicate (n - ds.length) .un) <;> rfl
@[simp] theorem end_nx (s : SV) : endN false (.nx s) = .ok .non none := (rfl)
@[simp] theorem end_rt (d : D) (s : SV) : endN false (.rt d s) = .ok d none := (rfl)
@[simp] theorem end_ro (d : D) (s : SV) : endN true (.ro d s) = .ok d none := (rfl)

theorem for_of {mi : M (List D)} {t : MT} {b : MS} {sv s : SV} {ds : List D} {o : O} (e : mi sv = .ok ds s) (h : forL t b ds s = o) : mFor mi t b sv = o := by
  unfold mFor mBind
  rw [e]
  exact h
/-! ### loops -/
theorem forL_rel {t : MT} {b : MS} (P : Nat → SV → Prop) : ∀ (ds : List D) (k : Nat) (sv : SV), P k sv → (∀ i d s, ds[i]? = some d → P (k + i) s → ∃ s1 s2, t d s = some s1 ∧ b s1 = .nx s2 ∧ P (k + i + 1) s2) → ∃ s, forL t b ds sv = .nx s ∧ P (k + ds.length) s
  | [], k, sv, h0, _ => ⟨sv, rfl, h0⟩
  | d :: ds, k, sv, h0, hs => by
    obtain ⟨s1, s2, e1, e2, h2⟩ := hs 0 d sv rfl h0
    obtain ⟨s, e3, h3⟩ := forL_rel P ds (k + 1) s2 h2 fun i d' s' hd hp => by
      have e : k + 1 + i = k + (i + 1) := by omega
      rw [e] at hp ⊢
      exact hs (i + 1) d' s' hd hp
    refine ⟨s, ?_, ?_⟩
    · unfold forL
      rw [e1]
      dsimp only
      rw [e2]
      exact e3
    · rw [List.length_cons]
      have e : k + (ds.length + 1) = k + 1 + ds.length := by omega
      rw [e]
      exact h3
theorem for_ok {t : MT} {b : MS} {ds : List D} {sv : SV} (P : Nat → SV → Prop) (h0 : P 0 sv) (hs : ∀ i d s, ds[i]? = some d → P i s → ∃ s1 s2, t d s = some s1 ∧ b s1 = .nx s2 ∧ P (i + 1) s2) : ∃ s, forL t b ds sv = .nx s ∧ P ds.length s := by
  obtain ⟨s, h1, h2⟩ := forL_rel P ds 0 sv h0 fun i d s hd hp => by
    rw [Nat.zero_add] at hp ⊢
    exact hs i d s hd hp
  rw [Nat.zero_add] at h2
  exact ⟨s, h1, h2⟩
/-- a statement that goes on, and what holds then -/
structure Nxt (o : O) (P : SV → Prop) : Prop where
  eq : ∃ s, o = .nx s ∧ P s
@[simp] theorem nxt_nx (s : SV) (P : SV → Prop) : Nxt (.nx s) P = P s := propext ⟨fun h => by
  obtain ⟨s', e, hp⟩ := h.eq
  cases e
  exact hp, fun h => ⟨s, rfl, h⟩⟩
theorem Nxt.not {o : O} {P : SV → Prop} (h : Nxt o P) (k : ∀ s, o ≠ .nx s) : False := by
  obtain ⟨s, e, _⟩ := h.eq
  exact k s e
def Turn (t : MT) (b : MS) (d : D) (s : SV) (P : SV → Prop) : Prop := match t d s with
  | some s1 => Nxt (b s1) P
  | none => False
@[simp] theorem turn_n (i : Nat) (b : MS) (d : D) (s : SV) (P : SV → Prop) : Turn (mtN i) b d s P = Nxt (b (s.set i (.pl d))) P := rfl
theorem for_turns {t : MT} {b : MS} {ds : List D} {sv : SV} (P : Nat → SV → Prop) (h0 : P 0 sv) (hs : ∀ i d s, ds[i]? = some d → P i s → Turn t b d s (P (i + 1))) : ∃ s, forL t b ds sv = .nx s ∧ P ds.length s := for_ok P h0 fun i d s hd hp => by
  have q := hs i d s hd hp
  unfold Turn at q
  cases e1 : t d s with
  | none => rw [e1] at q; exact q.elim
  | some s1 =>
    rw [e1] at q
    dsimp only at q
    obtain ⟨s2, e2, q⟩ := q.eq
    exact ⟨s1, s2, rfl, e2, q⟩
/-- a def's answer -/
structure Ans (r : FR) (P : D → Prop) : Prop where
  eq : ∃ d, r = .ok d none ∧ P d
@[simp] theorem ans_ok (d : D) (P : D → Prop) : Ans (.ok d none) P = P d := propext ⟨fun h => by
  obtain ⟨s', e, hp⟩ := h.eq
  cases e
  exact hp, fun h => ⟨d, rfl, h⟩⟩
theorem nxt_of {o : O} {P : SV → Prop} {s : SV} (e : o = .nx s) (h : P s) : Nxt o P := ⟨s, e, h⟩
theorem nxt_mono {o : O} {P Q : SV → Prop} (h : Nxt o P) (k : ∀ s, P s → Q s) : Nxt o Q := by
  obtain ⟨s, e, hp⟩ := h.eq
  exact nxt_of e (k s hp)
theorem nxt_seq {a b : MS} {sv : SV} {Q : SV → Prop} (P : SV → Prop) (h : Nxt (a sv) P) (k : ∀ s, P s → Nxt (b s) Q) : Nxt (mSeq a b sv) Q := by
  obtain ⟨s, e, hp⟩ := h.eq
  rw [ev_Seq, e]
  exact k s hp
theorem nxt_if {t : M Bool} {a b : MS} {sv : SV} {Q : SV → Prop} {c : Bool} (h : t sv = .ok c sv) (h1 : c = true → Nxt (a sv) Q) (h2 : c = false → Nxt (b sv) Q) : Nxt (mIfS t a b sv) Q := by
  rw [ev_IfS, ev_Bind, h]
  cases c with
  | true => exact h1 rfl
  | false => exact h2 rfl
theorem nxt_for {mi : M (List D)} {t : MT} {b : MS} {sv s : SV} {ds : List D} {Q : SV → Prop} (P : Nat → SV → Prop) (e : mi sv = .ok ds s) (h0 : P 0 s) (hs : ∀ i d s, ds[i]? = some d → P i s → Turn t b d s (P (i + 1))) (hq : ∀ s, P ds.length s → Q s) : Nxt (mFor mi t b sv) Q := by
  obtain ⟨s', e1, hp⟩ := for_turns P h0 hs
  exact nxt_of (for_of e e1) (hq s' hp)
theorem fin_seq {ro : Bool} {a b : MS} {sv : SV} {Q : D → Prop} (P : SV → Prop) (h : Nxt (a sv) P) (k : ∀ s, P s → Ans (endN ro (b s)) Q) : Ans (endN ro (mSeq a b sv)) Q := by
  obtain ⟨s, e, hp⟩ := h.eq
  rw [ev_Seq, e]
  exact k s hp
theorem fin_if {ro : Bool} {t : M Bool} {a b : MS} {sv : SV} {Q : D → Prop} {c : Bool} (h : t sv = .ok c sv) (h1 : c = true → Ans (endN ro (a sv)) Q) (h2 : c = false → Ans (endN ro (b sv)) Q) : Ans (endN ro (mIfS t a b sv)) Q := by
  rw [ev_IfS, ev_Bind, h]
  cases c with
  | true => exact h1 rfl
  | false => exact h2 rfl
theorem Ans.mono {r : FR} {P Q : D → Prop} (h : Ans r P) (k : ∀ d, P d → Q d) : Ans r Q := by
  obtain ⟨d, e, hp⟩ := h.eq
  exact ⟨d, e, k d hp⟩
theorem rngs_get {n i : Nat} {d : D} (h : (rngs 0 n)[i]? = some d) : i < n ∧ d = .int i := by
  unfold rngs at h
  rw [List.getElem?_map] at h
  obtain ⟨j, h1, h2⟩ := Option.map_eq_some_iff.mp h
  obtain ⟨h3, h4⟩ := List.getElem?_eq_some_iff.mp h1
  simp at h3 h4
  subst h4
  exact ⟨h3, by rw [← h2]; simp⟩
theorem rngs_len (lo : Int) (n : Nat) : (rngs lo n).length = n := by simp [rngs]
theorem ixN_nat {n i : Nat} (h : i < n) : ixN n (i : Int) = some i := by
  unfold ixN
  rw [if_pos (by omega), if_pos (by omega)]
  simp
theorem atI_natL {α : Type} {xs : List α} {i : Nat} (h : i < xs.length) : atI xs (i : Int) = some xs[i] := by
  unfold atI
  rw [ixN_nat h]
  simp [h]
/-! ### texts as lists of numbers -/
theorem str_app (a b : Str) : (a ++ b).cps.toList = a.cps.toList ++ b.cps.toList := by
  show (a.cps ++ b.cps).toList = _
  simp
theorem str_len (a : Str) : a.length = a.cps.toList.length := by
  show a.cps.size = _
  simp
theorem ix_strL {z : Str} {i : Nat} (h : i < z.cps.toList.length) (hz : z.length ≤ sizeLine) : dIx (.str z) (.int (i : Int)) = some (.str ⟨#[z.cps.toList[i]]⟩) := by
  unfold dIx
  dsimp only
  rw [if_pos hz, atI_natL h]
  rfl
theorem one_list (c : Nat) : (⟨#[c]⟩ : Str).cps.toList = [c] := rfl
theorem cut_to (z : Str) (k : Nat) : (cutS z none (some (k : Int))).cps.toList = z.cps.toList.take k := by
  unfold cutS
  rw [HT.sIx_none, HT.sIx_nat]
  simp [str_len, List.take_eq_take_iff]
theorem cut_from (z : Str) (k : Nat) : (cutS z (some (k : Int)) none).cps.toList = z.cps.toList.drop k := by
  unfold cutS
  rw [HT.sIx_none, HT.sIx_nat, str_len]
  simp
  rw [List.take_of_length_le (by simp)]
  rcases Nat.le_total k z.cps.toList.length with h | h
  · simp at h; rw [Nat.min_eq_left h]
  · simp at h
    rw [Nat.min_eq_right h, List.drop_of_length_le (by simp), List.drop_of_length_le (by simpa using h)]
theorem cut_list {α : Type} (xs : List α) (a b : Nat) : cutD xs (some (a : Int)) (some (b : Int)) = (xs.drop a).take (b - a) := by
  unfold cutD
  rw [HT.sIx_nat, HT.sIx_nat]
  rcases Nat.le_total a xs.length with h | h
  · rw [Nat.min_eq_left h]
    rcases Nat.le_total b xs.length with h' | h'
    · rw [Nat.min_eq_left h']
    · rw [Nat.min_eq_right h', List.take_of_length_le (by simp), List.take_of_length_le (by simp; omega)]
  · rw [Nat.min_eq_right h, List.drop_of_length_le (by omega), List.drop_of_length_le h]
    simp
theorem in_strs (w : Str) (ws : List Str) : ∃ b, dIn (.str w) (.lst (ws.map .str)) = some (.bl b) := by
  unfold dIn
  have h : inSeq (.str w) (ws.map .str) = some (inF (.str w) (ws.map .str)) := by
    unfold inSeq
    rw [if_pos ⟨rfl, by simp [flatD]⟩]
  refine ⟨inF (.str w) (ws.map .str), ?_⟩
  show ((inSeq (.str w) (ws.map .str)).or _).map D.bl = _
  rw [h]
  rfl
end VM

set_option Elab.async false
set_option linter.all false
set_option autoImplicit false
set_option maxRecDepth 100000
set_option maxHeartbeats 1000000
namespace VM
open PySem PySem.Spec PyProof.Rows L2
open PySem.W (Frag nsIn findIn subIn typeIn keepIn clsIn specialIn takesIn mroIn kitOne kitAny exmOne hasDictIn)

/-! ### exceptions: the classes of the text -/
def oexB (K : Frag) (C : Addr) : Bool := (match K.lookup C with
  | some ⟨.type "type", _, .cls cd, sl⟩ => (match cd.mro, sl.toList with
    | .ref C' :: bm, [_, _, _, _, some (.builtin n), _] => C' == C && n == "ValueError.__new__" && !cd.hasDel && cd.hasDict && PySem.HandSPX.refsVE bm
    | _, _ => false)
  | _ => false) && (decide (findIn K (.ref C) "__setattr__" = some (some (.builtin "object.__setattr__"))) && (decide (subIn K (.ref C) (.type "BaseException") = some true) && (decide (typeIn K (.ref C) = some (.type "type")) && keepIn K (.ref C))))
theorem oexB_ok {K : Frag} {C : Addr} (h : oexB K C = true) : OexC K C := by
  unfold oexB at h
  simp only [Bool.and_eq_true, decide_eq_true_eq] at h
  obtain ⟨h0, h1, h2, h3, h4⟩ := h
  refine ⟨?_, h1, h2, h3, h4⟩
  split at h0
  · rename_i dd cd sl ho
    split at h0
    · rename_i C' bm k0 k1 k2 k3 n k5 hm hs
      simp only [Bool.and_eq_true, beq_iff_eq, Bool.not_eq_true'] at h0
      obtain ⟨⟨⟨⟨rfl, rfl⟩, hdel⟩, hdd⟩, hr⟩ := h0
      obtain ⟨nm, bs, mro, ns, qn, hd, sn, sub, ab, col, del⟩ := cd
      dsimp only at hm hdel hdd
      subst hm hdel hdd
      have hsl : sl = #[k0, k1, k2, k3, some (.builtin "ValueError.__new__"), k5] := by
        obtain ⟨l⟩ := sl
        simp only at hs
        rw [hs]
      subst hsl
      exact ⟨nm, qn, ns, bs, bm, sn, sub, ab, col, dd, k0, k1, k2, k3, k5, ho, hr⟩
    · cases h0
  · cases h0
/-- what isinstance asks of the class of an exception -/
structure IsxC (K : Frag) (C : Addr) : Prop where
  cl : (clsIn K C).isSome = true
  ha : findIn K (.ref C) "__class__" = some (some (.builtin "object.__class__"))
  hn : specialIn K (.builtin "object.__class__") "__get__" = some (some (.builtin "getset_descriptor.__get__"))
  ht : takesIn K (.builtin "object.__class__") = some true
  hm : mroIn K C (.type "object") = some true
def isxB (K : Frag) (C : Addr) : Bool := (clsIn K C).isSome && (decide (findIn K (.ref C) "__class__" = some (some (.builtin "object.__class__"))) && (decide (specialIn K (.builtin "object.__class__") "__get__" = some (some (.builtin "getset_descriptor.__get__"))) && (decide (takesIn K (.builtin "object.__class__") = some true) && decide (mroIn K C (.type "object") = some true))))
theorem isxB_ok {K : Frag} {C : Addr} (h : isxB K C = true) : IsxC K C := by
  unfold isxB at h
  simp only [Bool.and_eq_true, decide_eq_true_eq] at h
  obtain ⟨h0, h1, h2, h3, h4⟩ := h
  exact ⟨h0, h1, h2, h3, h4⟩
/-- all classes stand right below one of them -/
def isSub (top c d : Str) : Bool := c == d || d == top
structure ErrT (K : Frag) (mg : Str → Option Value) (top : Str) (ns fs : List Str) : Prop where
  g : ∀ c ∈ ns, mg c = some (.ref (adIn K c))
  o : ∀ c ∈ ns, OexC K (adIn K c)
  x : ∀ c ∈ ns, XfC K (adIn K c)
  i : ∀ c ∈ ns, IsxC K (adIn K c)
  nf : ∀ c ∈ ns, ∀ f ∈ fs, findIn K (.ref (adIn K c)) f = some none
  sub : ∀ c ∈ ns, ∀ d ∈ ns, kitOne K (.ref (adIn K c)) (.ref (adIn K d)) = some (isSub top c d)
  exm : ∀ c ∈ ns, ∀ d ∈ ns, exmOne K (.ref (adIn K c)) (.ref (adIn K d)) = some (isSub top c d)
  ve : ∀ c ∈ ns, kitOne K (.ref (adIn K c)) (.type "ValueError") = some true
def errB (K : Frag) (top : Str) (ns fs : List Str) : Bool := ns.all fun c =>
  decide (nsIn K mainGlobals c = some (some (.ref (adIn K c)))) && (oexB K (adIn K c) && (xfB K (adIn K c) && (isxB K (adIn K c) && ((fs.all fun f => decide (findIn K (.ref (adIn K c)) f = some none)) &&
    ((ns.all fun d => decide (kitOne K (.ref (adIn K c)) (.ref (adIn K d)) = some (isSub top c d)) && decide (exmOne K (.ref (adIn K c)) (.ref (adIn K d)) = some (isSub top c d))) && decide (kitOne K (.ref (adIn K c)) (.type "ValueError") = some true))))))
theorem errB_ok {K : Frag} {mg : Str → Option Value} {h : Heap} {top : Str} {ns fs : List Str} (X : K.In h) (G : h.Ns mainGlobals mg) (e : errB K top ns fs = true) : ErrT K mg top ns fs := by
  unfold errB at e
  have e' := fun c (hc : c ∈ ns) => List.all_eq_true.mp e c hc
  simp only [Bool.and_eq_true, decide_eq_true_eq, List.all_eq_true] at e'
  exact ⟨fun c hc => PySem.W.mg_of X G (e' c hc).1, fun c hc => oexB_ok (e' c hc).2.1, fun c hc => xfB_ok (e' c hc).2.2.1, fun c hc => isxB_ok (e' c hc).2.2.2.1, fun c hc => (e' c hc).2.2.2.2.1,
    fun c hc d hd => ((e' c hc).2.2.2.2.2.1 d hd).1, fun c hc d hd => ((e' c hc).2.2.2.2.2.1 d hd).2, fun c hc => (e' c hc).2.2.2.2.2.2⟩

/-! ### one is made -/
theorem pmk_oexN {X : Cx} {CX : CXT} {x : Str} {e : Expr} {es : List Expr} {ta : TA} {p pos : Pos} {C fI : Addr} {k : Nat} {fd : FuncData} {ps : List Str} {sp : Sp} (T : OexC X.K C) (iC : findIn X.K (.ref C) "__init__" = some (some (.ref fI))) (tI : typeIn X.K (.ref fI) = some (.type "function"))
    (Fi : FnOk X.prog X.w X.K X.mg X.base CX k fI fd ps sp) (hr : Room (k + 1) X.A) (hb : Binds X.K fd ps []) (hx : Passes CX X (fun _ _ _ => False)) (hg : Gl X x) (hm : X.mg x = some (.ref C)) (ha : PA X (e :: es) ta)
    (hdb : (x == ("__debug__" : Str)) = false := by decide) (he : starEach (e :: es) X.env = (false, eval e X.env) :: starEach es X.env := by rfl) (hpl : (backTo pos (starEach es X.env)).any (·.1) = false := by rfl) :
    L2N.PMk X (.Call (.Name x p) (e :: es) [] pos) (tMkO C sp [] ta) := by
  intro pins s σ H Q I h
  obtain ⟨c1, c2, c3, c4, c5, c6, c7, c8, c9, c10, c11, c12, c13, c14, c15, hC, hbm⟩ := T.cls
  refine wpAny_Call_Name_kw (ld_glob I hg hm ?_ hdb)
  refine PySem.W.callWith_K (h₀ := X.base) I.ok.mod.kin T.kC (thn (ha.run pos pins s σ H _ I h) fun us s1 ⟨vs, H1, I1, r1, hz, q1⟩ => ⟨I1.kIn, ?_⟩) he hpl
  show wpAny _ _ (call (.ref C) us) _ _ _
  obtain ⟨hh, gs, dr, tk, os⟩ := s1
  let n := hh.objs.size
  have up : hh.objs.size ≤ n + 1 := Nat.le_succ _
  have free1 : H1 (n + 1) = none := I1.hok.fresh up
  have qa := q1 (n + 1) free1
  rw [List.append_nil] at qa
  have keep2 : ∀ b o, hh.get? b = some o → ((hh.push (PySem.W.kdv_tup us)).push (PySem.HandSPX.excO C n)).get? b = some o := fun b o z => Heap.get?_push_of_some _ (Heap.get?_push_of_some _ z)
  have made : ((hh.push (PySem.W.kdv_tup us)).push (PySem.HandSPX.excO C hh.objs.size)).get? (hh.objs.size + 1) = some (PySem.HandSPX.excO C hh.objs.size) := by heap_get
  have I2 : Inv X pins σ (upd H1 (n + 1) (exo (n + 1) C none)) ⟨(hh.push (PySem.W.kdv_tup us)).push (PySem.HandSPX.excO C n), gs, dr, tk, os⟩ :=
    I1.laid (t' := tk) (a := n + 1) (o := exo (n + 1) C none) (h' := (hh.push (PySem.W.kdv_tup us)).push (PySem.HandSPX.excO C n)) keep2 up (exo_ok made)
  have rv2 : Vals (V.ref (n + 1) :: vs) (Value.ref (n + 1) :: us) := .cons rfl r1
  have len2 : (Value.ref (n + 1) :: us ++ []).length = ps.length := by
    have z := rv2.length
    rw [Fi.len _ _ _ _ qa] at z
    rw [List.append_nil]
    exact z.symm
  have small : us.length ≤ sizeLine := by
    rw [← Paired.length r1, sizeLine_eq]
    omega
  have bind2 := hb _ (Value.ref (n + 1) :: us) I2.kIn len2
  rw [List.append_nil] at bind2
  refine wpAny_call (PySem.HandSPX.call_own F.excBase_ValueError (fun Y => PySem.HandSPX.refsVE_contains Y c5 hbm) (I1.kIn _ _ hC) (PySem.W.looks_findIn I1.kIn iC) (fun self => PySem.W.bind_fn I1.kIn self tI) small
    (codeAny_mono (Fi.run _ X.stack _ _ ⟨Value.ref (n + 1) :: us, []⟩ (Value.ref (n + 1) :: us) _ _ (fun _ _ _ => False) (hr.make C us []) (I2.env0.make C us []) bind2 rv2 qa) fun r s' out => ?_))
  cases r with
  | error er => exact hx pins σ _ _ er s' I2 out
  | ok fl =>
    cases fl with
    | next => exact False.elim out
    | brk => exact False.elim out
    | cont => exact False.elim out
    | ret u =>
      obtain ⟨v, H2, os2, bare2, un2, hok2, rv, ev, d, fs, ea, ed, hd1, q2⟩ := out
      subst ev
      obtain ⟨h2, g2, d2, t2, os'⟩ := s'
      obtain ⟨t0, G0, J, kG, ge, hoe, na⟩ := mk_end0 (d2 := d2) (t2 := t2) I1 up keep2 un2 hok2 os2 bare2 ea ed hd1
      exact ⟨rv, n + 1, _, _, ⟨G0, g2, d2, t2, os'⟩, _, .ref C, some d, rfl, J, kG, ge, hoe, ⟨rfl, rfl, fun vs hv => by cases hv; rfl⟩, rfl, rfl, na, rfl, bare2, raises_own T.exC T.tyC, q2⟩

/-! ### __init__ with one field, with two -/
def spIni1 (C : Addr) (f : Str) : Sp := fun vs H Q _ => ∃ a y, vs = [V.ref a, y] ∧ H a = some (exo a C none) ∧ ∀ dx, H dx = none → dx ≠ a → Q .non (upd (upd H dx (exd dx [(f, y)])) a (exo a C (some dx)))
def spIni2 (C : Addr) (f f2 : Str) : Sp := fun vs H Q _ => ∃ a y z, vs = [V.ref a, y, z] ∧ H a = some (exo a C none) ∧ ∀ dx, H dx = none → dx ≠ a → Q .non (upd (upd (upd H dx (exd dx [(f, y)])) a (exo a C (some dx))) dx (exd dx [(f2, z), (f, y)]))
section
variable {P : Program} {w : World} {K : Frag} {mg : Str → Option Value} {base : Heap} {q : Str} {st : Stmt} {f C : Addr} {fd : FuncData} {fl f2 p p2 : Str}
theorem ini1_ok (F : Fun K "__init__" q st f fd) (S : FnScope ["self", p] ["self", p] (defScope st)) (T : OexC K C) (hn : findIn K (.ref C) fl = some none)
    (hb : ∀ (cdv : Value) (A : Around) (outer : List Env) (s : Shared) (H : Hp) (E : XK), PSs (cxOf CX0 P w K mg base ["self", p] q (defScope st) f cdv A outer s H E).nox (defBody st) (tOst K fl (tVar 0) (tVar 1))) :
    FnOk P w K mg base CX0 1 f fd ["self", p] (spIni1 C fl) := by
  refine F.ok S (fun vs H Q E h => ?_) fun cdv A outer s H vs Q E hr h => ⟨_, hb cdv A outer s H E, ?_⟩
  · obtain ⟨a, y, rfl, _⟩ := h
    rfl
  · obtain ⟨a, y, rfl, ha, h⟩ := h
    exact ⟨y, rfl, .ref a, rfl, a, C, rfl, T, hn, .inl ⟨ha, fun dx h1 h2 => h dx h1 h2⟩⟩
theorem ini2_ok (F : Fun K "__init__" q st f fd) (S : FnScope ["self", p, p2] ["self", p, p2] (defScope st)) (T : OexC K C) (hn : findIn K (.ref C) fl = some none) (hn2 : findIn K (.ref C) f2 = some none)
    (hb : ∀ (cdv : Value) (A : Around) (outer : List Env) (s : Shared) (H : Hp) (E : XK), PSs (cxOf CX0 P w K mg base ["self", p, p2] q (defScope st) f cdv A outer s H E).nox (defBody st) (tSeq (tOst K fl (tVar 0) (tVar 1)) (tOst K f2 (tVar 0) (tVar 2)))) :
    FnOk P w K mg base CX0 1 f fd ["self", p, p2] (spIni2 C fl f2) := by
  refine F.ok S (fun vs H Q E h => ?_) fun cdv A outer s H vs Q E hr h => ⟨_, hb cdv A outer s H E, ?_⟩
  · obtain ⟨a, y, z, rfl, _⟩ := h
    rfl
  · obtain ⟨a, y, z, rfl, ha, h⟩ := h
    refine ⟨y, rfl, .ref a, rfl, a, C, rfl, T, hn, .inl ⟨ha, fun dx h1 h2 => ?_⟩⟩
    refine ⟨z, rfl, .ref a, rfl, a, C, rfl, T, hn2, .inr ⟨dx, [(fl, y)], upd_same, ?_, by show 1 ≤ 900; decide, h dx h1 h2⟩⟩
    rw [upd_ne h2, upd_same]
end
theorem heap_end {H1 : Hp} {a C dx : Addr} {fs gs : List (Str × V)} (na : H1 a = none) (hd : dx ≠ a) : upd (del (upd (upd (upd H1 a (exo a C none)) dx (exd dx fs)) a (exo a C (some dx))) a) dx (.xd gs) = upd H1 dx (.xd gs) := by
  funext b
  by_cases h1 : b = dx
  · rw [h1, upd_same, upd_same]
  · rw [upd_ne h1, upd_ne h1]
    by_cases h2 : b = a
    · rw [h2, del_same, na]
    · rw [del_ne h2, upd_ne h2, upd_ne h1, upd_ne h2]
theorem heap_end2 {H1 : Hp} {a C dx : Addr} {fs f2 gs : List (Str × V)} (na : H1 a = none) (hd : dx ≠ a) : upd (del (upd (upd (upd (upd H1 a (exo a C none)) dx (exd dx fs)) a (exo a C (some dx))) dx (exd dx f2)) a) dx (.xd gs) = upd H1 dx (.xd gs) := by
  funext b
  by_cases h1 : b = dx
  · rw [h1, upd_same, upd_same]
  · rw [upd_ne h1, upd_ne h1]
    by_cases h2 : b = a
    · rw [h2, del_same, na]
    · rw [del_ne h2, upd_ne h1, upd_ne h2, upd_ne h1, upd_ne h2]

/-! ### raise -/
def mRaise (c : Str) (fs : List Str) (ms : M (List D)) : MS := mBind ms fun ds s => if ds.length = fs.length then .err ⟨c, (fs.zip ds).reverse⟩ s else .bad
section
variable {X : Cx} {W : WX'} {kk : Nat} {x : Str} {e : Expr} {es : List Expr} {ms : M (List D)} {p pos pos2 : Pos} {fI : Addr} {fd : FuncData} {top : Str} {ns fs : List Str} {f f2 p1 p2 : Str}
theorem ss_raise1 (c : Ctx X W kk) (h2 : 2 ≤ kk) (hc : X.calm = true) (T : ErrT X.K X.mg top ns fs) (hx : x ∈ ns) (iC : findIn X.K (.ref (adIn X.K x)) "__init__" = some (some (.ref fI))) (tI : typeIn X.K (.ref fI) = some (.type "function"))
    (Fi : FnOk X.prog X.w X.K X.mg X.base CX0 1 fI fd ["self", p1] (spIni1 (adIn X.K x) f)) (hb : Binds X.K fd ["self", p1] []) (hg : Gl X x) (ha : SA X W (e :: es) ms)
    (hdb : (x == ("__debug__" : Str)) = false := by decide) (he : starEach (e :: es) X.env = (false, eval e X.env) :: starEach es X.env := by rfl) (hpl : (backTo pos (starEach es X.env)).any (·.1) = false := by rfl) :
    SS X W (.Raise (some (.Call (.Name x p) (e :: es) [] pos)) none pos2) (mRaise x [f] ms) :=
  ps_imp (L2N.ps_raise hc c.tk (pmk_oexN (T.o x hx) iC tI Fi (c.hr.mono h2) hb pass0 hg (T.g x hx) ha hdb he hpl)) fun Dn σ H q => by
    obtain ⟨g, F, sv, hK, rl, q⟩ := q
    refine ⟨g, F, sv, hK, rl, PostS.bind (H := H) q fun ds s vs F1 H1 e1 rl1 rp1 q1 => ?_⟩
    split at q1
    · rename_i hz
      obtain ⟨d, rfl⟩ : ∃ d, ds = [d] := by
        match ds, hz with
        | [d], _ => exact ⟨d, rfl⟩
      obtain ⟨v, rfl, rv⟩ := rp1.one_inv
      refine ⟨by show 1 ≤ 1000; decide, fun a na => ⟨a, v, rfl, upd_same, fun dx h1 h2 => ?_⟩⟩
      have n1 : H1 dx = none := by rw [upd_ne h2] at h1; exact h1
      refine ⟨rfl, dx, [(f, v)], upd_same, by rw [upd_ne h2, upd_same], n1, ?_⟩
      rw [heap_end na h2]
      have sF : Same F1 (upd F1 dx (.xd [(f, v)])) := same_upd (rl1.sub.free n1)
      exact q1 _ _ _ _ _ sF (rl1.lay n1) ⟨_, T.g x hx, rfl, .inr ⟨dx, [v], rfl, upd_same, RpL.one (Rp.mono sF _ _ rv)⟩⟩
    · exact False.elim q1
theorem ss_raise2 (c : Ctx X W kk) (h2 : 2 ≤ kk) (hc : X.calm = true) (T : ErrT X.K X.mg top ns fs) (hx : x ∈ ns) (iC : findIn X.K (.ref (adIn X.K x)) "__init__" = some (some (.ref fI))) (tI : typeIn X.K (.ref fI) = some (.type "function"))
    (Fi : FnOk X.prog X.w X.K X.mg X.base CX0 1 fI fd ["self", p1, p2] (spIni2 (adIn X.K x) f f2)) (hb : Binds X.K fd ["self", p1, p2] []) (hg : Gl X x) (ha : SA X W (e :: es) ms)
    (hdb : (x == ("__debug__" : Str)) = false := by decide) (he : starEach (e :: es) X.env = (false, eval e X.env) :: starEach es X.env := by rfl) (hpl : (backTo pos (starEach es X.env)).any (·.1) = false := by rfl) :
    SS X W (.Raise (some (.Call (.Name x p) (e :: es) [] pos)) none pos2) (mRaise x [f, f2] ms) :=
  ps_imp (L2N.ps_raise hc c.tk (pmk_oexN (T.o x hx) iC tI Fi (c.hr.mono h2) hb pass0 hg (T.g x hx) ha hdb he hpl)) fun Dn σ H q => by
    obtain ⟨g, F, sv, hK, rl, q⟩ := q
    refine ⟨g, F, sv, hK, rl, PostS.bind (H := H) q fun ds s vs F1 H1 e1 rl1 rp1 q1 => ?_⟩
    split at q1
    · rename_i hz
      obtain ⟨d, d2, rfl⟩ : ∃ d d2, ds = [d, d2] := by
        match ds, hz with
        | [d, d2], _ => exact ⟨d, d2, rfl⟩
      obtain ⟨v, v2, rfl, rv, rv2⟩ := rp1.two_inv
      refine ⟨by show 2 ≤ 1000; decide, fun a na => ⟨a, v, v2, rfl, upd_same, fun dx h1 h2 => ?_⟩⟩
      have n1 : H1 dx = none := by rw [upd_ne h2] at h1; exact h1
      refine ⟨rfl, dx, [(f2, v2), (f, v)], by rw [upd_ne (Ne.symm h2), upd_same], upd_same, n1, ?_⟩
      rw [heap_end2 na h2]
      have sF : Same F1 (upd F1 dx (.xd [(f2, v2), (f, v)])) := same_upd (rl1.sub.free n1)
      exact q1 _ _ _ _ _ sF (rl1.lay n1) ⟨_, T.g x hx, rfl, .inr ⟨dx, [v2, v], rfl, upd_same, ⟨v2, [v], rfl, Rp.mono sF _ _ rv2, RpL.one (Rp.mono sF _ _ rv)⟩⟩⟩
    · exact False.elim q1
end
end VM
namespace VM
open PySem PySem.Spec PyProof.Rows L2
theorem adIn_of {K : PySem.W.Frag} {c : Str} {C : Addr} (h : PySem.W.nsIn K mainGlobals c = some (some (.ref C))) : adIn K c = C := by
  unfold adIn
  rw [h]
end VM

set_option Elab.async false
set_option linter.all false
set_option autoImplicit false
set_option maxRecDepth 100000
set_option maxHeartbeats 1000000
namespace VM
open PySem PySem.Spec PyProof.Rows L2
open PySem.W (Frag nsIn findIn subIn typeIn keepIn clsIn specialIn takesIn mroIn kitOne kitAny exmOne hasDictIn)

/-! ### a frame with the exception in hand -/
def noExS : Sl → Bool
  | .ex _ => false
  | _ => true
def noEx (sv : SV) : Bool := sv.all noExS
section
variable {g : G} {F H : Hp} {σ : L2.St} {sv : SV}
theorem Rl.mxTo (r : Rl g F H σ sv) (h : noEx sv = true) (m : MX) : Rl { g with mx := m } F H σ sv := by
  refine ⟨r.sub, r.kH, r.kF, r.fxH, r.pf, r.ion, r.len, fun i s e => ?_, r.dj⟩
  have q := r.sl i s e
  cases s with
  | ex x =>
    have z := List.all_eq_true.mp h _ (List.mem_of_getElem? e)
    cases z
  | un => exact q
  | pl d => exact q
  | ow d => exact q
  | io k d => exact q
theorem Rl.noEx_of (r : Rl g F H σ sv) (h : g.mx.hx = none) : noEx sv = true := List.all_eq_true.mpr fun s hs => by
  obtain ⟨i, hi, e⟩ := List.getElem_of_mem hs
  have q := r.sl i s (by rw [List.getElem?_eq_getElem hi, e])
  cases s with
  | ex x =>
    obtain ⟨a, oe, d, cls, _, z, _⟩ := q
    rw [h] at z
    cases z
  | un => rfl
  | pl d => rfl
  | ow d => rfl
  | io k d => rfl
theorem Rl.setGen (r : Rl g F H σ sv) (i : Nat) {ov : Option V} {s' : Sl} (no : (∀ d, s' ≠ .ow d) ∧ ∀ k d, s' ≠ .io k d) (h : SlOk g F H (some ov) s') : Rl g F H (σ.set i ov) (sv.set i s') := by
  exact r.setSl i h fun d p e => by
    cases s' with
    | ow d => exact absurd rfl (no.1 d)
    | io k d => exact absurd rfl (no.2 k d)
    | _ => cases e
end

/-! ### where an exception is handled -/
structure CtxH (X : Cx) (W : WX') (k : Nat) : Prop where
  tk : L2N.Takes X W
  hr : L2H.RoomH k X.A
  hg : X.A.guards = some []
  po : PassesOwn (model X.prog X.w) X.A X.env X.xe
  hot : L2H.HotC X
theorem CtxH.u {X : Cx} {W : WX'} {k : Nat} (c : CtxH X W k) : X.A.units + 64 < cLine := by have := c.hr.un; omega
theorem CtxH.u5 {X : Cx} {W : WX'} {k : Nat} (c : CtxH X W k) : X.A.units + 65 < cLine := by have := c.hr.un; omega
theorem ctx_suite {X : Cx} {W : WX'} {k : Nat} (c : Ctx X W k) {a : Addr} {oe : Obj} {cls : Value} {d : Option Addr} {pn : List (Addr × Obj)} (hz : L2N.Zn cls d oe) (hf : ∃ vs, oe.data = .fields vs) : CtxH (X.suite a ((a, oe) :: pn)) WF k :=
  ⟨takesN0, L2H.roomH_mark c.hr _, c.hg, PassesOwn.never, ⟨(a, oe), ⟨rfl, let ⟨vs, h⟩ := hf; ⟨vs, h, hz.2.2 vs h⟩⟩, List.mem_cons_self⟩⟩
theorem ctx_tr {X : Cx} {W W' : WX'} {k : Nat} (c : Ctx X W k) {pn : List (Addr × Obj)} {xe : Value → Shared → Prop} (t : L2N.Takes (X.tr pn xe) W') (p : PassesOwn (model X.prog X.w) X.A X.env xe) : Ctx (X.tr pn xe) W' k := ⟨t, c.hr, c.hg, p⟩
theorem tr_mx {X : Cx} (hc : X.calm = true) (pn : List (Addr × Obj)) (xe : Value → Shared → Prop) : (X.tr pn xe).mx = X.mx := by
  unfold L2.Cx.mx
  show MX.mk X.mg (if X.calm = true then none else _) = _
  rw [if_pos hc, if_pos hc]
theorem mx_calm {X : Cx} (hc : X.calm = true) : X.mx.hx = none := by
  unfold L2.Cx.mx
  exact if_pos hc
theorem suite_mx {X : Cx} (a : Addr) (oe : Obj) (pn : List (Addr × Obj)) : (X.suite a ((a, oe) :: pn)).mx = ⟨X.mg, some (a, oe)⟩ := rfl

/-! ### try .. except x as n -/
def endEx (i : Nat) : O → O
  | .nx s => if noEx (s.set i .un) = true then .nx (s.set i .un) else .bad
  | .rt d s => if noEx (s.set i .un) = true then .rt d (s.set i .un) else .bad
  | .ro d s => if noEx (s.set i .un) = true then .ro d (s.set i .un) else .bad
  | .bk s => if noEx (s.set i .un) = true then .bk (s.set i .un) else .bad
  | .ct s => if noEx (s.set i .un) = true then .ct (s.set i .un) else .bad
  | .err _ _ => .bad
  | .bad => .bad
def mTry (top : Str) (ns : List Str) (x : Str) (i : Nat) (mb ms : MS) : MS := fun sv => match mb sv with
  | .err e s => if e.c ∈ ns then (if isSub top e.c x = true then endEx i (ms (s.set i (.ex e))) else .err e s) else .bad
  | o => o
/-- .. without a name -/
def endO : O → O
  | .nx s => if noEx s = true then .nx s else .bad
  | .rt d s => if noEx s = true then .rt d s else .bad
  | .ro d s => if noEx s = true then .ro d s else .bad
  | .bk s => if noEx s = true then .bk s else .bad
  | .ct s => if noEx s = true then .ct s else .bad
  | .err _ _ => .bad
  | .bad => .bad
def mTryO (top : Str) (ns : List Str) (x : Str) (mb ms : MS) : MS := fun sv => match mb sv with
  | .err e s => if e.c ∈ ns then (if isSub top e.c x = true then endO (ms s) else .err e s) else .bad
  | o => o
section
variable {X : Cx} {W : WX'} {kk i : Nat} {x n : Str} {body suite : List Stmt} {b₀ : Stmt} {np pos pos' : Pos} {top : Str} {ns fs : List Str} {mb ms : MS}
theorem ErrT.cls {K K' : Frag} {mg : Str → Option Value} (T : ErrT K mg top ns fs) {F : Hp} {e : Exn} {cls : Value} {d : Option Addr} (h : ErrOk K' mg F e cls d) (he : e.c ∈ ns) : cls = .ref (adIn K e.c) := by
  obtain ⟨C, h1, h2, _⟩ := h
  rw [T.g e.c he] at h1
  cases h1
  exact h2
theorem ss_try_as (c : Ctx X W kk) (hst : X.stack = X.env :: X.outer) (hfr : X.env.frame = some X.env.locals) (hc : X.calm = true) (hN : X.N.Nodup) (hi : X.N[i]? = some n) (hln : X.env.kindOf n = some .local) (T : ErrT X.K X.mg top ns fs) (hx : x ∈ ns) (hg : Gl X x) (hdb : (x == ("__debug__" : Str)) = false)
    (hb : ∀ (W' : WX') (pn : List (Addr × Obj)) (xe : Value → Shared → Prop), Ctx (X.tr pn xe) W' kk → SSs (X.tr pn xe) W' body mb)
    (hs : ∀ (a : Addr) (oe : Obj) (pn : List (Addr × Obj)), CtxH (X.suite a ((a, oe) :: pn)) WF kk → SSs (X.suite a ((a, oe) :: pn)) WF (b₀ :: suite) ms) :
    SS X W (.Try body [.ExceptHandler (some (.Name x np)) (some n) (b₀ :: suite) pos'] [] [] pos) (mTry top ns x i mb ms) := by
  have h := L2N.ps_try_as (pos := pos) (pos' := pos') (np := np) (tb := fun W' => tS X.K X.mx W' mb) (ts := fun a cls d => fun D σ H => ∀ oe, Zc cls d oe → (∃ vs, oe.data = .fields vs) → tS X.K ⟨X.mg, some (a, oe)⟩ WF ms D σ H)
    hst hfr hN hi hln (c := .ref (adIn X.K x)) ⟨hg, hdb, .inl (T.g x hx)⟩ c.tk
    (fun W' pn xe t p => by
      have z := hb W' pn xe (ctx_tr c t p)
      unfold SSs at z
      rw [tr_mx hc] at z
      exact z)
    (fun a oe cls d pn hz hf => pss_imp (hs a oe pn (ctx_suite c hz hf)) fun D σ H q => q oe hz.zc hf)
  refine ps_imp h fun Dn σ H q => ?_
  obtain ⟨g, F, sv, hK, rl, q⟩ := q
  refine ⟨g, F, sv, hK, rl, ?_⟩
  unfold mTry at q
  cases hm : mb sv with
  | nx s => rw [hm] at q; exact q
  | rt d s => rw [hm] at q; exact q
  | ro d s => rw [hm] at q; exact q
  | bk s => rw [hm] at q; exact q
  | ct s => rw [hm] at q; exact q
  | bad => rw [hm] at q; exact q
  | err e s =>
    rw [hm] at q
    dsimp only at q
    intro cls dd σ1 F1 H1 e1 rl1 er
    split at q
    · rename_i he
      have ec := T.cls er he
      subst ec
      refine ⟨isSub top e.c x, T.exm e.c he x hx, fun hb a na oe hz hf => ?_, fun hb => ?_⟩
      · rw [if_pos hb] at q
        have hn : noEx s = true := rl1.noEx_of (by rw [hK.2]; exact mx_calm hc)
        have rl2 : Rl { g with mx := ⟨X.mg, some (a, oe)⟩ } F1 H1 (σ1.set i (some (.ref a))) (s.set i (.ex e)) := (rl1.mxTo hn ⟨X.mg, some (a, oe)⟩).setGen i ⟨(fun _ z => nomatch z), (fun _ _ z => nomatch z)⟩
          ⟨a, oe, dd, _, rfl, rfl, hz, hf, by show ErrOk g.K X.mg F1 e _ dd; exact er⟩
        refine ⟨{ g with mx := ⟨X.mg, some (a, oe)⟩ }, F1, _, ⟨hK.1, rfl⟩, rl2, ?_⟩
        have back : ∀ {σ2 : L2.St} {F2 H2 : Hp} {s2 : SV}, noEx (s2.set i .un) = true → Rl { g with mx := ⟨X.mg, some (a, oe)⟩ } F2 H2 σ2 s2 → Rl g F2 H2 (σ2.set i none) (s2.set i .un) ∧ Rl g F2 H2 σ2 (s2.set i .un) := fun {σ2 F2 H2 s2} hne r => by
          refine ⟨?_, ?_⟩
          · exact (r.setGen i (s' := .un) ⟨(fun _ z => nomatch z), (fun _ _ z => nomatch z)⟩ trivial).mxTo hne g.mx
          · exact (r.forget i).mxTo hne g.mx
        cases ho : ms (s.set i (.ex e)) with
        | nx s2 =>
          rw [ho] at q
          simp only [endEx] at q
          split at q
          · rename_i hne
            exact fun σ2 F2 H2 e2 r2 => q _ F2 H2 (e1.trans e2) (back hne r2).1
          · exact False.elim q
        | bk s2 =>
          rw [ho] at q
          simp only [endEx] at q
          split at q
          · rename_i hne
            exact fun σ2 F2 H2 e2 r2 => q _ F2 H2 (e1.trans e2) (back hne r2).1
          · exact False.elim q
        | ct s2 =>
          rw [ho] at q
          simp only [endEx] at q
          split at q
          · rename_i hne
            exact fun σ2 F2 H2 e2 r2 => q _ F2 H2 (e1.trans e2) (back hne r2).1
          · exact False.elim q
        | rt d s2 =>
          rw [ho] at q
          simp only [endEx] at q
          split at q
          · rename_i hne
            exact fun v σ2 F2 H2 e2 r2 rp => q v _ F2 H2 (e1.trans e2) (back hne r2).2 rp
          · exact False.elim q
        | ro d s2 =>
          rw [ho] at q
          simp only [endEx] at q
          split at q
          · rename_i hne
            refine fun v σ2 F2 H2 e2 r2 rp => q v σ2 F2 H2 (e1.trans e2) (back hne r2).2 ?_
            obtain ⟨p, h1, h2, h3, h4⟩ := rp
            refine ⟨p, h1, h2, h3, fun a' ha' j hj => h4 a' ha' j ?_⟩
            obtain ⟨t, d0, q0, u1, u2, u3, u4⟩ := hj
            by_cases hij : i = j
            · subst hij
              obtain ⟨hl, _⟩ := List.getElem?_eq_some_iff.mp u1
              rw [List.getElem?_set_self (by simpa using hl)] at u1
              cases u1
              cases u2
            · rw [List.getElem?_set_ne hij] at u1
              exact ⟨t, d0, q0, u1, u2, u3, u4⟩
          · exact False.elim q
        | err e2 s2 => rw [ho] at q; exact False.elim q
        | bad => rw [ho] at q; exact False.elim q
      · rw [if_neg (by rw [hb]; exact Bool.false_ne_true)] at q
        exact q _ _ _ _ _ e1 rl1 er
    · exact False.elim q
theorem ss_try_o (c : Ctx X W kk) (hst : X.stack = X.env :: X.outer) (hfr : X.env.frame = some X.env.locals) (hc : X.calm = true) (T : ErrT X.K X.mg top ns fs) (hx : x ∈ ns) (hg : Gl X x) (hdb : (x == ("__debug__" : Str)) = false)
    (hb : ∀ (W' : WX') (pn : List (Addr × Obj)) (xe : Value → Shared → Prop), Ctx (X.tr pn xe) W' kk → SSs (X.tr pn xe) W' body mb)
    (hs : ∀ (a : Addr) (oe : Obj) (pn : List (Addr × Obj)), CtxH (X.suite a ((a, oe) :: pn)) WF kk → SSs (X.suite a ((a, oe) :: pn)) WF (b₀ :: suite) ms) :
    SS X W (.Try body [.ExceptHandler (some (.Name x np)) none (b₀ :: suite) pos'] [] [] pos) (mTryO top ns x mb ms) := by
  have h := L2N.ps_try_many (pos := pos) (tb := fun W' => tS X.K X.mx W' mb) (l := [((.ref (adIn X.K x) : Value), fun a cls d => fun D σ H => ∀ oe, Zc cls d oe → (∃ vs, oe.data = .fields vs) → tS X.K ⟨X.mg, some (a, oe)⟩ WF ms D σ H)])
    hst hfr c.tk
    (fun W' pn xe t p => by
      have z := hb W' pn xe (ctx_tr c t p)
      unfold SSs at z
      rw [tr_mx hc] at z
      exact z)
    (.cons (pos' := pos') (np := np) (b₀ := b₀) (suite := suite) ⟨hg, hdb, .inl (T.g x hx)⟩ (fun a oe cls d pn hz hf => pss_imp (hs a oe pn (ctx_suite c hz hf)) fun D σ H q => q oe hz.zc hf) .nil)
  refine ps_imp h fun Dn σ H q => ?_
  obtain ⟨g, F, sv, hK, rl, q⟩ := q
  refine ⟨g, F, sv, hK, rl, ?_⟩
  unfold mTryO at q
  cases hm : mb sv with
  | nx s => rw [hm] at q; exact q
  | rt d s => rw [hm] at q; exact q
  | ro d s => rw [hm] at q; exact q
  | bk s => rw [hm] at q; exact q
  | ct s => rw [hm] at q; exact q
  | bad => rw [hm] at q; exact q
  | err e s =>
    rw [hm] at q
    dsimp only at q
    intro cls dd σ1 F1 H1 e1 rl1 er
    split at q
    · rename_i he
      have ec := T.cls er he
      subst ec
      refine ⟨isSub top e.c x, T.exm e.c he x hx, fun hb a na oe hz hf => ?_, fun hb => ?_⟩
      · rw [if_pos hb] at q
        have hn : noEx s = true := rl1.noEx_of (by rw [hK.2]; exact mx_calm hc)
        refine ⟨{ g with mx := ⟨X.mg, some (a, oe)⟩ }, F1, _, ⟨hK.1, rfl⟩, rl1.mxTo hn ⟨X.mg, some (a, oe)⟩, ?_⟩
        have back : ∀ {σ2 : L2.St} {F2 H2 : Hp} {s2 : SV}, noEx s2 = true → Rl { g with mx := ⟨X.mg, some (a, oe)⟩ } F2 H2 σ2 s2 → Rl g F2 H2 σ2 s2 := fun {σ2 F2 H2 s2} hne r => r.mxTo hne g.mx
        cases ho : ms s with
        | nx s2 =>
          rw [ho] at q
          simp only [endO] at q
          split at q
          · rename_i hne
            exact fun σ2 F2 H2 e2 r2 => q _ F2 H2 (e1.trans e2) (back hne r2)
          · exact False.elim q
        | bk s2 =>
          rw [ho] at q
          simp only [endO] at q
          split at q
          · rename_i hne
            exact fun σ2 F2 H2 e2 r2 => q _ F2 H2 (e1.trans e2) (back hne r2)
          · exact False.elim q
        | ct s2 =>
          rw [ho] at q
          simp only [endO] at q
          split at q
          · rename_i hne
            exact fun σ2 F2 H2 e2 r2 => q _ F2 H2 (e1.trans e2) (back hne r2)
          · exact False.elim q
        | rt d s2 =>
          rw [ho] at q
          simp only [endO] at q
          split at q
          · rename_i hne
            exact fun v σ2 F2 H2 e2 r2 rp => q v _ F2 H2 (e1.trans e2) (back hne r2) rp
          · exact False.elim q
        | ro d s2 =>
          rw [ho] at q
          simp only [endO] at q
          split at q
          · rename_i hne
            exact fun v σ2 F2 H2 e2 r2 rp => q v _ F2 H2 (e1.trans e2) (back hne r2) rp
          · exact False.elim q
        | err e2 s2 => rw [ho] at q; exact False.elim q
        | bad => rw [ho] at q; exact False.elim q
      · rw [if_neg (by rw [hb]; exact Bool.false_ne_true)] at q
        exact q _ _ _ _ _ e1 rl1 er
    · exact False.elim q
end
end VM

set_option Elab.async false
set_option linter.all false
set_option autoImplicit false
set_option maxRecDepth 100000
set_option maxHeartbeats 1000000
namespace VM
open PySem PySem.Spec PyProof.Rows L2
open PySem.W (Frag nsIn findIn subIn typeIn keepIn clsIn specialIn takesIn mroIn kitOne kitAny exmOne hasDictIn)

/-! ### the exception's fields, its class -/
def mExF (ns : List Str) (i : Nat) (f : Str) : M D := fun sv => match sv[i]? with
  | some (.ex x) => if x.c ∈ ns then (match x.fs.lookup f with
    | some d => .ok d sv
    | none => .bad) else .bad
  | _ => .bad
def mExIs (ns : List Str) (i : Nat) (t : Str → Bool) : M D := fun sv => match sv[i]? with
  | some (.ex x) => if x.c ∈ ns then .ok (.bl (t x.c)) sv else .bad
  | _ => .bad
theorem zip_lookup {K : Frag} {F : Hp} {f : Str} : ∀ {fs : List (Str × D)} {vs : List V} {d : D}, RpL K F (fs.map (·.2)) vs → fs.lookup f = some d → ∃ v, ((fs.map (·.1)).zip vs).lookup f = some v ∧ Rp K F d v
  | [], _, _, _, e => by cases e
  | (g, e0) :: fs, vs, d, h, e => by
    obtain ⟨v, r, rfl, h1, h2⟩ := h
    simp only [List.map_cons, List.zip_cons_cons, List.lookup_cons] at e ⊢
    cases hg : f == g with
    | true =>
      rw [hg] at e
      cases e
      exact ⟨v, rfl, h1⟩
    | false =>
      rw [hg] at e
      exact zip_lookup h2 e
def tNm (K : Frag) (cs : List Str) : TA := fun σ H Q => Q (cs.map fun c => V.ref (adIn K c)) H
/-- the exception's own class and its dict -/
structure HasD (K : Frag) (H : Hp) (oe : Obj) (D : Addr) : Prop where
  cls : oe.cls = .ref D
  fl : ∃ vs, oe.data = .fields vs
  xf : XfC K D
  ix : IsxC K D
  dd : oe.dict = none ∨ ∃ dd fs, oe.dict = some dd ∧ H dd = some (.xd fs)
def rIsX (K : Frag) (a : Addr) (oe : Obj) : List V → Hp → VK → Prop := fun xs H Q => ∃ (c : V) (cv : Value) (b : Bool) (D : Addr), xs = [.ref a, c] ∧ (∀ u, RelV c u → u = cv) ∧ HasD K H oe D ∧ kitOne K (.ref D) cv = some b ∧ Q (.bl b) H
def rIsXT (K : Frag) (a : Addr) (oe : Obj) : List V → Hp → VK → Prop := fun xs H Q => ∃ (tp : Addr) (cs : List V) (us : List Value) (b : Bool) (D : Addr), xs = [.ref a, .ref tp] ∧ H tp = some (.tup cs) ∧ Paired ClsV cs us ∧ HasD K H oe D ∧ kitAny K (.ref D) us = some b ∧ Q (.bl b) H
section
variable {X : Cx} {a : Addr} {oe : Obj} {pn : List (Addr × Obj)}
theorem inst_of {pins : List (Addr × Obj)} {σ : L2.St} {H : Hp} {s : Shared} {D : Addr} (I : Inv (X.suite a ((a, oe) :: pn)) pins σ H s) (h : HasD X.K H oe D) : ∃ od, PySem.W.InstAt s.heap a oe D od := by
  obtain ⟨hget, _⟩ := I.pin (a, oe) (List.mem_append_left _ List.mem_cons_self)
  obtain ⟨oc, od, oda, osl⟩ := oe
  obtain ⟨h1, ⟨vs, h2⟩, _, _, h5⟩ := h
  dsimp only at h1 h2 h5
  subst h1 h2
  rcases h5 with rfl | ⟨dd, fs, rfl, h6⟩
  · exact ⟨none, hget, rfl, rfl, trivial⟩
  · obtain ⟨mA, hns, hr⟩ := (show ObjOk X.prog X.w H s.heap dd (.xd fs) from I.hok dd _ h6)
    obtain ⟨od, ho, hl⟩ := lookIn_ns hns
    exact ⟨some od, hget, rfl, rfl, ho⟩
theorem call_isX : CallR (X.suite a ((a, oe) :: pn)) (.builtin "isinstance") (rIsX X.K a oe) := by
  intro pins s σ H xs us Q I r h
  obtain ⟨c, cv, b, D, rfl, hcv, hd, e, q⟩ := h
  obtain ⟨u1, u2, rfl, r1, r2⟩ := vals2 r
  have e2 := hcv _ r2
  subst e2
  cases (show u1 = Value.ref a from r1)
  obtain ⟨od, J⟩ := inst_of I hd
  exact PySem.W.kia_one (PySem.W.kitx_exc hd.ix.cl hd.xf.ga hd.xf.gg hd.xf.exC hd.ix.ha hd.ix.hn hd.ix.ht hd.ix.hm) I.kIn J e (fun z => nomatch z) fun tk => ⟨.bl b, H, I.tok tk, rfl, q⟩
theorem call_isXT : CallR (X.suite a ((a, oe) :: pn)) (.builtin "isinstance") (rIsXT X.K a oe) := by
  intro pins s σ H xs us Q I r h
  obtain ⟨tp, cs, ws, b, D, rfl, hT, k, hd, e, q⟩ := h
  obtain ⟨u1, u2, rfl, r1, r2⟩ := vals2 r
  cases (show u2 = Value.ref tp from r2)
  cases (show u1 = Value.ref a from r1)
  obtain ⟨od, J⟩ := inst_of I hd
  obtain ⟨_, its, rv, o, h1, h2, n, h3⟩ := (show ObjOk X.prog X.w H s.heap tp (.tup cs) from I.hok tp _ hT)
  have e3 := ClsV.all k rv
  subst e3
  obtain ⟨c0, c1, c2, c3⟩ := o
  simp only at h2 h3
  subst h2 h3
  exact PySem.W.kia_tup (PySem.W.kitx_exc hd.ix.cl hd.xf.ga hd.xf.gg hd.xf.exC hd.ix.ha hd.ix.hn hd.ix.ht hd.ix.hm) I.kIn J h1 e (fun z => nomatch z) fun tk => ⟨.bl b, H, I.tok tk, rfl, q⟩
end
section
variable {X : Cx} {W : WX'} {a : Addr} {oe : Obj} {pn : List (Addr × Obj)} {top : Str} {ns fs : List Str} {i : Nat} {n f y : Str} {p p2 p3 pos : Pos} {es : List Expr} {cs : List Str}
/-- what slot i tells -/
theorem ex_at (T : ErrT X.K X.mg top ns fs) {g : G} {F H : Hp} {σ : L2.St} {sv : SV} (hK : g.K = X.K ∧ g.mx = (X.suite a ((a, oe) :: pn)).mx) (rl : Rl g F H σ sv) {x : Exn} (h : sv[i]? = some (.ex x)) (hx : x.c ∈ ns) :
    σ[i]? = some (some (.ref a)) ∧ HasD X.K H oe (adIn X.K x.c) ∧ ∃ cls d, Zc cls d oe ∧ (∃ vs, oe.data = .fields vs) ∧ ErrOk X.K X.mg F x cls d := by
  obtain ⟨a', oe', d, cls, e1, e2, e3, e4, e5⟩ := rl.sl i _ h
  rw [hK.2] at e2 e5
  rw [hK.1] at e5
  have e2' : some (a, oe) = some (a', oe') := e2
  cases e2'
  have ec := T.cls e5 hx
  subst ec
  refine ⟨e1, ⟨e3.1, e4, T.x _ hx, T.i _ hx, ?_⟩, _, d, e3, e4, e5⟩
  obtain ⟨C, _, _, h3⟩ := e5
  rcases h3 with ⟨_, h3⟩ | ⟨dd, vs, h4, h5, _⟩
  · exact .inl (e3.2.trans h3)
  · exact .inr ⟨dd, _, e3.2.trans h4, rl.sub _ _ h5⟩
theorem se_exF (T : ErrT X.K X.mg top ns fs) (hf : f ∈ fs) (hv : PE (X.suite a ((a, oe) :: pn)) (.Name n p) (tVar i)) (hb : attributeBase (.Name n p) f X.env (eval (.Name n p) X.env) = eval (.Name n p) X.env := by rfl) :
    SE (X.suite a ((a, oe) :: pn)) W (.Attribute (.Name n p) f pos) (mExF ns i f) := by
  refine ⟨fun pins s σ H Q I q => ?_⟩
  obtain ⟨g, F, sv, hK, rl, q⟩ := q
  unfold mExF at q
  split at q
  · rename_i x hx
    split at q
    · rename_i hc
      split at q
      · rename_i d hd
        obtain ⟨e1, hD, cls, dd, hz, hfl, er⟩ := ex_at T hK rl hx hc
        have ec := T.cls er hc
        subst ec
        refine (pe_xf (T.x _ hc) (T.nf _ hc f hf) hz hfl hv hb).run pins s σ H Q I ?_
        obtain ⟨C, _, _, h3⟩ := er
        rcases h3 with ⟨h3, _⟩ | ⟨da, vs, h4, h5, h6⟩
        · rw [h3] at hd
          cases hd
        · obtain ⟨v, l, rv⟩ := zip_lookup h6 hd
          refine ⟨.ref a, e1, rfl, rfl, da, _, v, h4, rl.sub _ _ h5, l, q v F H (Same.refl F) rl ?_⟩
          show Rp g.K F d v
          rw [hK.1]
          exact rv
      · exact False.elim q
    · exact False.elim q
  · exact False.elim q
theorem kitAny_sub {K : Frag} {mg : Str → Option Value} (T : ErrT K mg top ns fs) {c : Str} (hc : c ∈ ns) : ∀ {cs : List Str}, (∀ d ∈ cs, d ∈ ns) → kitAny K (.ref (adIn K c)) (cs.map fun d => .ref (adIn K d)) = some (cs.any (isSub top c))
  | [], _ => rfl
  | d :: cs, h => by
    have h1 := T.sub c hc d (h d List.mem_cons_self)
    have h2 := kitAny_sub T hc (cs := cs) fun x hx => h x (List.mem_cons_of_mem _ hx)
    simp only [List.map_cons, List.any_cons]
    unfold PySem.W.kitAny
    rw [h1]
    cases isSub top c d with
    | true => rfl
    | false => exact h2
theorem nl_nil : PA X [] (tNm X.K []) := ⟨fun p pins s σ H Q I q => pa_nil.run p pins s σ H Q I q⟩
theorem nl_cons (T : ErrT X.K X.mg top ns fs) (hc : y ∈ ns) (hg : Gl X y) (hd : (y == ("__debug__" : Str)) = false) (hr : PA X es (tNm X.K cs)) (hs : starEach (.Name y p :: es) X.env = (false, eval (.Name y p) X.env) :: starEach es X.env := by rfl) : PA X (.Name y p :: es) (tNm X.K (y :: cs)) :=
  ⟨fun pp pins s σ H Q I q => (pa_cons (pe_glob (v := .ref (adIn X.K y)) hg (T.g y hc) rfl hd) hr hs).run pp pins s σ H Q I q⟩
theorem se_isX (T : ErrT X.K X.mg top ns fs) (hy : y ∈ ns) (hg : Gl X "isinstance") (hm : X.mg "isinstance" = none) (hgy : Gl X y) (hdy : (y == ("__debug__" : Str)) = false) (hv : PE (X.suite a ((a, oe) :: pn)) (.Name n p2) (tVar i))
    (h1 : starEach [.Name n p2, .Name y p3] X.env = (false, eval (.Name n p2) X.env) :: starEach [.Name y p3] X.env := by rfl) (h2 : (backTo pos (starEach [.Name y p3] X.env)).any (·.1) = false := by rfl) :
    SE (X.suite a ((a, oe) :: pn)) W (.Call (.Name "isinstance" p) [.Name n p2, .Name y p3] [] pos) (mExIs ns i fun c => isSub top c y) :=
  pe_imp (pe_callB call_isX hg hm boot_isinstance' (pa_cons hv (pa_cons (pe_glob (v := .ref (adIn X.K y)) hgy (T.g y hy) rfl hdy) pa_nil) h1) (by decide) (by decide) h1 h2) fun σ H Q q => by
    obtain ⟨g, F, sv, hK, rl, q⟩ := q
    unfold mExIs at q
    split at q
    · rename_i x hx
      split at q
      · rename_i hc
        obtain ⟨e1, hD, _⟩ := ex_at T hK rl hx hc
        exact ⟨.ref a, e1, _, .ref (adIn X.K y), isSub top x.c y, _, rfl, fun u r => r, hD, T.sub _ hc y hy, q _ F H (Same.refl F) rl rfl⟩
      · exact False.elim q
    · exact False.elim q
theorem se_isXV (T : ErrT X.K X.mg top ns fs) (hg : Gl X "isinstance") (hm : X.mg "isinstance" = none) (hgy : Gl X "ValueError") (hmy : X.mg "ValueError" = none) (hv : PE (X.suite a ((a, oe) :: pn)) (.Name n p2) (tVar i))
    (h1 : starEach [.Name n p2, .Name "ValueError" p3] X.env = (false, eval (.Name n p2) X.env) :: starEach [.Name "ValueError" p3] X.env := by rfl) (h2 : (backTo pos (starEach [.Name "ValueError" p3] X.env)).any (·.1) = false := by rfl) :
    SE (X.suite a ((a, oe) :: pn)) W (.Call (.Name "isinstance" p) [.Name n p2, .Name "ValueError" p3] [] pos) (mExIs ns i fun _ => true) :=
  pe_imp (pe_callB call_isX hg hm boot_isinstance' (pa_cons hv (pa_cons (pe_bltn (v := .ty "ValueError") hgy hmy PyProof.Rows.Boot.«ValueError» rfl (by decide) (by decide)) pa_nil) h1) (by decide) (by decide) h1 h2) fun σ H Q q => by
    obtain ⟨g, F, sv, hK, rl, q⟩ := q
    unfold mExIs at q
    split at q
    · rename_i x hx
      split at q
      · rename_i hc
        obtain ⟨e1, hD, _⟩ := ex_at T hK rl hx hc
        exact ⟨.ref a, e1, _, .type "ValueError", true, _, rfl, fun u r => r, hD, T.ve _ hc, q _ F H (Same.refl F) rl rfl⟩
      · exact False.elim q
    · exact False.elim q
theorem paired_names {K : Frag} : ∀ cs : List Str, Paired ClsV (cs.map fun c => V.ref (adIn K c)) (cs.map fun c => Value.ref (adIn K c))
  | [] => .nil
  | c :: cs => .cons (.own _) (paired_names cs)
theorem se_isXT {x1} (T : ErrT X.K X.mg top ns fs) (hcs : ∀ d ∈ cs, d ∈ ns) (hl : cs.length ≤ sizeLine) (hg : Gl X "isinstance") (hm : X.mg "isinstance" = none) (hn : PA (X.suite a ((a, oe) :: pn)) es (tNm X.K cs)) (hv : PE (X.suite a ((a, oe) :: pn)) (.Name n p2) (tVar i))
    (h1 : starEach [.Name n p2, .Tuple es x1 p3] X.env = (false, eval (.Name n p2) X.env) :: starEach [.Tuple es x1 p3] X.env := by rfl) (h2 : (backTo pos (starEach [.Tuple es x1 p3] X.env)).any (·.1) = false := by rfl) :
    SE (X.suite a ((a, oe) :: pn)) W (.Call (.Name "isinstance" p) [.Name n p2, .Tuple es x1 p3] [] pos) (mExIs ns i fun c => cs.any (isSub top c)) :=
  pe_imp (pe_callB call_isXT hg hm boot_isinstance' (pa_cons hv (pa_cons (pe_tup hn) pa_nil) h1) (by decide) (by decide) h1 h2) fun σ H Q q => by
    obtain ⟨g, F, sv, hK, rl, q⟩ := q
    unfold mExIs at q
    split at q
    · rename_i x hx
      split at q
      · rename_i hc
        obtain ⟨e1, hD, _⟩ := ex_at T hK rl hx hc
        refine ⟨.ref a, e1, by simpa using hl, fun tp htp => ?_⟩
        have sH : Same H (upd H tp (.tup (cs.map fun c => V.ref (adIn X.K c)))) := same_upd htp
        refine ⟨tp, _, _, _, _, rfl, upd_same, paired_names cs, ⟨hD.cls, hD.fl, hD.xf, hD.ix, ?_⟩, kitAny_sub T hc hcs, ?_⟩
        · rcases hD.dd with h | ⟨dd, gs, h3, h4⟩
          · exact .inl h
          · exact .inr ⟨dd, gs, h3, sH _ _ h4⟩
        · exact q _ _ _ (same_upd (rl.sub.free htp)) (rl.lay htp) rfl
      · exact False.elim q
    · exact False.elim q
end
end VM

set_option Elab.async false
set_option linter.all false
set_option autoImplicit false
set_option maxRecDepth 100000
set_option maxHeartbeats 1000000
namespace VM
open PySem PySem.Spec PyProof.Rows L2
open L2H (RoomH Hot1 PinOk HotC cxH inv_startH)

/-! ### defs that are called where an exception is handled -/
structure FnGH (P : Program) (w : World) (K : PySem.W.Frag) (mg : Str → Option Value) (base : Heap) (k : Nat) (f : Addr) (fd : FuncData) (ps : List Str) (sp : Sp) : Prop where
  len : ∀ vs H Q E, sp vs H Q E → vs.length = ps.length
  run : ∀ (A : Around) (outer : List Env) (s : Shared) (H : Hp) (args : Args) (us : List Value) (vs : List V) (Q : VK) (E : XK) (p : Addr × Obj), A.guards = some [] → RoomH k A → Hot1 A p → PinOk outer H s p → Env0 P w K mg base A outer s H → BindsTo s fd args (ps.zip us) → Vals vs us → sp vs H Q E →
    codeAny (model P w) A (.call (.ref f) args) (CR (L2N.CX P w) outer P w H s Q E) s
section
variable {P : Program} {w : World} {K : PySem.W.Frag} {mg : Str → Option Value} {base : Heap}
/-- the rule for such a def (none of its arguments is changed) -/
theorem fn_okH {x qual : Str} {st : Stmt} {f : Addr} {fd : FuncData} {N ps : List Str} {k n : Nat} {ro : Bool} {body : MS} (F : Fun K x qual st f fd) (S : FnScope N ps (defScope st)) (hn : n = ps.length) (hN : ps.length ≤ N.length)
    (hb : ∀ (cdv : Value) (A : Around) (outer : List Env) (s : Shared) (H : Hp) (E : XK) (p : Addr × Obj), CtxH (cxH (L2N.CX P w) P w K mg base N qual (defScope st) f cdv A outer s H E p) (WE0 E) k →
      SSs (cxH (L2N.CX P w) P w K mg base N qual (defScope st) f cdv A outer s H E p) (WE0 E) (defBody st) body) :
    FnGH P w K mg base (k + 1) f fd ps (spV K mg n none ro (fnOf N.length none ro body)) := by
  obtain ⟨oc, od, kV, doc, pm, an, cdv, ct, osl, rfl, lk, hcd⟩ := F.ex
  subst hn
  refine ⟨fun vs H Q E h => h.1, fun A outer s H args us vs Q E p hg hr hot hpin e0 hbd r hsp => ?_⟩
  have hl : vs.length = ps.length := hsp.1
  have KX : K.In s.heap := e0.mod.kin.keeps fun b o e => (e0.bs b o e).1
  have lim : s.heap.NoLimit := e0.mod.nolimit.keeps fun b o e => (e0.bs b o e).1
  have kinds : ∀ y ∈ ps.zip us, (defScope st).names.lookup y.1 = some .local ∨ ((defScope st).names.lookup y.1 = some .cell ∧ ((cellsFrom (s.heap.objs.size + 1) (defScope st).names []).lookup y.1).isSome = true) := fun y hy => by
    rcases S.par y.1 (List.of_mem_zip hy).1 with q | q
    · exact .inl q
    · exact .inr ⟨q, PySem.W.cellsFrom_some _ _ _ (.inl q)⟩
  refine codeAny_call_function hr.depth (KX _ _ lk) rfl S.co S.gen rfl (PySem.W.codeRec_of KX hcd) (hbd _ _ _ _ ?_)
  refine wpAny_newFunctionEnv_cells S.kind kinds fun env he s1 x => ?_
  subst he
  refine ⟨lim.keeps x.toInCall.keep, codeAny_func ?_⟩
  have cx : CtxH (cxH (L2N.CX P w) P w K mg base N qual (defScope st) f cdv A outer s H E p) (WE0 E) k := ⟨L2N.takes_of rfl rfl rfl rfl, hr.deeper _, hg, passes_of rfl, ⟨p, ⟨hot.1, hot.2⟩, List.mem_cons_self⟩⟩
  have ht := hb cdv A outer s H E p cx
  have I : Inv (cxH (L2N.CX P w) P w K mg base N qual (defScope st) f cdv A outer s H E p) [] (start N vs) H s1 := inv_startH S hpin e0 hl r x
  have hq : tS K ⟨mg, some p⟩ (WE0 E) body { nx := fun _ H' => Q .non H', rt := Q } (start N vs) H := by
    obtain ⟨_, F, ds, sub, rv, q⟩ := hsp
    have hv : vs.length ≤ N.length := by omega
    refine ⟨_, F, _, (by exact ⟨rfl, rfl⟩), rl_init (mx := ⟨mg, some p⟩) (N := N) (io := none) (ip := none) (φ := fun _ => False) sub hv rv.length (fun i d v e1 e2 => ?_) (fun p hp => nomatch hp), fin_post rfl (fun p hp => nomatch hp) (fun _ => rfl) q⟩
    rw [if_neg (by exact fun z => nomatch z)]
    obtain ⟨v', e3, h3⟩ := rv.get i d e1
    rw [e2] at e3; cases e3
    exact h3
  refine wpAny_mono (ht.run [] s1 (start N vs) H _ I hq) (fun fl s' hs => ?_) fun e s' hs => hs
  have fin : ∀ {σ' : L2.St} {H' : Hp} {v : V} {u : Value}, Inv (cxH (L2N.CX P w) P w K mg base N qual (defScope st) f cdv A outer s H E p) [] σ' H' s' → RelV v u → Q v H' → CE outer P w H s Q u s' :=
    fun {σ' H' v u} J rv q => ⟨v, H', J.os, J.bare, J.base, J.hok, rv, q⟩
  cases fl with
  | ret u => obtain ⟨v, σ', H', J, rv, q⟩ := hs; exact fin J rv q
  | next => obtain ⟨σ', H', J, q⟩ := hs; exact fin (v := V.non) (u := Value.none) J rfl q
  | brk => obtain ⟨_, _, _, q⟩ := hs; exact False.elim q
  | cont => obtain ⟨_, _, _, q⟩ := hs; exact False.elim q
end
section
variable {X : Cx} {W : WX'} {e : Expr} {es : List Expr} {ms : M (List D)} {x : Str} {p pos : Pos} {k n kk : Nat} {f : Addr} {fd : FuncData} {ps : List Str} {fn : Fn} {dd : List D} {dvs : List V} {ds : List Value}
theorem pe_callH {sp : Sp} {E : L2.St → XK} {t : TA} (F : FnGH X.prog X.w X.K X.mg X.base k f fd ps sp) (hgd : X.A.guards = some []) (hr : RoomH k X.A) (hot : HotC X) (hg : Gl X x) (hm : X.mg x = some (.ref f)) (hk : PySem.W.keepIn X.K (.ref f) = true) (hb : Binds X.K fd ps ds) (hd : Vals dvs ds) (hx : ∀ σ, PassesAt (L2N.CX X.prog X.w) X σ (E σ))
    (ha : PA X (e :: es) t) (hdb : (x == ("__debug__" : Str)) = false := by decide) (he : starEach (e :: es) X.env = (false, eval e X.env) :: starEach es X.env := by rfl) (hpl : (backTo pos (starEach es X.env)).any (·.1) = false := by rfl) :
    PE X (.Call (.Name x p) (e :: es) [] pos) (tCallSD sp dvs E t) := by
  constructor
  intro pins s σ H Q I h
  obtain ⟨pn, ht, hp⟩ := hot
  refine wpAny_Call_Name_kw (ld_glob I hg hm (PySem.W.callWith_K (h₀ := X.base) I.ok.mod.kin hk (thn (ha.run pos pins s σ H _ I h) fun us s1 ⟨vs, H1, I1, r, q⟩ => ⟨I1.kIn, ?_⟩) he hpl) hdb)
  have r2 : Vals (vs ++ dvs) (us ++ ds) := r.append hd
  have hl : (us ++ ds).length = ps.length := r2.length.symm.trans (F.len _ _ _ _ q)
  have P1 := I1.pin pn (List.mem_append_left _ hp)
  have hpin : PinOk X.stack H1 s1 pn := ⟨P1.1, P1.2.1, fun hm => (List.mem_cons.mp (I1.stkSub pn.1 hm)).elim P1.2.2.1 P1.2.2.2.1, P1.2.2.2.2⟩
  refine wpAny_call (codeAny_mono (F.run X.A X.stack s1 H1 ⟨us, []⟩ (us ++ ds) (vs ++ dvs) Q (E σ) pn hgd hr ht hpin I1.env0 (hb s1 us I1.kIn hl) r2 q) fun o s' hq => ?_)
  cases o with
  | error er => exact hx σ pins H1 s1 er s' I1 hq
  | ok fl =>
    cases fl with
    | ret u => exact I1.after hq
    | next => exact False.elim hq
    | brk => exact False.elim hq
    | cont => exact False.elim hq
theorem se_callH (c : CtxH X W kk) (hkk : k ≤ kk) (Fg : FnGH X.prog X.w X.K X.mg X.base k f fd ps (spV X.K X.mg n none false fn)) (hg : Gl X x) (hm : X.mg x = some (.ref f)) (hk : PySem.W.keepIn X.K (.ref f) = true) (hb : Binds X.K fd ps ds) (hd : Vals dvs ds) (hdd : DefOk X.K dd dvs)
    (ha : SA X W (e :: es) ms) (hdb : (x == ("__debug__" : Str)) = false := by decide) (he : starEach (e :: es) X.env = (false, eval e X.env) :: starEach es X.env := by rfl) (hpl : (backTo pos (starEach es X.env)).any (·.1) = false := by rfl) :
    SE X W (.Call (.Name x p) (e :: es) [] pos) (mCall n fn dd ms) := pe_imp (pe_callH Fg c.hg (c.hr.mono hkk) c.hot hg hm hk hb hd (fun σ => L2N.passAt c.tk σ) ha hdb he hpl) fun σ H Q q => by
  obtain ⟨g, F, sv, hK, rl, q⟩ := q
  refine ⟨g, F, sv, hK, rl, PostG.bind q fun as s vs F1 H1 e1 rl1 rp1 q1 => ?_⟩
  split at q1
  · rename_i hz
    have rp : RpL g.K F1 (as ++ dd) (vs ++ dvs) := RpL.append rp1 (by rw [hK.1]; exact hdd F1)
    rw [← hK.1]
    exact post_call (fun F' H' d v _ hr => by show Rp g.K F' d v; simpa using hr) (rp.length.symm.trans hz) rl1 rp q1
  · exact False.elim q1
end
end VM

set_option Elab.async false
set_option linter.all false
set_option autoImplicit false
set_option maxRecDepth 100000
set_option maxHeartbeats 1000000
namespace VM
open PySem PySem.Spec PyProof.Rows L2

/-! ### keywords in another order -/
def kjp {α : Type} (n : Nat) (pm : List Nat) (us ws : List α) : List α := if us.length = n ∧ ws.length = pm.length then us ++ pm.filterMap (fun i => ws[i]?) else []
theorem RpL.pick {K : PySem.W.Frag} {F : Hp} {ds : List D} {vs : List V} (h : RpL K F ds vs) : ∀ pm : List Nat, RpL K F (pm.filterMap fun i => ds[i]?) (pm.filterMap fun i => vs[i]?)
  | [] => rfl
  | i :: pm => by
    have ih := RpL.pick h pm
    simp only [List.filterMap_cons]
    cases e : ds[i]? with
    | none =>
      have e2 : vs[i]? = none := by rw [List.getElem?_eq_none_iff] at e ⊢; rw [← h.length]; exact e
      rw [e2]
      exact ih
    | some d =>
      obtain ⟨v, e2, hv⟩ := h.get i d e
      rw [e2]
      exact ⟨v, _, rfl, hv, ih⟩
theorem kjp_ord (n : Nat) (pm : List Nat) : KOrd (kjp n pm) (kjp n pm) := ⟨fun {K F as bs vs us} h1 h2 => by
  unfold kjp
  rw [h1.length, h2.length]
  split
  · exact h1.append (RpL.pick h2 pm)
  · rfl⟩
theorem Vals.pick {vs : List V} {us : List Value} (h : Vals vs us) : ∀ pm : List Nat, Vals (pm.filterMap fun i => vs[i]?) (pm.filterMap fun i => us[i]?)
  | [] => .nil
  | i :: pm => by
    have ih := Vals.pick h pm
    simp only [List.filterMap_cons]
    cases e : vs[i]? with
    | none =>
      have e2 : us[i]? = none := by rw [List.getElem?_eq_none_iff] at e ⊢; rw [← h.length]; exact e
      rw [e2]
      exact ih
    | some d =>
      obtain ⟨v, e2, hv⟩ := h.get e
      rw [e2]
      exact .cons hv ih
theorem kjp_binds {K : PySem.W.Frag} {x qual : Str} {st : Stmt} {f : Addr} {fd : FuncData} {ps ks : List Str} {n : Nat} {pm : List Nat} (hp : 0 < ps.length) (F : Fun K x qual st f fd)
    (h : ∀ (kV doc pm' : Value) (an : Option Addr) (cdv ct : Value) (us ws : List Value), us.length = n → ws.length = pm.length → bindArgs (PySem.W.fnOf x qual (defArgs st) (defBody st) (defScope st) .none kV doc pm' an cdv ct) ⟨us, ks.zip ws⟩ = pure (ps.zip (us ++ pm.filterMap fun i => ws[i]?))) : KBinds K fd ps ks (kjp n pm) (kjp n pm) := by
  obtain ⟨oc, od, kV, doc, pm', an, cdv, ct, osl, rfl, lk, hcd⟩ := F.ex
  constructor
  · intro s us ws _ hl
    unfold kjp at hl ⊢
    split at hl
    · rename_i hz
      rw [if_pos hz]
      exact .of_eq (h kV doc pm' an cdv ct us ws hz.1 hz.2)
    · have : ps.length = 0 := hl.symm
      omega
  · intro vs us zs ws h1 h2
    unfold kjp
    rw [h1.length, h2.length]
    split
    · exact Vals.append h1 (Vals.pick h2 pm)
    · exact .nil

/-! ### xs.extend(ys), s.count(t) -/
section
variable {X : Cx} {W : WX'} {e a : Expr} {pos apos p1 cpos : Pos} {m ma mb : M D}
def mExt (i : Nat) (m : M D) : MS := fun sv => match ownL sv i with
  | none => .bad
  | some _ => mBind m (fun d s => match ownL s i, d with
    | some (_, xs), .lst ys => if xs.length + ys.length ≤ sizeLine then putL s i (xs ++ ys) else .bad
    | _, _ => .bad) sv
theorem ss_ext {i : Nat} {x : Str} (h : ∀ te, PE X e te → PE X (.Call (.Attribute (.Name x p1) "extend" apos) [e] [] cpos) (tBM X.K "list" rExtend (tVar i) (tCons te tNil))) (he : SE X W e m)
    (hs : swapsWith (.Call (.Attribute (.Name x p1) "extend" apos) [e] [] cpos) none pos.line X.env = pure false := by rfl) : SS X W (.Expr (.Call (.Attribute (.Name x p1) "extend" apos) [e] [] cpos) pos) (mExt i m) :=
  ps_imp (ps_expr (h _ he) hs) fun Dn σ H q => by
    obtain ⟨g, F, sv, hK, rl, q⟩ := q
    unfold mExt at q
    split at q
    · exact False.elim q
    · rename_i z h0
      obtain ⟨s0, xs0⟩ := z
      obtain ⟨p, vs, e1, nF, e2, e3⟩ := rl.lst h0
      refine ⟨.ref p, e1, .inl ⟨rfl, vs, .inl (.inl e2)⟩, g, F, sv, hK, rl, PostS.bind (H := H) q fun d s v F1 H1 f1 rl1 rp1 h1 => ?_⟩
      split at h1
      · rename_i s1 xs1 ys h2
        split at h1
        · rename_i hz
          obtain ⟨p', vs', e1', nF', e2', e3'⟩ := rl1.lst h2
          rw [e1] at e1'; cases e1'
          obtain ⟨b, us, rfl, r1, r2⟩ := rp1
          exact ⟨p, b, vs', us, rfl, rfl, e2', rl1.sub _ _ r1, by rw [← e3'.length, ← r2.length]; exact hz, putL_post rl1 h2 e1 nF' (e3'.append r2) h1⟩
        · exact False.elim h1
      · exact False.elim h1
/-- a text's method with a text -/
def mS2 (f : Str → Str → Option D) (ma mb : M D) : M D := fun sv => (ma sv).bind fun d s1 => match d with
  | .str z => (mb s1).bind fun d2 s2 => (match d2 with
    | .str y => (match f z y with
      | some r => .ok r s2
      | none => .bad)
    | _ => .bad)
  | _ => .bad
theorem se_count (h : PE X (.Call (.Attribute a "count" apos) [e] [] pos) (tM1 (fun x xs H Q => ∃ a b, x = .str a ∧ xs = [.str b] ∧ Q (.int (Txt.count a b)) H) (tE X.K X.mx W ma) (tE X.K X.mx W mb))) : SE X W (.Call (.Attribute a "count" apos) [e] [] pos) (mS2 (fun x y => some (.int (Txt.count x y))) ma mb) := pe_imp h fun σ H Q q => by
  obtain ⟨g, F, sv, hK, rl, q⟩ := q
  refine ⟨g, F, sv, hK, rl, PostG.bind q fun d s1 v F1 H1 e1 rl1 rp1 h1 => ?_⟩
  cases d with
  | str z =>
    cases (show v = V.str z from rp1)
    refine ⟨⟨_, rfl⟩, g, F1, s1, hK, rl1, PostG.bind h1 fun d2 s2 v2 F2 H2 e2 rl2 rp2 h2 => ?_⟩
    cases d2 with
    | str y =>
      cases (show v2 = V.str y from rp2)
      exact ⟨z, y, rfl, rfl, h2 _ F2 H2 (Same.refl F2) rl2 rfl⟩
    | _ => exact False.elim h2
  | _ => exact False.elim h1
end

/-! ### a tuple of texts of the module's own top -/
def KTup (K : PySem.W.Frag) (a : Addr) (ss : List Str) : Prop := ∃ (o : Obj) (its : Array Value) (n : Nat), K.lookup a = some o ∧ o.cls = .type "tuple" ∧ o.data = .seq its n ∧ its.size ≤ sizeLine ∧ Vals (ss.map V.str) its.toList
theorem se_globT {X : Cx} {W : WX'} {x : Str} {a : Addr} {ss : List Str} {pos : Pos} (hg : Gl X x) (hm : X.mg x = some (.ref a)) (hk : KTup X.K a ss) (hd : (x == ("__debug__" : Str)) = false := by decide) : SE X W (.Name x pos) (mC (.tup (ss.map .str))) :=
  se_const (pe_glob (v := .ref a) hg hm rfl hd) fun F => ⟨a, ss.map V.str, rfl, .inr hk, strs_rel ss⟩

/-! ### list(range(n)) -/
def mListRg (m : M D) : M D := fun sv => (m sv).bind fun d s => match d with
  | .int n => if 0 ≤ n ∧ n ≤ 16777216 then .ok (.lst (rngs 0 n.toNat)) s else .bad
  | _ => .bad
theorem rg_rel {K : PySem.W.Frag} {F : Hp} {n : Int} (h : 0 ≤ n) : RpL K F (rngs 0 n.toNat) (rgV 0 n) := by
  have e : rgV 0 n = (List.range n.toNat).map fun (i : Nat) => V.int (0 + (i : Int)) := by
    unfold rgV
    rw [Int.sub_zero]
  rw [e]
  unfold rngs
  generalize List.range n.toNat = l
  induction l with
  | nil => rfl
  | cons a l ih => exact ⟨_, _, rfl, rfl, ih⟩
theorem so_listRg {X : Cx} {W : WX'} {a : Expr} {m : M D} {p p2 pos pos2 : Pos} (hc : X.calm = true) (hg : Gl X "list") (hm : X.mg "list" = none) (hg2 : Gl X "range") (hm2 : X.mg "range" = none) (ha : SE X W a m)
    (n1 : starEach [a] X.env = (false, eval a X.env) :: starEach [] X.env := by rfl) (n2 : starEach [.Call (.Name "range" p2) [a] [] pos2] X.env = (false, eval (.Call (.Name "range" p2) [a] [] pos2) X.env) :: starEach [] X.env := by rfl) :
    SO X W (.Call (.Name "list" p) [.Call (.Name "range" p2) [a] [] pos2] [] pos) (mListRg m) := pe_imp (pe_listRg hc hg hm (prg_1 hg2 hm2 ha n1) n2) fun σ H Q q => by
  obtain ⟨g, F, sv, hK, rl, q⟩ := q
  refine ⟨g, F, sv, hK, rl, PostG.bind q fun d s1 v F1 H1 e1 rl1 rp1 h1 => ?_⟩
  cases d with
  | int n =>
    refine ⟨n, rp1, ?_⟩
    dsimp only at h1
    split at h1
    · rename_i hz
      refine ⟨RgOk.of_le (Int.le_refl 0) hz.2 (by decide) hz.1, fun l hl => ?_⟩
      exact h1 _ F1 _ (Same.refl F1) (rl1.layO hl) (rl1.newO hl .lst (rg_rel hz.1))
    · exact False.elim h1
  | _ => exact False.elim h1
end VM

set_option Elab.async false
set_option linter.all false
set_option autoImplicit false
set_option maxRecDepth 100000
set_option maxHeartbeats 1000000
namespace VM
open PySem PySem.Spec PyProof.Rows L2

/-! ### defs with default values -/
abbrev FunDf (K : PySem.W.Frag) (x qual : Str) (st : Stmt) (dvs : List V) (f : Addr) (fd : FuncData) : Prop := FunD K x qual (defArgs st) (defBody st) (defScope st) dvs [] f fd
section
variable {P : Program} {w : World} {K : PySem.W.Frag} {mg : Str → Option Value} {base : Heap}
theorem fn_okD {x qual : Str} {st : Stmt} {dvs : List V} {f : Addr} {fd : FuncData} {N ps : List Str} {k n : Nat} {io : Option Nat} {ro : Bool} {body : MS} (F : FunDf K x qual st dvs f fd) (S : FnScope N ps (defScope st)) (hn : n = ps.length) (hN : ps.length ≤ N.length)
    (hb : ∀ (cdv : Value) (A : Around) (outer : List Env) (s : Shared) (H : Hp) (E : XK), Ctx (cxOf (L2N.CX P w) P w K mg base N qual (defScope st) f cdv A outer s H E) (WE0 E) k →
      SSs (cxOf (L2N.CX P w) P w K mg base N qual (defScope st) f cdv A outer s H E) (WE0 E) (defBody st) body) :
    FnG P w K mg base (k + 1) f fd ps (spV K mg n io ro (fnOf N.length io ro body)) := by
  obtain ⟨oc, od, dV, kV, doc, pm, an, cdv, ct, osl, rfl, lk, hcd, _, _⟩ := F.ex
  exact fn_okL lk hcd S hn hN hb
theorem funD_mk {x qual : Str} {st : Stmt} {dvs : List V} {f T : Addr} {o : Obj} {its : List Value} {n : Nat} {oc : Value} {od an : Option Addr} {osl : Array (Option Value)} {kV doc pm cdv ct : Value}
    (l : K.lookup f = some ⟨oc, od, .func (PySem.W.fnOf x qual (defArgs st) (defBody st) (defScope st) (.ref T) kV doc pm an cdv ct), osl⟩) (c : PySem.W.codeIn K cdv qual = true) (k : PySem.W.keepIn K (.ref f) = true) (hT : K.lookup T = some o) (ho : o.data = .seq its.toArray n) (hv : Vals dvs its) (hd : dvs ≠ []) :
    FunDf K x qual st dvs f (PySem.W.fnOf x qual (defArgs st) (defBody st) (defScope st) (.ref T) kV doc pm an cdv ct) := ⟨⟨oc, od, .ref T, kV, doc, pm, an, cdv, ct, osl, rfl, l, c, .inr ⟨hd, T, o, its, n, rfl, hT, ho, hv⟩, .inl rfl⟩, k⟩
variable {x qual : Str} {st : Stmt} {dvs : List V} {f : Addr} {fd : FuncData} {ps : List Str}
/-- every parameter is written -/
theorem bindsD_all (F : FunDf K x qual st dvs f fd) (hd : dvs ≠ [])
    (h : ∀ (T : Addr) (kV doc pm : Value) (an : Option Addr) (cdv ct : Value) (us its : List Value), us.length = ps.length → its.length = dvs.length →
      ∃ k, bindArgs (PySem.W.fnOf x qual (defArgs st) (defBody st) (defScope st) (.ref T) kV doc pm an cdv ct) ⟨us, []⟩ = seqItems? (.ref T) >>= k ∧ k (some its.toArray) = pure (ps.zip us)) : Binds K fd ps [] := by
  obtain ⟨ds, h1, h2⟩ := F.binds1 (ps := ps) ps.length dvs.length hd (by omega) fun T kV doc pm an cdv ct us its e1 e2 => by
    obtain ⟨k, g1, g2⟩ := h T kV doc pm an cdv ct us its e1 e2
    exact ⟨k, g1, by rw [← e2, List.drop_length, List.append_nil]; exact g2⟩
  rw [List.drop_length] at h1
  have : ds = [] := List.length_eq_zero_iff.mp h1.length.symm
  rw [this] at h2
  exact h2
/-- the last default is taken -/
structure BindD (K : PySem.W.Frag) (fd : FuncData) (ps : List Str) (dvs : List V) : Prop where
  ex : ∃ ds, Vals dvs ds ∧ Binds K fd ps ds
theorem bindsD_one (F : FunDf K x qual st dvs f fd) (n : Nat) (hd : dvs ≠ []) (hn : n + dvs.length = ps.length)
    (h : ∀ (T : Addr) (kV doc pm : Value) (an : Option Addr) (cdv ct : Value) (us its : List Value), us.length = n → its.length = dvs.length →
      ∃ k, bindArgs (PySem.W.fnOf x qual (defArgs st) (defBody st) (defScope st) (.ref T) kV doc pm an cdv ct) ⟨us, []⟩ = seqItems? (.ref T) >>= k ∧ k (some its.toArray) = pure (ps.zip (us ++ its))) : BindD K fd ps dvs := by
  have := F.binds1 (ps := ps) n 0 hd (by omega) fun T kV doc pm an cdv ct us its e1 e2 => by
    obtain ⟨k, g1, g2⟩ := h T kV doc pm an cdv ct us its e1 e2
    exact ⟨k, g1, by rw [List.drop_zero]; exact g2⟩
  rw [List.drop_zero] at this
  exact ⟨this⟩
theorem BindD.vals {K : PySem.W.Frag} {fd : FuncData} (h : BindD K fd ps dvs) : Vals dvs h.ex.choose := h.ex.choose_spec.1
theorem BindD.binds {K : PySem.W.Frag} {fd : FuncData} (h : BindD K fd ps dvs) : Binds K fd ps h.ex.choose := h.ex.choose_spec.2
theorem kjp_bindsD {ks : List Str} {n : Nat} {pm : List Nat} (hp : 0 < ps.length) (F : FunDf K x qual st dvs f fd) (hd : dvs ≠ [])
    (h : ∀ (T : Addr) (kV doc pm' : Value) (an : Option Addr) (cdv ct : Value) (us ws its : List Value), us.length = n → ws.length = pm.length → its.length = dvs.length →
      ∃ k, bindArgs (PySem.W.fnOf x qual (defArgs st) (defBody st) (defScope st) (.ref T) kV doc pm' an cdv ct) ⟨us, ks.zip ws⟩ = seqItems? (.ref T) >>= k ∧ k (some its.toArray) = pure (ps.zip (us ++ pm.filterMap fun i => ws[i]?))) : KBinds K fd ps ks (kjp n pm) (kjp n pm) := by
  obtain ⟨oc, od, dV, kV, doc, pm', an, cdv, ct, osl, rfl, lk, hcd, hD, _⟩ := F.ex
  rcases hD with ⟨e, _⟩ | ⟨_, T, o, its, m, rfl, lT, oT, rT⟩
  · exact absurd e hd
  constructor
  · intro s us ws X hl
    unfold kjp at hl ⊢
    split at hl
    · rename_i hz
      rw [if_pos hz]
      obtain ⟨k, e1, e2⟩ := h T kV doc pm' an cdv ct us ws its hz.1 hz.2 rT.length.symm
      refine BindsTo.of_looks fun M => ?_
      rw [e1]
      exact looks_items X lT oT (.of_pure e2)
    · have : ps.length = 0 := hl.symm
      omega
  · intro vs us zs ws h1 h2
    unfold kjp
    rw [h1.length, h2.length]
    split
    · exact Vals.append h1 (Vals.pick h2 pm)
    · exact .nil
end
theorem defOk_int {K : PySem.W.Frag} (i : Int) : DefOk K [.int i] [.int i] := fun F => ⟨_, _, rfl, rfl, rfl⟩

/-! ### xs.extend(t), t a list or a tuple -/
open PyProof PySem.AutoSeq1 in
theorem ext_tupG (l : Addr) (items : Array Value) (n : Nat) (b : Addr) (items2 : Array Value) (n2 : Nat) (dd : Option Addr) (ss : Array (Option Value)) (hs0 : ¬(!items.isEmpty && Builtin.List.listTooLong (items.size + items2.size)) = true) (hs1 : items.size ≤ sizeLine) (hs2 : items.size + items2.size ≤ sizeLine + 1) :
    Meets (Builtin.«list.extend» ⟨[.ref l, .ref b], []⟩) (fun _ R s => s.heap.get? l = some { cls := .type "list", dict := none, data := .seq items n, slots := #[] } ∧ s.heap.get? b = some { cls := .type "tuple", dict := dd, data := .seq items2 n2, slots := ss } ∧ R (.ok (.ret Value.none)) { s with heap := s.heap.update l (Obj.mapSeq fun x => x ++ items2), toks := s.toks }) :=
  .of_wp fun prog w A R s h => by
    obtain ⟨hp, g, d, tk, os⟩ := s; obtain ⟨hl, hb, h⟩ := h; have f1 := AutoSeq1.idx_int; have f2 := AutoSeq1.sub_tuple_tuple; have f3 := AutoSeq1.sub_list_list; have f4 := AutoSeq1.sub_tuple_list; have f5 := AutoSeq1.sub_list_tuple
    have hz' : (items ++ items2).size ≤ sizeLine + 1 := by rw [Array.size_append]; exact hs2
    wp_walk using (wpAny_updateSeq hl rfl (hz := hs1) (_hz' := hz')), wpAny_loadPart' hl, wpAny_loadPart' hb; exact ⟨_, rfl, h⟩
def rExtT (K : PySem.W.Frag) : V → List V → Hp → VK → Prop := fun x vs H Q => ∃ l b xs zs, x = .ref l ∧ vs = [.ref b] ∧ H l = some (.lst xs) ∧ SqT K H b zs ∧ xs.length + zs.length ≤ sizeLine ∧ Q .non (upd H l (.lst (xs ++ zs)))
theorem mt_extT {X : Cx} : MtM X "list.extend" (rExtT X.K) := by
  intro pins s σ H x vs v us Q I rx rv h
  obtain ⟨l, b, xs, zs, rfl, rfl, hH, hB, hz, q⟩ := h
  cases rx
  obtain ⟨u, rfl, ru⟩ := rv.one
  cases ru
  obtain ⟨z, its, n, r, hl, e⟩ := I.lstM hH
  obtain ⟨its2, r2, ⟨o, e2, c2, n2, d2⟩, hl2⟩ := I.tuple hB
  obtain ⟨oc, od, odt, osl⟩ := o
  cases c2
  cases d2
  have l2 := r2.length
  have hsz : its.toArray.size + its2.toArray.size ≤ sizeLine := by rw [List.size_toArray, List.size_toArray]; omega
  have hlong : ¬ (!its.toArray.isEmpty && Builtin.List.listTooLong (its.toArray.size + its2.toArray.size)) = true := by
    rw [notLongL hsz, Bool.and_false]
    exact Bool.false_ne_true
  refine call_meets PySem.F.slot_list_extend ⟨_, e, rfl⟩ PySem.F.entry_list_extend (PySem.F.args_list_extend_2 _ _)
    (ext_tupG l its.toArray n b its2.toArray n2 _ _ hlong (by rw [List.size_toArray]; omega) (by omega)) ⟨e, e2, ?_⟩
  refine ⟨.non, _, I.lset (its' := its ++ its2) hH e (by simp) (r.append r2) ?_, rfl, q⟩
  rw [List.length_append]
  omega
abbrev rExtA (K : PySem.W.Frag) : V → List V → Hp → VK → Prop := fun x vs H Q => rExtend x vs H Q ∨ rExtT K x vs H Q
theorem mt_extA {X : Cx} : MtM X "list.extend" (rExtA X.K) := by
  intro pins s σ H x vs v us Q I rx rv h
  rcases h with h | h
  · exact mt_extend pins s σ H x vs v us Q I rx rv h
  · exact mt_extT pins s σ H x vs v us Q I rx rv h
section
variable {X : Cx} {W : WX'} {e a : Expr} {pos apos p1 cpos : Pos} {m : M D}
def mExt2 (i : Nat) (m : M D) : MS := fun sv => match ownL sv i with
  | none => .bad
  | some _ => mBind m (fun d s => match ownL s i, d with
    | some (_, xs), .lst ys => if xs.length + ys.length ≤ sizeLine then putL s i (xs ++ ys) else .bad
    | some (_, xs), .tup ys => if xs.length + ys.length ≤ sizeLine then putL s i (xs ++ ys) else .bad
    | _, _ => .bad) sv
theorem ss_ext2 {i : Nat} {x : Str} (h : ∀ te, PE X e te → PE X (.Call (.Attribute (.Name x p1) "extend" apos) [e] [] cpos) (tBM X.K "list" (rExtA X.K) (tVar i) (tCons te tNil))) (he : SE X W e m)
    (hs : swapsWith (.Call (.Attribute (.Name x p1) "extend" apos) [e] [] cpos) none pos.line X.env = pure false := by rfl) : SS X W (.Expr (.Call (.Attribute (.Name x p1) "extend" apos) [e] [] cpos) pos) (mExt2 i m) :=
  ps_imp (ps_expr (h _ he) hs) fun Dn σ H q => by
    obtain ⟨g, F, sv, hK, rl, q⟩ := q
    unfold mExt2 at q
    split at q
    · exact False.elim q
    · rename_i z h0
      obtain ⟨s0, xs0⟩ := z
      obtain ⟨p, vs, e1, nF, e2, e3⟩ := rl.lst h0
      refine ⟨.ref p, e1, .inl ⟨rfl, vs, .inl (.inl e2)⟩, g, F, sv, hK, rl, PostS.bind (H := H) q fun d s v F1 H1 f1 rl1 rp1 h1 => ?_⟩
      split at h1
      · rename_i s1 xs1 ys h2
        split at h1
        · rename_i hz
          obtain ⟨p', vs', e1', nF', e2', e3'⟩ := rl1.lst h2
          rw [e1] at e1'; cases e1'
          obtain ⟨b, us, rfl, r1, r2⟩ := rp1
          exact .inl ⟨p, b, vs', us, rfl, rfl, e2', rl1.sub _ _ r1, by rw [← e3'.length, ← r2.length]; exact hz, putL_post rl1 h2 e1 nF' (e3'.append r2) h1⟩
        · exact False.elim h1
      · rename_i s1 xs1 ys h2
        split at h1
        · rename_i hz
          obtain ⟨p', vs', e1', nF', e2', e3'⟩ := rl1.lst h2
          rw [e1] at e1'; cases e1'
          obtain ⟨b, us, rfl, r1, r2⟩ := rp1
          exact .inr ⟨p, b, vs', us, rfl, rfl, e2', by rw [← hK.1]; exact sqT_mono rl1.sub r1, by rw [← e3'.length, ← r2.length]; exact hz, putL_post rl1 h2 e1 nF' (e3'.append r2) h1⟩
        · exact False.elim h1
      · exact False.elim h1
end
end VM

set_option Elab.async false
set_option linter.all false
set_option autoImplicit false
set_option maxRecDepth 100000
set_option maxHeartbeats 400000
namespace VM
open PySem PySem.Spec PyProof.Rows L2

/-! ### owned things within owned things -/
section
variable {K : PySem.W.Frag} {F H : Hp}
/-- a list gets one more item of its own -/
theorem OwnP.snoc {acc : List D} {vs : List V} {p q : Addr} {y : D} (o : OwnP K F H (.deep (.lst acc)) p) (hH : H p = some (.lst vs)) (oy : OwnP K F H y q) (dj : ∀ a, Ft K H y q a → ¬ Ft K H (.deep (.lst acc)) p a) :
    OwnP K F (upd H p (.lst (vs ++ [.ref q]))) (.deep (.lst (acc ++ [.own y]))) p ∧ (∀ a, Ft K (upd H p (.lst (vs ++ [.ref q]))) (.deep (.lst (acc ++ [.own y]))) p a → Ft K H (.deep (.lst acc)) p a ∨ Ft K H y q a) := by
  cases o with
  | flat _ _ hs _ => cases hs
  | @deep _ _ o1 ds ws hF hH' hs hl hr hq hk hp hj =>
    cases hs
    rw [hH] at hH'; cases hH'
    -- the kids, old and new
    have kid : ∀ (i : Nat) (e : D) (r : Addr), (acc ++ [D.own y])[i]? = some (.own e) → (vs ++ [V.ref q])[i]? = some (.ref r) → (i < acc.length ∧ acc[i]? = some (.own e) ∧ vs[i]? = some (.ref r)) ∨ (i = acc.length ∧ e = y ∧ r = q) := fun i e r h1 h2 => by
      rcases Nat.lt_trichotomy i acc.length with h | h | h
      · rw [List.getElem?_append_left h] at h1
        rw [List.getElem?_append_left (by omega)] at h2
        exact .inl ⟨h, h1, h2⟩
      · rw [List.getElem?_append_right (by omega), h, Nat.sub_self] at h1
        rw [List.getElem?_append_right (by omega), h, hl, Nat.sub_self] at h2
        cases h1; cases h2
        exact .inr ⟨h, rfl, rfl⟩
      · rw [List.getElem?_eq_none (by simp; omega)] at h1; cases h1
    have eo : ∀ (i : Nat) (e : D) (r : Addr), acc[i]? = some (.own e) → vs[i]? = some (.ref r) → ∀ b, Ft K H e r b → upd H p (.lst (vs ++ [.ref q])) b = H b := fun i e r h1 h2 b hb => upd_ne fun z => by subst z; exact hp i e r h1 h2 hb
    have ey : ∀ b, Ft K H y q b → upd H p (.lst (vs ++ [.ref q])) b = H b := fun b hb => upd_ne fun z => by subst z; exact dj _ hb .here
    have ft : ∀ (i : Nat) (e : D) (r a : Addr), (acc ++ [D.own y])[i]? = some (.own e) → (vs ++ [V.ref q])[i]? = some (.ref r) → Ft K (upd H p (.lst (vs ++ [.ref q]))) e r a → Ft K H e r a := fun i e r a h1 h2 hf => by
      rcases kid i e r h1 h2 with ⟨_, h3, h4⟩ | ⟨_, rfl, rfl⟩
      · exact hf.from (eo i e r h3 h4)
      · exact hf.from ey
    constructor
    · refine .deep hF upd_same .lst (by simp [hl]) (fun i e v h1 h2 ho => ?_) (fun i e h1 => ?_) (fun i e r h1 h2 => ?_) (fun i e r h1 h2 hf => ?_) fun i j e e' r r' a ne h1 h2 h3 h4 hf hf' => ?_
      · rcases Nat.lt_trichotomy i acc.length with h | h | h
        · rw [List.getElem?_append_left h] at h1
          rw [List.getElem?_append_left (by omega)] at h2
          exact hr i e v h1 h2 ho
        · rw [List.getElem?_append_right (by omega), h, Nat.sub_self] at h1
          cases h1; cases ho
        · rw [List.getElem?_eq_none (by simp; omega)] at h1; cases h1
      · rcases Nat.lt_trichotomy i acc.length with h | h | h
        · rw [List.getElem?_append_left h] at h1
          obtain ⟨r, h2⟩ := hq i e h1
          exact ⟨r, by rw [List.getElem?_append_left (by omega)]; exact h2⟩
        · exact ⟨q, by rw [List.getElem?_append_right (by omega), h, hl, Nat.sub_self]; rfl⟩
        · rw [List.getElem?_eq_none (by simp; omega)] at h1; cases h1
      · rcases kid i e r h1 h2 with ⟨_, h3, h4⟩ | ⟨_, rfl, rfl⟩
        · exact (hk i e r h3 h4).mono (Same.refl F) (fun a ha => ((hk i e r h3 h4).ft ha).1) (eo i e r h3 h4)
        · exact oy.mono (Same.refl F) (fun a ha => (oy.ft ha).1) ey
      · have g1 := ft i e r _ h1 h2 hf
        rcases kid i e r h1 h2 with ⟨_, h3, h4⟩ | ⟨_, rfl, rfl⟩
        · exact hp i e r h3 h4 g1
        · exact dj _ g1 .here
      · have g1 := ft i e r _ h1 h2 hf
        have g2 := ft j e' r' _ h3 h4 hf'
        rcases kid i e r h1 h2 with ⟨_, h5, h6⟩ | ⟨i1, rfl, rfl⟩
        · rcases kid j e' r' h3 h4 with ⟨_, h7, h8⟩ | ⟨_, rfl, rfl⟩
          · exact hj i j e e' r r' a ne h5 h6 h7 h8 g1 g2
          · exact dj _ g2 (.kid hH .lst h5 h6 g1)
        · rcases kid j e' r' h3 h4 with ⟨_, h7, h8⟩ | ⟨j1, rfl, rfl⟩
          · exact dj _ g1 (.kid hH .lst h7 h8 g2)
          · omega
    · intro a hf
      cases hf with
      | here => exact .inl .here
      | kid hH2 hs2 hd hv hf =>
        rw [upd_same] at hH2; cases hH2
        cases hs2
        have g1 := ft _ _ _ _ hd hv hf
        rcases kid _ _ _ hd hv with ⟨_, h3, h4⟩ | ⟨_, rfl, rfl⟩
        · exact .inl (.kid hH .lst h3 h4 g1)
        · exact .inr g1
/-- a kid changes within -/
theorem OwnP.at {d d' e e' : D} {o : HO} {ds : List D} {vs : List V} {p q b : Addr} {i : Nat} {u : HO} (ow : OwnP K F H (.deep d) p) (hH : H p = some o) (hs : Shp K d o ds vs) (hs' : Shp K d' o (ds.set i (.own e')) vs) (hd : ds[i]? = some (.own e)) (hv : vs[i]? = some (.ref q))
    (hb : Ft K H e q b) (oe : OwnP K F (upd H b u) e' q) (hf : ∀ a, Ft K (upd H b u) e' q a → Ft K H e q a) :
    OwnP K F (upd H b u) (.deep d') p ∧ ∀ a, Ft K (upd H b u) (.deep d') p a → Ft K H (.deep d) p a := by
  cases ow with
  | flat _ _ hs _ => cases hs
  | @deep _ _ o1 ds1 ws hF hH' hs1 hl hr hq hk hp hj =>
    rw [hH] at hH'; cases hH'
    obtain ⟨rfl, rfl⟩ := hs.uniq hs1
    have hi : i < ds.length := (List.getElem?_eq_some_iff.mp hd).1
    have hbp : p ≠ b := fun z => by subst z; exact hp i e q hd hv hb
    have kid : ∀ (j : Nat) (x : D) (r : Addr), (ds.set i (.own e'))[j]? = some (.own x) → vs[j]? = some (.ref r) → (j ≠ i ∧ ds[j]? = some (.own x)) ∨ (j = i ∧ x = e' ∧ r = q) := fun j x r h1 h2 => by
      by_cases h : i = j
      · subst h
        rw [List.getElem?_set_self hi] at h1
        rw [hv] at h2
        cases h1; cases h2
        exact .inr ⟨rfl, rfl, rfl⟩
      · rw [List.getElem?_set_ne h] at h1
        exact .inl ⟨Ne.symm h, h1⟩
    have eo : ∀ (j : Nat) (x : D) (r : Addr), j ≠ i → ds[j]? = some (.own x) → vs[j]? = some (.ref r) → ∀ a, Ft K H x r a → upd H b u a = H a := fun j x r hj' h1 h2 a ha => upd_ne fun z => by subst z; exact hj j i x e r q _ hj' h1 h2 hd hv ha hb
    have ft : ∀ (j : Nat) (x : D) (r a : Addr), (ds.set i (.own e'))[j]? = some (.own x) → vs[j]? = some (.ref r) → Ft K (upd H b u) x r a → ∃ y, ds[j]? = some (.own y) ∧ Ft K H y r a := fun j x r a h1 h2 h3 => by
      rcases kid j x r h1 h2 with ⟨hj', h4⟩ | ⟨rfl, rfl, rfl⟩
      · exact ⟨x, h4, h3.from (eo j x r hj' h4 h2)⟩
      · exact ⟨e, hd, hf a h3⟩
    constructor
    · refine .deep hF ((upd_ne hbp).trans hH) hs' (by rw [List.length_set]; exact hl) (fun j x v h1 h2 ho => ?_) (fun j x h1 => ?_) (fun j x r h1 h2 => ?_) (fun j x r h1 h2 h3 => ?_) fun j k x y r r' a ne h1 h2 h3 h4 f1 f2 => ?_
      · by_cases h : i = j
        · subst h
          rw [List.getElem?_set_self hi] at h1
          cases h1; cases ho
        · rw [List.getElem?_set_ne h] at h1
          exact hr j x v h1 h2 ho
      · by_cases h : i = j
        · subst h; exact ⟨q, hv⟩
        · rw [List.getElem?_set_ne h] at h1
          exact hq j x h1
      · rcases kid j x r h1 h2 with ⟨hj', h4⟩ | ⟨rfl, rfl, rfl⟩
        · exact (hk j x r h4 h2).mono (Same.refl F) (fun a ha => ((hk j x r h4 h2).ft ha).1) (eo j x r hj' h4 h2)
        · exact oe
      · obtain ⟨y, h4, h5⟩ := ft j x r _ h1 h2 h3
        exact hp j y r h4 h2 h5
      · obtain ⟨x', h5, h6⟩ := ft j x r a h1 h2 f1
        obtain ⟨y', h7, h8⟩ := ft k y r' a h3 h4 f2
        exact hj j k x' y' r r' a ne h5 h2 h7 h4 h6 h8
    · intro a h3
      cases h3 with
      | here => exact .here
      | kid hH2 hs2 hd2 hv2 h3 =>
        rw [upd_ne hbp, hH] at hH2; cases hH2
        obtain ⟨e1, e2⟩ := hs'.uniq hs2
        subst e1; subst e2
        obtain ⟨y, h4, h5⟩ := ft _ _ _ a hd2 hv2 h3
        exact .kid hH hs h4 hv2 h5
end
/-- places that are kept through an expression -/
noncomputable def G.keepS (g : G) (H : Hp) (φ : Addr → Prop) : G := ⟨g.K, ovl g.pH H φ, fun a => g.fx a ∨ φ a, hole g.F0 φ, g.io, g.mx⟩
section
variable {g : G} {F H H0 : Hp} {σ : L2.St} {sv : SV} {φ : Addr → Prop}
theorem Rl.keepS (r : Rl g F H σ sv) (nf : ∀ a, φ a → ¬ g.fx a) (nF : ∀ a, φ a → F a = none) (hH : ∀ a, φ a → H a ≠ none) (nr : ∀ a, φ a → ∀ i, ¬ Ref g.K H σ sv i a) : Rl (g.keepS H φ) F H σ sv := by
  refine ⟨r.sub, fun a o e => ?_, fun a ha => ?_, fun a ha => ?_, fun a o e => ?_, fun k q e => ?_, r.len, fun i s e => ?_, r.dj⟩
  · have e : ovl g.pH H φ a = some o := e
    by_cases h : φ a
    · rw [ovl_in h] at e; exact e
    · rw [ovl_out h] at e; exact r.kH a o e
  · show F a = hole g.F0 φ a
    by_cases h : φ a
    · rw [hole_in h, nF a h]
    · rw [hole_out h]
      rcases ha with ha | ha
      · exact r.kF a ha
      · exact absurd ha h
  · rcases ha with ha | ha
    · exact r.fxH a ha
    · exact hH a ha
  · have e : ovl g.pH H φ a = some o := e
    show g.fx a ∨ φ a
    by_cases h : φ a
    · exact .inr h
    · rw [ovl_out h] at e; exact .inl (r.pf a o e)
  · obtain ⟨h1, h2⟩ := r.ion k q e
    exact ⟨(ovl_out fun z => nf q z h2).trans h1, .inl h2⟩
  · have q := r.sl i s e
    cases s with
    | un => trivial
    | ex x => exact q
    | pl d => exact q
    | ow d =>
      obtain ⟨q', e1, nf', o'⟩ := q
      refine ⟨q', e1, fun a ha z => ?_, o'⟩
      rcases z with z | z
      · exact nf' a ha z
      · exact nr a z i ⟨_, d, q', e, rfl, e1, ha⟩
    | io k d =>
      obtain ⟨q', e1, hk, np, o'⟩ := q
      refine ⟨q', e1, hk, fun a ha => ?_, o'⟩
      exact (ovl_out fun z => nr a z i ⟨_, d, q', e, rfl, e1, ha⟩).trans (np a ha)
theorem Rl.unkeepS (r : Rl (g.keepS H0 φ) F H σ sv) (nf : ∀ a, φ a → ¬ g.fx a) (h0 : ∀ a, φ a → H0 a ≠ none) (npH : ∀ a, φ a → g.pH a = none) : (∀ a, φ a → F a = none ∧ H a = H0 a) ∧ Rl g F H σ sv ∧ ∀ a, φ a → ∀ i, ¬ Ref g.K H σ sv i a := by
  have hF : ∀ a, φ a → F a = none := fun a ha => (r.kF a (.inr ha)).trans (hole_in ha)
  have hH : ∀ a, φ a → H a = H0 a := fun a ha => by
    cases z : H0 a with
    | none => exact absurd z (h0 a ha)
    | some u => exact r.kH a u ((ovl_in ha).trans z)
  have nr : ∀ a, φ a → ∀ i, ¬ Ref g.K H σ sv i a := fun a ha i hi => by
    have := (r.own hi).2.2
    have h2 : ovl g.pH H0 φ a = none := this
    rw [ovl_in ha] at h2
    exact h0 a ha h2
  refine ⟨fun a ha => ⟨hF a ha, hH a ha⟩, ?_, nr⟩
  refine ⟨r.sub, fun a o e => ?_, fun a ha => ?_, fun a ha => r.fxH a (.inl ha), fun a o e => ?_, fun k q e => ?_, r.len, fun i s e => ?_, r.dj⟩
  · have hap : ¬ φ a := fun z => by rw [npH a z] at e; cases e
    exact r.kH a o ((ovl_out hap).trans e)
  · exact (r.kF a (.inl ha)).trans (hole_out fun z => nf a z ha)
  · have hap : ¬ φ a := fun z => by rw [npH a z] at e; cases e
    rcases r.pf a o ((ovl_out hap).trans e) with z | z
    · exact z
    · exact absurd z hap
  · obtain ⟨h1, h2⟩ := r.ion k q e
    rcases h2 with h2 | h2
    · exact ⟨(ovl_out fun z => nf q z h2).symm.trans h1, h2⟩
    · have h1 : ovl g.pH H0 φ q = none := h1
      rw [ovl_in h2] at h1
      exact absurd h1 (h0 q h2)
  · have q := r.sl i s e
    cases s with
    | un => trivial
    | ex x => exact q
    | pl d => exact q
    | ow d =>
      obtain ⟨q', e1, nf', o'⟩ := q
      exact ⟨q', e1, fun a ha z => nf' a ha (.inl z), o'⟩
    | io k d =>
      obtain ⟨q', e1, hk, np, o'⟩ := q
      refine ⟨q', e1, hk, fun a ha => ?_, o'⟩
      have hne : ¬ φ a := fun z => nr a z i ⟨_, d, q', e, rfl, e1, ha⟩
      exact (ovl_out hne).symm.trans (np a ha)
theorem Rl.noP (r : Rl g F H σ sv) (nf : ∀ a, φ a → ¬ g.fx a) : ∀ a, φ a → g.pH a = none := fun a ha => by
  cases h : g.pH a with
  | none => rfl
  | some o => exact absurd (r.pf a o h) (nf a ha)
end

/-! ### xs[k].append(e), where slot i owns xs and what it holds -/
def mAppIx (i : Nat) (mk m : M D) : MS := fun sv => match sv[i]? with
  | some (.ow (.deep (.lst ds))) => (match mk (sv.set i .un) with
    | .ok (.int z) s1 => (match ixN ds.length z with
      | some j => (match ds[j]? with
        | some (.own (.lst xs)) => (match m s1 with
          | .ok d s2 => if xs.length < sizeLine then .nx (s2.set i (.ow (.deep (.lst (ds.set j (.own (.lst (xs ++ [d])))))))) else .bad
          | _ => .bad)
        | _ => .bad)
      | none => .bad)
    | _ => .bad)
  | _ => .bad
section
variable {X : Cx} {W : WX'} {k e : Expr} {pos : Pos} {mk m : M D}
theorem ss_appIx {i : Nat} {x : Str} {p1 spos apos cpos : Pos} (h : ∀ tk te, PE X k tk → PE X e te → PE X (.Call (.Attribute (.Subscript (.Name x p1) k spos) "append" apos) [e] [] cpos) (tBM X.K "list" rAppend (tOp (rIxL X.K) (tVar i) tk) (tCons te tNil))) (hk : SE X W k mk) (he : SE X W e m)
    (hs : swapsWith (.Call (.Attribute (.Subscript (.Name x p1) k spos) "append" apos) [e] [] cpos) none pos.line X.env = pure false := by rfl) : SS X W (.Expr (.Call (.Attribute (.Subscript (.Name x p1) k spos) "append" apos) [e] [] cpos) pos) (mAppIx i mk m) :=
  ps_imp (ps_expr (h _ _ hk he) hs) fun Dn σ H q => by
    obtain ⟨g, F, sv, hK, rl, q⟩ := q
    unfold mAppIx at q
    split at q
    · rename_i ds hsl
      obtain ⟨p, e1, nf, ow⟩ := rl.sl i _ hsl
      have hi : i < sv.length := (List.getElem?_eq_some_iff.mp hsl).1
      have npH := rl.noP nf
      have nF : ∀ a, Ft g.K H (.deep (.lst ds)) p a → F a = none := fun a ha => (ow.ft ha).1
      have nH : ∀ a, Ft g.K H (.deep (.lst ds)) p a → H a ≠ none := fun a ha => (ow.ft ha).2
      obtain ⟨_, _, _, rl0, nr0⟩ := rl.take hsl
      have rk : Rl (g.keepS H (Ft g.K H (.deep (.lst ds)) p)) F H σ (sv.set i .un) := by
        refine (rl.forget i).keepS nf nF nH fun a ha j hj => ?_
        obtain ⟨s, d', p', f2, f3, f4, hf⟩ := hj
        by_cases hij : i = j
        · subst hij
          rw [List.getElem?_set_self hi] at f2
          cases f2; cases f3
        · rw [List.getElem?_set_ne hij] at f2
          exact hij (rl.dj i j a ⟨_, _, p, hsl, rfl, e1, ha⟩ ⟨s, d', p', f2, f3, f4, hf⟩)
      obtain ⟨vs, hH, hl, hr⟩ : ∃ vs, H p = some (.lst vs) ∧ ds.length = vs.length ∧ ∀ (i : Nat) (e : D), ds[i]? = some (.own e) → ∃ q, vs[i]? = some (.ref q) ∧ OwnP g.K F H e q := by
        cases ow with
        | flat _ _ hs _ => cases hs
        | deep hF hH hs hl hr hq hk hp hj =>
          cases hs
          exact ⟨_, hH, hl, fun i e h1 => by obtain ⟨q, h2⟩ := hq i e h1; exact ⟨q, h2, hk i e q h1 h2⟩⟩
      refine ⟨.ref p, e1, g.keepS H (Ft g.K H (.deep (.lst ds)) p), F, sv.set i .un, hK, rk, ?_⟩
      split at q
      · rename_i z s1 hm1
        rw [hm1]
        split at q
        · rename_i j hj
          split at q
          · rename_i xs hxs
            obtain ⟨r, hv, oxs⟩ := hr j _ hxs
            obtain ⟨_, us, hr1, rxs⟩ := oxs.lst_inv
            intro v F1 H1 f1 rl1 rp1
            cases rp1
            have kp1 : ∀ a, Ft g.K H (.deep (.lst ds)) p a → H1 a = H a := fun a ha => ((rl1.unkeepS nf nH npH).1 a ha).2
            have fr : Ft g.K H (.deep (.lst ds)) p r := .kid hH .lst hxs hv .here
            have hat : atI vs z = some (.ref r) := by
              unfold atI
              rw [← hl, hj]
              exact hv
            refine ⟨p, vs, z, .ref r, rfl, rfl, .inl (.inl ((kp1 p .here).trans hH)), hat, .inl ⟨rfl, us, .inl (.inl ((kp1 r fr).trans hr1))⟩, g.keepS H (Ft g.K H (.deep (.lst ds)) p), F1, s1, hK, rl1, ?_⟩
            split at q
            · rename_i d s2 hm2
              rw [hm2]
              split at q
              · rename_i hz
                intro v F2 H2 f2 rl2 rp2
                obtain ⟨kp, rl3, nr3⟩ := rl2.unkeepS nf nH npH
                have kp2 : ∀ a, Ft g.K H (.deep (.lst ds)) p a → H2 a = H a := fun a ha => (kp a ha).2
                have f12 := f1.trans f2
                refine ⟨r, us, v, rfl, rfl, (kp2 r fr).trans hr1, by rw [← rxs.length]; exact hz, ?_⟩
                have ow2 : OwnP g.K F2 H2 (.deep (.lst ds)) p := ow.mono f12 (fun a ha => (kp a ha).1) kp2
                have hxs2 : OwnP g.K F2 (upd H2 r (.lst (us ++ [v]))) (.lst (xs ++ [d])) r := .lst (kp r fr).1 upd_same ((RpL.mono f12 _ _ rxs).append (RpL.one rp2))
                obtain ⟨ow3, hf3⟩ := ow2.at (e' := .lst (xs ++ [d])) (d' := .lst (ds.set j (.own (.lst (xs ++ [d]))))) ((kp2 p .here).trans hH) .lst .lst hxs hv .here hxs2 fun a ha => by rw [ha.flat fun e z => nomatch z]; exact .here
                have rl4 : Rl g F2 H2 σ (s2.set i (.ow (.deep (.lst ds)))) := by
                  have := rl3.setSl (ov := some (.ref p)) (s' := .ow (.deep (.lst ds))) i ⟨p, rfl, fun a ha => nf a (ha.from kp2), ow2⟩ fun d0 p0 z1 z2 a ha jj _ => by
                    cases z1; cases z2
                    exact nr3 a (ha.from kp2) jj
                  rw [set_self e1] at this
                  exact this
                have hi2 : i < s2.length := by
                  rw [rl3.len]
                  exact (List.getElem?_eq_some_iff.mp e1).1
                have hsl2 : (s2.set i (Sl.ow (.deep (.lst ds))))[i]? = some (.ow (.deep (.lst ds))) := List.getElem?_set_self hi2
                have rl5 := rl4.put hsl2 rfl (show reSl (.ow (.deep (.lst ds))) (.deep (.lst (ds.set j (.own (.lst (xs ++ [d])))))) = some _ from rfl) e1 (.kid ((kp2 p .here).trans hH) .lst hxs hv .here) ow3 fun a ha => .inl (hf3 a ha)
                rw [List.set_set] at rl5
                exact q σ F2 _ f12 rl5
              · exact False.elim q
            · exact False.elim q
          · exact False.elim q
        · exact False.elim q
      · exact False.elim q
    · exact False.elim q
end

/-! ### [e for x in xs], where each item is new and the list's own -/
def lcLO (own : List Nat) (t : MT) (mc : M Bool) (me : M D) : List D → SV → List D → R (List D)
  | [], s, acc => .ok acc s
  | d :: ds, s, acc => match t d s with
    | none => .bad
    | some s1 => match mc s1 with
      | .ok false s2 => lcLO own t mc me ds (wipeV s2 own) acc
      | .ok true s2 => match me s2 with
        | .ok y s3 => if acc.length < sizeLine then lcLO own t mc me ds (wipeV s3 own) (acc ++ [.own y]) else .bad
        | _ => .bad
      | _ => .bad
theorem lcLO_noerr {own : List Nat} {t : MT} {mc : M Bool} {me : M D} : ∀ (ds : List D) (s : SV) (acc : List D) (x : Exn) (s' : SV), lcLO own t mc me ds s acc ≠ .err x s'
  | [], _, _, _, _, h => by cases h
  | d :: ds, s, acc, x, s', h => by
    unfold lcLO at h
    cases ht : t d s with
    | none => rw [ht] at h; cases h
    | some s1 =>
      rw [ht] at h
      dsimp only at h
      cases hc : mc s1 with
      | err _ _ => rw [hc] at h; cases h
      | bad => rw [hc] at h; cases h
      | ok b s2 =>
        rw [hc] at h
        cases b with
        | false => exact lcLO_noerr ds _ _ _ _ h
        | true =>
          dsimp only at h
          cases hm : me s2 with
          | err _ _ => rw [hm] at h; cases h
          | bad => rw [hm] at h; cases h
          | ok y s3 =>
            rw [hm] at h
            dsimp only at h
            split at h
            · exact lcLO_noerr ds _ _ _ _ h
            · cases h
def mLcO (own : List Nat) (mi : M (List D)) (t : MT) (mc : M Bool) (me : M D) : M D := fun sv => (mi sv).bind fun ds s => if ownOk own s = true then (lcLO own t mc me ds (wipeV s own) []).bind fun acc s' => .ok (.deep (.lst acc)) (restV own s s') else .bad
/-- a new, owned list beside the frame, with what it owns -/
structure SideO (g : G) (F H : Hp) (σ : L2.St) (sv : SV) (p : Addr) (acc : List D) : Prop where
  ow : OwnP g.K F H (.deep (.lst acc)) p
  nf : ∀ a, Ft g.K H (.deep (.lst acc)) p a → ¬ g.fx a
  at_ : ∃ vs, H p = some (.lst vs) ∧ acc.length = vs.length
  nr : ∀ a, Ft g.K H (.deep (.lst acc)) p a → ∀ i, ¬ Ref g.K H σ sv i a
theorem OwnP.nilO {K : PySem.W.Frag} {F H : Hp} {p : Addr} (hF : F p = none) (hH : H p = some (.lst [])) : OwnP K F H (.deep (.lst [])) p :=
  .deep hF hH .lst rfl (fun i e v h => by simp at h) (fun i e h => by simp at h) (fun i e q h => by simp at h) (fun i e q h => by simp at h) fun i j e e' q q' a _ h => by simp at h
theorem Ft.nilO {K : PySem.W.Frag} {H : Hp} {p a : Addr} (h : Ft K H (.deep (.lst [])) p a) : a = p := by
  cases h with
  | here => rfl
  | kid hH hs hd hv h => cases hs; simp at hd

section
variable {X : Cx} {W : WX'} {elt tg iter : Expr} {ifs : List Expr} {scope : Scope} {own : List (Str × Nat)} {pos : Pos} {mi : M (List D)} {is : List Nat} {t : MT} {mc : M Bool} {me : M D}
theorem lc_turnsO {g : G} (hMx : g.mx = X.mx) {J : It} {ds : List D} {σ : L2.St} {F1 : Hp} {p : Addr} {Q : VK} {ow : List Nat} (his : ∀ i ∈ is, i ∈ ow) (ok : ItOk g.K F1 ds J) {fin : List D → SV → Prop}
    (hfin : ∀ F2 H2 s2 acc, Same F1 F2 → Rl g F2 H2 (wipe σ ow) s2 → SideO g F2 H2 (wipe σ ow) s2 p acc → fin acc s2 → Q (.ref p) H2) {H1 : Hp} {s1 : SV} (rl1 : Rl g F1 H1 (wipe σ ow) s1) (sd1 : SideO g F1 H1 (wipe σ ow) s1 p [])
    (q : match lcLO ow t mc me ds s1 [] with | .ok acc s => fin acc s | _ => False) :
    ∃ Wi : Nat → Nat → Hp → Prop, (∃ m, Wi 0 m H1) ∧ ∀ i m H, Wi i m H → (J.stop i H ∧ Q (.ref p) H) ∨ (J.go i H ∧ ∃ Nx : Hp → Prop, (∀ H', Nx H' → ∃ m', m' < m ∧ Wi (i + 1) m' H') ∧ ∀ x H', J.yld i H x H' →
      tGt g.K is t x (wipe σ ow) H' fun σ2 H2 => wipe σ2 ow = wipe σ ow ∧ tT g.K X.mx WF mc σ2 H2 fun b H3 => if b = true then tO g.K X.mx WF me σ2 H3 fun y H4 => ∃ acc, H4 p = some (.lst acc) ∧ acc.length < sizeLine ∧ Nx (upd H4 p (.lst (acc ++ [y]))) else Nx H3) := by
  refine ⟨fun i m H => m = ds.length - i ∧ i ≤ ds.length ∧ ∃ F2 s2 acc, Same F1 F2 ∧ Rl g F2 H (wipe σ ow) s2 ∧ SideO g F2 H (wipe σ ow) s2 p acc ∧ (match lcLO ow t mc me (ds.drop i) s2 acc with | .ok acc s => fin acc s | _ => False),
    ⟨ds.length, by simp, Nat.zero_le _, F1, s1, [], Same.refl F1, rl1, sd1, q⟩, ?_⟩
  rintro i m H ⟨rfl, hi, F2, s2, acc, e2, rl2, sd2, q2⟩
  have sH : Same F1 H := e2.trans rl2.sub
  by_cases hlt : i < ds.length
  · have hd : ds[i]? = some ds[i] := List.getElem?_eq_getElem hlt
    rw [List.drop_eq_getElem_cons hlt] at q2
    unfold lcLO at q2
    refine .inr ⟨ok.go i H hlt sH, fun H => ∃ F2 s2 acc, Same F1 F2 ∧ Rl g F2 H (wipe σ ow) s2 ∧ SideO g F2 H (wipe σ ow) s2 p acc ∧ (match lcLO ow t mc me (ds.drop (i + 1)) s2 acc with | .ok acc s => fin acc s | _ => False),
      fun H' hN => ⟨ds.length - (i + 1), by omega, rfl, hlt, hN⟩, fun x H' hy => ?_⟩
    obtain ⟨vs, hv, hlen⟩ := sd2.at_
    have nf := sd2.nf
    have nF : ∀ a, Ft g.K H (.deep (.lst acc)) p a → F2 a = none := fun a ha => (sd2.ow.ft ha).1
    have nH : ∀ a, Ft g.K H (.deep (.lst acc)) p a → H a ≠ none := fun a ha => (sd2.ow.ft ha).2
    have npH := rl2.noP nf
    have rk := rl2.keepS nf nF nH sd2.nr
    generalize hφ : Ft g.K H (.deep (.lst acc)) p = φ at *
    -- the item
    have item : ∃ F3, Same F2 F3 ∧ Rl (g.keepS H φ) F3 H' (wipe σ ow) s2 ∧ Rp g.K F3 ds[i] x := by
      rcases ok.yld i _ x H H' hd sH hy with ⟨rfl, hr⟩ | ⟨T, us, es, ed, rfl, hT, rfl, hr⟩
      · exact ⟨F2, Same.refl F2, rk, Rp.mono e2 _ _ hr⟩
      · have sF : Same F2 (upd F2 T (.tup us)) := same_upd (rl2.sub.free hT)
        refine ⟨_, sF, rk.lay hT, ?_⟩
        rw [ed]
        exact ⟨T, us, rfl, .inl (.inl upd_same), RpL.mono (e2.trans sF) _ _ hr⟩
    obtain ⟨F3, e3, rl3, rp3⟩ := item
    have hp : φ p := by rw [← hφ]; exact .here
    cases ht : t ds[i] s2 with
    | none => rw [ht] at q2; exact False.elim q2
    | some s3 =>
      rw [ht] at q2
      dsimp only at q2
      refine ⟨g.keepS H φ, F3, s2, ds[i], s3, rfl, rl3, rp3, ht, fun σ4 rl4 ag => ?_⟩
      have ew : wipe σ4 ow = wipe σ ow := wipe_agree ag his
      refine ⟨ew, g.keepS H φ, F3, s3, ⟨rfl, hMx⟩, rl4, ?_⟩
      cases hc : mc s3 with
      | err x' s => rw [hc] at q2; exact False.elim q2
      | bad => rw [hc] at q2; exact False.elim q2
      | ok b s =>
        rw [hc] at q2
        intro b' F5 H5 e5 rl5 eb
        cases eb
        cases b with
        | false =>
          have q2 : match lcLO ow t mc me (ds.drop (i + 1)) (wipeV s ow) acc with | .ok acc s => fin acc s | _ => False := q2
          obtain ⟨kp, h3, h4⟩ := rl5.unkeepS nf nH npH
          have kpH : ∀ a, Ft g.K H (.deep (.lst acc)) p a → H5 a = H a := fun a ha => (kp a (by rw [← hφ]; exact ha)).2
          have fto : ∀ a, Ft g.K H5 (.deep (.lst acc)) p a → φ a := fun a ha => by rw [← hφ]; exact ha.from kpH
          have h3w := h3.wiped ow
          rw [ew] at h3w
          show ∃ F2 s2 acc, _
          refine ⟨F5, wipeV s ow, acc, (e2.trans e3).trans e5, h3w, ⟨sd2.ow.mono (e3.trans e5) (fun a ha => (kp a (by rw [← hφ]; exact ha)).1) kpH, fun a ha => nf a (fto a ha), ⟨vs, (kp p hp).2.trans hv, hlen⟩, fun a ha j hj => h4w (h4 a (fto a ha)) ew hj⟩, q2⟩
        | true =>
          have q2 : match (match me s with | .ok y s3 => if acc.length < sizeLine then lcLO ow t mc me (ds.drop (i + 1)) (wipeV s3 ow) (acc ++ [D.own y]) else .bad | _ => .bad) with | .ok acc s => fin acc s | _ => False := q2
          refine ⟨g.keepS H φ, F5, s, ⟨rfl, hMx⟩, rl5, ?_⟩
          cases hme : me s with
          | err x' s' => rw [hme] at q2; exact False.elim q2
          | bad => rw [hme] at q2; exact False.elim q2
          | ok y s' =>
            rw [hme] at q2
            dsimp only at q2
            by_cases hz : acc.length < sizeLine
            · rw [if_pos hz] at q2
              intro v F6 H6 e6 rl6 rp6
              obtain ⟨r, rfl, nfy, owy, nry⟩ := rp6
              obtain ⟨kp, h3, h4⟩ := rl6.unkeepS nf nH npH
              have kpH : ∀ a, Ft g.K H (.deep (.lst acc)) p a → H6 a = H a := fun a ha => (kp a (by rw [← hφ]; exact ha)).2
              have fto : ∀ a, Ft g.K H6 (.deep (.lst acc)) p a → φ a := fun a ha => by rw [← hφ]; exact ha.from kpH
              have ow6 : OwnP g.K F6 H6 (.deep (.lst acc)) p := sd2.ow.mono ((e3.trans e5).trans e6) (fun a ha => (kp a (by rw [← hφ]; exact ha)).1) kpH
              have hH6 : H6 p = some (.lst vs) := (kp p hp).2.trans hv
              have hdj : ∀ a, Ft g.K H6 y r a → ¬ Ft g.K H6 (.deep (.lst acc)) p a := fun a ha hb => nfy a ha (.inr (fto a hb))
              obtain ⟨ow7, hf7⟩ := ow6.snoc hH6 owy hdj
              have ne : ∀ j a, Ref g.K H6 σ4 s' j a → upd H6 p (.lst (vs ++ [.ref r])) a = H6 a := fun j a ha => upd_ne fun z => by subst z; exact h4 _ hp j ha
              have hF6p : F6 p = none := (kp p hp).1
              have hgp : g.pH p = none := npH p hp
              have rl7 : Rl g F6 (upd H6 p (.lst (vs ++ [.ref r]))) σ4 s' := by
                refine h3.move (fun a o e => ?_) (fun a o e => ?_) (fun _ _ => rfl) (fun a ha => ?_) (Same.refl F6) (fun j a h => (h3.own h).1) ne
                · rw [upd_ne (fun z => by rw [z, hF6p] at e; cases e)]; exact h3.sub a o e
                · rw [upd_ne (fun z => by rw [z, hgp] at e; cases e)]; exact h3.kH a o e
                · rw [upd_ne (fun z => by subst z; exact nf _ hp ha)]; exact h3.fxH a ha
              have h3w := rl7.wiped ow
              rw [ew] at h3w
              refine ⟨vs, hH6, by rw [← hlen]; exact hz, F6, wipeV s' ow, acc ++ [D.own y], ((e2.trans e3).trans e5).trans e6, h3w, ⟨ow7, fun a ha => ?_, ⟨_, upd_same, by simp [hlen]⟩, fun a ha j hj => ?_⟩, q2⟩
              · rcases hf7 a ha with h8 | h8
                · exact nf a (fto a h8)
                · exact fun z => nfy a h8 (.inl z)
              · refine h4w (fun jj hjj => ?_) ew hj
                have hjj := hjj.from (ne jj)
                rcases hf7 a ha with h8 | h8
                · exact h4 a (fto a h8) jj hjj
                · exact nry a h8 jj hjj
            · rw [if_neg hz] at q2
              exact False.elim q2
  · have e : i = ds.length := by omega
    subst e
    rw [List.drop_length] at q2
    exact .inl ⟨ok.stop H sH, hfin F2 H s2 acc e2 rl2 sd2 q2⟩
theorem lc_readO {σ : L2.St} {H : Hp} {Q : VK} {ow : List Nat} (his : ∀ i ∈ is, i ∈ ow) (q : tO X.K X.mx W (mLcO ow mi t mc me) σ H Q) : tLc (tG X.K X.mx W RelI mi) (tGt X.K is t) (tT X.K X.mx WF mc) (tO X.K X.mx WF me) ow σ H Q := by
  obtain ⟨g, F, sv, hK, rl, q⟩ := q
  refine ⟨g, F, sv, hK, rl, PostG.bind q fun ds s J F1 H1 e1 rl1 ok1 q1 p hp => ?_⟩
  by_cases ho : ownOk ow s = true
  · rw [if_pos ho] at q1
    rw [← hK.1]
    have rlo : Rl g F1 (upd H1 p (.lst [])) (wipe σ ow) (wipeV s ow) := (rl1.layO hp).wiped ow
    have ne : ∀ j b, Ref g.K H1 σ s j b → upd H1 p (.lst []) b = H1 b := fun j b hb => upd_ne fun z => by subst z; exact rl1.noRef hp j hb
    refine lc_turnsO (g := g) hK.2 (fin := fun acc s' => PostG X.mx g F1 σ (.ok (.deep (.lst acc)) (restV ow s s')) W RelO' Q) his ok1 (fun F2 H2 s2 acc e2 rl2 sd hf => ?_) rlo ⟨.nilO (rl1.sub.free hp) upd_same, fun a ha => by rw [ha.nilO]; exact rl1.nofx hp, ⟨[], upd_same, rfl⟩, fun a ha j hj => ?_⟩ ?_
    · have rl3 := rl_restore rl1 ho e2 rl2
      refine hf _ F2 H2 e2 rl3 ⟨p, rfl, sd.nf, sd.ow, fun a ha j hj => ?_⟩
      obtain ⟨tt, d0, q0, a1, a2, a3, a4⟩ := hj
      rcases restV_get ow s s2 j tt a1 with ⟨b1, b2⟩ | ⟨b1, b2⟩ | ⟨b1, b2⟩
      · exact sd.nr a ha j ⟨tt, d0, q0, b2, a2, by rw [wipe_get σ j ow b1]; exact a3, a4⟩
      · have := List.all_eq_true.mp ho j b1
        rw [b2] at this
        cases tt <;> first | (cases a2; done) | (cases this; done)
      · obtain ⟨z, _⟩ := List.getElem?_eq_some_iff.mp b2
        have := List.getElem?_eq_none_iff.mp b1
        have := rl2.len
        rw [wipe_length, ← rl1.len] at this
        omega
    · have hap := ha.nilO
      subst hap
      exact h4w (fun i hi => rl1.noRef hp i (hi.from (ne i))) rfl hj
    · revert q1
      cases hL : lcLO ow t mc me ds (wipeV s ow) [] with
      | ok acc s' => exact fun q => q
      | err x s' => exact absurd hL (lcLO_noerr ds _ _ _ _)
      | bad => exact fun q => q
  · rw [if_neg ho] at q1
    exact False.elim q1
theorem so_lcO (hc : X.calm = true) (hN : X.N.Nodup) (hi : SI X W tg iter mi) (ok : BlkOk X.N X.env.scope scope own) (his : ∀ i ∈ is, i ∈ own.map (·.2))
    (hg : ∀ (s : Shared) (H : Hp) (C : Addr) (cl : List (Str × Addr)) (fp : List Addr), SG (X.blk s H scope (compEnvC scope cl C X.env) fp) tg is t)
    (ht : ∀ (s : Shared) (H : Hp) (C : Addr) (cl : List (Str × Addr)) (fp : List Addr), STs (X.blk s H scope (compEnvC scope cl C X.env) fp) WF ifs mc)
    (he : ∀ (s : Shared) (H : Hp) (C : Addr) (cl : List (Str × Addr)) (fp : List Addr), SO (X.blk s H scope (compEnvC scope cl C X.env) fp) WF elt me) (hs : ∀ x, foldedSetIterable iter X.env x = pure x := by intro _; rfl) :
    SO X W (.ListComp elt [⟨tg, iter, ifs, 0⟩] scope pos) (mLcO (own.map (·.2)) mi t mc me) := pe_imp (pe_lc hc hN hi ok hg (tt := tT X.K X.mx WF mc) (te := tO X.K X.mx WF me) (fun s H C cl fp => by have z := ht s H C cl fp; unfold STs at z; rw [blk_mx hc] at z; exact z) (fun s H C cl fp => by have z := he s H C cl fp; unfold SO at z; rw [blk_mx hc] at z; exact z) hs) fun σ H Q q => by
  exact lc_readO his q
theorem lc_setO {i : Nat} {y : Str} {py : Pos} {spos : Pos} (h : PS X (.Assign [.Name y py] (.ListComp elt [⟨tg, iter, ifs, 0⟩] scope pos) spos) (tAsg (tLc (tG X.K X.mx W RelI mi) (tGt X.K is t) (tT X.K X.mx WF mc) (tO X.K X.mx WF me) (own.map (·.2))) (gName i)))
    (his : ∀ i ∈ is, i ∈ own.map (·.2)) : SS X W (.Assign [.Name y py] (.ListComp elt [⟨tg, iter, ifs, 0⟩] scope pos) spos) (mAsgO i (mLcO (own.map (·.2)) mi t mc me)) := ps_imp h fun Dn σ H q => by
  obtain ⟨g, F, sv, hK, rl, q⟩ := q
  refine lc_readO (X := X) (W := W) his ⟨g, F, sv, hK, rl, PostS.bind (H := H) q fun d s v F1 H1 e1 rl1 rp1 h1 => ?_⟩
  obtain ⟨p, rfl, nf, o, nr⟩ := rp1
  exact h1 _ F1 H1 (Same.refl F1) (rl1.setOw i nf o nr)
end
/-- these hold nothing of their own -/
theorem fl_bind {α : Type} {m : M α} {k : α → SV → R D} (h : ∀ a s d s', k a s = .ok d s' → ∀ e, d ≠ .deep e) : Fl (fun sv => (m sv).bind k) := ⟨fun sv d s hh e => by
  have hh : (m sv).bind k = .ok d s := hh
  cases hm : m sv with
  | ok a s1 => rw [hm] at hh; exact h a s1 d s hh e
  | err x s1 => rw [hm] at hh; cases hh
  | bad => rw [hm] at hh; cases hh⟩
theorem fl_call1 {f : List D → Option D} {ms : M (List D)} (hf : ∀ ds d, f ds = some d → ∀ e, d ≠ .deep e) : Fl (mCall1 f ms) := fl_bind fun ds s d s' h e => by
  cases hk : f ds with
  | none => rw [hk] at h; cases h
  | some r => rw [hk] at h; cases h; exact hf ds _ hk e
instance fl_sorted {ms : M (List D)} : Fl (mCall1 dSorted ms) := fl_call1 fun ds d h e => by
  unfold dSorted at h
  split at h
  · split at h
    · split at h
      · cases h; exact fun z => nomatch z
      · cases h
    · cases h
  · cases h
instance fl_list {ms : M (List D)} : Fl (mCall1 dList ms) := fl_call1 fun ds d h e => by
  unfold dList at h
  split at h <;> first | (cases h; exact fun z => nomatch z) | cases h
instance fl_cat {ma mb : M D} : Fl (m2 dCat ma mb) := fl_m2 fun a b d h e => by
  unfold dCat at h
  split at h
  · split at h
    · cases h; exact fun z => nomatch z
    · cases h
  · cases h
instance fl_lc {own : List Nat} {mi : M (List D)} {t : MT} {mc : M Bool} {me : M D} : Fl (mLc own mi t mc me) := fl_bind fun ds s d s' h e => by
  split at h
  · cases hm : lcL own t mc me ds (wipeV s own) [] with
    | ok acc s1 => rw [hm] at h; cases h; exact fun z => nomatch z
    | err x s1 => rw [hm] at h; cases h
    | bad => rw [hm] at h; cases h
  · cases h
instance fl_lrg {m : M D} : Fl (mListRg m) := ⟨fun sv d s h e => by
  unfold mListRg at h
  cases hm : m sv with
  | ok a s1 =>
    rw [hm] at h
    dsimp only [R.bind] at h
    split at h
    · split at h
      · cases h; exact fun z => nomatch z
      · cases h
    · cases h
  | err x s1 => rw [hm] at h; cases h
  | bad => rw [hm] at h; cases h⟩
end VM

set_option Elab.async false
set_option linter.all false
set_option autoImplicit false
set_option maxRecDepth 100000
set_option maxHeartbeats 400000
namespace VM
open PySem PySem.Spec PyProof.Rows L2

/-! ### evaluation in steps -/
/-- a sign that what `x` names stays as it stands while the rest is worked out -/
structure Ph {α : Type} (x : α) : Type where
  mk ::
def kO (o : O) (k : MS) (_ : Ph k := ⟨⟩) : O := match o with
  | .nx s => k s
  | o => o
def bO {α : Type} (r : R α) (k : α → SV → O) (_ : Ph k := ⟨⟩) : O := match r with
  | .ok a s => k a s
  | .err x s => .err x s
  | .bad => .bad
def cO (c : Bool) (a b : MS) (s : SV) (_ : Ph (a, b, s) := ⟨⟩) : O := if c = true then a s else b s
def oR (o : Option D) (s : SV) : R D := match o with
  | some d => .ok d s
  | none => .bad
def aR (c : Bool) (r : R Bool) (s : SV) : R Bool := if c = true then r else .ok false s
def rR (c : Bool) (r : R Bool) (s : SV) : R Bool := if c = true then .ok true s else r
def aV (c : Bool) (r : R D) (s : SV) : R D := if c = true then r else .ok (.bl false) s
def rV (c : Bool) (r : R D) (s : SV) : R D := if c = true then .ok (.bl true) s else r
def iR (c : Bool) (r r' : R D) : R D := if c = true then r else r'
def wR {α : Type} (ok : α → Bool) (r : R α) (s : SV) : R α := match r with
  | .ok a _ => if ok a = true then .ok a s else .bad
  | _ => .bad
def R.bd {α β : Type} (r : R α) (f : α → SV → R β) (_ : Ph f := ⟨⟩) : R β := r.bind f
def fR (n : Nat) (fn : Fn) (ds : List D) (s : SV) (_ : Ph s := ⟨⟩) : R D := if ds.length = n then frR (fn ds) s else .bad
def gIf (p : Prop) [Decidable p] (o : O) : O := if p then o else .bad
def gR {α : Type} (p : Prop) [Decidable p] (o : R α) : R α := if p then o else .bad
section
variable (sv s : SV) (i j n : Nat) (d e : D) (m ma mb : M D) (t u : M Bool) (ms mk : M (List D)) (a b k k2 : MS) (o : O)
theorem q_seq : mSeq a b s = kO (a s) b := (rfl)
theorem q_skip : mSkip s = .nx s := (rfl)
theorem q_knx : kO (.nx s) k = k s := (rfl)
theorem q_krt : kO (.rt d s) k = .rt d s := (rfl)
theorem q_kro : kO (.ro d s) k = .ro d s := (rfl)
theorem q_kbk : kO (.bk s) k = .bk s := (rfl)
theorem q_kct : kO (.ct s) k = .ct s := (rfl)
theorem q_ker (x : Exn) : kO (.err x s) k = .err x s := (rfl)
theorem q_kk : kO (kO o k) k2 = kO o (mSeq k k2) := by cases o <;> rfl
theorem q_bind {α : Type} (m : M α) (f : α → SV → O) : mBind m f s = bO (m s) f := by
  unfold mBind bO
  cases m s <;> rfl
theorem q_bok {α : Type} (x : α) (f : α → SV → O) : bO (.ok x s) f = f x s := (rfl)
theorem q_ber {α : Type} (x : Exn) (f : α → SV → O) : bO (.err x s) f = .err x s := (rfl)
theorem q_drop : mDrop m s = bO (m s) (fun _ s => .nx s) := q_bind s m _
theorem q_ret : mRet m s = bO (m s) (fun d s => .rt d s) := q_bind s m _
theorem q_reto : mRetO m s = bO (m s) (fun d s => .ro d s) := q_bind s m _
theorem q_ifs : mIfS t a b s = bO (t s) (fun c s => cO c a b s) := q_bind s t _
theorem q_ct : cO true a b s = a s := (rfl)
theorem q_cf : cO false a b s = b s := (rfl)
theorem q_asg : mAsg i m s = bO (m s) (fun d s => .nx (s.set i (.pl d))) := q_bind s m _
theorem q_asgo : mAsgO i m s = bO (m s) (fun d s => .nx (s.set i (.ow d))) := q_bind s m _
theorem q_asgt (g : MT) : mAsgT g m s = bO (m s) (fun d s => match g d s with
  | some s' => .nx s'
  | none => .bad) := q_bind s m _
theorem q_rok {α β : Type} (x : α) (f : α → SV → R β) : (R.ok x s).bd f = f x s := (rfl)
theorem q_rer {α β : Type} (x : Exn) (f : α → SV → R β) : (R.err x s : R α).bd f = .err x s := (rfl)
theorem q_c : mC d s = .ok d s := (rfl)
theorem q_rd : mRd i s = match s[i]? with
  | some (.pl d) => .ok d s
  | _ => .bad := (rfl)
theorem q_mv : mMv i s = match s[i]? with
  | some (.pl d) => .ok d s
  | some (.ow d) => .ok (fz d) (s.set i (.pl (fz d)))
  | _ => .bad := (rfl)
theorem q_tk : mTk i s = match s[i]? with
  | some (.ow d) => .ok d (s.set i .un)
  | _ => .bad := (rfl)
theorem q_fz : mFz m s = (m s).bd fun d s => .ok (fz d) s := (rfl)
theorem q_2 (f : D → D → Option D) : m2 f ma mb s = (ma s).bd fun a s1 => (mb s1).bd fun b s2 => oR (f a b) s2 := (rfl)
theorem q_1 (f : D → Option D) : m1 f m s = (m s).bd fun a s1 => oR (f a) s1 := (rfl)
theorem q_os : oR (some d) s = .ok d s := (rfl)
theorem q_b : mB m s = (m s).bd fun d s => match d with
  | .bl b => .ok b s
  | _ => .bad := (rfl)
theorem q_not : mNot t s = (t s).bd fun b s => .ok (!b) s := (rfl)
theorem q_and : mAnd t u s = (t s).bd fun b s => aR b (u s) s := (rfl)
theorem q_or : mOr t u s = (t s).bd fun b s => rR b (u s) s := (rfl)
theorem q_at (r : R Bool) : aR true r s = r := (rfl)
theorem q_af (r : R Bool) : aR false r s = .ok false s := (rfl)
theorem q_ao (c c' : Bool) : aR c (.ok c' s) s = .ok (c && c') s := by cases c <;> rfl
theorem q_rt (r : R Bool) : rR true r s = .ok true s := (rfl)
theorem q_rf (r : R Bool) : rR false r s = r := (rfl)
theorem q_ro (c c' : Bool) : rR c (.ok c' s) s = .ok (c || c') s := by cases c <;> rfl
theorem q_andv : mAndV ma mb s = (ma s).bd fun d s => match d with
  | .bl c => aV c (mb s) s
  | _ => .bad := (rfl)
theorem q_orv : mOrV ma mb s = (ma s).bd fun d s => match d with
  | .bl c => rV c (mb s) s
  | _ => .bad := (rfl)
theorem q_avt (r : R D) : aV true r s = r := (rfl)
theorem q_avf (r : R D) : aV false r s = .ok (.bl false) s := (rfl)
theorem q_avo (c c' : Bool) : aV c (.ok (.bl c') s) s = .ok (.bl (c && c')) s := by cases c <;> rfl
theorem q_rvt (r : R D) : rV true r s = .ok (.bl true) s := (rfl)
theorem q_rvf (r : R D) : rV false r s = r := (rfl)
theorem q_rvo (c c' : Bool) : rV c (.ok (.bl c') s) s = .ok (.bl (c || c')) s := by cases c <;> rfl
theorem q_ife : mIf t ma mb s = (t s).bd fun b s => iR b (ma s) (mb s) := (rfl)
theorem q_it (r r' : R D) : iR true r r' = r := (rfl)
theorem q_if (r r' : R D) : iR false r r' = r' := (rfl)
theorem q_io (c : Bool) : iR c (.ok d s) (.ok e s) = .ok (if c = true then d else e) s := by cases c <;> rfl
theorem q_on : moN s = .ok none s := (rfl)
theorem q_oS : moS m s = (m s).bd fun d s => match d with
  | .int i => .ok (some i) s
  | _ => .bad := by
  unfold moS
  rfl
theorem q_sl (ml mh : MO) : mSl m ml mh s = (m s).bd fun d s1 => (ml s1).bd fun lo s2 => (mh s2).bd fun hi s3 => oR (dSl d lo hi) s3 := (rfl)
theorem q_nil : mNil s = .ok [] s := (rfl)
theorem q_cons : mCons m ms s = (m s).bd fun d s1 => (ms s1).bd fun ds s2 => .ok (d :: ds) s2 := (rfl)
theorem q_tup : mTup ms s = (ms s).bd fun ds s => gR (ds.length ≤ sizeLine) (.ok (.tup ds) s) := (rfl)
theorem q_lst : mLst ms s = (ms s).bd fun ds s => gR (ds.length ≤ sizeLine) (.ok (.lst ds) s) := (rfl)
theorem q_call1 (f : List D → Option D) : mCall1 f ms s = (ms s).bd fun ds s => oR (f ds) s := (rfl)
theorem q_call (fn : Fn) : mCall n fn [] ms s = (ms s).bd fun ds s => fR n fn ds s := by
  unfold mCall fR
  simp only [List.append_nil]
  rfl
theorem q_f0 (fn : Fn) : fR 0 fn [] s = frR (fn []) s := (rfl)
theorem q_f1 (fn : Fn) (x1 : D) : fR 1 fn [x1] s = frR (fn [x1]) s := (rfl)
theorem q_f2 (fn : Fn) (x1 x2 : D) : fR 2 fn [x1, x2] s = frR (fn [x1, x2]) s := (rfl)
theorem q_f3 (fn : Fn) (x1 x2 x3 : D) : fR 3 fn [x1, x2, x3] s = frR (fn [x1, x2, x3]) s := (rfl)
theorem q_f4 (fn : Fn) (x1 x2 x3 x4 : D) : fR 4 fn [x1, x2, x3, x4] s = frR (fn [x1, x2, x3, x4]) s := (rfl)
theorem q_f5 (fn : Fn) (x1 x2 x3 x4 x5 : D) : fR 5 fn [x1, x2, x3, x4, x5] s = frR (fn [x1, x2, x3, x4, x5]) s := (rfl)
theorem q_f6 (fn : Fn) (x1 x2 x3 x4 x5 x6 : D) : fR 6 fn [x1, x2, x3, x4, x5, x6] s = frR (fn [x1, x2, x3, x4, x5, x6]) s := (rfl)
theorem q_f7 (fn : Fn) (x1 x2 x3 x4 x5 x6 x7 : D) : fR 7 fn [x1, x2, x3, x4, x5, x6, x7] s = frR (fn [x1, x2, x3, x4, x5, x6, x7]) s := (rfl)
theorem q_callk (fn : Fn) (g : List D → List D → List D) : mCallK n fn g ms mk s = (ms s).bd fun as s1 => (mk s1).bd fun bs s2 => fR n fn (g as bs) s2 := (rfl)
theorem q_frok : frR (.ok d none) s = .ok d s := (rfl)
theorem q_frer (x : Exn) : frR (.err x none) s = .err x s := (rfl)
theorem q_calli (fn : Fn) (mi : M (List D × Nat × List D)) (kk : Nat) : mCallI n fn kk [] mi s = (mi s).bd fun a s => match s[a.2.1]? with
  | some sl => (match slD sl with
    | some d => gR (a.1.length = kk ∧ (a.1 ++ d :: a.2.2).length = n) (frI (fn (a.1 ++ d :: a.2.2)) a.2.1 s)
    | none => .bad)
  | none => .bad := by
  unfold mCallI gR
  simp only [List.append_nil]
  rfl
theorem q_mihere : miHere i ms s = match s[i]? with
  | some (.ow _) => (ms s).bd fun ds s => .ok ([], i, ds) s
  | some (.io _ _) => (ms s).bd fun ds s => .ok ([], i, ds) s
  | _ => .bad := (rfl)
theorem q_micons (mi : M (List D × Nat × List D)) : miCons m mi s = (m s).bd fun d s1 => (mi s1).bd fun a s2 => .ok (d :: a.1, a.2.1, a.2.2) s2 := (rfl)
theorem q_fri (x : D) : frI (.ok d (some x)) i s = match s[i]? with
  | some sl => (match reSl sl x with
    | some sl' => .ok d (s.set i sl')
    | none => .bad)
  | none => .bad := (rfl)
theorem q_sdo : slD (.ow d) = some d := (rfl)
theorem q_sdi : slD (.io i d) = some d := (rfl)
theorem q_rso : reSl (.ow d) e = some (.ow e) := (rfl)
theorem q_rsi : reSl (.io i d) e = some (.io i e) := (rfl)
theorem q_app : mApp i m s = match ownL s i with
  | none => .bad
  | some _ => bO (m s) (fun d s => match ownL s i with
    | some (_, xs) => gIf (xs.length < sizeLine) (putL s i (xs ++ [d]))
    | none => .bad) := by
  unfold mApp gIf
  simp only [q_bind]
  all_goals rfl
theorem q_ext : mExt i m s = match ownL s i with
  | none => .bad
  | some _ => bO (m s) (fun d s => match ownL s i, d with
    | some (_, xs), .lst ys => gIf (xs.length + ys.length ≤ sizeLine) (putL s i (xs ++ ys))
    | _, _ => .bad) := by
  unfold mExt gIf
  simp only [q_bind]
  all_goals rfl
theorem q_ext2 : mExt2 i m s = match ownL s i with
  | none => .bad
  | some _ => bO (m s) (fun d s => match ownL s i, d with
    | some (_, xs), .lst ys => gIf (xs.length + ys.length ≤ sizeLine) (putL s i (xs ++ ys))
    | some (_, xs), .tup ys => gIf (xs.length + ys.length ≤ sizeLine) (putL s i (xs ++ ys))
    | _, _ => .bad) := by
  unfold mExt2 gIf
  simp only [q_bind]
  all_goals rfl
theorem q_put : mPut i m ma s = bO (m s) (fun d s1 => match ownL s1 i with
  | none => .bad
  | some _ => bO (ma s1) (fun k s2 => match k, ownL s2 i with
    | .int z, some (_, xs) => (match ixN xs.length z with
      | some j => putL s2 i (xs.set j d)
      | none => .bad)
    | _, _ => .bad)) := by
  unfold mPut
  rw [q_bind]
  refine congrArg (bO (m s)) (funext fun d => funext fun s1 => ?_)
  cases ownL s1 i with
  | none => rfl
  | some z => dsimp only; rw [q_bind]; all_goals rfl
theorem q_pop : mPop i s = match ownL s i with
  | some (_, xs) => (match xs[xs.length - 1]? with
    | some d => (match putL s i xs.dropLast with
      | .nx s' => .ok d s'
      | _ => .bad)
    | none => .bad)
  | none => .bad := (rfl)
theorem q_with {α : Type} (ok : α → Bool) (m : M α) : mWith ok i m s = match s[i]? with
  | some (.ow d) => wR ok (m (lend i (fz d) s)) s
  | some (.io _ d) => wR ok (m (lend i (fz d) s)) s
  | some _ => m s
  | none => .bad := by
  unfold mWith
  cases h : s[i]? with
  | none => rfl
  | some s => cases s <;> rfl
theorem q_wok {α : Type} (ok : α → Bool) (x : α) (s' : SV) : wR ok (.ok x s') s = gR (ok x = true) (.ok x s) := (rfl)
theorem q_for (mi : M (List D)) (g : MT) : mFor mi g b s = bO (mi s) (fun ds s => forL g b ds s) := q_bind s mi _
theorem q_enum : mEnum ms s = (ms s).bd fun ds s => match ds with
  | [.tup xs] => .ok (enumD 0 xs) s
  | [.lst xs] => .ok (enumD 0 xs) s
  | [.fl xs] => .ok (enumD 0 xs) s
  | _ => .bad := (rfl)
theorem q_items : mItems m s = (m s).bd fun d s => match itemsD d with
  | some ds => .ok ds s
  | none => .bad := by
  unfold mItems
  rfl
theorem q_raise (c : Str) (fs : List Str) : mRaise c fs ms s = bO (ms s) (fun ds s => gIf (ds.length = fs.length) (.err ⟨c, (fs.zip ds).reverse⟩ s)) := q_bind s ms _
end
theorem q_g {p : Prop} [Decidable p] {o : O} (h : p) : gIf p o = o := if_pos h
theorem q_gt {o : O} : gIf True o = o := if_pos trivial
theorem q_grt {α : Type} {o : R α} : gR True o = o := if_pos trivial
theorem q_lt {n : Nat} (h : n < 16777216) : (n < sizeLine) = True := eq_true (by rw [sizeLine_eq]; exact h)
theorem q_le {n : Nat} (h : n ≤ 16777216) : (n ≤ sizeLine) = True := eq_true (by rw [sizeLine_eq]; exact h)
theorem rng_a {z : Int} (h0 : 0 ≤ z) (h1 : z ≤ 1000000000) : -(2 ^ 62) ≤ z ∧ z < 2 ^ 62 := by constructor <;> omega
structure RgB (z : Int) : Prop where
  h0 : -1000000000 ≤ z
  h1 : z ≤ 1000000000
def rg1 (j : Int) (s : SV) : R (List D) := if -(2 ^ 62) ≤ j ∧ j < 2 ^ 62 then .ok (rngs 0 j.toNat) s else .bad
def rg2 (i j : Int) (s : SV) : R (List D) := if -(2 ^ 62) ≤ i ∧ i < 2 ^ 62 ∧ -(2 ^ 62) ≤ j ∧ j < 2 ^ 62 then .ok (rngs i (j - i).toNat) s else .bad
theorem q_rng1 (ms : M (List D)) (s : SV) : mRng1 ms s = (ms s).bd fun ds s => match ds with
  | [.int j] => rg1 j s
  | _ => .bad := (rfl)
theorem q_rng2 (ms : M (List D)) (s : SV) : mRng2 ms s = (ms s).bd fun ds s => match ds with
  | [.int i, .int j] => rg2 i j s
  | _ => .bad := (rfl)
def lrg (d : D) (s : SV) : R D := match d with
  | .int n => if 0 ≤ n ∧ n ≤ 16777216 then .ok (.lst (rngs 0 n.toNat)) s else .bad
  | _ => .bad
theorem q_lrg (m : M D) (s : SV) : mListRg m s = (m s).bd lrg := rfl
theorem q_lrgi {n : Nat} {s : SV} (h : n ≤ 16777216) : lrg (.int (n : Int)) s = .ok (.lst (rngs 0 n)) s := by
  unfold lrg
  dsimp only
  rw [if_pos (by omega), Int.toNat_natCast]
theorem q_rg1 {j : Int} {s : SV} (h0 : -1000000000 ≤ j) (h1 : j ≤ 1000000000) : rg1 j s = .ok (rngs 0 j.toNat) s := if_pos (by constructor <;> omega)
theorem q_rg2 {i j : Int} {s : SV} (h0 : -1000000000 ≤ i) (h1 : i ≤ 1000000000) (h2 : -1000000000 ≤ j) (h3 : j ≤ 1000000000) : rg2 i j s = .ok (rngs i (j - i).toNat) s := if_pos (by refine ⟨?_, ?_, ?_, ?_⟩ <;> omega)

/-! ### operations -/
section
variable (xs ys : List D) (i j : Int) (a b : Str) (c e : Bool)
theorem q_add : dAdd (.int i) (.int j) = some (.int (i + j)) := (rfl)
theorem q_adds (h : a.length + b.length ≤ 16777216) : dAdd (.str a) (.str b) = some (.str (a ++ b)) := if_pos (by rw [sizeLine_eq]; exact h)
theorem q_addl (h : xs.length + ys.length ≤ 16777216) : dAdd (.lst xs) (.lst ys) = some (.lst (xs ++ ys)) := if_pos (by rw [sizeLine_eq]; exact h)
theorem q_addt (h : xs.length + ys.length ≤ 16777216) : dAdd (.tup xs) (.tup ys) = some (.tup (xs ++ ys)) := if_pos (by rw [sizeLine_eq]; exact h)
theorem q_cat (h : xs.length + ys.length ≤ 16777216) : dCat (.lst xs) (.lst ys) = some (.lst (xs ++ ys)) := if_pos (by rw [sizeLine_eq]; exact h)
theorem q_sub : dI2 cSub (.int i) (.int j) = some (.int (i - j)) := (rfl)
theorem q_mulr (h : -18446744073709551616 < j) (h' : j < 18446744073709551616) : dI2 cMul (.int i) (.int j) = some (.int (i * j)) := if_pos (.inr ⟨h, h'⟩)
theorem q_mull (h : -18446744073709551616 < i) (h' : i < 18446744073709551616) : dI2 cMul (.int i) (.int j) = some (.int (i * j)) := if_pos (.inl ⟨h, h'⟩)
theorem q_div (h : 0 < j) (h' : j < 1073741824) : dI2 cDiv (.int i) (.int j) = some (.int (i / j)) := if_pos ⟨h, h'⟩
theorem q_mod (h : 0 < j) : dI2 cMod (.int i) (.int j) = some (.int (i % j)) := if_pos h
theorem q_p18 : dI2 cPow (.int 10) (.int 18) = some (.int 1000000000000000000) := (rfl)
theorem q_p12 : dI2 cPow (.int 10) (.int 12) = some (.int 1000000000000) := (rfl)
theorem q_cmplt : dCmp ciLt csLt (.int i) (.int j) = some (.bl (decide (i < j))) := (rfl)
theorem q_cmple : dCI ciLe (.int i) (.int j) = some (.bl (decide (i ≤ j))) := (rfl)
theorem q_cmpgt : dCI ciGt (.int i) (.int j) = some (.bl (decide (j < i))) := (rfl)
theorem q_cmpge : dCI ciGe (.int i) (.int j) = some (.bl (decide (j ≤ i))) := (rfl)
theorem q_eqi : dEq (.int i) (.int j) = some (.bl (decide (i = j))) := (rfl)
theorem q_eqs : dEq (.str a) (.str b) = some (.bl (decide (a = b))) := (rfl)
theorem q_eqb : dEq (.bl c) (.bl e) = some (.bl (decide (c = e))) := (rfl)
theorem q_nei : dNe (.int i) (.int j) = some (.bl (!decide (i = j))) := (rfl)
theorem q_nes : dNe (.str a) (.str b) = some (.bl (!decide (a = b))) := (rfl)
theorem q_isn (d : D) : dIs d .non = some (.bl (isNon d)) := by cases d <;> rfl
theorem q_isnn (d : D) : dIsNot d .non = some (.bl (!isNon d)) := by cases d <;> rfl
theorem q_isb : dIs (.bl c) (.bl e) = some (.bl (decide (c = e))) := (rfl)
theorem q_isnb : dIsNot (.bl c) (.bl e) = some (.bl (!decide (c = e))) := (rfl)
theorem q_neg : dNeg (.int i) = some (.int (-i)) := (rfl)
theorem q_dnot : dNot (.bl c) = some (.bl (!c)) := (rfl)
theorem q_lenl : dLen [.lst xs] = some (.int xs.length) := (rfl)
theorem q_lent : dLen [.tup xs] = some (.int xs.length) := (rfl)
theorem q_lenf : dLen [.fl xs] = some (.int xs.length) := (rfl)
theorem q_lens (h : a.length ≤ 16777216) : dLen [.str a] = some (.int a.length) := if_pos (by rw [sizeLine_eq]; exact h)
theorem q_int : dInt [.int i] = some (.int i) := (rfl)
theorem q_intb : dInt [.bl c] = some (.int (if c = true then 1 else 0)) := (rfl)
theorem q_tupl : dTuple [.lst xs] = some (.tup xs) := (rfl)
theorem q_tupt : dTuple [.tup xs] = some (.tup xs) := (rfl)
theorem q_lstl : dList [.lst xs] = some (.lst xs) := (rfl)
theorem q_lstt : dList [.tup xs] = some (.lst xs) := (rfl)
theorem q_min : dMin2 [.int i, .int j] = some (.int (min i j)) := by
  show some (D.int (if j < i then j else i)) = _
  congr 2
  split <;> omega
theorem q_max : dMax2 [.int i, .int j] = some (.int (max i j)) := by
  show some (D.int (if j > i then j else i)) = _
  congr 2
  split <;> omega
theorem q_ixn {n : Nat} (h : 0 ≤ i) (h' : i < n) : ixN n i = some i.toNat := by
  unfold ixN
  rw [if_pos h, if_pos h']
theorem q_ixm {n : Nat} (h : i < 0) (h' : -(n : Int) ≤ i) : ixN n i = some (i + n).toNat := by
  unfold ixN
  rw [if_neg (by omega), if_pos h']
theorem atI_pos {α : Type} (zs : List α) {i : Int} (h : 0 ≤ i) : atI zs i = zs[i.toNat]? := by
  unfold atI ixN
  rw [if_pos h]
  by_cases hl : i < zs.length
  · rw [if_pos hl]; rfl
  · rw [if_neg hl, List.getElem?_eq_none (by omega)]; rfl
theorem q_ixl (h : 0 ≤ i) : dIx (.lst xs) (.int i) = xs[i.toNat]? := atI_pos xs h
theorem q_ixt (h : 0 ≤ i) : dIx (.tup xs) (.int i) = xs[i.toNat]? := atI_pos xs h
theorem q_ixf (h : 0 ≤ i) : dIx (.fl xs) (.int i) = xs[i.toNat]? := atI_pos xs h
theorem q_rep (h : 0 ≤ i) (h' : i ≤ 16777216) (d : D) : dRep (.lst [d]) (.int i) = some (.lst (List.replicate i.toNat d)) := by
  unfold dRep
  dsimp only
  rw [if_pos (by refine ⟨by omega, by omega, ?_⟩; rw [sizeLine_eq]; simp; omega)]
  congr 2
  simp
theorem q_isi_tt : isi "tuple" (.tup xs) = some (.bl true) := by
  show (kitB "tuple" "tuple").map D.bl = _
  rw [show kitB "tuple" "tuple" = some true by decide +kernel]
  rfl
theorem q_isi_ts : isi "tuple" (.str a) = some (.bl false) := by
  show (kitB "str" "tuple").map D.bl = _
  rw [show kitB "str" "tuple" = some false by decide +kernel]
  rfl
theorem q_isi_ti : isi "tuple" (.int i) = some (.bl false) := by
  show (kitB "int" "tuple").map D.bl = _
  rw [show kitB "int" "tuple" = some false by decide +kernel]
  rfl
theorem q_isi_ss : isi "str" (.str a) = some (.bl true) := by
  show (kitB "str" "str").map D.bl = _
  rw [show kitB "str" "str" = some true by decide +kernel]
  rfl
theorem q_isi_st : isi "str" (.tup xs) = some (.bl false) := by
  show (kitB "tuple" "str").map D.bl = _
  rw [show kitB "tuple" "str" = some false by decide +kernel]
  rfl
theorem q_isi_ii : isi "int" (.int i) = some (.bl true) := by
  show (kitB "int" "int").map D.bl = _
  rw [show kitB "int" "int" = some true by decide +kernel]
  rfl
theorem q_isi_it : isi "int" (.tup xs) = some (.bl false) := by
  show (kitB "tuple" "int").map D.bl = _
  rw [show kitB "tuple" "int" = some false by decide +kernel]
  rfl
theorem q_isi_is : isi "int" (.str a) = some (.bl false) := by
  show (kitB "str" "int").map D.bl = _
  rw [show kitB "str" "int" = some false by decide +kernel]
  rfl
theorem q_isi_bi : isi "bool" (.int i) = some (.bl false) := by
  show (kitB "int" "bool").map D.bl = _
  rw [show kitB "int" "bool" = some false by decide +kernel]
  rfl
theorem q_lfi : lfree (.int i) = true := (rfl)
theorem q_lfb : lfree (.bl c) = true := (rfl)
theorem q_lfs : lfree (.str a) = true := (rfl)
theorem q_lfn : lfree .non = true := (rfl)
theorem q_itt : itemsD (.tup xs) = some xs := (rfl)
theorem q_itl : itemsD (.lst xs) = some xs := (rfl)
theorem q_itf : itemsD (.fl xs) = some xs := (rfl)
theorem q_slt (lo hi : Option Int) : dSl (.tup xs) lo hi = some (.tup (cutD xs lo hi)) := (rfl)
theorem q_sll (lo hi : Option Int) : dSl (.lst xs) lo hi = some (.lst (cutD xs lo hi)) := (rfl)
theorem q_sls (lo hi : Option Int) (h : a.length ≤ 16777216) : dSl (.str a) lo hi = some (.str (cutS a lo hi)) := if_pos (by rw [sizeLine_eq]; exact h)
end

/-! ### what a statement comes to -/
structure Wp (o : O) (Q : O → Prop) (_ : Ph Q := ⟨⟩) : Prop where
  h : Q o
/-- the def's end -/
def RtQ (ro : Bool) (P : D → Prop) (E : Exn → Prop) : O → Prop
  | .nx _ => ro = false ∧ P .non
  | .rt d _ => ro = false ∧ P d
  | .ro d _ => ro = true ∧ P d
  | .err x _ => E x
  | _ => False
/-- a turn's end -/
def LpQ (N B : SV → Prop) (Q : O → Prop) : O → Prop
  | .nx s => N s
  | .ct s => N s
  | .bk s => B s
  | o => Q o
def NxQ (N : SV → Prop) (Q : O → Prop) : O → Prop
  | .nx s => N s
  | o => Q o
section
variable {N B : SV → Prop} {Q : O → Prop} {P : D → Prop} {E : Exn → Prop} {s : SV} {d : D} {x : Exn}
theorem w_lnx : Wp (.nx s) (LpQ N B Q) = N s := propext ⟨fun h => h.h, fun h => ⟨h⟩⟩
theorem w_lct : Wp (.ct s) (LpQ N B Q) = N s := propext ⟨fun h => h.h, fun h => ⟨h⟩⟩
theorem w_lbk : Wp (.bk s) (LpQ N B Q) = B s := propext ⟨fun h => h.h, fun h => ⟨h⟩⟩
theorem w_lrt : Wp (.rt d s) (LpQ N B Q) = Wp (.rt d s) Q := propext ⟨fun h => ⟨h.h⟩, fun h => ⟨h.h⟩⟩
theorem w_lro : Wp (.ro d s) (LpQ N B Q) = Wp (.ro d s) Q := propext ⟨fun h => ⟨h.h⟩, fun h => ⟨h.h⟩⟩
theorem w_ler : Wp (.err x s) (LpQ N B Q) = Wp (.err x s) Q := propext ⟨fun h => ⟨h.h⟩, fun h => ⟨h.h⟩⟩
theorem w_nnx : Wp (.nx s) (NxQ N Q) = N s := propext ⟨fun h => h.h, fun h => ⟨h⟩⟩
theorem w_nrt : Wp (.rt d s) (NxQ N Q) = Wp (.rt d s) Q := propext ⟨fun h => ⟨h.h⟩, fun h => ⟨h.h⟩⟩
theorem w_nro : Wp (.ro d s) (NxQ N Q) = Wp (.ro d s) Q := propext ⟨fun h => ⟨h.h⟩, fun h => ⟨h.h⟩⟩
theorem w_ner : Wp (.err x s) (NxQ N Q) = Wp (.err x s) Q := propext ⟨fun h => ⟨h.h⟩, fun h => ⟨h.h⟩⟩
theorem w_rnx : Wp (.nx s) (RtQ false P E) = P .non := propext ⟨fun h => h.h.2, fun h => ⟨rfl, h⟩⟩
theorem w_rrt : Wp (.rt d s) (RtQ false P E) = P d := propext ⟨fun h => h.h.2, fun h => ⟨rfl, h⟩⟩
theorem w_rro : Wp (.ro d s) (RtQ true P E) = P d := propext ⟨fun h => h.h.2, fun h => ⟨rfl, h⟩⟩
theorem w_rer {ro : Bool} : Wp (.err x s) (RtQ ro P E) = E x := propext ⟨fun h => h.h, fun h => ⟨h⟩⟩
end
/-- a def computes -/
structure Cmp (r : FR) (P : D → Prop) (E : Exn → Prop) : Prop where
  h : (∃ d, r = .ok d none ∧ P d) ∨ ∃ x, r = .err x none ∧ E x
theorem cmp_of {n : Nat} {ro : Bool} {body : MS} {ds : List D} {P : D → Prop} {E : Exn → Prop} (h : Wp (body (initA none 0 ds ++ List.replicate (n - ds.length) .un)) (RtQ ro P E)) : Cmp (fnOf n none ro body ds) P E := by
  obtain ⟨h⟩ := h
  unfold fnOf
  cases hb : body (initA none 0 ds ++ List.replicate (n - ds.length) .un) with
  | nx s => rw [hb] at h; obtain ⟨rfl, h⟩ := h; exact ⟨.inl ⟨_, rfl, h⟩⟩
  | rt d s => rw [hb] at h; obtain ⟨rfl, h⟩ := h; exact ⟨.inl ⟨_, rfl, h⟩⟩
  | ro d s => rw [hb] at h; obtain ⟨rfl, h⟩ := h; exact ⟨.inl ⟨_, rfl, h⟩⟩
  | err x s => rw [hb] at h; exact ⟨.inr ⟨_, rfl, h⟩⟩
  | bk s => rw [hb] at h; exact h.elim
  | ct s => rw [hb] at h; exact h.elim
  | bad => rw [hb] at h; exact h.elim
theorem Cmp.ok {r : FR} {P : D → Prop} (h : Cmp r P fun _ => False) : ∃ d, r = .ok d none ∧ P d := by
  rcases h.h with h | ⟨x, _, h⟩
  · exact h
  · exact h.elim
theorem Cmp.eq {r : FR} {d : D} (h : Cmp r (fun e => e = d) fun _ => False) : r = .ok d none := by
  obtain ⟨e, h1, rfl⟩ := h.ok
  exact h1
theorem Cmp.er {r : FR} {x : Exn} (h : Cmp r (fun _ => False) fun y => y = x) : r = .err x none := by
  rcases h.h with ⟨_, _, h⟩ | ⟨y, h1, rfl⟩
  · exact h.elim
  · exact h1
section
variable {a b k : MS} {s : SV} {o : O} {Q : O → Prop} {c : Bool}
theorem w_if (h1 : c = true → Wp (a s) Q) (h2 : c = false → Wp (b s) Q) : Wp (cO c a b s) Q := by
  cases c with
  | true => exact h1 rfl
  | false => exact h2 rfl
theorem w_kif (h1 : c = true → Wp (kO (a s) k) Q) (h2 : c = false → Wp (kO (b s) k) Q) : Wp (kO (cO c a b s) k) Q := by
  cases c with
  | true => exact h1 rfl
  | false => exact h2 rfl
/-- what lies ahead, then the rest -/
theorem w_k (P : SV → Prop) (h : Wp o (NxQ P Q)) (hk : ∀ s, P s → Wp (k s) Q) : Wp (kO o k) Q := by
  obtain ⟨h⟩ := h
  cases o with
  | nx s => exact hk s h
  | rt d s => exact ⟨h⟩
  | ro d s => exact ⟨h⟩
  | bk s => exact ⟨h⟩
  | ct s => exact ⟨h⟩
  | err x s => exact ⟨h⟩
  | bad => exact ⟨h⟩
def Tn (t : MT) (b : MS) (d : D) (s : SV) (Q : O → Prop) : Prop := match t d s with
  | some s1 => Wp (b s1) Q
  | none => False
theorem w_tn {i : Nat} {d : D} : Tn (mtN i) b d s Q = Wp (b (s.set i (.pl d))) Q := rfl
theorem w_tt {i j : Nat} {x y : D} : Tn (mtTup 2 (mtCons (mtN i) (mtCons (mtN j) mtNil))) b (.tup [x, y]) s Q = Wp (b ((s.set i (.pl x)).set j (.pl y))) Q := rfl
theorem w_tt3 {i j l : Nat} {x y z : D} : Tn (mtTup 3 (mtCons (mtN i) (mtCons (mtN j) (mtCons (mtN l) mtNil)))) b (.tup [x, y, z]) s Q = Wp (b (((s.set i (.pl x)).set j (.pl y)).set l (.pl z))) Q := rfl
theorem forL_w {t : MT} {Y : Type} {S : Y → SV} {I : Nat → Y → Prop} {n : Nat} : ∀ (ds : List D) (i : Nat) (y : Y), I i y → n = i + ds.length → (∀ j d y, ds[j]? = some d → I (i + j) y → Tn t b d (S y) (LpQ (fun s' => ∃ y', s' = S y' ∧ I (i + j + 1) y') (fun s' => Wp (k s') Q) Q)) →
    (∀ y, I n y → Wp (k (S y)) Q) → Wp (kO (forL t b ds (S y)) k) Q
  | [], i, y, h0, hn, _, hq => hq y (by rw [hn]; exact h0)
  | d :: ds, i, y, h0, hn, hs, hq => by
    have h := hs 0 d y rfl h0
    unfold Tn at h
    unfold forL
    cases ht : t d (S y) with
    | none => rw [ht] at h; exact h.elim
    | some s1 =>
      rw [ht] at h
      dsimp only at h ⊢
      obtain ⟨h⟩ := h
      have go : ∀ y', I (i + 1) y' → Wp (kO (forL t b ds (S y')) k) Q := fun y' h' => forL_w ds (i + 1) y' h' (by simp at hn; omega) (fun j d' y2 hd h2 => by
        have e : i + 1 + j = i + (j + 1) := by omega
        rw [e] at h2 ⊢
        exact hs (j + 1) d' y2 hd h2) hq
      cases hb : b s1 with
      | nx s2 => rw [hb] at h; obtain ⟨y', rfl, h⟩ := h; exact go y' h
      | ct s2 => rw [hb] at h; obtain ⟨y', rfl, h⟩ := h; exact go y' h
      | bk s2 => rw [hb] at h; exact h
      | rt d s2 => rw [hb] at h; exact ⟨h⟩
      | ro d s2 => rw [hb] at h; exact ⟨h⟩
      | err x s2 => rw [hb] at h; exact ⟨h⟩
      | bad => rw [hb] at h; exact ⟨h⟩
/-- a for: S tells the frame by what is carried, I what holds ahead of turn i -/
theorem w_for {t : MT} {Y : Type} {s0 : SV} (S : Y → SV) (I : Nat → Y → Prop) (y : Y) {ds : List D} (e0 : s0 = S y) (h0 : I 0 y) (hs : ∀ j d y, ds[j]? = some d → I j y → Tn t b d (S y) (LpQ (fun s' => ∃ y', s' = S y' ∧ I (j + 1) y') (fun s' => Wp (k s') Q) Q))
    (hq : ∀ y, I ds.length y → Wp (k (S y)) Q) : Wp (kO (forL t b ds s0) k) Q := e0 ▸
  forL_w (n := ds.length) ds 0 y h0 (by omega) (fun j d y hd h => by rw [Nat.zero_add] at h ⊢; exact hs j d y hd h) hq
theorem w_end (h : Wp (kO o mSkip) Q) : Wp o Q := by
  cases o <;> exact h
end
theorem rngs_at {lo : Int} {n j : Nat} {d : D} (h : (rngs lo n)[j]? = some d) : j < n ∧ d = .int (lo + j) := by
  unfold rngs at h
  rw [List.getElem?_map] at h
  obtain ⟨k, h1, h2⟩ := Option.map_eq_some_iff.mp h
  obtain ⟨h3, h4⟩ := List.getElem?_eq_some_iff.mp h1
  simp at h3 h4
  subst h4
  exact ⟨h3, h2.symm⟩
theorem rngs_length (lo : Int) (n : Nat) : (rngs lo n).length = n := by simp [rngs]

/-! ### comprehensions -/
theorem lcL_fm {α : Type} {own : List Nat} {t : MT} {mc : M Bool} {me : M D} {w : SV} {enc f : α → D} {p : α → Bool} : ∀ (xs : List α) (acc : List D), acc.length + xs.length ≤ 16777216 →
    (∀ x ∈ xs, ∃ s1, t (enc x) w = some s1 ∧ mc s1 = .ok (p x) s1 ∧ (p x = true → me s1 = .ok (f x) s1) ∧ wipeV s1 own = w) → lcL own t mc me (xs.map enc) w acc = .ok (acc ++ (xs.filter p).map f) w
  | [], acc, _, _ => by simp [lcL]
  | x :: xs, acc, hl, h => by
    obtain ⟨s1, h1, h2, h3, h4⟩ := h x List.mem_cons_self
    rw [List.map_cons]
    unfold lcL
    rw [h1]
    dsimp only
    rw [h2]
    have hl' : acc.length + (xs.length + 1) ≤ 16777216 := hl
    cases hp : p x with
    | false =>
      dsimp only
      rw [h4, lcL_fm xs acc (by omega) fun y hy => h y (List.mem_cons_of_mem _ hy)]
      simp [hp]
    | true =>
      dsimp only
      rw [h3 hp]
      dsimp only
      rw [if_pos (by rw [sizeLine_eq]; omega), h4, lcL_fm xs _ (by simp; omega) fun y hy => h y (List.mem_cons_of_mem _ hy)]
      simp [hp]
theorem restV_self {own : List Nat} {s : SV} : restV own s (wipeV s own) = s := by
  apply List.ext_getElem?
  intro j
  by_cases hj : j < s.length
  · have hl : j < (restV own s (wipeV s own)).length := by rw [restV_len, wipeV_len]; exact hj
    have e : (restV own s (wipeV s own))[j]? = some (restV own s (wipeV s own))[j] := List.getElem?_eq_getElem hl
    rcases restV_get own s (wipeV s own) j _ e with ⟨h1, h2⟩ | ⟨h1, h2⟩ | ⟨h1, h2⟩
    · rw [e, ← h2, wipeV_get s j own h1]
    · rw [e, h2]
    · exact absurd (List.getElem?_eq_none_iff.mp h1) (by omega)
  · rw [List.getElem?_eq_none (by rw [restV_len, wipeV_len]; omega), List.getElem?_eq_none (by omega)]
/-- [f x for x in xs if p x] -/
theorem lc_of {α : Type} {own : List Nat} {mi : M (List D)} {t : MT} {mc : M Bool} {me : M D} {s : SV} (xs : List α) (enc f : α → D) (p : α → Bool) (hi : mi s = .ok (xs.map enc) s) (ho : ownOk own s = true) (hl : xs.length ≤ 16777216)
    (h : ∀ x ∈ xs, ∃ s1, t (enc x) (wipeV s own) = some s1 ∧ mc s1 = .ok (p x) s1 ∧ (p x = true → me s1 = .ok (f x) s1) ∧ wipeV s1 own = wipeV s own) : mLc own mi t mc me s = .ok (D.lst ((xs.filter p).map f)) s := by
  unfold mLc
  rw [hi]
  show (if ownOk own s = true then (lcL own t mc me (xs.map enc) (wipeV s own) []).bd fun acc s' => R.ok (D.lst acc) (restV own s s') else .bad) = _
  rw [if_pos ho, lcL_fm xs [] (by simpa using hl) h]
  show R.ok (D.lst ([] ++ (xs.filter p).map f)) (restV own s (wipeV s own)) = _
  rw [restV_self, List.nil_append]
/-- [f x for x in xs] -/
theorem lc_map {α : Type} {own : List Nat} {mi : M (List D)} {t : MT} {me : M D} {s : SV} (xs : List α) (enc f : α → D) (hi : mi s = .ok (xs.map enc) s) (ho : ownOk own s = true) (hl : xs.length ≤ 16777216)
    (h : ∀ x ∈ xs, ∃ s1, t (enc x) (wipeV s own) = some s1 ∧ me s1 = .ok (f x) s1 ∧ wipeV s1 own = wipeV s own) : mLc own mi t mYes me s = .ok (D.lst (xs.map f)) s := by
  have := lc_of (mc := mYes) xs enc f (fun _ => true) hi ho hl fun x hx => by
    obtain ⟨s1, h1, h2, h3⟩ := h x hx
    exact ⟨s1, h1, rfl, fun _ => h2, h3⟩
  rw [this]
  congr 3
  exact List.filter_eq_self.mpr fun _ _ => rfl

/-! ### slices -/
theorem q_cut {α : Type} (xs : List α) {a b : Int} (ha : 0 ≤ a) (hb : 0 ≤ b) : cutD xs (some a) (some b) = (xs.drop a.toNat).take (b.toNat - a.toNat) := by
  have h := cut_list xs a.toNat b.toNat
  rwa [Int.toNat_of_nonneg ha, Int.toNat_of_nonneg hb] at h
theorem q_cutf {α : Type} (xs : List α) {a : Int} (ha : 0 ≤ a) : cutD xs (some a) none = xs.drop a.toNat := by
  obtain ⟨n, rfl⟩ : ∃ n : Nat, a = n := ⟨a.toNat, (Int.toNat_of_nonneg ha).symm⟩
  unfold cutD
  rw [HT.sIx_nat, HT.sIx_none, Int.toNat_natCast]
  rcases Nat.le_total n xs.length with h | h
  · rw [Nat.min_eq_left h, List.take_of_length_le (by simp)]
  · rw [Nat.min_eq_right h, List.drop_of_length_le h, List.drop_of_length_le (Nat.le_refl _)]
    simp
theorem q_cutt {α : Type} (xs : List α) {b : Int} (hb : 0 ≤ b) : cutD xs none (some b) = xs.take b.toNat := by
  obtain ⟨n, rfl⟩ : ∃ n : Nat, b = n := ⟨b.toNat, (Int.toNat_of_nonneg hb).symm⟩
  unfold cutD
  rw [HT.sIx_nat, HT.sIx_none, Int.toNat_natCast]
  rcases Nat.le_total n xs.length with h | h
  · rw [Nat.min_eq_left h]; simp
  · rw [Nat.min_eq_right h, List.take_of_length_le (by simp), List.take_of_length_le h]
    simp

/-! ### try, the exception in hand -/
def trO (top : Str) (ns : List Str) (x : Str) (i : Nat) (ms : MS) : O → O
  | .err e s => if e.c ∈ ns then (if isSub top e.c x = true then endEx i (ms (s.set i (.ex e))) else .err e s) else .bad
  | o => o
def trOo (top : Str) (ns : List Str) (x : Str) (ms : MS) : O → O
  | .err e s => if e.c ∈ ns then (if isSub top e.c x = true then endO (ms s) else .err e s) else .bad
  | o => o
section
variable {top x : Str} {ns : List Str} {i : Nat} {mb ms : MS} {s : SV} {e : Exn} {d : D}
theorem q_try : mTry top ns x i mb ms s = trO top ns x i ms (mb s) := by
  unfold mTry trO
  cases mb s <;> rfl
theorem q_tryo : mTryO top ns x mb ms s = trOo top ns x ms (mb s) := by
  unfold mTryO trOo
  cases mb s <;> rfl
theorem q_tnx : trO top ns x i ms (.nx s) = .nx s := (rfl)
theorem q_trt : trO top ns x i ms (.rt d s) = .rt d s := (rfl)
theorem q_tonx : trOo top ns x ms (.nx s) = .nx s := (rfl)
theorem q_tort : trOo top ns x ms (.rt d s) = .rt d s := (rfl)
theorem q_ter (h : e.c ∈ ns) (h2 : isSub top e.c x = true) : trO top ns x i ms (.err e s) = endEx i (ms (s.set i (.ex e))) := by
  unfold trO
  dsimp only
  rw [if_pos h, if_pos h2]
theorem q_toer (h : e.c ∈ ns) (h2 : isSub top e.c x = true) : trOo top ns x ms (.err e s) = endO (ms s) := by
  unfold trOo
  dsimp only
  rw [if_pos h, if_pos h2]
theorem q_tpass (h : e.c ∈ ns) (h2 : isSub top e.c x = false) : trO top ns x i ms (.err e s) = .err e s := by
  unfold trO
  dsimp only
  rw [if_pos h, if_neg (by rw [h2]; exact Bool.false_ne_true)]
theorem q_ert (h : noEx (s.set i .un) = true) : endEx i (.rt d s) = .rt d (s.set i .un) := if_pos h
theorem q_enx (h : noEx (s.set i .un) = true) : endEx i (.nx s) = .nx (s.set i .un) := if_pos h
theorem q_eort (h : noEx s = true) : endO (.rt d s) = .rt d s := if_pos h
theorem q_eonx (h : noEx s = true) : endO (.nx s) = .nx s := if_pos h
theorem q_exis {t : Str → Bool} (h : s[i]? = some (.ex e)) (hc : e.c ∈ ns) : mExIs ns i t s = .ok (.bl (t e.c)) s := by
  unfold mExIs
  rw [h]
  exact if_pos hc
theorem q_exf {f : Str} (h : s[i]? = some (.ex e)) (hc : e.c ∈ ns) (hd : e.fs.lookup f = some d) : mExF ns i f s = .ok d s := by
  unfold mExF
  rw [h]
  dsimp only
  rw [if_pos hc, hd]
end
/-! ### while -/
section
variable {b k : MS} {t : M Bool} {Q : O → Prop}
theorem w_while {Y : Type} {s0 : SV} (S : Y → SV) (I : Y → Prop) (m : Y → Nat) (y : Y) (e0 : s0 = S y) (hI : I y)
    (hs : ∀ y, I y → ∃ c, t (S y) = .ok c (S y) ∧ (c = true → Wp (b (S y)) (LpQ (fun s' => ∃ y', s' = S y' ∧ I y' ∧ m y' < m y) (fun s' => Wp (k s') Q) Q)) ∧ (c = false → Wp (k (S y)) Q)) : Wp (kO (mWhile t b s0) k) Q := by
  subst e0
  -- the run's end
  have key : ∀ (n : Nat) (y : Y), m y ≤ n → I y → (∀ y, I y → ∃ c, t (S y) = .ok c (S y) ∧ (c = true → Wp (b (S y)) (LpQ (fun s' => ∃ y', s' = S y' ∧ I y' ∧ m y' < m y) (fun s' => Wp (k s') Q) Q)) ∧ (c = false → Wp (k (S y)) Q)) →
      ∃ N o, whileN t b N (S y) = some o ∧ Wp (kO o k) Q := by
    intro n
    induction n with
    | zero =>
      intro y hn hI hs
      obtain ⟨c, hc, h1, h2⟩ := hs y hI
      cases c with
      | false => exact ⟨1, .nx (S y), by unfold whileN; rw [hc], h2 rfl⟩
      | true =>
        obtain ⟨h⟩ := h1 rfl
        cases hb : b (S y) with
        | nx s => rw [hb] at h; obtain ⟨y', _, _, h⟩ := h; omega
        | ct s => rw [hb] at h; obtain ⟨y', _, _, h⟩ := h; omega
        | bk s => rw [hb] at h; exact ⟨1, .nx s, by unfold whileN; rw [hc]; dsimp only; rw [hb], h⟩
        | rt d s => rw [hb] at h; exact ⟨1, .rt d s, by unfold whileN; rw [hc]; dsimp only; rw [hb], ⟨h⟩⟩
        | ro d s => rw [hb] at h; exact ⟨1, .ro d s, by unfold whileN; rw [hc]; dsimp only; rw [hb], ⟨h⟩⟩
        | err d s => rw [hb] at h; exact ⟨1, .err d s, by unfold whileN; rw [hc]; dsimp only; rw [hb], ⟨h⟩⟩
        | bad => rw [hb] at h; exact ⟨1, .bad, by unfold whileN; rw [hc]; dsimp only; rw [hb], ⟨h⟩⟩
    | succ n ih =>
      intro y hn hI hs
      obtain ⟨c, hc, h1, h2⟩ := hs y hI
      cases c with
      | false => exact ⟨1, .nx (S y), by unfold whileN; rw [hc], h2 rfl⟩
      | true =>
        obtain ⟨h⟩ := h1 rfl
        cases hb : b (S y) with
        | nx s =>
          rw [hb] at h
          obtain ⟨y', rfl, h3, h⟩ := h
          obtain ⟨N, o, e, w⟩ := ih y' (by omega) h3 hs
          exact ⟨N + 1, o, by unfold whileN; rw [hc]; dsimp only; rw [hb]; exact e, w⟩
        | ct s =>
          rw [hb] at h
          obtain ⟨y', rfl, h3, h⟩ := h
          obtain ⟨N, o, e, w⟩ := ih y' (by omega) h3 hs
          exact ⟨N + 1, o, by unfold whileN; rw [hc]; dsimp only; rw [hb]; exact e, w⟩
        | bk s => rw [hb] at h; exact ⟨1, .nx s, by unfold whileN; rw [hc]; dsimp only; rw [hb], h⟩
        | rt d s => rw [hb] at h; exact ⟨1, .rt d s, by unfold whileN; rw [hc]; dsimp only; rw [hb], ⟨h⟩⟩
        | ro d s => rw [hb] at h; exact ⟨1, .ro d s, by unfold whileN; rw [hc]; dsimp only; rw [hb], ⟨h⟩⟩
        | err d s => rw [hb] at h; exact ⟨1, .err d s, by unfold whileN; rw [hc]; dsimp only; rw [hb], ⟨h⟩⟩
        | bad => rw [hb] at h; exact ⟨1, .bad, by unfold whileN; rw [hc]; dsimp only; rw [hb], ⟨h⟩⟩
  obtain ⟨N, o, e, w⟩ := key (m y) y (Nat.le_refl _) hI hs
  rw [mWhile_of e]
  exact w
end
end VM

set_option Elab.async false
set_option linter.all false
set_option autoImplicit false
set_option maxRecDepth 100000
set_option maxHeartbeats 400000
namespace VM
open PySem PySem.Spec PyProof.Rows L2
theorem pow18 : cPow 10 18 = some (.int 1000000000000000000) := rfl
theorem cMulL {i : Int} (j : Int) (h : -(2 ^ 64) < i) (h' : i < 2 ^ 64) : cMul i j = some (.int (i * j)) := by unfold cMul; rw [if_pos (.inl ⟨h, h'⟩)]
theorem cMulR (i : Int) {j : Int} (h : -(2 ^ 64) < j) (h' : j < 2 ^ 64) : cMul i j = some (.int (i * j)) := by unfold cMul; rw [if_pos (.inr ⟨h, h'⟩)]
theorem cModL (i : Int) {j : Int} (h : 0 < j) : cMod i j = some (.int (i % j)) := by unfold cMod; rw [if_pos h]
/-- what a size must be -/
def SizeOk (z : Int) : Prop := 0 < z ∧ z < 1000
abbrev sgns : Str := "abcdefghijklmnopqrstuvwxyzABCDEFGHIJKLMNOPQRSTUVWXYZ0123456789"
abbrev alnum : List Nat := sgns.cps.toList
theorem alnum_len : alnum.length = 62 := by decide +kernel
/-- a word of at most n signs, the first of them in fs -/
structure Wl (fs : List Nat) (n : Nat) (w : Str) : Prop where
  hd : ∃ c r, w.cps.toList = c :: r ∧ c ∈ fs
  al : ∀ c ∈ w.cps.toList, c ∈ alnum
  ln : w.length ≤ n
theorem Wl.mono {fs : List Nat} {n m : Nat} {w : Str} (h : Wl fs n w) (k : n ≤ m) : Wl fs m w := ⟨h.hd, h.al, Nat.le_trans h.ln k⟩
theorem Wl.add {fs : List Nat} {n : Nat} {w : Str} {c : Nat} (h : Wl fs n w) (hc : c ∈ alnum) : Wl fs (n + 1) (w ++ (⟨#[c]⟩ : Str)) := by
  obtain ⟨⟨a, r, e, ha⟩, h2, h3⟩ := h
  refine ⟨⟨a, r ++ [c], by rw [str_app, e, one_list]; rfl, ha⟩, fun x hx => ?_, ?_⟩
  · rw [str_app, one_list] at hx
    rcases List.mem_append.mp hx with h | h
    · exact h2 x h
    · simp at h; subst h; exact hc
  · rw [str_len, str_app, List.length_append, ← str_len, one_list]
    simpa using h3
theorem Wl.cut {fs : List Nat} {n : Nat} {w : Str} (h : Wl fs n w) {k : Nat} (hk : 0 < k) : Wl fs k (cutS w none (some (k : Int))) := by
  obtain ⟨⟨a, r, e, ha⟩, h2, h3⟩ := h
  refine ⟨⟨a, r.take (k - 1), ?_, ha⟩, fun x hx => ?_, ?_⟩
  · rw [cut_to, e]
    obtain ⟨j, rfl⟩ : ∃ j, k = j + 1 := ⟨k - 1, by omega⟩
    simp
  · rw [cut_to] at hx
    exact h2 x (List.mem_of_mem_take hx)
  · rw [str_len, cut_to]
    simp; omega
theorem Wl.join {fs : List Nat} {n m : Nat} {w v : Str} (h : Wl fs n w) (hv : ∀ c ∈ v.cps.toList, c ∈ alnum) (hl : v.length ≤ m) : Wl fs (n + m) (w ++ v) := by
  obtain ⟨⟨a, r, e, ha⟩, h2, h3⟩ := h
  refine ⟨⟨a, r ++ v.cps.toList, by rw [str_app, e]; rfl, ha⟩, fun x hx => ?_, ?_⟩
  · rw [str_app] at hx
    rcases List.mem_append.mp hx with h | h
    · exact h2 x h
    · exact hv x h
  · rw [str_len, str_app, List.length_append, ← str_len, ← str_len]
    omega
theorem tail_al {fs : List Nat} {n : Nat} {w : Str} (h : Wl fs n w) (k : Nat) : (∀ c ∈ (cutS w (some (k : Int)) none).cps.toList, c ∈ alnum) ∧ (cutS w (some (k : Int)) none).length = w.length - k := by
  refine ⟨fun c hc => ?_, ?_⟩
  · rw [cut_from] at hc
    exact h.al c (List.mem_of_mem_drop hc)
  · rw [str_len, cut_from, str_len]
    simp
/-- the digits of one word -/
structure Ds (ds : List Int) : Prop where
  ln : ds.length = 15
  b1 : ∃ n : Nat, ds[1]? = some (n : Int) ∧ n < 26
  b2 : ∃ n : Nat, ds[2]? = some (n : Int) ∧ n < 12
  b3 : ∃ n : Nat, ds[3]? = some (n : Int) ∧ n < 12
  b0 : ∃ n : Nat, ds[0]? = some (n : Int) ∧ n < 6
  bj : ∀ j, j < 11 → ∃ n : Nat, ds[4 + j]? = some (n : Int) ∧ n < 62
theorem at_of {ds : List Int} {i : Nat} {n : Int} (h : ds[i]? = some n) : atI (ds.map D.int) (i : Int) = some (.int n) := by
  obtain ⟨h1, h2⟩ := List.getElem?_eq_some_iff.mp h
  rw [atI_natL (by simpa using h1)]
  simp [h2]
theorem small_str {n : Nat} (h : n ≤ 1000) : n ≤ sizeLine := Nat.le_of_lt (small1000 h)
theorem letter_at {z : Str} {n : Nat} (h : n < z.cps.toList.length) (hz : z.cps.toList.length ≤ 1000) : dIx (.str z) (.int (n : Int)) = some (.str ⟨#[z.cps.toList[n]]⟩) := ix_strL h (by rw [str_len]; exact small_str hz)
theorem letter_al {n : Nat} (h : n < 62) : ∃ c, c ∈ alnum ∧ dIx (.str sgns) (.int (n : Int)) = some (.str ⟨#[c]⟩) := ⟨_, List.getElem_mem (by rw [alnum_len]; exact h), letter_at (by rw [alnum_len]; exact h) (by rw [alnum_len]; decide)⟩
/-- the letters a word begins with -/
structure Fs (f : Str) : Prop where
  ln : f.cps.toList.length = 26
  al : ∀ c ∈ f.cps.toList, c ∈ alnum
theorem Fs.at {f : Str} (h : Fs f) {n : Nat} (hn : n < 26) : ∃ c, c ∈ f.cps.toList ∧ dIx (.str f) (.int (n : Int)) = some (.str ⟨#[c]⟩) := ⟨_, List.getElem_mem (by rw [h.ln]; exact hn), letter_at (by rw [h.ln]; exact hn) (by rw [h.ln]; decide)⟩
theorem Fs.one {f : Str} (h : Fs f) {c : Nat} (hc : c ∈ f.cps.toList) : Wl f.cps.toList 1 ⟨#[c]⟩ := ⟨⟨c, [], rfl, hc⟩, fun x hx => by
  have : x = c := by simpa using hx
  subst this; exact h.al _ hc, Nat.le_refl 1⟩
theorem add_str {a b : Str} (h : a.length + b.length ≤ 1000) : dAdd (.str a) (.str b) = some (.str (a ++ b)) := by
  unfold dAdd
  dsimp only
  rw [if_pos (small_str h)]
def zs15 : List Int := [6, 26, 12, 12, 62, 62, 62, 62, 62, 62, 62, 62, 62, 62, 62]
def zs75 : List Int := zs15 ++ zs15 ++ zs15 ++ zs15 ++ zs15
theorem zs75_ev (sv : SV) : (m2 dRep (m2 dAdd (mLst (mCons (mC (.int 6)) (mCons (mC (.int 26)) (mCons (mC (.int 12)) (mCons (mC (.int 12)) mNil))))) (m2 dRep (mLst (mCons (mC (.int 62)) mNil)) (mC (.int 11)))) (mC (.int 5))) sv = .ok (.lst (zs75.map .int)) sv := rfl
theorem zs75_at : ∀ r, r < 5 → ∀ j, j < 15 → zs75[15 * r + j]? = zs15[j]? := by decide
theorem zs75_sz : ∀ z ∈ zs75, SizeOk z := by
  unfold SizeOk
  have : zs75.all (fun z => decide (0 < z ∧ z < 1000)) = true := by decide
  intro z hz
  have h := List.all_eq_true.mp this z hz
  exact of_decide_eq_true h
structure Dz (ds : List Int) : Prop where
  ln : ds.length = 75
  bd : ∀ (i : Nat) (z e : Int), zs75[i]? = some z → ds[i]? = some e → 0 ≤ e ∧ e < z
theorem Dz.cut {ds : List Int} (h : Dz ds) {r : Nat} (hr : r < 5) : Ds ((ds.drop (15 * r)).take 15) := by
  have at_ : ∀ j, j < 15 → ((ds.drop (15 * r)).take 15)[j]? = ds[15 * r + j]? := fun j hj => by
    rw [List.getElem?_take, if_pos hj, List.getElem?_drop]
  have val : ∀ j z, j < 15 → zs15[j]? = some (z : Int) → ∃ n : Nat, ((ds.drop (15 * r)).take 15)[j]? = some (n : Int) ∧ (n : Int) < z := fun j z hj hz => by
    have hl : 15 * r + j < ds.length := by rw [h.ln]; omega
    have e1 : ds[15 * r + j]? = some ds[15 * r + j] := List.getElem?_eq_getElem hl
    obtain ⟨b1, b2⟩ := h.bd (15 * r + j) z _ (by rw [zs75_at r hr j hj]; exact hz) e1
    refine ⟨(ds[15 * r + j]).toNat, ?_, ?_⟩
    · rw [at_ j hj, e1, Int.toNat_of_nonneg b1]
    · rw [Int.toNat_of_nonneg b1]; exact b2
  refine ⟨by simp [h.ln]; omega, ?_, ?_, ?_, ?_, fun j hj => ?_⟩
  · obtain ⟨n, e, b⟩ := val 1 26 (by decide) rfl; exact ⟨n, e, by omega⟩
  · obtain ⟨n, e, b⟩ := val 2 12 (by decide) rfl; exact ⟨n, e, by omega⟩
  · obtain ⟨n, e, b⟩ := val 3 12 (by decide) rfl; exact ⟨n, e, by omega⟩
  · obtain ⟨n, e, b⟩ := val 0 6 (by decide) rfl; exact ⟨n, e, by omega⟩
  · have : zs15[4 + j]? = some 62 := by
      have : ∀ j, j < 11 → zs15[4 + j]? = some 62 := by decide
      exact this j hj
    obtain ⟨n, e, b⟩ := val (4 + j) 62 (by omega) this; exact ⟨n, e, by omega⟩
/-- the tokens of a kind -/
inductive Tk where
  | row (ws : List Str) | wd (w : Str)
def Tk.d : Tk → D
  | .row ws => .tup (ws.map .str)
  | .wd w => .str w
theorem tk_row (ws : List Str) : (Tk.row ws).d = .tup (ws.map .str) := rfl
theorem tk_wd (w : Str) : (Tk.wd w).d = .str w := rfl
abbrev Gw (w : Str) : Prop := Wl alnum 12 w
theorem Wl.gw {fs : List Nat} {w : Str} (h : Wl fs 12 w) : Gw w := ⟨by
  obtain ⟨c, r, e, _⟩ := h.hd
  exact ⟨c, r, e, h.al c (by rw [e]; simp)⟩, h.al, h.ln⟩
def Gt : Tk → Prop
  | .row ws => ws.length ≤ 6 ∧ ∀ w ∈ ws, Gw w
  | .wd w => Gw w
/-- how many kinds are still to come -/
def run : Nat → List Tk → Option Nat
  | p, [] => some p
  | 0, _ :: _ => none
  | p + 1, .wd _ :: r => run p r
  | p + 1, .row _ :: r => run (p + 2) r
theorem run_app : ∀ (a b : List Tk) (p : Nat), run p (a ++ b) = (run p a).bind fun q => run q b
  | [], b, p => rfl
  | _ :: _, b, 0 => rfl
  | .wd _ :: r, b, p + 1 => run_app r b p
  | .row _ :: r, b, p + 1 => run_app r b (p + 2)
theorem ix_int {xs : List Int} {i : Nat} (h : i < xs.length) : dIx (.lst (xs.map .int)) (.int (i : Int)) = some (.int xs[i]) := by
  show atI _ _ = _
  rw [atI_natL (by simpa using h)]
  simp
theorem ix_lstr {xs : List Str} {i : Nat} (h : i < xs.length) : dIx (.lst (xs.map .str)) (.int (i : Int)) = some (.str xs[i]) := by
  show atI _ _ = _
  rw [atI_natL (by simpa using h)]
  simp
structure Dk (ds : List Int) : Prop where
  ln : ds.length = 128
  b0 : ∃ n : Nat, ds[0]? = some (n : Int) ∧ n < 4
def zs128 : List Int := [4, 40] ++ (List.replicate 63 [2, 192]).flatten
theorem zs128_ev (sv : SV) : (m2 dAdd (mLst (mCons (mC (.int 4)) (mCons (mC (.int 40)) mNil))) (m2 dRep (mLst (mCons (mC (.int 2)) (mCons (mC (.int 192)) mNil))) (mC (.int 63)))) sv = .ok (.lst (zs128.map .int)) sv := rfl
theorem zs128_sz : ∀ z ∈ zs128, SizeOk z := by
  unfold SizeOk
  have : zs128.all (fun z => decide (0 < z ∧ z < 1000)) = true := by decide +kernel
  intro z hz
  have h := List.all_eq_true.mp this z hz
  exact of_decide_eq_true h
theorem zs128_len : zs128.length = 128 := by decide +kernel
/-! ### the plain law -/
abbrev caps : Str := "ABCDEFGHIJKLMNOPQRSTUVWXYZ"
def cap (w : Str) : Bool := match w.cps.toList with
  | [] => false
  | c :: _ => strIn ⟨#[c]⟩ caps
/-- the triples of one token -/
def piece (k : Nat) (s : Int) : Tk → List (Nat × Int × Str)
  | .row ws => ws.map fun w => (k, s, w)
  | .wd w => if cap w = true then [(k, s, w)] else []
def trs : Nat → List Int → List Tk → List (Nat × Int × Str)
  | k, s :: ss, t :: r => piece k s t ++ trs (k + 1) ss r
  | _, _, _ => []
/-- the sign at each token -/
def tops : List Int → List Tk → List Int
  | s :: st, .wd _ :: r => s :: tops st r
  | s :: st, .row _ :: r => s :: tops (-s :: s :: st) r
  | _, _ => []
def trD (x : Nat × Int × Str) : D := .tup [.int x.1, .int x.2.1, .str x.2.2]
theorem run_up (c : Nat) : ∀ (a : List Tk) (p q : Nat), run p a = some q → run (p + c) a = some (q + c)
  | [], p, q, h => by cases h; rfl
  | _ :: _, 0, q, h => by cases h
  | .wd _ :: r, p + 1, q, h => by
    rw [show p + 1 + c = (p + c) + 1 by omega]
    exact run_up c r p q h
  | .row _ :: r, p + 1, q, h => by
    rw [show p + 1 + c = (p + c) + 1 by omega]
    show run (p + c + 2) r = _
    rw [show p + c + 2 = p + 2 + c by omega]
    exact run_up c r (p + 2) q h
theorem tops_len : ∀ (a : List Tk) (st : List Int) (q : Nat), run st.length a = some q → (tops st a).length = a.length
  | [], st, q, h => by cases st <;> rfl
  | .wd _ :: r, [], q, h => by cases h
  | .row _ :: r, [], q, h => by cases h
  | .wd _ :: r, s :: st, q, h => by
    show (s :: tops st r).length = _
    simp [tops_len r st q h]
  | .row _ :: r, s :: st, q, h => by
    show (s :: tops (-s :: s :: st) r).length = _
    simp [tops_len r (-s :: s :: st) q h]
theorem tops_app : ∀ (a b : List Tk) (st R : List Int), run st.length a = some 0 → tops (st ++ R) (a ++ b) = tops st a ++ tops R b
  | [], b, [], R, h => by cases R <;> rfl
  | [], b, _ :: _, R, h => by cases h
  | .wd _ :: r, b, [], R, h => by cases h
  | .row _ :: r, b, [], R, h => by cases h
  | .wd _ :: r, b, s :: st, R, h => by
    show s :: tops (st ++ R) (r ++ b) = s :: tops st r ++ tops R b
    rw [tops_app r b st R h]
    rfl
  | .row _ :: r, b, s :: st, R, h => by
    show s :: tops ((-s :: s :: st) ++ R) (r ++ b) = s :: tops (-s :: s :: st) r ++ tops R b
    rw [tops_app r b (-s :: s :: st) R h]
    rfl
theorem tops_mul (c : Int) : ∀ (a : List Tk) (st : List Int), tops (st.map (· * c)) a = (tops st a).map (· * c)
  | [], st => by cases st <;> rfl
  | .wd _ :: r, [] => rfl
  | .row _ :: r, [] => rfl
  | .wd _ :: r, s :: st => by
    show s * c :: tops (st.map (· * c)) r = s * c :: (tops st r).map (· * c)
    rw [tops_mul c r st]
  | .row _ :: r, s :: st => by
    show s * c :: tops (-(s * c) :: s * c :: st.map (· * c)) r = s * c :: (tops (-s :: s :: st) r).map (· * c)
    rw [← tops_mul c r (-s :: s :: st)]
    simp [Int.neg_mul]
theorem trs_app : ∀ (a b : List Tk) (sa sb : List Int) (k : Nat), sa.length = a.length → trs k (sa ++ sb) (a ++ b) = trs k sa a ++ trs (k + a.length) sb b
  | [], b, [], sb, k, h => by simp [trs]
  | [], b, _ :: _, sb, k, h => by cases h
  | _ :: _, b, [], sb, k, h => by cases h
  | t :: a, b, s :: sa, sb, k, h => by
    show piece k s t ++ trs (k + 1) (sa ++ sb) (a ++ b) = (piece k s t ++ trs (k + 1) sa a) ++ trs (k + (a.length + 1)) sb b
    rw [trs_app a b sa sb (k + 1) (by simpa using h), List.append_assoc, show k + 1 + a.length = k + (a.length + 1) by omega]
def mv (c : Nat) (t : Int) (x : Nat × Int × Str) : Nat × Int × Str := (x.1 + c, x.2.1 * t, x.2.2)
theorem trs_mv (c : Nat) (t : Int) : ∀ (a : List Tk) (ss : List Int) (k : Nat), trs (k + c) (ss.map (· * t)) a = (trs k ss a).map (mv c t)
  | [], ss, k => by cases ss <;> rfl
  | _ :: _, [], k => rfl
  | x :: a, s :: ss, k => by
    show piece (k + c) (s * t) x ++ trs (k + c + 1) (ss.map (· * t)) a = (piece k s x ++ trs (k + 1) ss a).map (mv c t)
    rw [show k + c + 1 = k + 1 + c by omega, trs_mv c t a ss (k + 1), List.map_append]
    congr 1
    cases x with
    | row ws => simp [piece, mv]
    | wd w => simp only [piece]; split <;> simp [mv]
theorem joined_law {one two : List Tk} {ar : List Str} (h1 : run 1 one = some 0) (h2 : run 1 two = some 0) :
    run 1 (.row ar :: (one ++ two)) = some 0 ∧ trs 0 (tops [1] (.row ar :: (one ++ two))) (.row ar :: (one ++ two)) = ar.map (fun w => (0, 1, w)) ++ (trs 0 (tops [1] one) one).map (mv 1 (-1)) ++ (trs 0 (tops [1] two) two).map (mv (1 + one.length) 1) := by
  have r2 : run 2 one = some 1 := run_up 1 one 1 0 h1
  constructor
  · show run 2 (one ++ two) = some 0
    rw [run_app, r2]
    exact h2
  · show ar.map (fun w => (0, 1, w)) ++ trs 1 (tops [-1, 1] (one ++ two)) (one ++ two) = _
    have e : tops [-1, 1] (one ++ two) = tops [-1] one ++ tops [1] two := tops_app one two [-1] [1] h1
    rw [e, trs_app one two _ _ 1 (tops_len one [-1] 0 h1), List.append_assoc]
    have e1 : tops [-1] one = (tops [1] one).map (· * (-1)) := (show tops [-1] one = tops ([1].map (· * (-1))) one from rfl).trans (tops_mul (-1) one [1])
    have e2 : tops [1] two = (tops [1] two).map (· * 1) := by simp
    congr 1
    rw [e1, show (1 : Nat) = 0 + 1 from rfl, trs_mv 1 (-1) one _ 0]
    congr 1
    rw [e2, show 0 + 1 + one.length = 0 + (1 + one.length) by omega, trs_mv (1 + one.length) 1 two _ 0]
    simp
end VM

set_option Elab.async false
set_option linter.all false
set_option autoImplicit false
set_option maxRecDepth 100000
set_option maxHeartbeats 400000
namespace VM
open PySem PySem.Spec PyProof.Rows L2

/-! ### kinds as trees -/
inductive Kd where
  | wd (w : Str) | fn (r : List Str) (a b : Kd)
  deriving Inhabited
def Kd.fl : Kd → List Tk
  | .wd w => [.wd w]
  | .fn r a b => .row r :: (a.fl ++ b.fl)
def Kd.sz : Kd → Nat
  | .wd _ => 1
  | .fn _ a b => 1 + a.sz + b.sz
theorem Kd.fl_len : ∀ k : Kd, k.fl.length = k.sz
  | .wd _ => rfl
  | .fn _ a b => by simp [Kd.fl, Kd.sz, Kd.fl_len a, Kd.fl_len b]; omega
theorem Kd.sz_pos : ∀ k : Kd, 0 < k.sz
  | .wd _ => Nat.one_pos
  | .fn _ a b => by simp [Kd.sz]; omega
/-- the kinds that stand one behind another -/
def fp : List Tk → List Kd
  | [] => []
  | .wd w :: r => .wd w :: fp r
  | .row ws :: r => match fp r with
    | a :: b :: q => .fn ws a b :: q
    | _ => []
theorem fp_fl : ∀ (k : Kd) (r : List Tk), fp (k.fl ++ r) = k :: fp r
  | .wd w, r => rfl
  | .fn ws a b, r => by
    show fp (.row ws :: ((a.fl ++ b.fl) ++ r)) = _
    rw [List.append_assoc]
    show (match fp (a.fl ++ (b.fl ++ r)) with
      | a :: b :: q => Kd.fn ws a b :: q
      | _ => []) = _
    rw [fp_fl a, fp_fl b]
theorem run_fp : ∀ (ts : List Tk) (q : Nat), run q ts = some 0 → (fp ts).length = q ∧ (fp ts).flatMap Kd.fl = ts
  | [], q, h => by cases h; exact ⟨rfl, rfl⟩
  | _ :: _, 0, h => by cases h
  | .wd w :: r, q + 1, h => by
    obtain ⟨h1, h2⟩ := run_fp r q h
    exact ⟨by simp [fp, h1], by simp [fp, h2, Kd.fl]⟩
  | .row ws :: r, q + 1, h => by
    obtain ⟨h1, h2⟩ := run_fp r (q + 2) h
    unfold fp
    match e : fp r, h1 with
    | a :: b :: s, h1 =>
      rw [e] at h2
      refine ⟨by simpa using h1, ?_⟩
      rw [← h2]
      simp [Kd.fl]
theorem kd_of {ts : List Tk} (h : run 1 ts = some 0) : ∃ k : Kd, ts = k.fl := by
  obtain ⟨h1, h2⟩ := run_fp ts 1 h
  match e : fp ts, h1 with
  | [k], _ =>
    rw [e] at h2
    exact ⟨k, by simpa using h2.symm⟩
theorem run_fl : ∀ (k : Kd) (r : List Tk) (q : Nat), run (q + 1) (k.fl ++ r) = run q r
  | .wd w, r, q => rfl
  | .fn ws a b, r, q => by
    show run (q + 2) ((a.fl ++ b.fl) ++ r) = _
    rw [List.append_assoc, run_fl a, run_fl b]
theorem run_kd (k : Kd) : run 1 k.fl = some 0 := by
  have := run_fl k [] 0
  rw [List.append_nil] at this
  exact this
/-- the kind at a place -/
inductive At : Kd → Nat → Kd → Prop where
  | here {k : Kd} : At k 0 k
  | left {r : List Str} {a b t : Kd} {i : Nat} (h : At a i t) : At (.fn r a b) (1 + i) t
  | right {r : List Str} {a b t : Kd} {i : Nat} (h : At b i t) : At (.fn r a b) (1 + a.sz + i) t
theorem At.bound {k t : Kd} {i : Nat} (h : At k i t) : i + t.sz ≤ k.sz := by
  induction h with
  | here => omega
  | left _ ih => simp only [Kd.sz]; omega
  | right _ ih => simp only [Kd.sz]; omega
theorem At.lt {k t : Kd} {i : Nat} (h : At k i t) : i < k.sz := by have := h.bound; have := t.sz_pos; omega
theorem at_ex : ∀ (k : Kd) (i : Nat), i < k.sz → ∃ t, At k i t
  | .wd w, i, h => by
    have : i = 0 := by simp [Kd.sz] at h; omega
    subst this
    exact ⟨_, .here⟩
  | .fn r a b, i, h => by
    simp only [Kd.sz] at h
    rcases Nat.lt_trichotomy i 0 with h0 | h0 | h0
    · omega
    · subst h0; exact ⟨_, .here⟩
    · by_cases h1 : i < 1 + a.sz
      · obtain ⟨t, ht⟩ := at_ex a (i - 1) (by omega)
        have e : i = 1 + (i - 1) := by omega
        rw [e]
        exact ⟨t, .left ht⟩
      · obtain ⟨t, ht⟩ := at_ex b (i - (1 + a.sz)) (by omega)
        have e : i = 1 + a.sz + (i - (1 + a.sz)) := by omega
        rw [e]
        exact ⟨t, .right ht⟩
/-- the tokens from there on -/
theorem At.split {k t : Kd} {i : Nat} (h : At k i t) : ∃ p q, k.fl = p ++ (t.fl ++ q) ∧ p.length = i := by
  induction h with
  | @here k => exact ⟨[], [], by simp, rfl⟩
  | @left r a b t i _ ih =>
    obtain ⟨p, q, h1, h2⟩ := ih
    exact ⟨.row r :: p, q ++ b.fl, by simp [Kd.fl, h1], by simp [h2]; omega⟩
  | @right r a b t i _ ih =>
    obtain ⟨p, q, h1, h2⟩ := ih
    exact ⟨.row r :: (a.fl ++ p), q, by simp [Kd.fl, h1], by simp [h2, Kd.fl_len]; omega⟩
theorem At.drop {k t : Kd} {i : Nat} (h : At k i t) : ∃ q, k.fl.drop i = t.fl ++ q := by
  obtain ⟨p, q, h1, h2⟩ := h.split
  exact ⟨q, by rw [h1, ← h2]; simp⟩
theorem At.uniq {k t t' : Kd} {i : Nat} (h : At k i t) (h' : At k i t') : t = t' := by
  obtain ⟨q, h1⟩ := h.drop
  obtain ⟨q', h2⟩ := h'.drop
  have e1 := congrArg fp h1
  have e2 := congrArg fp h2
  rw [fp_fl] at e1 e2
  rw [e1] at e2
  exact (List.cons.inj e2).1
theorem At.tok_wd {k : Kd} {i : Nat} {w : Str} (h : At k i (.wd w)) : k.fl[i]? = some (.wd w) := by
  obtain ⟨p, q, h1, h2⟩ := h.split
  rw [h1, ← h2, List.getElem?_append_right (Nat.le_refl _), Nat.sub_self]
  rfl
theorem At.tok_fn {k : Kd} {i : Nat} {r : List Str} {a b : Kd} (h : At k i (.fn r a b)) : k.fl[i]? = some (.row r) := by
  obtain ⟨p, q, h1, h2⟩ := h.split
  rw [h1, ← h2, List.getElem?_append_right (Nat.le_refl _), Nat.sub_self]
  rfl
theorem At.trans {k t u : Kd} {i j : Nat} (h : At k i t) (h' : At t j u) : At k (i + j) u := by
  induction h with
  | here => rw [Nat.zero_add]; exact h'
  | left _ ih => rw [Nat.add_assoc]; exact .left (ih h')
  | right _ ih => rw [Nat.add_assoc]; exact .right (ih h')
theorem At.l {k : Kd} {i : Nat} {r : List Str} {a b : Kd} (h : At k i (.fn r a b)) : At k (i + 1) a := h.trans (.left .here)
theorem At.r {k : Kd} {i : Nat} {r : List Str} {a b : Kd} (h : At k i (.fn r a b)) : At k (i + 1 + a.sz) b := by
  have := h.trans (.right .here)
  rwa [show i + (1 + a.sz + 0) = i + 1 + a.sz by omega] at this
theorem At.cut {k t : Kd} {i : Nat} (h : At k i t) : (k.fl.drop i).take t.sz = t.fl := by
  obtain ⟨q, h1⟩ := h.drop
  rw [h1, ← Kd.fl_len, List.take_append_of_le_length (Nat.le_refl _), List.take_length]
theorem Kd.tok : ∀ k : Kd, (∃ w, k = .wd w ∧ k.fl = [.wd w]) ∨ ∃ r a b, k = .fn r a b
  | .wd w => .inl ⟨w, rfl, rfl⟩
  | .fn r a b => .inr ⟨r, a, b, rfl⟩

/-! ### what can be told by repr -/
structure Rk (d : D) (w dp : Nat) : Prop where
  h : ∃ q, py d = some q ∧ q.showable = true ∧ q.hasDict = false ∧ q.depth ≤ dp ∧ q.leavesShort 60 = true ∧ q.weight ≤ w
structure RkL (ds : List D) (w dp : Nat) : Prop where
  h : ∃ qs, pyL ds = some qs ∧ PyData.showableAll qs = true ∧ PyData.hasDictAll qs = false ∧ PyData.depthAll qs ≤ dp ∧ PyData.leavesShortAll 60 qs = true ∧ PyData.weightAll qs ≤ w
theorem Rk.mono {d : D} {w w' dp dp' : Nat} (h : Rk d w dp) (h1 : w ≤ w') (h2 : dp ≤ dp') : Rk d w' dp' := by
  obtain ⟨q, a, b, c, e, f, g⟩ := h.h
  exact ⟨q, a, b, c, by omega, f, by omega⟩
theorem RkL.mono {d : List D} {w w' dp dp' : Nat} (h : RkL d w dp) (h1 : w ≤ w') (h2 : dp ≤ dp') : RkL d w' dp' := by
  obtain ⟨q, a, b, c, e, f, g⟩ := h.h
  exact ⟨q, a, b, c, by omega, f, by omega⟩
theorem RkL.nil : RkL [] 0 0 := ⟨[], rfl, rfl, rfl, Nat.le_refl _, rfl, Nat.le_refl _⟩
theorem RkL.cons {d : D} {ds : List D} {w w' dp : Nat} (h : Rk d w dp) (h' : RkL ds w' dp) : RkL (d :: ds) (w + 1 + w') dp := by
  obtain ⟨q, a, b, c, e, f, g⟩ := h.h
  obtain ⟨qs, a', b', c', e', f', g'⟩ := h'.h
  refine ⟨q :: qs, by simp only [pyL, a, a'], by simp only [PyData.showableAll, b, b', Bool.and_self], by simp only [PyData.hasDictAll, c, c', Bool.or_self], ?_, by simp only [PyData.leavesShortAll, f, f', Bool.and_self], ?_⟩
  · simp only [PyData.depthAll]; omega
  · simp only [PyData.weightAll]; omega
theorem RkL.all {w dp : Nat} : ∀ {ds : List D}, (∀ d ∈ ds, Rk d w dp) → RkL ds ((w + 1) * ds.length) dp
  | [], _ => RkL.nil.mono (Nat.zero_le _) (Nat.zero_le _)
  | d :: ds, h => ((RkL.cons (h d List.mem_cons_self) (RkL.all fun x hx => h x (List.mem_cons_of_mem _ hx))).mono (by
      rw [List.length_cons, Nat.mul_add, Nat.mul_one]
      omega) (Nat.le_refl _))
theorem Rk.non : Rk .non 0 0 := ⟨.none, rfl, rfl, rfl, Nat.le_refl _, rfl, Nat.le_refl _⟩
theorem Rk.bl (b : Bool) : Rk (.bl b) 0 0 := ⟨.bool b, rfl, rfl, rfl, Nat.le_refl _, rfl, Nat.le_refl _⟩
theorem Rk.str {z : Str} (h : ∀ c ∈ z.cps.toList, c < 16 ^ 8) : Rk (.str z) z.length 0 := ⟨.str z, rfl, rfl, rfl, Nat.le_refl _, by
  simp only [PyData.leavesShort]
  exact List.all_eq_true.mpr fun c hc => decide_eq_true (h c hc), Nat.le_refl _⟩
theorem Rk.nat {n : Nat} (h : n < 10 ^ 50) : Rk (.int n) 180 0 := by
  have l1 : (n : Int).natAbs.log2 < 170 := by
    rw [Int.natAbs_natCast]
    by_cases h0 : n = 0
    · subst h0; decide
    · exact (Nat.log2_lt h0).mpr (Nat.lt_trans h (by decide))
  refine ⟨.int n, rfl, ?_, rfl, Nat.le_refl _, ?_, ?_⟩
  · simp only [PyData.showable]
    exact decide_eq_true (by omega)
  · have := toString_length_le (v := (n : Int)) (by omega) (k := 50) (by decide) (by exact_mod_cast h)
    simp only [PyData.leavesShort]
    have e : PyData.shown (.int (n : Int)) = Str.ofString (toString (n : Int)) := rfl
    rw [e]
    exact decide_eq_true (by omega)
  · simp only [PyData.weight]
    split <;> omega
theorem Rk.m1 : Rk (.int (-1)) 180 0 := ⟨.int (-1), rfl, by decide, rfl, Nat.le_refl _, by decide +kernel, by decide⟩
theorem Rk.tup {ds : List D} {w dp : Nat} (h : RkL ds w dp) : Rk (.tup ds) w (dp + 1) := by
  obtain ⟨qs, a', b', c', e', f', g'⟩ := h.h
  exact ⟨.tuple qs, by simp only [py, a', Option.map_some], b', c', by simp only [PyData.depth]; omega, f', g'⟩
theorem Rk.lst {ds : List D} {w dp : Nat} (h : RkL ds w dp) : Rk (.lst ds) w (dp + 1) := by
  obtain ⟨qs, a', b', c', e', f', g'⟩ := h.h
  exact ⟨.list qs, by simp only [py, a', Option.map_some], b', c', by simp only [PyData.depth]; omega, f', g'⟩
theorem repr_of {d : D} {w dp : Nat} (h : Rk d w dp) (h1 : w ≤ 200000) (h2 : dp ≤ 60) : ∃ z, dRepr [d] = some (.str z) := by
  obtain ⟨q, a, b, c, e, f, g⟩ := h.h
  have sz := PyData.shown_le 60 (by decide) q f
  have hr : reprOk q = true := by
    unfold reprOk
    rw [b, c, decide_eq_true (by omega : q.depth ≤ 60)]
    have : q.shown.length ≤ sizeLine := by
      rw [sizeLine_eq]
      have : (60 + 2) * q.weight ≤ 62 * 200000 := Nat.mul_le_mul_left 62 (by omega)
      omega
    rw [decide_eq_true this]
    rfl
  refine ⟨q.shown, ?_⟩
  unfold dRepr
  dsimp only
  rw [a]
  dsimp only
  rw [if_pos hr]

/-! ### kinds as data -/
theorem alnum_small : ∀ c ∈ alnum, c < 16 ^ 8 := by
  have : alnum.all (fun c => decide (c < 16 ^ 8)) = true := by decide +kernel
  intro c hc
  have h := List.all_eq_true.mp this c hc
  exact of_decide_eq_true h
theorem Gw.rk {w : Str} (h : Gw w) : Rk (.str w) 12 0 := (Rk.str fun c hc => alnum_small c (h.al c hc)).mono h.ln (Nat.le_refl _)
theorem row_rk {ws : List Str} (h : ∀ w ∈ ws, Gw w) (hl : ws.length ≤ 6) : Rk (.tup (ws.map .str)) 78 1 := Rk.mono (.tup (RkL.all (w := 12) (dp := 0) fun d hd => by
  obtain ⟨w, hw, rfl⟩ := List.mem_map.mp hd
  exact (h w hw).rk)) (by rw [List.length_map]; omega) (by omega)
theorem tk_rk {t : Tk} (h : Gt t) : Rk t.d 78 1 := by
  cases t with
  | row ws => exact row_rk h.2 h.1
  | wd w => exact (Gw.rk h).mono (by omega) (by omega)
theorem toks_rk {ts : List Tk} (h : ∀ t ∈ ts, Gt t) : Rk (.tup (ts.map Tk.d)) (79 * ts.length) 2 := Rk.mono (.tup (RkL.all (w := 78) (dp := 1) fun d hd => by
  obtain ⟨t, ht, rfl⟩ := List.mem_map.mp hd
  exact tk_rk (h t ht))) (by rw [List.length_map]; omega) (by omega)
abbrev Kd.d (k : Kd) : D := .tup (k.fl.map Tk.d)
/-- its words are right -/
def Kd.Ok (k : Kd) : Prop := ∀ t ∈ k.fl, Gt t
theorem Kd.rk {k : Kd} (h : k.Ok) : Rk k.d (79 * k.sz) 2 := by
  have := toks_rk h
  rwa [k.fl_len] at this
theorem At.ok {k t : Kd} {i : Nat} (h : At k i t) (hk : k.Ok) : t.Ok := by
  obtain ⟨p, q, h1, _⟩ := h.split
  intro x hx
  exact hk x (by rw [h1]; simp [hx])

theorem Ans.cmp {r : FR} {P : D → Prop} (h : Ans r P) : Cmp r P fun _ => False := ⟨.inl h.eq⟩
/-! ### a def that changes an argument -/
structure CmpI (r : FR) (P : D → D → Prop) : Prop where
  h : ∃ d o, r = .ok d (some o) ∧ P d o
def RtI (ro : Bool) (k : Nat) (P : D → D → Prop) : O → Prop
  | .nx s => ro = false ∧ ∃ j o, s[k]? = some (.io j o) ∧ P .non o
  | .rt d s => ro = false ∧ ∃ j o, s[k]? = some (.io j o) ∧ P d o
  | .ro d s => ro = true ∧ ∃ j o, s[k]? = some (.io j o) ∧ P d o
  | _ => False
theorem cmpI_of {n k : Nat} {ro : Bool} {body : MS} {ds : List D} {P : D → D → Prop} (h : Wp (body (initA (some k) 0 ds ++ List.replicate (n - ds.length) .un)) (RtI ro k P)) : CmpI (fnOf n (some k) ro body ds) P := by
  obtain ⟨h⟩ := h
  unfold fnOf outS
  cases hb : body (initA (some k) 0 ds ++ List.replicate (n - ds.length) .un) with
  | nx s => rw [hb] at h; obtain ⟨rfl, j, o, h1, h⟩ := h; dsimp only; rw [h1]; exact ⟨_, o, rfl, h⟩
  | rt d s => rw [hb] at h; obtain ⟨rfl, j, o, h1, h⟩ := h; dsimp only; rw [h1]; exact ⟨_, o, rfl, h⟩
  | ro d s => rw [hb] at h; obtain ⟨rfl, j, o, h1, h⟩ := h; dsimp only; rw [h1]; exact ⟨_, o, rfl, h⟩
  | err x s => rw [hb] at h; exact h.elim
  | bk s => rw [hb] at h; exact h.elim
  | ct s => rw [hb] at h; exact h.elim
  | bad => rw [hb] at h; exact h.elim
theorem w_irt {k : Nat} {P : D → D → Prop} {d : D} {s : SV} : Wp (.rt d s) (RtI false k P) = ∃ j o, s[k]? = some (.io j o) ∧ P d o := propext ⟨fun h => h.h.2, fun h => ⟨rfl, h⟩⟩
theorem w_inx {k : Nat} {P : D → D → Prop} {s : SV} : Wp (.nx s) (RtI false k P) = ∃ j o, s[k]? = some (.io j o) ∧ P .non o := propext ⟨fun h => h.h.2, fun h => ⟨rfl, h⟩⟩
theorem w_iro {k : Nat} {P : D → D → Prop} {d : D} {s : SV} : Wp (.ro d s) (RtI true k P) = ∃ j o, s[k]? = some (.io j o) ∧ P d o := propext ⟨fun h => h.h.2, fun h => ⟨rfl, h⟩⟩
theorem drop_hd {α : Type} {xs : List α} {n : Nat} {x : α} {r : List α} (h : xs.drop n = x :: r) : xs[n]? = some x ∧ xs.drop (n + 1) = r := by
  have h1 := congrArg (fun l => l[0]?) h
  have h2 := congrArg (fun l => l.drop 1) h
  simp only [List.getElem?_drop, List.drop_drop] at h1 h2
  exact ⟨by simpa using h1, by simpa using h2⟩
def Kd.isFn : Kd → Bool
  | .wd _ => false
  | .fn _ _ _ => true
def Kd.depth : Kd → Nat
  | .wd _ => 0
  | .fn _ a b => 1 + max a.depth b.depth
theorem hd0 (k : Kd) : ∃ t r, k.fl = t :: r ∧ (k.fl.map Tk.d)[0]? = some t.d ∧ isi "tuple" t.d = some (.bl k.isFn) := by
  cases k with
  | wd w => exact ⟨_, _, rfl, rfl, q_isi_ts _⟩
  | fn r a b => exact ⟨_, _, rfl, rfl, q_isi_tt _⟩
theorem take_fl (a b : Kd) (rest : List Tk) : (a.fl ++ rest).take a.sz = a.fl := by rw [← a.fl_len, List.take_append_of_le_length (Nat.le_refl _), List.take_length]
theorem drop_fl (a : Kd) (rest : List Tk) : (a.fl ++ rest).drop a.sz = rest := by rw [← a.fl_len]; simp
abbrev lower : Str := "abcdefghijklmnopqrstuvwxyz"
abbrev res : List Str := ["fun", "of", "case", "ask", "keep", "under", "as", "to", "with", "gives", "data", "maker"]
def wlB (fs : List Nat) (n : Nat) (w : Str) : Bool := match w.cps.toList with
  | [] => false
  | c :: r => fs.contains c && (c :: r).all (fun x => alnum.contains x) && decide (w.length ≤ n)
theorem wlB_ok {fs : List Nat} {n : Nat} {w : Str} (h : wlB fs n w = true) : Wl fs n w := by
  unfold wlB at h
  split at h
  · cases h
  · rename_i c r e
    simp only [Bool.and_eq_true, List.all_eq_true, decide_eq_true_eq] at h
    obtain ⟨⟨h1, h2⟩, h3⟩ := h
    exact ⟨⟨c, r, e, List.contains_iff_mem.mp h1⟩, fun x hx => List.contains_iff_mem.mp (h2 x (e ▸ hx)), h3⟩
theorem res_ok : ∀ w ∈ res, Wl lower.cps.toList 12 w := by
  have : res.all (fun w => wlB lower.cps.toList 12 w) = true := by decide +kernel
  intro w hw
  exact wlB_ok (List.all_eq_true.mp this w hw)
theorem fs_lower : Fs lower := ⟨by decide +kernel, by
  have : lower.cps.toList.all (fun x => alnum.contains x) = true := by decide +kernel
  intro c hc
  exact List.contains_iff_mem.mp (List.all_eq_true.mp this c hc)⟩
theorem fs_caps : Fs caps := ⟨by decide +kernel, by
  have : caps.cps.toList.all (fun x => alnum.contains x) = true := by decide +kernel
  intro c hc
  exact List.contains_iff_mem.mp (List.all_eq_true.mp this c hc)⟩
theorem low_cap {w : Str} (h : Wl lower.cps.toList 12 w) : cap w = false := by
  obtain ⟨c, r, e, hc⟩ := h.hd
  have : lower.cps.toList.all (fun x => !strIn ⟨#[x]⟩ caps) = true := by decide +kernel
  have q := List.all_eq_true.mp this c hc
  unfold cap
  rw [e]
  simpa using q
theorem cap_cap {w : Str} (h : Wl caps.cps.toList 12 w) : cap w = true := by
  obtain ⟨c, r, e, hc⟩ := h.hd
  have : caps.cps.toList.all (fun x => strIn ⟨#[x]⟩ caps) = true := by decide +kernel
  have q := List.all_eq_true.mp this c hc
  unfold cap
  rw [e]
  exact q
theorem upper_lower : dUpper (.str lower) = some (.str caps) := by
  have h1 : lower.length ≤ 5592405 := by decide +kernel
  have h2 : Txt.upper lower = caps := by decide +kernel
  unfold dUpper
  dsimp only
  rw [if_pos h1, h2]

theorem sorted_of {ws : List Str} (h : ws.length < 64) : dSorted [.lst (ws.map .str)] = some (.lst ((sortS ws).map .str)) := by
  unfold dSorted
  dsimp only
  rw [strs_map]
  dsimp only
  rw [if_pos h]
theorem sort_perm (ws : List Str) : (sortS ws).Perm ws := List.mergeSort_perm _ _
/-- digits -/
theorem dig {ds : List Int} {zs : List Int} (hl : ds.length = zs.length) (hb : ∀ (i : Nat) (z e : Int), zs[i]? = some z → ds[i]? = some e → 0 ≤ e ∧ e < z) {i : Nat} {z : Int} (hz : zs[i]? = some z) : ∃ n : Nat, ds[i]? = some (n : Int) ∧ (n : Int) < z := by
  obtain ⟨h1, _⟩ := List.getElem?_eq_some_iff.mp hz
  have e1 : ds[i]? = some (ds[i]'(by omega)) := List.getElem?_eq_getElem (by omega)
  obtain ⟨b1, b2⟩ := hb i z _ hz e1
  refine ⟨(ds[i]'(by omega)).toNat, ?_, ?_⟩
  · rw [e1, Int.toNat_of_nonneg b1]
  · rw [Int.toNat_of_nonneg b1]; exact b2
theorem at_mem {α : Type} {xs : List α} {n : Nat} (h : n < xs.length) : ∃ x, x ∈ xs ∧ xs[n]? = some x := ⟨_, List.getElem_mem h, List.getElem?_eq_getElem h⟩
theorem mod_nat (n m : Nat) : (n : Int) % (m : Int) = ((n % m : Nat) : Int) := by omega
end VM

set_option Elab.async false
set_option linter.all false
set_option autoImplicit false
set_option maxRecDepth 100000
set_option maxHeartbeats 400000
namespace VM.K15
open PySem PySem.Spec PyProof.Rows L2 VM
noncomputable section
abbrev errTop : Str := "OwnleftError"
abbrev errNs : List Str := ["OwnleftError", "BadKind", "Unknown", "BadPlace", "Misfit", "NoStep"]
def m_is_whole : MS :=
  (mRet (mAndV (m1 (isi "int") (mRd 0)) (m1 dNot (m1 (isi "bool") (mRd 0)))))
def F_is_whole : Fn := fnOf 1 none false m_is_whole
def m_arity_of : MS :=
  (mSeq (mIfS (mB (mCall 1 F_is_whole [] (mCons (mRd 0) mNil))) (mRet (mC (.int 0))) mSkip)
  (mSeq (mAsg 1 (m2 dIx (mRd 0) (mC (.int 0))))
  (mSeq (mIfS (mB (m2 dEq (mRd 1) (mC (.str "helper")))) (mRet (mC (.int 0))) mSkip)
  (mSeq (mIfS (mOr (mB (m2 dEq (mRd 1) (mC (.str "fun")))) (mB (m2 dEq (mRd 1) (mC (.str "ask"))))) (mRet (mC (.int 1))) mSkip)
  (mSeq (mIfS (mOr (mB (m2 dEq (mRd 1) (mC (.str "under")))) (mB (m2 dEq (mRd 1) (mC (.str "of"))))) (mRet (mC (.int 2))) mSkip)
  (mSeq (mIfS (mB (m2 dEq (mRd 1) (mC (.str "make")))) (mRet (m2 dIx (mRd 0) (mC (.int 2)))) mSkip)
  (mRet (m2 dAdd (mC (.int 1)) (mCall1 dLen (mCons (m2 dIx (mRd 0) (m1 dNeg (mC (.int 1)))) mNil))))))))))
def F_arity_of : Fn := fnOf 2 none false m_arity_of
def b_program_ends_0 : MS :=
  (mAsg 4 (mWith lfree 1 (m2 dIx (mRd 1) (mRd 4))))
def f_program_ends_1 : MS :=
  (mFor (mRng1 (mCons (mCall 1 F_arity_of [] (mCons (m2 dIx (mRd 0) (mRd 3)) mNil)) mNil)) (mtN 5) b_program_ends_0)
def b_program_ends_2 : MS :=
  (mSeq (mAsg 3 (m2 (dI2 cSub) (m2 (dI2 cSub) (mCall1 dLen (mCons (mRd 0) mNil)) (mC (.int 1))) (mRd 2)))
  (mSeq (mAsg 4 (m2 dAdd (mRd 3) (mC (.int 1))))
  (mSeq f_program_ends_1
  (mPut 1 (mRd 4) (mRd 3)))))
def f_program_ends_3 : MS :=
  (mFor (mRng1 (mCons (mCall1 dLen (mCons (mRd 0) mNil)) mNil)) (mtN 2) b_program_ends_2)
def m_program_ends : MS :=
  (mSeq (mAsgO 1 (m2 dRep (mLst (mCons (mC (.int 0)) mNil)) (mCall1 dLen (mCons (mRd 0) mNil))))
  (mSeq f_program_ends_3
  (mRet (mCall1 dTuple (mCons (mMv 1) mNil)))))
def F_program_ends : Fn := fnOf 6 none false m_program_ends
def b_starts_of_0 : MS :=
  (mSeq (mApp 3 (mRd 4))
  (mAsg 4 (m2 dIx (mRd 1) (mRd 4))))
def f_starts_of_1 : MS :=
  (mFor (mRng1 (mCons (mCall 1 F_arity_of [] (mCons (m2 dIx (mRd 0) (mRd 2)) mNil)) mNil)) (mtN 5) b_starts_of_0)
def m_starts_of : MS :=
  (mSeq (mAsgO 3 (mLst mNil))
  (mSeq (mAsg 4 (m2 dAdd (mRd 2) (mC (.int 1))))
  (mSeq f_starts_of_1
  (mRet (mCall1 dTuple (mCons (mMv 3) mNil))))))
def F_starts_of : Fn := fnOf 6 none false m_starts_of
def m_check_index : MS :=
  (mIfS (mOr (mB (m2 (dCmp ciLt csLt) (mRd 1) (mC (.int 0)))) (mB (m2 (dCI ciGe) (mRd 1) (mCall1 dLen (mCons (mRd 0) mNil))))) (mRaise "BadPlace" ["place"] (mCons (mRd 1) mNil)) mSkip)
def F_check_index : Fn := fnOf 2 none false m_check_index
def m_children_of : MS :=
  (mSeq (mDrop (mCall 2 F_check_index [] (mCons (mRd 0) (mCons (mRd 1) mNil))))
  (mRet (mCall 3 F_starts_of [] (mCons (mRd 0) (mCons (mCall 1 F_program_ends [] (mCons (mRd 0) mNil)) (mCons (mRd 1) mNil))))))
def F_children_of : Fn := fnOf 2 none false m_children_of
def m_bound_in : MS :=
  (mSeq (mIfS (mB (mCall 1 F_is_whole [] (mCons (mRd 0) mNil))) (mRet (mC (.int 0))) mSkip)
  (mSeq (mIfS (mB (m2 dEq (m2 dIx (mRd 0) (mC (.int 0))) (mC (.str "fun")))) (mRet (mC (.int 1))) mSkip)
  (mSeq (mIfS (mAnd (mB (m2 dEq (m2 dIx (mRd 0) (mC (.int 0))) (mC (.str "case")))) (mB (m2 (dCI ciGt) (mRd 1) (mC (.int 0))))) (mRet (mCall1 dLen (mCons (m2 dIx (m2 dIx (m2 dIx (mRd 0) (mC (.int 3))) (m2 (dI2 cSub) (mRd 1) (mC (.int 1)))) (mC (.int 1))) mNil))) mSkip)
  (mSeq (mIfS (mAnd (mB (m2 dEq (m2 dIx (mRd 0) (mC (.int 0))) (mC (.str "keep")))) (mB (m2 (dCI ciGt) (mRd 1) (mC (.int 0))))) (mRet (mC (.int 2))) mSkip)
  (mRet (mC (.int 0)))))))
def F_bound_in : Fn := fnOf 2 none false m_bound_in
def b_levels_of_0 : MS :=
  (mPut 2 (m2 dAdd (mWith lfree 2 (m2 dIx (mRd 2) (mRd 3))) (mCall 2 F_bound_in [] (mCons (mRd 4) (mCons (mRd 5) mNil)))) (mRd 6))
def f_levels_of_1 : MS :=
  (mFor (mEnum (mCons (mCall 3 F_starts_of [] (mCons (mRd 0) (mCons (mRd 1) (mCons (mRd 3) mNil)))) mNil)) (mtTup 2 (mtCons (mtN 5) (mtCons (mtN 6) mtNil))) b_levels_of_0)
def b_levels_of_2 : MS :=
  f_levels_of_1
def f_levels_of_3 : MS :=
  (mFor (mEnum (mCons (mRd 0) mNil)) (mtTup 2 (mtCons (mtN 3) (mtCons (mtN 4) mtNil))) b_levels_of_2)
def m_levels_of : MS :=
  (mSeq (mAsg 1 (mCall 1 F_program_ends [] (mCons (mRd 0) mNil)))
  (mSeq (mAsgO 2 (m2 dRep (mLst (mCons (mC (.int 0)) mNil)) (mCall1 dLen (mCons (mRd 0) mNil))))
  (mSeq f_levels_of_3
  (mRet (mCall1 dTuple (mCons (mMv 2) mNil))))))
def F_levels_of : Fn := fnOf 7 none false m_levels_of
def m_part_of : MS :=
  (mSeq (mDrop (mCall 2 F_check_index [] (mCons (mRd 0) (mCons (mRd 1) mNil))))
  (mRet (mSl (mRd 0) (moS (mRd 1)) (moS (m2 dIx (mCall 1 F_program_ends [] (mCons (mRd 0) mNil)) (mRd 1))))))
def F_part_of : Fn := fnOf 2 none false m_part_of
def m_put_part : MS :=
  (mSeq (mDrop (mCall 2 F_check_index [] (mCons (mRd 0) (mCons (mRd 1) mNil))))
  (mRet (m2 dAdd (m2 dAdd (mSl (mRd 0) moN (moS (mRd 1))) (mRd 2)) (mSl (mRd 0) (moS (m2 dIx (mCall 1 F_program_ends [] (mCons (mRd 0) mNil)) (mRd 1))) moN))))
def F_put_part : Fn := fnOf 3 none false m_put_part
def b_is_closed_0 : MS :=
  (mIfS (mAnd (mB (mCall 1 F_is_whole [] (mCons (mRd 3) mNil))) (mB (m2 (dCI ciGe) (mRd 3) (m2 dIx (mRd 1) (mRd 2))))) (mRet (mC (.bl false))) mSkip)
def f_is_closed_1 : MS :=
  (mFor (mEnum (mCons (mRd 0) mNil)) (mtTup 2 (mtCons (mtN 2) (mtCons (mtN 3) mtNil))) b_is_closed_0)
def m_is_closed : MS :=
  (mSeq (mAsg 1 (mCall 1 F_levels_of [] (mCons (mRd 0) mNil)))
  (mSeq f_is_closed_1
  (mRet (mC (.bl true)))))
def F_is_closed : Fn := fnOf 4 none false m_is_closed
def m__law_whole : MS :=
  (mRet (mAndV (m1 (isi "int") (mRd 0)) (m1 dNot (m1 (isi "bool") (mRd 0)))))
def F__law_whole : Fn := fnOf 1 none false m__law_whole
def b__law_cell_0 : MS :=
  (mAsg 2 (m2 (dI2 cMod) (mCall1 dInt (mCons (m2 dAdd (m2 (dI2 cMul) (mRd 2) (mC (.int 31))) (m2 (dI2 cMod) (mCall1 dInt (mCons (mRd 3) mNil)) (mC (.int 1000003)))) mNil)) (mC (.int 1000003))))
def f__law_cell_1 : MS :=
  (mFor (mItems (mRd 0)) (mtN 3) b__law_cell_0)
def m__law_cell : MS :=
  (mSeq (mIfS (mB (m2 (dCmp ciLt csLt) (mRd 1) (mCall1 dLen (mCons (mRd 0) mNil)))) (mRet (m2 dIx (mRd 0) (mRd 1))) mSkip)
  (mSeq (mAsg 2 (mC (.int 17)))
  (mSeq f__law_cell_1
  (mRet (m2 (dI2 cMod) (mCall1 dInt (mCons (m2 (dI2 cMul) (m2 (dI2 cMul) (m2 dAdd (mRd 2) (mC (.int 7))) (m2 dAdd (mRd 1) (mC (.int 3)))) (mC (.int 69621))) mNil)) (mC (.int 2147483647)))))))
def F__law_cell : Fn := fnOf 4 none false m__law_cell
def b__law_row_0 : MS :=
  (mSeq (mAsg 7 (m2 (dI2 cMod) (mCall1 dInt (mCons (m2 dAdd (m2 dAdd (m2 (dI2 cMul) (mRd 7) (mC (.int 48271))) (m2 (dI2 cMul) (mC (.int 974711)) (mRd 8))) (mC (.int 12345))) mNil)) (mC (.int 2147483647))))
  (mSeq (mApp 3 (m2 (dI2 cMod) (mCall1 dInt (mCons (m2 dIx (mLst (mCons (m2 (dI2 cDiv) (m2 (dI2 cMod) (mCall1 dInt (mCons (m2 (dI2 cMul) (mRd 7) (m2 dAdd (m2 (dI2 cDiv) (mRd 7) (mC (.int 65537))) (mC (.int 3)))) mNil)) (mC (.int 2147483629))) (mC (.int 19))) (mCons (mRd 5) mNil))) (mRd 6)) mNil)) (mC (.int 997))))
  (mAsg 5 (m2 (dI2 cDiv) (mRd 5) (mC (.int 997))))))
def f__law_row_1 : MS :=
  (mFor (mRng1 (mCons (mC (.int 20)) mNil)) (mtN 8) b__law_row_0)
def b__law_row_2 : MS :=
  (mSeq (mAsg 5 (m2 (dI2 cSub) (mCall1 dInt (mCons (mCall 2 F__law_cell [] (mCons (mRd 0) (mCons (mRd 4) mNil))) mNil)) (m2 (dI2 cPow) (mC (.int 10)) (mC (.int 18)))))
  (mSeq (mAsg 6 (mCall1 dInt (mCons (m2 (dCI ciGe) (mRd 5) (mC (.int 0))) mNil)))
  (mSeq (mAsg 7 (m2 (dI2 cMod) (mCall1 dInt (mCons (m2 dAdd (mRd 5) (m2 (dI2 cPow) (mC (.int 10)) (mC (.int 18)))) mNil)) (mC (.int 2147483629))))
  f__law_row_1)))
def f__law_row_3 : MS :=
  (mFor (mRng2 (mCons (mRd 1) (mCons (m2 dAdd (mRd 1) (mRd 2)) mNil))) (mtN 4) b__law_row_2)
def m__law_row : MS :=
  (mSeq (mAsgO 3 (mLst mNil))
  (mSeq f__law_row_3
  (mRetO (mTk 3))))
def F__law_row : Fn := fnOf 9 none true m__law_row
def m__law_pick : MS :=
  (mSeq (mPut 1 (m2 dAdd (mWith lfree 1 (m2 dIx (mRd 1) (mC (.int 0)))) (mC (.int 1))) (mC (.int 0)))
  (mRet (m2 (dI2 cMod) (mCall1 dInt (mCons (m2 dAdd (m2 dIx (mRd 0) (m2 (dI2 cMod) (mCall1 dInt (mCons (mWith lfree 1 (m2 dIx (mRd 1) (mC (.int 0)))) mNil)) (mCall1 dLen (mCons (mRd 0) mNil)))) (m2 (dI2 cMul) (m2 (dI2 cDiv) (mWith lfree 1 (m2 dIx (mRd 1) (mC (.int 0)))) (mCall1 dLen (mCons (mRd 0) mNil))) (mC (.int 7)))) mNil)) (mRd 2))))
def F__law_pick : Fn := fnOf 3 (some 1) false m__law_pick
def m__law_arity : MS :=
  (mSeq (mIfS (mOr (mB (mCall 1 F__law_whole [] (mCons (mRd 0) mNil))) (mB (m2 dEq (m2 dIx (mRd 0) (mC (.int 0))) (mC (.str "helper"))))) (mRet (mC (.int 0))) mSkip)
  (mSeq (mIfS (mB (m2 dEq (m2 dIx (mRd 0) (mC (.int 0))) (mC (.str "make")))) (mRet (m2 dIx (mRd 0) (mC (.int 2)))) mSkip)
  (mSeq (mIfS (mOr (mB (m2 dEq (m2 dIx (mRd 0) (mC (.int 0))) (mC (.str "case")))) (mB (m2 dEq (m2 dIx (mRd 0) (mC (.int 0))) (mC (.str "keep"))))) (mRet (m2 dAdd (mC (.int 1)) (mCall1 dLen (mCons (m2 dIx (mRd 0) (m2 (dI2 cSub) (mCall1 dLen (mCons (mRd 0) mNil)) (mC (.int 1)))) mNil)))) mSkip)
  (mRet (m2 dAdd (mC (.int 1)) (mCall1 dInt (mCons (mOrV (m2 dEq (m2 dIx (mRd 0) (mC (.int 0))) (mC (.str "of"))) (m2 dEq (m2 dIx (mRd 0) (mC (.int 0))) (mC (.str "under")))) mNil)))))))
def F__law_arity : Fn := fnOf 1 none false m__law_arity
def m__law_binds : MS :=
  (mSeq (mIfS (mB (mCall 1 F__law_whole [] (mCons (mRd 0) mNil))) (mRet (mC (.int 0))) mSkip)
  (mSeq (mIfS (mB (m2 dEq (m2 dIx (mRd 0) (mC (.int 0))) (mC (.str "fun")))) (mRet (mC (.int 1))) mSkip)
  (mSeq (mIfS (mAnd (mB (m2 dEq (m2 dIx (mRd 0) (mC (.int 0))) (mC (.str "case")))) (mB (m2 (dCI ciGt) (mRd 1) (mC (.int 0))))) (mRet (mCall1 dLen (mCons (m2 dIx (m2 dIx (m2 dIx (mRd 0) (mC (.int 3))) (m2 (dI2 cSub) (mRd 1) (mC (.int 1)))) (mC (.int 1))) mNil))) mSkip)
  (mRet (m2 (dI2 cMul) (mC (.int 2)) (mCall1 dInt (mCons (mAndV (m2 dEq (m2 dIx (mRd 0) (mC (.int 0))) (mC (.str "keep"))) (m2 (dCI ciGt) (mRd 1) (mC (.int 0)))) mNil)))))))
def F__law_binds : Fn := fnOf 2 none false m__law_binds
def b__law_token_0 : MS :=
  (mSeq (mAsg 15 (mCall1 dTuple (mCons (mLc [16] (mRng1 (mCons (m2 dIx (mLst (mCons (mC (.int 0)) (mCons (mC (.int 1)) (mCons (mC (.int 2)) (mCons (mC (.int 3)) (mCons (mC (.int 1)) (mCons (mC (.int 5)) mNil))))))) (mCallI 3 F__law_pick 1 [] (miCons (mRd 0) (miHere 1 (mCons (mC (.int 6)) mNil))))) mNil)) (mtN 16) mYes (m2 dEq (mCallI 3 F__law_pick 1 [] (miCons (mRd 0) (miHere 1 (mCons (mC (.int 2)) mNil)))) (mC (.int 0)))) mNil)))
  (mAsg 13 (m2 dAdd (mRd 13) (mTup (mCons (mTup (mCons (m2 dIx (mLst (mCons (mC (.str "c")) (mCons (mC (.str "leaf")) (mCons (mC (.str "d")) (mCons (mC (.str "mk")) mNil))))) (mCallI 3 F__law_pick 1 [] (miCons (mRd 0) (miHere 1 (mCons (mC (.int 4)) mNil))))) (mCons (mRd 15) mNil))) mNil)))))
def f__law_token_1 : MS :=
  (mFor (mRng1 (mCons (mCall1 dMin2 (mCons (mCall1 dMax2 (mCons (mC (.int 0)) (mCons (m2 (dI2 cSub) (mRd 3) (mC (.int 1))) mNil))) (mCons (m2 dIx (mLst (mCons (mC (.int 0)) (mCons (mC (.int 1)) (mCons (mC (.int 2)) (mCons (mC (.int 3)) (mCons (mC (.int 1)) (mCons (mC (.int 2)) (mCons (mC (.int 6)) (mCons (mC (.int 16)) mNil))))))))) (mCallI 3 F__law_pick 1 [] (miCons (mRd 0) (miHere 1 (mCons (mC (.int 8)) mNil))))) mNil))) mNil)) (mtN 14) b__law_token_0)
def m__law_token : MS :=
  (mSeq (mAsg 6 (m2 dIx (mLst (mCons (mTup (mCons (mC (.str "o")) mNil)) (mCons (mTup (mCons (mC (.str "D")) mNil)) (mCons (mTup (mCons (mTup mNil) (mCons (mC (.str "D")) (mCons (mC (.str "o")) mNil)))) (mCons (mTup (mCons (mTup (mCons (mC (.str "get")) mNil)) (mCons (mTup mNil) (mCons (mC (.str "o")) (mCons (mC (.str "Tree")) (mCons (mC (.str "num")) mNil)))))) (mCons (mTup (mCons (mC (.str "of")) mNil)) (mCons (mTup (mCons (mC (.str "num")) mNil)) mNil))))))) (mCallI 3 F__law_pick 1 [] (miCons (mRd 0) (miHere 1 (mCons (mC (.int 6)) mNil))))))
  (mSeq (mAsg 7 (m2 dIx (mLst (mCons (mTup mNil) (mCons (mTup (mCons (mC (.str "get")) mNil)) (mCons (mTup (mCons (mC (.str "get")) (mCons (mC (.str "set")) mNil))) (mCons (mTup (mCons (mC (.str "a")) mNil)) (mCons (mTup mNil) mNil)))))) (mCallI 3 F__law_pick 1 [] (miCons (mRd 0) (miHere 1 (mCons (mC (.int 5)) mNil))))))
  (mSeq (mAsg 8 (m2 dIx (mLst (mCons (mC (.str "c")) (mCons (mC (.str "leaf")) (mCons (mC (.str "h")) (mCons (mC (.str "put2")) (mCons (mC (.str "k")) mNil)))))) (mCallI 3 F__law_pick 1 [] (miCons (mRd 0) (miHere 1 (mCons (mC (.int 5)) mNil))))))
  (mSeq (mAsg 9 (m2 dIx (mLst (mCons (mC (.str "")) (mCons (mC (.str "vvvhm")) mNil))) (mCall1 dInt (mCons (mOrV (m1 dNot (mRd 5)) (m2 dEq (mRd 3) (mC (.int 0)))) mNil))))
  (mSeq (mAsg 9 (m2 dAdd (mRd 9) (m2 dIx (mLst (mCons (mC (.str "")) (mCons (mC (.str "ffamkc")) (mCons (mC (.str "ffouoamkc")) (mCons (mC (.str "ffouoamkckc")) mNil))))) (mCall1 dMin2 (mCons (mC (.int 3)) (mCons (mRd 3) mNil))))))
  (mSeq (mAsg 10 (m2 dIx (mRd 9) (mCallI 3 F__law_pick 1 [] (miCons (mRd 0) (miHere 1 (mCons (mCall1 dLen (mCons (mRd 9) mNil)) mNil))))))
  (mSeq (mAsg 11 (mCall1 dMin2 (mCons (mRd 3) (mCons (m2 dIx (mLst (mCons (mC (.int 0)) (mCons (mC (.int 1)) (mCons (mC (.int 2)) (mCons (mC (.int 3)) (mCons (mC (.int 4)) (mCons (mC (.int 7)) mNil))))))) (mCallI 3 F__law_pick 1 [] (miCons (mRd 0) (miHere 1 (mCons (mC (.int 6)) mNil))))) mNil))))
  (mSeq (mIfS (mB (mRd 5)) (mAsg 11 (mCall1 dMax2 (mCons (mCall1 dMin2 (mCons (mC (.int 1)) (mCons (mRd 3) mNil))) (mCons (mRd 11) mNil)))) mSkip)
  (mSeq (mIfS (mAnd (mB (m2 dEq (mRd 10) (mC (.str "v")))) (mOr (mB (m2 (dCI ciGt) (mRd 2) (mC (.int 0)))) (mNot (mB (mRd 4))))) (mSeq (mIfS (mB (mRd 4)) (mRet (m2 dIx (mLst (mCons (m2 (dI2 cSub) (mRd 2) (mC (.int 1))) (mCons (mCallI 3 F__law_pick 1 [] (miCons (mRd 0) (miHere 1 (mCons (mRd 2) mNil)))) mNil))) (mCallI 3 F__law_pick 1 [] (miCons (mRd 0) (miHere 1 (mCons (mC (.int 2)) mNil)))))) mSkip)
  (mRet (mCall1 dMax2 (mCons (mC (.int 0)) (mCons (m2 dAdd (m2 (dI2 cSub) (mRd 2) (mC (.int 3))) (mCallI 3 F__law_pick 1 [] (miCons (mRd 0) (miHere 1 (mCons (mC (.int 9)) mNil))))) mNil))))) mSkip)
  (mSeq (mIfS (mB (m2 dEq (mRd 10) (mC (.str "f")))) (mRet (mTup (mCons (mC (.str "fun")) (mCons (mRd 6) (mCons (mRd 7) mNil))))) mSkip)
  (mSeq (mIfS (mB (m2 dEq (mRd 10) (mC (.str "o")))) (mRet (mTup (mCons (mC (.str "of")) mNil))) mSkip)
  (mSeq (mIfS (mB (m2 dEq (mRd 10) (mC (.str "u")))) (mRet (mTup (mCons (mC (.str "under")) mNil))) mSkip)
  (mSeq (mIfS (mB (m2 dEq (mRd 10) (mC (.str "a")))) (mRet (mTup (mCons (mC (.str "ask")) (mCons (m2 dIx (mLst (mCons (mC (.str "get")) (mCons (mC (.str "set")) (mCons (mC (.str "a")) (mCons (mC (.str "raise")) mNil))))) (mCallI 3 F__law_pick 1 [] (miCons (mRd 0) (miHere 1 (mCons (mC (.int 4)) mNil))))) mNil)))) mSkip)
  (mSeq (mIfS (mB (m2 dEq (mRd 10) (mC (.str "m")))) (mRet (mTup (mCons (mC (.str "make")) (mCons (mRd 8) (mCons (mRd 11) mNil))))) mSkip)
  (mSeq (mIfS (mB (m2 dEq (mRd 10) (mC (.str "k")))) (mSeq (mAsg 12 (mSl (mTup (mCons (mC (.str "a")) (mCons (mC (.str "ab")) (mCons (mC (.str "b2")) (mCons (mC (.str "get")) (mCons (mC (.str "set")) (mCons (mC (.str "tell")) mNil))))))) moN (moS (mCall1 dMax2 (mCons (mC (.int 0)) (mCons (mCall1 dMin2 (mCons (m2 (dI2 cSub) (mRd 3) (mC (.int 1))) (mCons (m2 dIx (mLst (mCons (mC (.int 0)) (mCons (mC (.int 1)) (mCons (mC (.int 2)) (mCons (mC (.int 3)) (mCons (mC (.int 1)) (mCons (mC (.int 6)) mNil))))))) (mCallI 3 F__law_pick 1 [] (miCons (mRd 0) (miHere 1 (mCons (mC (.int 6)) mNil))))) mNil))) mNil))))))
  (mRet (mTup (mCons (mC (.str "keep")) (mCons (mRd 6) (mCons (m2 dIx (mLst (mCons (mTup mNil) (mCons (mRd 12) (mCons (mTup (mCons (mC (.str "a")) (mCons (mC (.str "b2")) (mCons (mC (.str "get")) mNil)))) mNil)))) (mCallI 3 F__law_pick 1 [] (miCons (mRd 0) (miHere 1 (mCons (mC (.int 3)) mNil))))) (mCons (mRd 7) (mCons (mRd 12) mNil)))))))) mSkip)
  (mSeq (mIfS (mB (m2 dEq (mRd 10) (mC (.str "c")))) (mSeq (mAsg 13 (mTup mNil))
  (mSeq f__law_token_1
  (mRet (mTup (mCons (mC (.str "case")) (mCons (m2 dIx (mLst (mCons (mC (.str "D")) (mCons (mC (.str "Tree")) (mCons (mC (.str "E2")) mNil)))) (mCallI 3 F__law_pick 1 [] (miCons (mRd 0) (miHere 1 (mCons (mC (.int 3)) mNil))))) (mCons (mRd 6) (mCons (mRd 13) mNil)))))))) mSkip)
  (mRet (mTup (mCons (mC (.str "helper")) (mCons (mRd 8) (mCons (mRd 6) mNil)))))))))))))))))))))
def F__law_token : Fn := fnOf 17 (some 1) false m__law_token
def b__law_any_0 : MS :=
  (mSeq (mAsg 7 (mPop 5))
  (mSeq (mAsg 8 (mCallI 6 F__law_token 1 [] (miCons (mRd 0) (miHere 1 (mCons (mRd 7) (mCons (m2 (dI2 cSub) (m2 (dI2 cSub) (m2 (dI2 cSub) (mRd 2) (mWith lfree 4 (mCall1 dLen (mCons (mRd 4) mNil)))) (mC (.int 1))) (mWith lfree 5 (mCall1 dLen (mCons (mRd 5) mNil)))) (mCons (mRd 3) (mCons (m2 dEq (mWith lfree 5 (mCall1 dLen (mCons (mRd 5) mNil))) (mC (.int 0))) mNil))))))))
  (mSeq (mApp 4 (mRd 8))
  (mSeq (mAsg 9 (mCall 1 F__law_arity [] (mCons (mRd 8) mNil)))
  (mExt2 5 (mLc [10] (mRng1 (mCons (mRd 9) mNil)) (mtN 10) mYes (m2 dAdd (mRd 7) (mCall 2 F__law_binds [] (mCons (mRd 8) (mCons (m2 (dI2 cSub) (m2 (dI2 cSub) (mRd 9) (mC (.int 1))) (mRd 10)) mNil))))))))))
def f__law_any_1 : MS :=
  (mFor (mRng1 (mCons (mRd 2) mNil)) (mtN 6) b__law_any_0)
def m__law_any : MS :=
  (mSeq (mAsgO 4 (mLst mNil))
  (mSeq (mAsgO 5 (mLst (mCons (mC (.int 0)) mNil)))
  (mSeq f__law_any_1
  (mRet (mCall1 dTuple (mCons (mMv 4) mNil))))))
def F__law_any : Fn := fnOf 11 (some 1) false m__law_any
def b__law_walked_0 : MS :=
  (mSeq (mAsg 8 (mWith lfree 4 (m2 dIx (mRd 4) (m2 (dI2 cSub) (m2 (dI2 cSub) (mCall1 dLen (mCons (mRd 4) mNil)) (mC (.int 1))) (mRd 7)))))
  (mSeq (mIfS (mB (m2 (dCmp ciLt csLt) (mWith lfree 2 (mCall1 dLen (mCons (m2 dIx (mRd 2) (mRd 8)) mNil))) (mCall 1 F__law_arity [] (mCons (m2 dIx (mRd 0) (mRd 8)) mNil)))) (fun sv => .bk sv) mSkip)
  (mPut 1 (m2 dAdd (mRd 5) (mC (.int 1))) (mRd 8))))
def f__law_walked_1 : MS :=
  (mFor (mRng1 (mCons (mWith lfree 4 (mCall1 dLen (mCons (mRd 4) mNil))) mNil)) (mtN 7) b__law_walked_0)
def b__law_walked_2 : MS :=
  (mSeq (mIfS (mB (m2 (dCI ciGt) (mWith lfree 4 (mCall1 dLen (mCons (mRd 4) mNil))) (mC (.int 0)))) (mSeq (mAsg 6 (mWith lfree 4 (m2 dIx (mRd 4) (m2 (dI2 cSub) (mCall1 dLen (mCons (mRd 4) mNil)) (mC (.int 1))))))
  (mSeq (mPut 3 (m2 dAdd (mWith lfree 3 (m2 dIx (mRd 3) (mRd 6))) (mCall 2 F__law_binds [] (mCons (m2 dIx (mRd 0) (mRd 6)) (mCons (mWith lfree 2 (mCall1 dLen (mCons (m2 dIx (mRd 2) (mRd 6)) mNil))) mNil)))) (mRd 5))
  (mAppIx 2 (mRd 6) (mRd 5)))) mSkip)
  (mSeq (mApp 4 (mRd 5))
  (mSeq f__law_walked_1
  (mAsgO 4 (mLc [8] (mItems (mMv 4)) (mtN 8) (mB (m2 dEq (mWith lfree 1 (m2 dIx (mRd 1) (mRd 8))) (mC (.int 0)))) (mRd 8))))))
def f__law_walked_3 : MS :=
  (mFor (mRng1 (mCons (mCall1 dLen (mCons (mRd 0) mNil)) mNil)) (mtN 5) b__law_walked_2)
def m__law_walked : MS :=
  (mSeq (mAsgO 1 (mLc [9] (mItems (mRd 0)) (mtN 9) mYes (mC (.int 0))))
  (mSeq (mAsgO 2 (mLcO [9] (mItems (mRd 0)) (mtN 9) mYes (mLst mNil)))
  (mSeq (mAsgO 3 (mLc [9] (mItems (mRd 0)) (mtN 9) mYes (mC (.int 0))))
  (mSeq (mAsgO 4 (mLst mNil))
  (mSeq f__law_walked_3
  (mRetO (mLst (mCons (mMv 1) (mCons (mMv 2) (mCons (mMv 3) mNil))))))))))
def F__law_walked : Fn := fnOf 10 none true m__law_walked
def b__law_is_shut_0 : MS :=
  (mIfS (mAnd (mB (mCall 1 F__law_whole [] (mCons (m2 dIx (mRd 0) (mRd 3)) mNil))) (mB (m2 (dCI ciGe) (m2 dIx (mRd 0) (mRd 3)) (m2 (dI2 cSub) (m2 dIx (m2 dIx (mRd 1) (mC (.int 2))) (mRd 3)) (m2 dIx (m2 dIx (mRd 1) (mC (.int 2))) (mRd 2)))))) (mRet (mC (.bl false))) mSkip)
def f__law_is_shut_1 : MS :=
  (mFor (mRng2 (mCons (mRd 2) (mCons (m2 dIx (m2 dIx (mRd 1) (mC (.int 0))) (mRd 2)) mNil))) (mtN 3) b__law_is_shut_0)
def m__law_is_shut : MS :=
  (mSeq f__law_is_shut_1
  (mRet (mC (.bl true))))
def F__law_is_shut : Fn := fnOf 4 none false m__law_is_shut
def m__law_refused : MS :=
  (mSeq (mTry errTop errNs "OwnleftError" 4 (mIfS (mB (m2 dEq (mRd 3) (mC (.int 0)))) (mDrop (mCall 2 F_children_of [] (mCons (mRd 0) (mCons (mRd 1) mNil)))) (mIfS (mB (m2 dEq (mRd 3) (mC (.int 1)))) (mDrop (mCall 2 F_part_of [] (mCons (mRd 0) (mCons (mRd 1) mNil)))) (mDrop (mCall 3 F_put_part [] (mCons (mRd 0) (mCons (mRd 1) (mCons (mRd 2) mNil))))))) (mRet (mAndV (mExIs errNs 4 fun c => isSub errTop c "BadPlace") (mAndV (m1 dNot (mExIs errNs 4 fun c => (["BadKind", "Misfit", "NoStep", "Unknown"] : List Str).any (isSub errTop c))) (m2 dEq (mCall1 dRepr (mCons (mExF errNs 4 "place") mNil)) (mCall1 dRepr (mCons (mRd 1) mNil)))))))
  (mRet (mC (.bl false))))
def F__law_refused : Fn := fnOf 5 none false m__law_refused
def b__law_place_right_0 : MS :=
  (mIfS (mB (m2 dNe (mCall1 dRepr (mCons (mCall 2 F_bound_in [] (mCons (mRd 3) (mCons (mRd 5) mNil))) mNil)) (mCall1 dRepr (mCons (m2 (dI2 cSub) (m2 dIx (m2 dIx (mRd 1) (mC (.int 2))) (m2 dIx (mRd 4) (mRd 5))) (m2 dIx (m2 dIx (mRd 1) (mC (.int 2))) (mRd 2))) mNil)))) (mRet (mC (.bl false))) mSkip)
def f__law_place_right_1 : MS :=
  (mFor (mRng1 (mCons (mCall1 dLen (mCons (mRd 4) mNil)) mNil)) (mtN 5) b__law_place_right_0)
def m__law_place_right : MS :=
  (mSeq (mAsg 3 (m2 dIx (mRd 0) (mRd 2)))
  (mSeq (mAsg 4 (m2 dIx (m2 dIx (mRd 1) (mC (.int 1))) (mRd 2)))
  (mSeq (mIfS (mOr (mB (m2 dNe (mCall1 dRepr (mCons (mCall 1 F_arity_of [] (mCons (mRd 3) mNil)) mNil)) (mCall1 dRepr (mCons (mCall1 dLen (mCons (mRd 4) mNil)) mNil)))) (mB (m2 dNe (mCall1 dRepr (mCons (mCall 2 F_children_of [] (mCons (mRd 0) (mCons (mRd 2) mNil))) mNil)) (mCall1 dRepr (mCons (mCall1 dTuple (mCons (mRd 4) mNil)) mNil))))) (mRet (mC (.bl false))) mSkip)
  (mSeq f__law_place_right_1
  (mSeq (mAsg 6 (mCall 2 F_part_of [] (mCons (mRd 0) (mCons (mRd 2) mNil))))
  (mRet (mAndV (m2 dEq (mCall1 dRepr (mCons (mRd 6) mNil)) (mCall1 dRepr (mCons (mSl (mRd 0) (moS (mRd 2)) (moS (m2 dIx (m2 dIx (mRd 1) (mC (.int 0))) (mRd 2)))) mNil))) (m2 dEq (mCall1 dRepr (mCons (mCall 1 F_is_closed [] (mCons (mRd 6) mNil)) mNil)) (mCall1 dRepr (mCons (mCall 3 F__law_is_shut [] (mCons (mRd 0) (mCons (mRd 1) (mCons (mRd 2) mNil)))) mNil))))))))))
def F__law_place_right : Fn := fnOf 7 none false m__law_place_right
def b_law_0 : MS :=
  (mSeq (mAsg 11 (m2 dIx (mMv 8) (mCallI 3 F__law_pick 1 [] (miCons (mRd 5) (miHere 2 (mCons (mCall1 dLen (mCons (mMv 8) mNil)) mNil))))))
  (mApp 7 (m2 dAdd (m2 dAdd (mSl (mRd 4) moN (moS (mRd 11))) (mTup (mCons (mCall1 dMax2 (mCons (mC (.int 0)) (mCons (m2 (dI2 cSub) (m2 dIx (m2 dIx (mRd 9) (mC (.int 2))) (mRd 11)) (mRd 10)) mNil))) mNil))) (mSl (mRd 4) (moS (m2 dAdd (mRd 11) (mC (.int 1)))) moN))))
def f_law_1 : MS :=
  (mFor (mRng1 (mCons (mCall1 dMin2 (mCons (mC (.int 2)) (mCons (mCall1 dLen (mCons (mMv 8) mNil)) mNil))) mNil)) (mtN 10) b_law_0)
def b_law_2 : MS :=
  (mSeq (mAsg 13 (mFz (mCall 1 F__law_walked [] (mCons (mRd 12) mNil))))
  (mSeq (mIfS (mOr (mB (m2 dNe (mCall1 dRepr (mCons (mCall 1 F_program_ends [] (mCons (mRd 12) mNil)) mNil)) (mCall1 dRepr (mCons (mCall1 dTuple (mCons (m2 dIx (mRd 13) (mC (.int 0))) mNil)) mNil)))) (mB (m2 dNe (mCall1 dRepr (mCons (mCall 1 F_levels_of [] (mCons (mRd 12) mNil)) mNil)) (mCall1 dRepr (mCons (mCall1 dTuple (mCons (m2 dIx (mRd 13) (mC (.int 2))) mNil)) mNil))))) (mRet (mC (.bl false))) mSkip)
  (mIfS (mB (m2 dNe (mCall1 dRepr (mCons (mCall 1 F_is_closed [] (mCons (mRd 12) mNil)) mNil)) (mCall1 dRepr (mCons (mCall 3 F__law_is_shut [] (mCons (mRd 12) (mCons (mRd 13) (mCons (mC (.int 0)) mNil)))) mNil)))) (mRet (mC (.bl false))) mSkip)))
def f_law_3 : MS :=
  (mFor (mItems (m2 dAdd (mMv 7) (mLst (mCons (mRd 4) mNil)))) (mtN 12) b_law_2)
def b_law_4 : MS :=
  (mIfS (mNot (mB (mCall 3 F__law_place_right [] (mCons (mRd 4) (mCons (mRd 9) (mCons (mRd 11) mNil)))))) (mRet (mC (.bl false))) mSkip)
def f_law_5 : MS :=
  (mFor (mItems (mMv 14)) (mtN 11) b_law_4)
def b_law_6 : MS :=
  (mSeq (mAsg 11 (m2 dIx (mLst (mCons (mCallI 3 F__law_pick 1 [] (miCons (mRd 5) (miHere 2 (mCons (mCall1 dLen (mCons (mRd 4) mNil)) mNil)))) (mCons (mC (.int 0)) (mCons (m2 (dI2 cSub) (mCall1 dLen (mCons (mRd 4) mNil)) (mC (.int 1))) mNil)))) (mRd 10)))
  (mSeq (mAsg 15 (mCall 3 F_put_part [] (mCons (mRd 4) (mCons (mRd 11) (mCons (mRd 6) mNil)))))
  (mSeq (mIfS (mB (m2 dNe (mCall1 dRepr (mCons (mRd 15) mNil)) (mCall1 dRepr (mCons (m2 dAdd (m2 dAdd (mSl (mRd 4) moN (moS (mRd 11))) (mRd 6)) (mSl (mRd 4) (moS (m2 dIx (m2 dIx (mRd 9) (mC (.int 0))) (mRd 11))) moN)) mNil)))) (mRet (mC (.bl false))) mSkip)
  (mIfS (mB (m2 dNe (mCall1 dRepr (mCons (mCallK 3 F_put_part (kj 1 2) (mCons (mRd 15) mNil) (mCons (mRd 11) (mCons (mCallK 2 F_part_of (kj 0 2) mNil (mCons (mRd 4) (mCons (mRd 11) mNil))) mNil))) mNil)) (mCall1 dRepr (mCons (mRd 4) mNil)))) (mRet (mC (.bl false))) mSkip))))
def f_law_7 : MS :=
  (mFor (mRng1 (mCons (mC (.int 3)) mNil)) (mtN 10) b_law_6)
def b_law_8 : MS :=
  (mIfS (mNot (mB (mCall 4 F__law_refused [] (mCons (mRd 4) (mCons (m2 dIx (mRd 16) (mRd 10)) (mCons (mRd 6) (mCons (m2 dIx (mLst (mCons (mC (.int 0)) (mCons (mC (.int 1)) (mCons (mC (.int 2)) (mCons (mC (.int 1)) (mCons (mC (.int 0)) (mCons (mC (.int 2)) mNil))))))) (m2 (dI2 cMod) (mCall1 dInt (mCons (m2 dAdd (mRd 10) (mCallI 3 F__law_pick 1 [] (miCons (mRd 5) (miHere 2 (mCons (mC (.int 3)) mNil))))) mNil)) (mC (.int 6)))) mNil))))))) (mRet (mC (.bl false))) mSkip)
def f_law_9 : MS :=
  (mFor (mRng1 (mCons (mC (.int 6)) mNil)) (mtN 10) b_law_8)
def b_law_10 : MS :=
  (mIfS (mB (m2 dNe (mCall1 dRepr (mCons (mCallK 2 F_bound_in (kjp 0 [1, 0]) mNil (mCons (mRd 10) (mCons (m2 dIx (mRd 6) (mC (.int 0))) mNil))) mNil)) (mCall1 dRepr (mCons (mCall 2 F__law_binds [] (mCons (m2 dIx (mRd 6) (mC (.int 0))) (mCons (mRd 10) mNil))) mNil)))) (mRet (mC (.bl false))) mSkip)
def f_law_11 : MS :=
  (mFor (mRng1 (mCons (mCall1 dLen (mCons (m2 dIx (m2 dIx (mRd 13) (mC (.int 1))) (mC (.int 0))) mNil)) mNil)) (mtN 10) b_law_10)
def m_law : MS :=
  (mSeq (mAsg 1 (mFz (mCall 3 F__law_row [] (mCons (mRd 0) (mCons (mC (.int 0)) (mCons (mC (.int 6)) mNil))))))
  (mSeq (mAsgO 2 (mLst (mCons (mC (.int 0)) mNil)))
  (mSeq (mAsg 3 (mLst (mCons (m2 dAdd (mC (.int 1)) (mCallI 3 F__law_pick 1 [] (miCons (mRd 1) (miHere 2 (mCons (mC (.int 8)) mNil))))) (mCons (m2 dAdd (mC (.int 2)) (mCallI 3 F__law_pick 1 [] (miCons (mRd 1) (miHere 2 (mCons (mC (.int 40)) mNil))))) (mCons (m2 dAdd (mC (.int 10)) (mCallI 3 F__law_pick 1 [] (miCons (mRd 1) (miHere 2 (mCons (mC (.int 50)) mNil))))) (mCons (m2 (dI2 cSub) (mC (.int 600)) (mCallI 3 F__law_pick 1 [] (miCons (mRd 1) (miHere 2 (mCons (mC (.int 300)) mNil))))) mNil))))))
  (mSeq (mAsg 3 (m2 dIx (mRd 3) (m2 dIx (mLst (mCons (mC (.int 0)) (mCons (mC (.int 1)) (mCons (mC (.int 1)) (mCons (mC (.int 2)) (mCons (mC (.int 1)) (mCons (mC (.int 2)) (mCons (mC (.int 1)) (mCons (mC (.int 2)) (mCons (mC (.int 1)) (mCons (mC (.int 2)) (mCons (mC (.int 1)) (mCons (mC (.int 3)) mNil))))))))))))) (mCallI 3 F__law_pick 1 [] (miCons (mRd 1) (miHere 2 (mCons (mC (.int 12)) mNil)))))))
  (mSeq (mAsg 4 (mCallI 4 F__law_any 1 [] (miCons (mRd 1) (miHere 2 (mCons (mRd 3) (mCons (m2 (dCI ciGt) (mCallI 3 F__law_pick 1 [] (miCons (mRd 1) (miHere 2 (mCons (mC (.int 3)) mNil)))) (mC (.int 0))) mNil))))))
  (mSeq (mAsg 5 (mFz (mCall 3 F__law_row [] (mCons (mRd 0) (mCons (mC (.int 6)) (mCons (mC (.int 4)) mNil))))))
  (mSeq (mAsg 6 (mCallI 4 F__law_any 1 [] (miCons (mRd 5) (miHere 2 (mCons (m2 dAdd (mC (.int 1)) (mCallI 3 F__law_pick 1 [] (miCons (mRd 5) (miHere 2 (mCons (mC (.int 20)) mNil))))) (mCons (m2 dEq (mCallI 3 F__law_pick 1 [] (miCons (mRd 5) (miHere 2 (mCons (mC (.int 3)) mNil)))) (mC (.int 0))) mNil))))))
  (mSeq (mAsgO 7 (mLst (mCons (mRd 4) (mCons (mRd 6) mNil))))
  (mSeq (mAsgO 8 (mLc [11] (mRng1 (mCons (mCall1 dLen (mCons (mRd 4) mNil)) mNil)) (mtN 11) (mB (mCall 1 F__law_whole [] (mCons (m2 dIx (mRd 4) (mRd 11)) mNil))) (mRd 11)))
  (mSeq (mAsg 9 (mFz (mCall 1 F__law_walked [] (mCons (mRd 4) mNil))))
  (mSeq f_law_1
  (mSeq f_law_3
  (mSeq (mAsgO 14 (mLc [11] (mRng1 (mCons (mCall1 dLen (mCons (mRd 4) mNil)) mNil)) (mtN 11) mYes (mRd 11)))
  (mSeq (mIfS (mB (m2 (dCI ciGt) (mCall1 dLen (mCons (mMv 14) mNil)) (mC (.int 61)))) (mAsgO 14 (m2 dCat (mLst (mCons (mC (.int 0)) (mCons (m2 (dI2 cSub) (mCall1 dLen (mCons (mRd 4) mNil)) (mC (.int 1))) mNil))) (mLc [10] (mRng1 (mCons (mC (.int 25)) mNil)) (mtN 10) mYes (mCallI 3 F__law_pick 1 [] (miCons (mRd 5) (miHere 2 (mCons (mCall1 dLen (mCons (mRd 4) mNil)) mNil))))))) mSkip)
  (mSeq f_law_5
  (mSeq f_law_7
  (mSeq (mAsg 16 (mLst (mCons (m1 dNeg (mC (.int 1))) (mCons (mCall1 dLen (mCons (mRd 4) mNil)) (mCons (m2 dAdd (m2 dAdd (mCall1 dLen (mCons (mRd 4) mNil)) (mC (.int 1))) (mCallI 3 F__law_pick 1 [] (miCons (mRd 5) (miHere 2 (mCons (mC (.int 9)) mNil))))) (mCons (m2 (dI2 cSub) (mC (.int 0)) (mCall1 dLen (mCons (mRd 4) mNil))) (mCons (m2 (dI2 cPow) (mC (.int 10)) (mC (.int 20))) (mCons (m2 (dI2 cSub) (m1 dNeg (mC (.int 1))) (mCallI 3 F__law_pick 1 [] (miCons (mRd 5) (miHere 2 (mCons (mCall1 dLen (mCons (mRd 4) mNil)) mNil))))) mNil))))))))
  (mSeq f_law_9
  (mSeq (mAsg 13 (mFz (mCall 1 F__law_walked [] (mCons (mRd 6) mNil))))
  (mSeq (mIfS (mB (m2 dNe (mCall1 dRepr (mCons (mLst (mCons (mCallK 1 F_program_ends (kj 0 1) mNil (mCons (mRd 6) mNil)) (mCons (mCallK 1 F_levels_of (kj 0 1) mNil (mCons (mRd 6) mNil)) mNil))) mNil)) (mCall1 dRepr (mCons (mLst (mCons (mCall1 dTuple (mCons (m2 dIx (mRd 13) (mC (.int 0))) mNil)) (mCons (mCall1 dTuple (mCons (m2 dIx (mRd 13) (mC (.int 2))) mNil)) mNil))) mNil)))) (mRet (mC (.bl false))) mSkip)
  (mSeq (mIfS (mB (m2 dNe (mCall1 dRepr (mCons (mLst (mCons (mCallK 1 F_arity_of (kj 0 1) mNil (mCons (m2 dIx (mRd 6) (mC (.int 0))) mNil)) (mCons (mCallK 1 F_is_closed (kj 0 1) mNil (mCons (mRd 6) mNil)) mNil))) mNil)) (mCall1 dRepr (mCons (mLst (mCons (mCall1 dLen (mCons (m2 dIx (m2 dIx (mRd 13) (mC (.int 1))) (mC (.int 0))) mNil)) (mCons (mCall 3 F__law_is_shut [] (mCons (mRd 6) (mCons (mRd 13) (mCons (mC (.int 0)) mNil)))) mNil))) mNil)))) (mRet (mC (.bl false))) mSkip)
  (mSeq f_law_11
  (mRet (mAndV (m2 dEq (mCall1 dRepr (mCons (mCallK 2 F_children_of (kjp 0 [1, 0]) mNil (mCons (mC (.int 0)) (mCons (mRd 6) mNil))) mNil)) (mCall1 dRepr (mCons (mCall1 dTuple (mCons (m2 dIx (m2 dIx (mRd 13) (mC (.int 1))) (mC (.int 0))) mNil)) mNil))) (mCall 3 F__law_place_right [] (mCons (mRd 6) (mCons (mRd 13) (mCons (mC (.int 0)) mNil))))))))))))))))))))))))))))
def F_law : Fn := fnOf 17 none false m_law
end
end VM.K15

set_option Elab.async false
set_option linter.all false
set_option autoImplicit false
set_option maxRecDepth 100000
set_option maxHeartbeats 400000
namespace VM.K15
open PySem PySem.Spec PyProof.Rows L2 VM
abbrev topS (i : Nat) : Stmt := PySem.Challenge.pw_ownleft_k15_places_and_levels.main.body.getD i (.Pass ⟨0, 0, 0, 0⟩)
abbrev s_is_whole : Stmt := topS 8
abbrev N_is_whole : List Str := ["value"]
theorem sc_is_whole : FnScope N_is_whole ["value"] (defScope s_is_whole) := ⟨rfl, rfl, rfl, by decide +kernel, rfl, by decide +kernel, by decide +kernel⟩
abbrev s_arity_of : Stmt := topS 10
abbrev N_arity_of : List Str := ["token", "form"]
theorem sc_arity_of : FnScope N_arity_of ["token"] (defScope s_arity_of) := ⟨rfl, rfl, rfl, by decide +kernel, rfl, by decide +kernel, by decide +kernel⟩
abbrev s_program_ends : Stmt := topS 11
abbrev N_program_ends : List Str := ["program", "ends", "back", "place", "behind", "_"]
theorem sc_program_ends : FnScope N_program_ends ["program"] (defScope s_program_ends) := ⟨rfl, rfl, rfl, by decide +kernel, rfl, by decide +kernel, by decide +kernel⟩
abbrev s_starts_of : Stmt := topS 12
abbrev N_starts_of : List Str := ["program", "ends", "place", "starts", "start", "_"]
theorem sc_starts_of : FnScope N_starts_of ["program", "ends", "place"] (defScope s_starts_of) := ⟨rfl, rfl, rfl, by decide +kernel, rfl, by decide +kernel, by decide +kernel⟩
abbrev s_check_index : Stmt := topS 13
abbrev N_check_index : List Str := ["program", "place"]
theorem sc_check_index : FnScope N_check_index ["program", "place"] (defScope s_check_index) := ⟨rfl, rfl, rfl, by decide +kernel, rfl, by decide +kernel, by decide +kernel⟩
abbrev s_children_of : Stmt := topS 14
abbrev N_children_of : List Str := ["program", "place"]
theorem sc_children_of : FnScope N_children_of ["program", "place"] (defScope s_children_of) := ⟨rfl, rfl, rfl, by decide +kernel, rfl, by decide +kernel, by decide +kernel⟩
abbrev s_bound_in : Stmt := topS 15
abbrev N_bound_in : List Str := ["token", "number"]
theorem sc_bound_in : FnScope N_bound_in ["token", "number"] (defScope s_bound_in) := ⟨rfl, rfl, rfl, by decide +kernel, rfl, by decide +kernel, by decide +kernel⟩
abbrev s_levels_of : Stmt := topS 16
abbrev N_levels_of : List Str := ["program", "ends", "levels", "place", "token", "number", "start"]
theorem sc_levels_of : FnScope N_levels_of ["program"] (defScope s_levels_of) := ⟨rfl, rfl, rfl, by decide +kernel, rfl, by decide +kernel, by decide +kernel⟩
abbrev s_part_of : Stmt := topS 17
abbrev N_part_of : List Str := ["program", "place"]
theorem sc_part_of : FnScope N_part_of ["program", "place"] (defScope s_part_of) := ⟨rfl, rfl, rfl, by decide +kernel, rfl, by decide +kernel, by decide +kernel⟩
abbrev s_put_part : Stmt := topS 18
abbrev N_put_part : List Str := ["program", "place", "new"]
theorem sc_put_part : FnScope N_put_part ["program", "place", "new"] (defScope s_put_part) := ⟨rfl, rfl, rfl, by decide +kernel, rfl, by decide +kernel, by decide +kernel⟩
abbrev s_is_closed : Stmt := topS 19
abbrev N_is_closed : List Str := ["program", "levels", "place", "token"]
theorem sc_is_closed : FnScope N_is_closed ["program"] (defScope s_is_closed) := ⟨rfl, rfl, rfl, by decide +kernel, rfl, by decide +kernel, by decide +kernel⟩
abbrev s__law_whole : Stmt := topS 21
abbrev N__law_whole : List Str := ["value"]
theorem sc__law_whole : FnScope N__law_whole ["value"] (defScope s__law_whole) := ⟨rfl, rfl, rfl, by decide +kernel, rfl, by decide +kernel, by decide +kernel⟩
abbrev s__law_cell : Stmt := topS 22
abbrev N__law_cell : List Str := ["script", "k", "seed", "cell"]
theorem sc__law_cell : FnScope N__law_cell ["script", "k"] (defScope s__law_cell) := ⟨rfl, rfl, rfl, by decide +kernel, rfl, by decide +kernel, by decide +kernel⟩
abbrev s__law_row : Stmt := topS 23
abbrev N__law_row : List Str := ["script", "at", "many", "told", "k", "rest", "great", "seed", "j"]
theorem sc__law_row : FnScope N__law_row ["script", "at", "many"] (defScope s__law_row) := ⟨rfl, rfl, rfl, by decide +kernel, rfl, by decide +kernel, by decide +kernel⟩
abbrev s__law_pick : Stmt := topS 24
abbrev N__law_pick : List Str := ["ds", "p", "many"]
theorem sc__law_pick : FnScope N__law_pick ["ds", "p", "many"] (defScope s__law_pick) := ⟨rfl, rfl, rfl, by decide +kernel, rfl, by decide +kernel, by decide +kernel⟩
abbrev s__law_arity : Stmt := topS 25
abbrev N__law_arity : List Str := ["token"]
theorem sc__law_arity : FnScope N__law_arity ["token"] (defScope s__law_arity) := ⟨rfl, rfl, rfl, by decide +kernel, rfl, by decide +kernel, by decide +kernel⟩
abbrev s__law_binds : Stmt := topS 26
abbrev N__law_binds : List Str := ["token", "k"]
theorem sc__law_binds : FnScope N__law_binds ["token", "k"] (defScope s__law_binds) := ⟨rfl, rfl, rfl, by decide +kernel, rfl, by decide +kernel, by decide +kernel⟩
abbrev s__law_token : Stmt := topS 27
abbrev N__law_token : List Str := ["ds", "p", "level", "room", "closed", "last", "kind", "asks", "word", "forms", "form", "many", "words", "heads", "k", "marks", "j"]
theorem sc__law_token : FnScope N__law_token ["ds", "p", "level", "room", "closed", "last"] (defScope s__law_token) := ⟨rfl, rfl, rfl, by decide +kernel, rfl, by decide +kernel, by decide +kernel⟩
abbrev s__law_any : Stmt := topS 28
abbrev N__law_any : List Str := ["ds", "p", "size", "closed", "paper", "levels", "turn", "level", "token", "many", "k"]
theorem sc__law_any : FnScope N__law_any ["ds", "p", "size", "closed"] (defScope s__law_any) := ⟨rfl, rfl, rfl, by decide +kernel, rfl, by decide +kernel, by decide +kernel⟩
abbrev s__law_walked : Stmt := topS 29
abbrev N__law_walked : List Str := ["paper", "ends", "children", "levels", "lacking", "at", "above", "turn", "last", "token"]
theorem sc__law_walked : FnScope N__law_walked ["paper"] (defScope s__law_walked) := ⟨rfl, rfl, rfl, by decide +kernel, rfl, by decide +kernel, by decide +kernel⟩
abbrev s__law_is_shut : Stmt := topS 30
abbrev N__law_is_shut : List Str := ["paper", "walked", "at", "k"]
theorem sc__law_is_shut : FnScope N__law_is_shut ["paper", "walked", "at"] (defScope s__law_is_shut) := ⟨rfl, rfl, rfl, by decide +kernel, rfl, by decide +kernel, by decide +kernel⟩
abbrev s__law_refused : Stmt := topS 31
abbrev N__law_refused : List Str := ["paper", "spot", "other", "turn", "e"]
theorem sc__law_refused : FnScope N__law_refused ["paper", "spot", "other", "turn"] (defScope s__law_refused) := ⟨rfl, rfl, rfl, by decide +kernel, rfl, by decide +kernel, by decide +kernel⟩
abbrev s__law_place_right : Stmt := topS 32
abbrev N__law_place_right : List Str := ["paper", "walked", "at", "token", "due", "k", "part"]
theorem sc__law_place_right : FnScope N__law_place_right ["paper", "walked", "at"] (defScope s__law_place_right) := ⟨rfl, rfl, rfl, by decide +kernel, rfl, by decide +kernel, by decide +kernel⟩
abbrev s_law : Stmt := topS 33
abbrev N_law : List Str := ["script", "ds", "p", "size", "paper", "es", "other", "papers", "inside", "walked", "k", "at", "one", "known", "spots", "put", "wrong"]
theorem sc_law : FnScope N_law ["script"] (defScope s_law) := ⟨rfl, rfl, rfl, by decide +kernel, rfl, by decide +kernel, by decide +kernel⟩
abbrev errFs : List Str := ["place"]
abbrev sI_BadPlace : Stmt := inClass (topS 4) 0
theorem scI_BadPlace : FnScope ["self", "place"] ["self", "place"] (defScope sI_BadPlace) := ⟨rfl, rfl, rfl, by decide +kernel, rfl, by decide +kernel, by decide +kernel⟩
structure Txt (K : PySem.W.Frag) (mg : Str → Option Value) where
  a_is_whole : Addr
  d_is_whole : FuncData
  F_is_whole : Fun K "is_whole" "is_whole" s_is_whole a_is_whole d_is_whole
  g_is_whole : mg "is_whole" = some (.ref a_is_whole)
  b_is_whole : Binds K d_is_whole ["value"] []
  a_arity_of : Addr
  d_arity_of : FuncData
  F_arity_of : Fun K "arity_of" "arity_of" s_arity_of a_arity_of d_arity_of
  g_arity_of : mg "arity_of" = some (.ref a_arity_of)
  b_arity_of : Binds K d_arity_of ["token"] []
  a_program_ends : Addr
  d_program_ends : FuncData
  F_program_ends : Fun K "program_ends" "program_ends" s_program_ends a_program_ends d_program_ends
  g_program_ends : mg "program_ends" = some (.ref a_program_ends)
  b_program_ends : Binds K d_program_ends ["program"] []
  a_starts_of : Addr
  d_starts_of : FuncData
  F_starts_of : Fun K "starts_of" "starts_of" s_starts_of a_starts_of d_starts_of
  g_starts_of : mg "starts_of" = some (.ref a_starts_of)
  b_starts_of : Binds K d_starts_of ["program", "ends", "place"] []
  a_check_index : Addr
  d_check_index : FuncData
  F_check_index : Fun K "check_index" "check_index" s_check_index a_check_index d_check_index
  g_check_index : mg "check_index" = some (.ref a_check_index)
  b_check_index : Binds K d_check_index ["program", "place"] []
  a_children_of : Addr
  d_children_of : FuncData
  F_children_of : Fun K "children_of" "children_of" s_children_of a_children_of d_children_of
  g_children_of : mg "children_of" = some (.ref a_children_of)
  b_children_of : Binds K d_children_of ["program", "place"] []
  a_bound_in : Addr
  d_bound_in : FuncData
  F_bound_in : Fun K "bound_in" "bound_in" s_bound_in a_bound_in d_bound_in
  g_bound_in : mg "bound_in" = some (.ref a_bound_in)
  b_bound_in : Binds K d_bound_in ["token", "number"] []
  a_levels_of : Addr
  d_levels_of : FuncData
  F_levels_of : Fun K "levels_of" "levels_of" s_levels_of a_levels_of d_levels_of
  g_levels_of : mg "levels_of" = some (.ref a_levels_of)
  b_levels_of : Binds K d_levels_of ["program"] []
  a_part_of : Addr
  d_part_of : FuncData
  F_part_of : Fun K "part_of" "part_of" s_part_of a_part_of d_part_of
  g_part_of : mg "part_of" = some (.ref a_part_of)
  b_part_of : Binds K d_part_of ["program", "place"] []
  a_put_part : Addr
  d_put_part : FuncData
  F_put_part : Fun K "put_part" "put_part" s_put_part a_put_part d_put_part
  g_put_part : mg "put_part" = some (.ref a_put_part)
  b_put_part : Binds K d_put_part ["program", "place", "new"] []
  a_is_closed : Addr
  d_is_closed : FuncData
  F_is_closed : Fun K "is_closed" "is_closed" s_is_closed a_is_closed d_is_closed
  g_is_closed : mg "is_closed" = some (.ref a_is_closed)
  b_is_closed : Binds K d_is_closed ["program"] []
  a__law_whole : Addr
  d__law_whole : FuncData
  F__law_whole : Fun K "_law_whole" "_law_whole" s__law_whole a__law_whole d__law_whole
  g__law_whole : mg "_law_whole" = some (.ref a__law_whole)
  b__law_whole : Binds K d__law_whole ["value"] []
  a__law_cell : Addr
  d__law_cell : FuncData
  F__law_cell : Fun K "_law_cell" "_law_cell" s__law_cell a__law_cell d__law_cell
  g__law_cell : mg "_law_cell" = some (.ref a__law_cell)
  b__law_cell : Binds K d__law_cell ["script", "k"] []
  a__law_row : Addr
  d__law_row : FuncData
  F__law_row : Fun K "_law_row" "_law_row" s__law_row a__law_row d__law_row
  g__law_row : mg "_law_row" = some (.ref a__law_row)
  b__law_row : Binds K d__law_row ["script", "at", "many"] []
  a__law_pick : Addr
  d__law_pick : FuncData
  F__law_pick : Fun K "_law_pick" "_law_pick" s__law_pick a__law_pick d__law_pick
  g__law_pick : mg "_law_pick" = some (.ref a__law_pick)
  b__law_pick : Binds K d__law_pick ["ds", "p", "many"] []
  a__law_arity : Addr
  d__law_arity : FuncData
  F__law_arity : Fun K "_law_arity" "_law_arity" s__law_arity a__law_arity d__law_arity
  g__law_arity : mg "_law_arity" = some (.ref a__law_arity)
  b__law_arity : Binds K d__law_arity ["token"] []
  a__law_binds : Addr
  d__law_binds : FuncData
  F__law_binds : Fun K "_law_binds" "_law_binds" s__law_binds a__law_binds d__law_binds
  g__law_binds : mg "_law_binds" = some (.ref a__law_binds)
  b__law_binds : Binds K d__law_binds ["token", "k"] []
  a__law_token : Addr
  d__law_token : FuncData
  F__law_token : Fun K "_law_token" "_law_token" s__law_token a__law_token d__law_token
  g__law_token : mg "_law_token" = some (.ref a__law_token)
  b__law_token : Binds K d__law_token ["ds", "p", "level", "room", "closed", "last"] []
  a__law_any : Addr
  d__law_any : FuncData
  F__law_any : Fun K "_law_any" "_law_any" s__law_any a__law_any d__law_any
  g__law_any : mg "_law_any" = some (.ref a__law_any)
  b__law_any : Binds K d__law_any ["ds", "p", "size", "closed"] []
  a__law_walked : Addr
  d__law_walked : FuncData
  F__law_walked : Fun K "_law_walked" "_law_walked" s__law_walked a__law_walked d__law_walked
  g__law_walked : mg "_law_walked" = some (.ref a__law_walked)
  b__law_walked : Binds K d__law_walked ["paper"] []
  a__law_is_shut : Addr
  d__law_is_shut : FuncData
  F__law_is_shut : Fun K "_law_is_shut" "_law_is_shut" s__law_is_shut a__law_is_shut d__law_is_shut
  g__law_is_shut : mg "_law_is_shut" = some (.ref a__law_is_shut)
  b__law_is_shut : Binds K d__law_is_shut ["paper", "walked", "at"] []
  a__law_refused : Addr
  d__law_refused : FuncData
  F__law_refused : Fun K "_law_refused" "_law_refused" s__law_refused a__law_refused d__law_refused
  g__law_refused : mg "_law_refused" = some (.ref a__law_refused)
  b__law_refused : Binds K d__law_refused ["paper", "spot", "other", "turn"] []
  a__law_place_right : Addr
  d__law_place_right : FuncData
  F__law_place_right : Fun K "_law_place_right" "_law_place_right" s__law_place_right a__law_place_right d__law_place_right
  g__law_place_right : mg "_law_place_right" = some (.ref a__law_place_right)
  b__law_place_right : Binds K d__law_place_right ["paper", "walked", "at"] []
  a_law : Addr
  d_law : FuncData
  F_law : Fun K "law" "law" s_law a_law d_law
  g_law : mg "law" = some (.ref a_law)
  b_law : Binds K d_law ["script"] []
  n_bool : mg "bool" = none
  n_enumerate : mg "enumerate" = none
  n_int : mg "int" = none
  n_isinstance : mg "isinstance" = none
  n_len : mg "len" = none
  n_max : mg "max" = none
  n_min : mg "min" = none
  n_range : mg "range" = none
  n_repr : mg "repr" = none
  n_tuple : mg "tuple" = none
  err : ErrT K mg errTop errNs errFs
  i_BadPlace : Addr
  di_BadPlace : FuncData
  I_BadPlace : Fun K "__init__" "BadPlace.__init__" sI_BadPlace i_BadPlace di_BadPlace
  iC_BadPlace : PySem.W.findIn K (.ref (adIn K "BadPlace")) "__init__" = some (some (.ref i_BadPlace))
  tI_BadPlace : PySem.W.typeIn K (.ref i_BadPlace) = some (.type "function")
  bI_BadPlace : Binds K di_BadPlace ["self", "place"] []
section
variable {P : Program} {w : World} {K : PySem.W.Frag} {mg : Str → Option Value} {base : Heap}
theorem kb_arity_of_0 (T : Txt K mg) : KBinds K T.d_arity_of ["token"] ["token"] (kj 0 1) (kj 0 1) := kj_binds (by decide) T.F_arity_of fun _ _ _ _ _ _ us ws h1 h2 => match us, ws, h1, h2 with | [], [_], _, _ => rfl
theorem kb_bound_in_0_10 (T : Txt K mg) : KBinds K T.d_bound_in ["token", "number"] ["number", "token"] (kjp 0 [1, 0]) (kjp 0 [1, 0]) := kjp_binds (by decide) T.F_bound_in fun _ _ _ _ _ _ us ws h1 h2 => match us, ws, h1, h2 with | [], [_, _], _, _ => rfl
theorem kb_children_of_0_10 (T : Txt K mg) : KBinds K T.d_children_of ["program", "place"] ["place", "program"] (kjp 0 [1, 0]) (kjp 0 [1, 0]) := kjp_binds (by decide) T.F_children_of fun _ _ _ _ _ _ us ws h1 h2 => match us, ws, h1, h2 with | [], [_, _], _, _ => rfl
theorem kb_is_closed_0 (T : Txt K mg) : KBinds K T.d_is_closed ["program"] ["program"] (kj 0 1) (kj 0 1) := kj_binds (by decide) T.F_is_closed fun _ _ _ _ _ _ us ws h1 h2 => match us, ws, h1, h2 with | [], [_], _, _ => rfl
theorem kb_levels_of_0 (T : Txt K mg) : KBinds K T.d_levels_of ["program"] ["program"] (kj 0 1) (kj 0 1) := kj_binds (by decide) T.F_levels_of fun _ _ _ _ _ _ us ws h1 h2 => match us, ws, h1, h2 with | [], [_], _, _ => rfl
theorem kb_part_of_0 (T : Txt K mg) : KBinds K T.d_part_of ["program", "place"] ["program", "place"] (kj 0 2) (kj 0 2) := kj_binds (by decide) T.F_part_of fun _ _ _ _ _ _ us ws h1 h2 => match us, ws, h1, h2 with | [], [_, _], _, _ => rfl
theorem kb_program_ends_0 (T : Txt K mg) : KBinds K T.d_program_ends ["program"] ["program"] (kj 0 1) (kj 0 1) := kj_binds (by decide) T.F_program_ends fun _ _ _ _ _ _ us ws h1 h2 => match us, ws, h1, h2 with | [], [_], _, _ => rfl
theorem kb_put_part_1 (T : Txt K mg) : KBinds K T.d_put_part ["program", "place", "new"] ["place", "new"] (kj 1 2) (kj 1 2) := kj_binds (by decide) T.F_put_part fun _ _ _ _ _ _ us ws h1 h2 => match us, ws, h1, h2 with | [_], [_, _], _, _ => rfl
theorem ini_BadPlace (T : Txt K mg) : FnOk P w K mg base CX0 1 T.i_BadPlace T.di_BadPlace ["self", "place"] (spIni1 (adIn K "BadPlace") "place") := ini1_ok T.I_BadPlace scI_BadPlace (T.err.o _ (by decide +kernel)) (T.err.nf _ (by decide +kernel) _ (by decide +kernel)) fun cdv A outer s H E => pss_one (ps_ost (pv 0) (pv 1))
set_option maxHeartbeats 4000000 in
theorem ok_is_whole (T : Txt K mg) : FnG P w K mg base 1 T.a_is_whole T.d_is_whole ["value"] (spV K mg 1 none false F_is_whole) :=
  fn_ok (N := N_is_whole) (io := none) (ro := false) (body := m_is_whole) T.F_is_whole sc_is_whole rfl (by decide) fun cdv A outer s H E c =>
  (ss_one (ss_ret (se_and (se_isi (T := "int") (by rfl) T.n_isinstance (by rfl) T.n_int boot_int' (se_rd (pv 0))) (se_one (se_not (se_isi (T := "bool") (by rfl) T.n_isinstance (by rfl) T.n_bool (by decide +kernel) (se_rd (pv 0))))))))
set_option maxHeartbeats 4000000 in
theorem ok_arity_of (T : Txt K mg) : FnG P w K mg base 2 T.a_arity_of T.d_arity_of ["token"] (spV K mg 1 none false F_arity_of) :=
  fn_ok (N := N_arity_of) (io := none) (ro := false) (body := m_arity_of) T.F_arity_of sc_arity_of rfl (by decide) fun cdv A outer s H E c =>
  (ss_cons (ss_if (st_val (se_call c (by decide) (ok_is_whole T) (by rfl) T.g_is_whole T.F_is_whole.kp T.b_is_whole .nil DefOk.nil (sa_cons (se_rd (pv 0)) sa_nil))) (ss_one (ss_ret se_int)) ss_nil)
  (ss_cons (ss_set (i := 1) (fun te he => ps_set (i := 1) sc_arity_of.nd rfl (by first | exact .inl rfl | exact .inr rfl) he) (se_ix (se_rd (pv 0)) se_int))
  (ss_cons (ss_if (st_eq c.u5 (se_rd (pv 1)) se_str) (ss_one (ss_ret se_int)) ss_nil)
  (ss_cons (ss_if (PW.pt (sw_or (st_eq c.u5 (se_rd (pv 1)) se_str) (sw_or1 (st_eq c.u5 (se_rd (pv 1)) se_str)))) (ss_one (ss_ret se_int)) ss_nil)
  (ss_cons (ss_if (PW.pt (sw_or (st_eq c.u5 (se_rd (pv 1)) se_str) (sw_or1 (st_eq c.u5 (se_rd (pv 1)) se_str)))) (ss_one (ss_ret se_int)) ss_nil)
  (ss_cons (ss_if (st_eq c.u5 (se_rd (pv 1)) se_str) (ss_one (ss_ret (se_ix (se_rd (pv 0)) se_int))) ss_nil)
  (ss_one (ss_ret (se_add se_int (se_len (by rfl) T.n_len (sa_cons (se_ix (se_rd (pv 0)) (se_neg se_int)) sa_nil)))))))))))
set_option maxHeartbeats 4000000 in
theorem ok_program_ends (T : Txt K mg) : FnG P w K mg base 3 T.a_program_ends T.d_program_ends ["program"] (spV K mg 1 none false F_program_ends) :=
  fn_ok (N := N_program_ends) (io := none) (ro := false) (body := m_program_ends) T.F_program_ends sc_program_ends rfl (by decide) fun cdv A outer s H E c =>
  (ss_cons (ss_setO (i := 1) (fun te he => ps_set (i := 1) sc_program_ends.nd rfl (by first | exact .inl rfl | exact .inr rfl) he) (so_rep (se_of (so_lst (sa_cons se_int sa_nil))) (se_len (by rfl) T.n_len (sa_cons (se_rd (pv 0)) sa_nil))))
  (ss_cons (ss_for c.po rfl (si_range1 (by rfl) T.n_range (sa_cons (se_len (by rfl) T.n_len (sa_cons (se_rd (pv 0)) sa_nil)) sa_nil)) (sg_name (pg_name (i := 2) sc_program_ends.nd rfl (by first | exact .inl rfl | exact .inr rfl)))
  (ss_cons (ss_set (i := 3) (fun te he => ps_set (i := 3) sc_program_ends.nd rfl (by first | exact .inl rfl | exact .inr rfl) he) (se_sub (se_sub (se_len (by rfl) T.n_len (sa_cons (se_rd (pv 0)) sa_nil)) se_int) (se_rd (pv 2))))
  (ss_cons (ss_set (i := 4) (fun te he => ps_set (i := 4) sc_program_ends.nd rfl (by first | exact .inl rfl | exact .inr rfl) he) (se_add (se_rd (pv 3)) se_int))
  (ss_cons (ss_for c.po rfl (si_range1 (by rfl) T.n_range (sa_cons (se_call c (by decide) (ok_arity_of T) (by rfl) T.g_arity_of T.F_arity_of.kp T.b_arity_of .nil DefOk.nil (sa_cons (se_ix (se_rd (pv 0)) (se_rd (pv 3))) sa_nil)) sa_nil)) (sg_name (pg_name (i := 5) sc_program_ends.nd rfl (by first | exact .inl rfl | exact .inr rfl)))
  (ss_one (ss_set (i := 4) (fun te he => ps_set (i := 4) sc_program_ends.nd rfl (by first | exact .inl rfl | exact .inr rfl) he) (se_with (se_ix (se_rd (pv 1)) (se_rd (pv 4)))))))
  (ss_one (ss_put (fun te ti he hi => ps_asg he (pg_sub (pv 1) hi set_list)) (se_rd (pv 4)) (se_rd (pv 3))))))))
  (ss_one (ss_ret (se_tuplec (by rfl) T.n_tuple (sa_cons (se_mv (pv 1)) sa_nil))))))
set_option maxHeartbeats 4000000 in
theorem ok_starts_of (T : Txt K mg) : FnG P w K mg base 3 T.a_starts_of T.d_starts_of ["program", "ends", "place"] (spV K mg 3 none false F_starts_of) :=
  fn_ok (N := N_starts_of) (io := none) (ro := false) (body := m_starts_of) T.F_starts_of sc_starts_of rfl (by decide) fun cdv A outer s H E c =>
  (ss_cons (ss_setO (i := 3) (fun te he => ps_set (i := 3) sc_starts_of.nd rfl (by first | exact .inl rfl | exact .inr rfl) he) (so_lst sa_nil))
  (ss_cons (ss_set (i := 4) (fun te he => ps_set (i := 4) sc_starts_of.nd rfl (by first | exact .inl rfl | exact .inr rfl) he) (se_add (se_rd (pv 2)) se_int))
  (ss_cons (ss_for c.po rfl (si_range1 (by rfl) T.n_range (sa_cons (se_call c (by decide) (ok_arity_of T) (by rfl) T.g_arity_of T.F_arity_of.kp T.b_arity_of .nil DefOk.nil (sa_cons (se_ix (se_rd (pv 0)) (se_rd (pv 2))) sa_nil)) sa_nil)) (sg_name (pg_name (i := 5) sc_starts_of.nd rfl (by first | exact .inl rfl | exact .inr rfl)))
  (ss_cons (ss_app (i := 3) (fun te he => pe_bm PySem.F.plainAttrs_list PySem.F.slot_list_append PySem.F.type_list_append mt_append (pv 3) (pa_cons he pa_nil)) (se_rd (pv 4)))
  (ss_one (ss_set (i := 4) (fun te he => ps_set (i := 4) sc_starts_of.nd rfl (by first | exact .inl rfl | exact .inr rfl) he) (se_ix (se_rd (pv 1)) (se_rd (pv 4)))))))
  (ss_one (ss_ret (se_tuplec (by rfl) T.n_tuple (sa_cons (se_mv (pv 3)) sa_nil)))))))
set_option maxHeartbeats 4000000 in
theorem ok_check_index (T : Txt K mg) : FnG P w K mg base 3 T.a_check_index T.d_check_index ["program", "place"] (spV K mg 2 none false F_check_index) :=
  fn_ok (N := N_check_index) (io := none) (ro := false) (body := m_check_index) T.F_check_index sc_check_index rfl (by decide) fun cdv A outer s H E c =>
  (ss_one (ss_if (PW.pt (sw_or (st_lt (se_rd (pv 1)) se_int) (sw_or1 (st_ge (se_rd (pv 1)) (se_len (by rfl) T.n_len (sa_cons (se_rd (pv 0)) sa_nil)))))) (ss_one (ss_raise1 c (by decide) rfl T.err (by decide +kernel) T.iC_BadPlace T.tI_BadPlace (ini_BadPlace T) T.bI_BadPlace (by rfl) (sa_cons (se_rd (pv 1)) sa_nil))) ss_nil))
set_option maxHeartbeats 4000000 in
theorem ok_children_of (T : Txt K mg) : FnG P w K mg base 4 T.a_children_of T.d_children_of ["program", "place"] (spV K mg 2 none false F_children_of) :=
  fn_ok (N := N_children_of) (io := none) (ro := false) (body := m_children_of) T.F_children_of sc_children_of rfl (by decide) fun cdv A outer s H E c =>
  (ss_cons (ss_expr (se_call c (by decide) (ok_check_index T) (by rfl) T.g_check_index T.F_check_index.kp T.b_check_index .nil DefOk.nil (sa_cons (se_rd (pv 0)) (sa_cons (se_rd (pv 1)) sa_nil))))
  (ss_one (ss_ret (se_call c (by decide) (ok_starts_of T) (by rfl) T.g_starts_of T.F_starts_of.kp T.b_starts_of .nil DefOk.nil (sa_cons (se_rd (pv 0)) (sa_cons (se_call c (by decide) (ok_program_ends T) (by rfl) T.g_program_ends T.F_program_ends.kp T.b_program_ends .nil DefOk.nil (sa_cons (se_rd (pv 0)) sa_nil)) (sa_cons (se_rd (pv 1)) sa_nil)))))))
set_option maxHeartbeats 4000000 in
theorem ok_bound_in (T : Txt K mg) : FnG P w K mg base 2 T.a_bound_in T.d_bound_in ["token", "number"] (spV K mg 2 none false F_bound_in) :=
  fn_ok (N := N_bound_in) (io := none) (ro := false) (body := m_bound_in) T.F_bound_in sc_bound_in rfl (by decide) fun cdv A outer s H E c =>
  (ss_cons (ss_if (st_val (se_call c (by decide) (ok_is_whole T) (by rfl) T.g_is_whole T.F_is_whole.kp T.b_is_whole .nil DefOk.nil (sa_cons (se_rd (pv 0)) sa_nil))) (ss_one (ss_ret se_int)) ss_nil)
  (ss_cons (ss_if (st_eq c.u5 (se_ix (se_rd (pv 0)) se_int) se_str) (ss_one (ss_ret se_int)) ss_nil)
  (ss_cons (ss_if (PW.pt (sw_and (st_eq c.u5 (se_ix (se_rd (pv 0)) se_int) se_str) (sw_and1 (st_gt (se_rd (pv 1)) se_int)))) (ss_one (ss_ret (se_len (by rfl) T.n_len (sa_cons (se_ix (se_ix (se_ix (se_rd (pv 0)) se_int) (se_sub (se_rd (pv 1)) se_int)) se_int) sa_nil)))) ss_nil)
  (ss_cons (ss_if (PW.pt (sw_and (st_eq c.u5 (se_ix (se_rd (pv 0)) se_int) se_str) (sw_and1 (st_gt (se_rd (pv 1)) se_int)))) (ss_one (ss_ret se_int)) ss_nil)
  (ss_one (ss_ret se_int))))))
set_option maxHeartbeats 4000000 in
theorem ok_levels_of (T : Txt K mg) : FnG P w K mg base 4 T.a_levels_of T.d_levels_of ["program"] (spV K mg 1 none false F_levels_of) :=
  fn_ok (N := N_levels_of) (io := none) (ro := false) (body := m_levels_of) T.F_levels_of sc_levels_of rfl (by decide) fun cdv A outer s H E c =>
  (ss_cons (ss_set (i := 1) (fun te he => ps_set (i := 1) sc_levels_of.nd rfl (by first | exact .inl rfl | exact .inr rfl) he) (se_call c (by decide) (ok_program_ends T) (by rfl) T.g_program_ends T.F_program_ends.kp T.b_program_ends .nil DefOk.nil (sa_cons (se_rd (pv 0)) sa_nil)))
  (ss_cons (ss_setO (i := 2) (fun te he => ps_set (i := 2) sc_levels_of.nd rfl (by first | exact .inl rfl | exact .inr rfl) he) (so_rep (se_of (so_lst (sa_cons se_int sa_nil))) (se_len (by rfl) T.n_len (sa_cons (se_rd (pv 0)) sa_nil))))
  (ss_cons (ss_for c.po rfl (si_enum (by rfl) T.n_enumerate (sa_cons (se_rd (pv 0)) sa_nil)) (sg_tup (pg_tup rfl (sgs_cons (sg_name (pg_name (i := 3) sc_levels_of.nd rfl (by first | exact .inl rfl | exact .inr rfl))) (sgs_cons (sg_name (pg_name (i := 4) sc_levels_of.nd rfl (by first | exact .inl rfl | exact .inr rfl))) sgs_nil (pgs_cons (sg_name (pg_name (i := 4) sc_levels_of.nd rfl (by first | exact .inl rfl | exact .inr rfl))) sgs_nil)) (pgs_cons (sg_name (pg_name (i := 3) sc_levels_of.nd rfl (by first | exact .inl rfl | exact .inr rfl))) (sgs_cons (sg_name (pg_name (i := 4) sc_levels_of.nd rfl (by first | exact .inl rfl | exact .inr rfl))) sgs_nil (pgs_cons (sg_name (pg_name (i := 4) sc_levels_of.nd rfl (by first | exact .inl rfl | exact .inr rfl))) sgs_nil))))))
  (ss_one (ss_for c.po rfl (si_enum (by rfl) T.n_enumerate (sa_cons (se_call c (by decide) (ok_starts_of T) (by rfl) T.g_starts_of T.F_starts_of.kp T.b_starts_of .nil DefOk.nil (sa_cons (se_rd (pv 0)) (sa_cons (se_rd (pv 1)) (sa_cons (se_rd (pv 3)) sa_nil)))) sa_nil)) (sg_tup (pg_tup rfl (sgs_cons (sg_name (pg_name (i := 5) sc_levels_of.nd rfl (by first | exact .inl rfl | exact .inr rfl))) (sgs_cons (sg_name (pg_name (i := 6) sc_levels_of.nd rfl (by first | exact .inl rfl | exact .inr rfl))) sgs_nil (pgs_cons (sg_name (pg_name (i := 6) sc_levels_of.nd rfl (by first | exact .inl rfl | exact .inr rfl))) sgs_nil)) (pgs_cons (sg_name (pg_name (i := 5) sc_levels_of.nd rfl (by first | exact .inl rfl | exact .inr rfl))) (sgs_cons (sg_name (pg_name (i := 6) sc_levels_of.nd rfl (by first | exact .inl rfl | exact .inr rfl))) sgs_nil (pgs_cons (sg_name (pg_name (i := 6) sc_levels_of.nd rfl (by first | exact .inl rfl | exact .inr rfl))) sgs_nil))))))
  (ss_one (ss_put (fun te ti he hi => ps_asg he (pg_sub (pv 2) hi set_list)) (se_add (se_with (se_ix (se_rd (pv 2)) (se_rd (pv 3)))) (se_call c (by decide) (ok_bound_in T) (by rfl) T.g_bound_in T.F_bound_in.kp T.b_bound_in .nil DefOk.nil (sa_cons (se_rd (pv 4)) (sa_cons (se_rd (pv 5)) sa_nil)))) (se_rd (pv 6)))))))
  (ss_one (ss_ret (se_tuplec (by rfl) T.n_tuple (sa_cons (se_mv (pv 2)) sa_nil)))))))
set_option maxHeartbeats 4000000 in
theorem ok_part_of (T : Txt K mg) : FnG P w K mg base 4 T.a_part_of T.d_part_of ["program", "place"] (spV K mg 2 none false F_part_of) :=
  fn_ok (N := N_part_of) (io := none) (ro := false) (body := m_part_of) T.F_part_of sc_part_of rfl (by decide) fun cdv A outer s H E c =>
  (ss_cons (ss_expr (se_call c (by decide) (ok_check_index T) (by rfl) T.g_check_index T.F_check_index.kp T.b_check_index .nil DefOk.nil (sa_cons (se_rd (pv 0)) (sa_cons (se_rd (pv 1)) sa_nil))))
  (ss_one (ss_ret (se_slice (se_rd (pv 0)) (sp_some (se_rd (pv 1))) (sp_some (se_ix (se_call c (by decide) (ok_program_ends T) (by rfl) T.g_program_ends T.F_program_ends.kp T.b_program_ends .nil DefOk.nil (sa_cons (se_rd (pv 0)) sa_nil)) (se_rd (pv 1))))))))
set_option maxHeartbeats 4000000 in
theorem ok_put_part (T : Txt K mg) : FnG P w K mg base 4 T.a_put_part T.d_put_part ["program", "place", "new"] (spV K mg 3 none false F_put_part) :=
  fn_ok (N := N_put_part) (io := none) (ro := false) (body := m_put_part) T.F_put_part sc_put_part rfl (by decide) fun cdv A outer s H E c =>
  (ss_cons (ss_expr (se_call c (by decide) (ok_check_index T) (by rfl) T.g_check_index T.F_check_index.kp T.b_check_index .nil DefOk.nil (sa_cons (se_rd (pv 0)) (sa_cons (se_rd (pv 1)) sa_nil))))
  (ss_one (ss_ret (se_add (se_add (se_slice (se_rd (pv 0)) sp_none (sp_some (se_rd (pv 1)))) (se_rd (pv 2))) (se_slice (se_rd (pv 0)) (sp_some (se_ix (se_call c (by decide) (ok_program_ends T) (by rfl) T.g_program_ends T.F_program_ends.kp T.b_program_ends .nil DefOk.nil (sa_cons (se_rd (pv 0)) sa_nil)) (se_rd (pv 1)))) sp_none)))))
set_option maxHeartbeats 4000000 in
theorem ok_is_closed (T : Txt K mg) : FnG P w K mg base 5 T.a_is_closed T.d_is_closed ["program"] (spV K mg 1 none false F_is_closed) :=
  fn_ok (N := N_is_closed) (io := none) (ro := false) (body := m_is_closed) T.F_is_closed sc_is_closed rfl (by decide) fun cdv A outer s H E c =>
  (ss_cons (ss_set (i := 1) (fun te he => ps_set (i := 1) sc_is_closed.nd rfl (by first | exact .inl rfl | exact .inr rfl) he) (se_call c (by decide) (ok_levels_of T) (by rfl) T.g_levels_of T.F_levels_of.kp T.b_levels_of .nil DefOk.nil (sa_cons (se_rd (pv 0)) sa_nil)))
  (ss_cons (ss_for c.po rfl (si_enum (by rfl) T.n_enumerate (sa_cons (se_rd (pv 0)) sa_nil)) (sg_tup (pg_tup rfl (sgs_cons (sg_name (pg_name (i := 2) sc_is_closed.nd rfl (by first | exact .inl rfl | exact .inr rfl))) (sgs_cons (sg_name (pg_name (i := 3) sc_is_closed.nd rfl (by first | exact .inl rfl | exact .inr rfl))) sgs_nil (pgs_cons (sg_name (pg_name (i := 3) sc_is_closed.nd rfl (by first | exact .inl rfl | exact .inr rfl))) sgs_nil)) (pgs_cons (sg_name (pg_name (i := 2) sc_is_closed.nd rfl (by first | exact .inl rfl | exact .inr rfl))) (sgs_cons (sg_name (pg_name (i := 3) sc_is_closed.nd rfl (by first | exact .inl rfl | exact .inr rfl))) sgs_nil (pgs_cons (sg_name (pg_name (i := 3) sc_is_closed.nd rfl (by first | exact .inl rfl | exact .inr rfl))) sgs_nil))))))
  (ss_one (ss_if (PW.pt (sw_and (st_val (se_call c (by decide) (ok_is_whole T) (by rfl) T.g_is_whole T.F_is_whole.kp T.b_is_whole .nil DefOk.nil (sa_cons (se_rd (pv 3)) sa_nil))) (sw_and1 (st_ge (se_rd (pv 3)) (se_ix (se_rd (pv 1)) (se_rd (pv 2))))))) (ss_one (ss_ret se_bl)) ss_nil)))
  (ss_one (ss_ret se_bl))))
set_option maxHeartbeats 4000000 in
theorem ok__law_whole (T : Txt K mg) : FnG P w K mg base 1 T.a__law_whole T.d__law_whole ["value"] (spV K mg 1 none false F__law_whole) :=
  fn_ok (N := N__law_whole) (io := none) (ro := false) (body := m__law_whole) T.F__law_whole sc__law_whole rfl (by decide) fun cdv A outer s H E c =>
  (ss_one (ss_ret (se_and (se_isi (T := "int") (by rfl) T.n_isinstance (by rfl) T.n_int boot_int' (se_rd (pv 0))) (se_one (se_not (se_isi (T := "bool") (by rfl) T.n_isinstance (by rfl) T.n_bool (by decide +kernel) (se_rd (pv 0))))))))
set_option maxHeartbeats 4000000 in
theorem ok__law_cell (T : Txt K mg) : FnG P w K mg base 1 T.a__law_cell T.d__law_cell ["script", "k"] (spV K mg 2 none false F__law_cell) :=
  fn_ok (N := N__law_cell) (io := none) (ro := false) (body := m__law_cell) T.F__law_cell sc__law_cell rfl (by decide) fun cdv A outer s H E c =>
  (ss_cons (ss_if (st_lt (se_rd (pv 1)) (se_len (by rfl) T.n_len (sa_cons (se_rd (pv 0)) sa_nil))) (ss_one (ss_ret (se_ix (se_rd (pv 0)) (se_rd (pv 1))))) ss_nil)
  (ss_cons (ss_set (i := 2) (fun te he => ps_set (i := 2) sc__law_cell.nd rfl (by first | exact .inl rfl | exact .inr rfl) he) se_int)
  (ss_cons (ss_for c.po rfl (si_seq (se_rd (pv 0))) (sg_name (pg_name (i := 3) sc__law_cell.nd rfl (by first | exact .inl rfl | exact .inr rfl)))
  (ss_one (ss_set (i := 2) (fun te he => ps_set (i := 2) sc__law_cell.nd rfl (by first | exact .inl rfl | exact .inr rfl) he) (se_mod (se_intc (by rfl) T.n_int (sa_cons (se_add (se_mul (se_rd (pv 2)) se_int) (se_mod (se_intc (by rfl) T.n_int (sa_cons (se_rd (pv 3)) sa_nil)) se_int)) sa_nil)) se_int))))
  (ss_one (ss_ret (se_mod (se_intc (by rfl) T.n_int (sa_cons (se_mul (se_mul (se_add (se_rd (pv 2)) se_int) (se_add (se_rd (pv 1)) se_int)) se_int) sa_nil)) se_int))))))
set_option maxHeartbeats 4000000 in
theorem ok__law_row (T : Txt K mg) : FnG P w K mg base 2 T.a__law_row T.d__law_row ["script", "at", "many"] (spV K mg 3 none true F__law_row) :=
  fn_ok (N := N__law_row) (io := none) (ro := true) (body := m__law_row) T.F__law_row sc__law_row rfl (by decide) fun cdv A outer s H E c =>
  (ss_cons (ss_setO (i := 3) (fun te he => ps_set (i := 3) sc__law_row.nd rfl (by first | exact .inl rfl | exact .inr rfl) he) (so_lst sa_nil))
  (ss_cons (ss_for c.po rfl (si_range2 (by rfl) T.n_range (sa_cons (se_rd (pv 1)) (sa_cons (se_add (se_rd (pv 1)) (se_rd (pv 2))) sa_nil))) (sg_name (pg_name (i := 4) sc__law_row.nd rfl (by first | exact .inl rfl | exact .inr rfl)))
  (ss_cons (ss_set (i := 5) (fun te he => ps_set (i := 5) sc__law_row.nd rfl (by first | exact .inl rfl | exact .inr rfl) he) (se_sub (se_intc (by rfl) T.n_int (sa_cons (se_call c (by decide) (ok__law_cell T) (by rfl) T.g__law_cell T.F__law_cell.kp T.b__law_cell .nil DefOk.nil (sa_cons (se_rd (pv 0)) (sa_cons (se_rd (pv 4)) sa_nil))) sa_nil)) (se_pow se_int se_int)))
  (ss_cons (ss_set (i := 6) (fun te he => ps_set (i := 6) sc__law_row.nd rfl (by first | exact .inl rfl | exact .inr rfl) he) (se_intc (by rfl) T.n_int (sa_cons (se_ge (se_rd (pv 5)) se_int) sa_nil)))
  (ss_cons (ss_set (i := 7) (fun te he => ps_set (i := 7) sc__law_row.nd rfl (by first | exact .inl rfl | exact .inr rfl) he) (se_mod (se_intc (by rfl) T.n_int (sa_cons (se_add (se_rd (pv 5)) (se_pow se_int se_int)) sa_nil)) se_int))
  (ss_one (ss_for c.po rfl (si_range1 (by rfl) T.n_range (sa_cons se_int sa_nil)) (sg_name (pg_name (i := 8) sc__law_row.nd rfl (by first | exact .inl rfl | exact .inr rfl)))
  (ss_cons (ss_set (i := 7) (fun te he => ps_set (i := 7) sc__law_row.nd rfl (by first | exact .inl rfl | exact .inr rfl) he) (se_mod (se_intc (by rfl) T.n_int (sa_cons (se_add (se_add (se_mul (se_rd (pv 7)) se_int) (se_mul se_int (se_rd (pv 8)))) se_int) sa_nil)) se_int))
  (ss_cons (ss_app (i := 3) (fun te he => pe_bm PySem.F.plainAttrs_list PySem.F.slot_list_append PySem.F.type_list_append mt_append (pv 3) (pa_cons he pa_nil)) (se_mod (se_intc (by rfl) T.n_int (sa_cons (se_ix (se_of (so_lst (sa_cons (se_div (se_mod (se_intc (by rfl) T.n_int (sa_cons (se_mul (se_rd (pv 7)) (se_add (se_div (se_rd (pv 7)) se_int) se_int)) sa_nil)) se_int) se_int) (sa_cons (se_rd (pv 5)) sa_nil)))) (se_rd (pv 6))) sa_nil)) se_int))
  (ss_one (ss_set (i := 5) (fun te he => ps_set (i := 5) sc__law_row.nd rfl (by first | exact .inl rfl | exact .inr rfl) he) (se_div (se_rd (pv 5)) se_int)))))))))))
  (ss_one (ss_retO (so_tk (pv 3))))))
set_option maxHeartbeats 4000000 in
theorem ok__law_pick (T : Txt K mg) : FnG P w K mg base 1 T.a__law_pick T.d__law_pick ["ds", "p", "many"] (spV K mg 3 (some 1) false F__law_pick) :=
  fn_ok (N := N__law_pick) (io := (some 1)) (ro := false) (body := m__law_pick) T.F__law_pick sc__law_pick rfl (by decide) fun cdv A outer s H E c =>
  (ss_cons (ss_put (fun te ti he hi => ps_asg he (pg_sub (pv 1) hi set_list)) (se_add (se_with (se_ix (se_rd (pv 1)) se_int)) se_int) se_int)
  (ss_one (ss_ret (se_mod (se_intc (by rfl) T.n_int (sa_cons (se_add (se_ix (se_rd (pv 0)) (se_mod (se_intc (by rfl) T.n_int (sa_cons (se_with (se_ix (se_rd (pv 1)) se_int)) sa_nil)) (se_len (by rfl) T.n_len (sa_cons (se_rd (pv 0)) sa_nil)))) (se_mul (se_div (se_with (se_ix (se_rd (pv 1)) se_int)) (se_len (by rfl) T.n_len (sa_cons (se_rd (pv 0)) sa_nil))) se_int)) sa_nil)) (se_rd (pv 2))))))
set_option maxHeartbeats 4000000 in
theorem ok__law_arity (T : Txt K mg) : FnG P w K mg base 2 T.a__law_arity T.d__law_arity ["token"] (spV K mg 1 none false F__law_arity) :=
  fn_ok (N := N__law_arity) (io := none) (ro := false) (body := m__law_arity) T.F__law_arity sc__law_arity rfl (by decide) fun cdv A outer s H E c =>
  (ss_cons (ss_if (PW.pt (sw_or (st_val (se_call c (by decide) (ok__law_whole T) (by rfl) T.g__law_whole T.F__law_whole.kp T.b__law_whole .nil DefOk.nil (sa_cons (se_rd (pv 0)) sa_nil))) (sw_or1 (st_eq c.u5 (se_ix (se_rd (pv 0)) se_int) se_str)))) (ss_one (ss_ret se_int)) ss_nil)
  (ss_cons (ss_if (st_eq c.u5 (se_ix (se_rd (pv 0)) se_int) se_str) (ss_one (ss_ret (se_ix (se_rd (pv 0)) se_int))) ss_nil)
  (ss_cons (ss_if (PW.pt (sw_or (st_eq c.u5 (se_ix (se_rd (pv 0)) se_int) se_str) (sw_or1 (st_eq c.u5 (se_ix (se_rd (pv 0)) se_int) se_str)))) (ss_one (ss_ret (se_add se_int (se_len (by rfl) T.n_len (sa_cons (se_ix (se_rd (pv 0)) (se_sub (se_len (by rfl) T.n_len (sa_cons (se_rd (pv 0)) sa_nil)) se_int)) sa_nil))))) ss_nil)
  (ss_one (ss_ret (se_add se_int (se_intc (by rfl) T.n_int (sa_cons (se_or (se_eq c.u5 (se_ix (se_rd (pv 0)) se_int) se_str) (se_one (se_eq c.u5 (se_ix (se_rd (pv 0)) se_int) se_str))) sa_nil))))))))
set_option maxHeartbeats 4000000 in
theorem ok__law_binds (T : Txt K mg) : FnG P w K mg base 2 T.a__law_binds T.d__law_binds ["token", "k"] (spV K mg 2 none false F__law_binds) :=
  fn_ok (N := N__law_binds) (io := none) (ro := false) (body := m__law_binds) T.F__law_binds sc__law_binds rfl (by decide) fun cdv A outer s H E c =>
  (ss_cons (ss_if (st_val (se_call c (by decide) (ok__law_whole T) (by rfl) T.g__law_whole T.F__law_whole.kp T.b__law_whole .nil DefOk.nil (sa_cons (se_rd (pv 0)) sa_nil))) (ss_one (ss_ret se_int)) ss_nil)
  (ss_cons (ss_if (st_eq c.u5 (se_ix (se_rd (pv 0)) se_int) se_str) (ss_one (ss_ret se_int)) ss_nil)
  (ss_cons (ss_if (PW.pt (sw_and (st_eq c.u5 (se_ix (se_rd (pv 0)) se_int) se_str) (sw_and1 (st_gt (se_rd (pv 1)) se_int)))) (ss_one (ss_ret (se_len (by rfl) T.n_len (sa_cons (se_ix (se_ix (se_ix (se_rd (pv 0)) se_int) (se_sub (se_rd (pv 1)) se_int)) se_int) sa_nil)))) ss_nil)
  (ss_one (ss_ret (se_mul se_int (se_intc (by rfl) T.n_int (sa_cons (se_and (se_eq c.u5 (se_ix (se_rd (pv 0)) se_int) se_str) (se_one (se_gt (se_rd (pv 1)) se_int))) sa_nil))))))))
set_option maxHeartbeats 4000000 in
theorem ok__law_token (T : Txt K mg) : FnG P w K mg base 2 T.a__law_token T.d__law_token ["ds", "p", "level", "room", "closed", "last"] (spV K mg 6 (some 1) false F__law_token) :=
  fn_ok (N := N__law_token) (io := (some 1)) (ro := false) (body := m__law_token) T.F__law_token sc__law_token rfl (by decide) fun cdv A outer s H E c =>
  (ss_cons (ss_set (i := 6) (fun te he => ps_set (i := 6) sc__law_token.nd rfl (by first | exact .inl rfl | exact .inr rfl) he) (se_ix (se_of (so_lst (sa_cons (se_tup (sa_cons se_str sa_nil)) (sa_cons (se_tup (sa_cons se_str sa_nil)) (sa_cons (se_tup (sa_cons (se_tup sa_nil) (sa_cons se_str (sa_cons se_str sa_nil)))) (sa_cons (se_tup (sa_cons (se_tup (sa_cons se_str sa_nil)) (sa_cons (se_tup sa_nil) (sa_cons se_str (sa_cons se_str (sa_cons se_str sa_nil)))))) (sa_cons (se_tup (sa_cons se_str sa_nil)) (sa_cons (se_tup (sa_cons se_str sa_nil)) sa_nil)))))))) (se_callI c (by decide) (ok__law_pick T) (by rfl) T.g__law_pick T.F__law_pick.kp T.b__law_pick .nil DefOk.nil (sai_cons (se_rd (pv 0)) (sai_here (pv 1) (sa_cons se_int sa_nil))))))
  (ss_cons (ss_set (i := 7) (fun te he => ps_set (i := 7) sc__law_token.nd rfl (by first | exact .inl rfl | exact .inr rfl) he) (se_ix (se_of (so_lst (sa_cons (se_tup sa_nil) (sa_cons (se_tup (sa_cons se_str sa_nil)) (sa_cons (se_tup (sa_cons se_str (sa_cons se_str sa_nil))) (sa_cons (se_tup (sa_cons se_str sa_nil)) (sa_cons (se_tup sa_nil) sa_nil))))))) (se_callI c (by decide) (ok__law_pick T) (by rfl) T.g__law_pick T.F__law_pick.kp T.b__law_pick .nil DefOk.nil (sai_cons (se_rd (pv 0)) (sai_here (pv 1) (sa_cons se_int sa_nil))))))
  (ss_cons (ss_set (i := 8) (fun te he => ps_set (i := 8) sc__law_token.nd rfl (by first | exact .inl rfl | exact .inr rfl) he) (se_ix (se_of (so_lst (sa_cons se_str (sa_cons se_str (sa_cons se_str (sa_cons se_str (sa_cons se_str sa_nil))))))) (se_callI c (by decide) (ok__law_pick T) (by rfl) T.g__law_pick T.F__law_pick.kp T.b__law_pick .nil DefOk.nil (sai_cons (se_rd (pv 0)) (sai_here (pv 1) (sa_cons se_int sa_nil))))))
  (ss_cons (ss_set (i := 9) (fun te he => ps_set (i := 9) sc__law_token.nd rfl (by first | exact .inl rfl | exact .inr rfl) he) (se_ix (se_of (so_lst (sa_cons se_str (sa_cons se_str sa_nil)))) (se_intc (by rfl) T.n_int (sa_cons (se_or (se_not (se_rd (pv 5))) (se_one (se_eq c.u5 (se_rd (pv 3)) se_int))) sa_nil))))
  (ss_cons (ss_set (i := 9) (fun te he => ps_set (i := 9) sc__law_token.nd rfl (by first | exact .inl rfl | exact .inr rfl) he) (se_add (se_rd (pv 9)) (se_ix (se_of (so_lst (sa_cons se_str (sa_cons se_str (sa_cons se_str (sa_cons se_str sa_nil)))))) (se_min rfl (by rfl) T.n_min (sa_cons se_int (sa_cons (se_rd (pv 3)) sa_nil))))))
  (ss_cons (ss_set (i := 10) (fun te he => ps_set (i := 10) sc__law_token.nd rfl (by first | exact .inl rfl | exact .inr rfl) he) (se_ix (se_rd (pv 9)) (se_callI c (by decide) (ok__law_pick T) (by rfl) T.g__law_pick T.F__law_pick.kp T.b__law_pick .nil DefOk.nil (sai_cons (se_rd (pv 0)) (sai_here (pv 1) (sa_cons (se_len (by rfl) T.n_len (sa_cons (se_rd (pv 9)) sa_nil)) sa_nil))))))
  (ss_cons (ss_set (i := 11) (fun te he => ps_set (i := 11) sc__law_token.nd rfl (by first | exact .inl rfl | exact .inr rfl) he) (se_min rfl (by rfl) T.n_min (sa_cons (se_rd (pv 3)) (sa_cons (se_ix (se_of (so_lst (sa_cons se_int (sa_cons se_int (sa_cons se_int (sa_cons se_int (sa_cons se_int (sa_cons se_int sa_nil)))))))) (se_callI c (by decide) (ok__law_pick T) (by rfl) T.g__law_pick T.F__law_pick.kp T.b__law_pick .nil DefOk.nil (sai_cons (se_rd (pv 0)) (sai_here (pv 1) (sa_cons se_int sa_nil))))) sa_nil))))
  (ss_cons (ss_if (st_val (se_rd (pv 5))) (ss_one (ss_set (i := 11) (fun te he => ps_set (i := 11) sc__law_token.nd rfl (by first | exact .inl rfl | exact .inr rfl) he) (se_max rfl (by rfl) T.n_max (sa_cons (se_min rfl (by rfl) T.n_min (sa_cons se_int (sa_cons (se_rd (pv 3)) sa_nil))) (sa_cons (se_rd (pv 11)) sa_nil))))) ss_nil)
  (ss_cons (ss_if (PW.pt (sw_and (st_eq c.u5 (se_rd (pv 10)) se_str) (sw_and1 (PW.pt (sw_or (st_gt (se_rd (pv 2)) se_int) (sw_or1 (st_not (st_val (se_rd (pv 4)))))))))) (ss_cons (ss_if (st_val (se_rd (pv 4))) (ss_one (ss_ret (se_ix (se_of (so_lst (sa_cons (se_sub (se_rd (pv 2)) se_int) (sa_cons (se_callI c (by decide) (ok__law_pick T) (by rfl) T.g__law_pick T.F__law_pick.kp T.b__law_pick .nil DefOk.nil (sai_cons (se_rd (pv 0)) (sai_here (pv 1) (sa_cons (se_rd (pv 2)) sa_nil)))) sa_nil)))) (se_callI c (by decide) (ok__law_pick T) (by rfl) T.g__law_pick T.F__law_pick.kp T.b__law_pick .nil DefOk.nil (sai_cons (se_rd (pv 0)) (sai_here (pv 1) (sa_cons se_int sa_nil))))))) ss_nil)
  (ss_one (ss_ret (se_max rfl (by rfl) T.n_max (sa_cons se_int (sa_cons (se_add (se_sub (se_rd (pv 2)) se_int) (se_callI c (by decide) (ok__law_pick T) (by rfl) T.g__law_pick T.F__law_pick.kp T.b__law_pick .nil DefOk.nil (sai_cons (se_rd (pv 0)) (sai_here (pv 1) (sa_cons se_int sa_nil))))) sa_nil)))))) ss_nil)
  (ss_cons (ss_if (st_eq c.u5 (se_rd (pv 10)) se_str) (ss_one (ss_ret (se_tup (sa_cons se_str (sa_cons (se_rd (pv 6)) (sa_cons (se_rd (pv 7)) sa_nil)))))) ss_nil)
  (ss_cons (ss_if (st_eq c.u5 (se_rd (pv 10)) se_str) (ss_one (ss_ret (se_tup (sa_cons se_str sa_nil)))) ss_nil)
  (ss_cons (ss_if (st_eq c.u5 (se_rd (pv 10)) se_str) (ss_one (ss_ret (se_tup (sa_cons se_str sa_nil)))) ss_nil)
  (ss_cons (ss_if (st_eq c.u5 (se_rd (pv 10)) se_str) (ss_one (ss_ret (se_tup (sa_cons se_str (sa_cons (se_ix (se_of (so_lst (sa_cons se_str (sa_cons se_str (sa_cons se_str (sa_cons se_str sa_nil)))))) (se_callI c (by decide) (ok__law_pick T) (by rfl) T.g__law_pick T.F__law_pick.kp T.b__law_pick .nil DefOk.nil (sai_cons (se_rd (pv 0)) (sai_here (pv 1) (sa_cons se_int sa_nil))))) sa_nil))))) ss_nil)
  (ss_cons (ss_if (st_eq c.u5 (se_rd (pv 10)) se_str) (ss_one (ss_ret (se_tup (sa_cons se_str (sa_cons (se_rd (pv 8)) (sa_cons (se_rd (pv 11)) sa_nil)))))) ss_nil)
  (ss_cons (ss_if (st_eq c.u5 (se_rd (pv 10)) se_str) (ss_cons (ss_set (i := 12) (fun te he => ps_set (i := 12) sc__law_token.nd rfl (by first | exact .inl rfl | exact .inr rfl) he) (se_slice (se_tup (sa_cons se_str (sa_cons se_str (sa_cons se_str (sa_cons se_str (sa_cons se_str (sa_cons se_str sa_nil))))))) sp_none (sp_some (se_max rfl (by rfl) T.n_max (sa_cons se_int (sa_cons (se_min rfl (by rfl) T.n_min (sa_cons (se_sub (se_rd (pv 3)) se_int) (sa_cons (se_ix (se_of (so_lst (sa_cons se_int (sa_cons se_int (sa_cons se_int (sa_cons se_int (sa_cons se_int (sa_cons se_int sa_nil)))))))) (se_callI c (by decide) (ok__law_pick T) (by rfl) T.g__law_pick T.F__law_pick.kp T.b__law_pick .nil DefOk.nil (sai_cons (se_rd (pv 0)) (sai_here (pv 1) (sa_cons se_int sa_nil))))) sa_nil))) sa_nil))))))
  (ss_one (ss_ret (se_tup (sa_cons se_str (sa_cons (se_rd (pv 6)) (sa_cons (se_ix (se_of (so_lst (sa_cons (se_tup sa_nil) (sa_cons (se_rd (pv 12)) (sa_cons (se_tup (sa_cons se_str (sa_cons se_str (sa_cons se_str sa_nil)))) sa_nil))))) (se_callI c (by decide) (ok__law_pick T) (by rfl) T.g__law_pick T.F__law_pick.kp T.b__law_pick .nil DefOk.nil (sai_cons (se_rd (pv 0)) (sai_here (pv 1) (sa_cons se_int sa_nil))))) (sa_cons (se_rd (pv 7)) (sa_cons (se_rd (pv 12)) sa_nil))))))))) ss_nil)
  (ss_cons (ss_if (st_eq c.u5 (se_rd (pv 10)) se_str) (ss_cons (ss_set (i := 13) (fun te he => ps_set (i := 13) sc__law_token.nd rfl (by first | exact .inl rfl | exact .inr rfl) he) (se_tup sa_nil))
  (ss_cons (ss_for c.po rfl (si_range1 (by rfl) T.n_range (sa_cons (se_min rfl (by rfl) T.n_min (sa_cons (se_max rfl (by rfl) T.n_max (sa_cons se_int (sa_cons (se_sub (se_rd (pv 3)) se_int) sa_nil))) (sa_cons (se_ix (se_of (so_lst (sa_cons se_int (sa_cons se_int (sa_cons se_int (sa_cons se_int (sa_cons se_int (sa_cons se_int (sa_cons se_int (sa_cons se_int sa_nil)))))))))) (se_callI c (by decide) (ok__law_pick T) (by rfl) T.g__law_pick T.F__law_pick.kp T.b__law_pick .nil DefOk.nil (sai_cons (se_rd (pv 0)) (sai_here (pv 1) (sa_cons se_int sa_nil))))) sa_nil))) sa_nil)) (sg_name (pg_name (i := 14) sc__law_token.nd rfl (by first | exact .inl rfl | exact .inr rfl)))
  (ss_cons (ss_set (i := 15) (fun te he => ps_set (i := 15) sc__law_token.nd rfl (by first | exact .inl rfl | exact .inr rfl) he) (se_tuplec (by rfl) T.n_tuple (sa_cons (se_of (so_lc (own := [("j", 16)]) rfl sc__law_token.nd (si_range1 (by rfl) T.n_range (sa_cons (se_ix (se_of (so_lst (sa_cons se_int (sa_cons se_int (sa_cons se_int (sa_cons se_int (sa_cons se_int (sa_cons se_int sa_nil)))))))) (se_callI c (by decide) (ok__law_pick T) (by rfl) T.g__law_pick T.F__law_pick.kp T.b__law_pick .nil DefOk.nil (sai_cons (se_rd (pv 0)) (sai_here (pv 1) (sa_cons se_int sa_nil))))) sa_nil)) (blkOk_by (N := N__law_token) (sc := defScope s__law_token) (by decide +kernel)) (by decide) (fun s H C cl fp => (sg_name (pg_name (i := 16) sc__law_token.nd rfl (by first | exact .inl rfl | exact .inr rfl)))) (fun s H C cl fp => sts_nil) (fun s H C cl fp => (se_eq (c.blk s H _ _ fp).u5 (se_callI (c.blk s H _ _ fp) (by decide) (ok__law_pick T) (by rfl) T.g__law_pick T.F__law_pick.kp T.b__law_pick .nil DefOk.nil (sai_cons (se_rd (pv 0)) (sai_here (pv 1) (sa_cons se_int sa_nil)))) se_int)))) sa_nil)))
  (ss_one (ss_set (i := 13) (fun te he => ps_set (i := 13) sc__law_token.nd rfl (by first | exact .inl rfl | exact .inr rfl) he) (se_add (se_rd (pv 13)) (se_tup (sa_cons (se_tup (sa_cons (se_ix (se_of (so_lst (sa_cons se_str (sa_cons se_str (sa_cons se_str (sa_cons se_str sa_nil)))))) (se_callI c (by decide) (ok__law_pick T) (by rfl) T.g__law_pick T.F__law_pick.kp T.b__law_pick .nil DefOk.nil (sai_cons (se_rd (pv 0)) (sai_here (pv 1) (sa_cons se_int sa_nil))))) (sa_cons (se_rd (pv 15)) sa_nil))) sa_nil)))))))
  (ss_one (ss_ret (se_tup (sa_cons se_str (sa_cons (se_ix (se_of (so_lst (sa_cons se_str (sa_cons se_str (sa_cons se_str sa_nil))))) (se_callI c (by decide) (ok__law_pick T) (by rfl) T.g__law_pick T.F__law_pick.kp T.b__law_pick .nil DefOk.nil (sai_cons (se_rd (pv 0)) (sai_here (pv 1) (sa_cons se_int sa_nil))))) (sa_cons (se_rd (pv 6)) (sa_cons (se_rd (pv 13)) sa_nil))))))))) ss_nil)
  (ss_one (ss_ret (se_tup (sa_cons se_str (sa_cons (se_rd (pv 8)) (sa_cons (se_rd (pv 6)) sa_nil))))))))))))))))))))))
set_option maxHeartbeats 4000000 in
theorem ok__law_any (T : Txt K mg) : FnG P w K mg base 3 T.a__law_any T.d__law_any ["ds", "p", "size", "closed"] (spV K mg 4 (some 1) false F__law_any) :=
  fn_ok (N := N__law_any) (io := (some 1)) (ro := false) (body := m__law_any) T.F__law_any sc__law_any rfl (by decide) fun cdv A outer s H E c =>
  (ss_cons (ss_setO (i := 4) (fun te he => ps_set (i := 4) sc__law_any.nd rfl (by first | exact .inl rfl | exact .inr rfl) he) (so_lst sa_nil))
  (ss_cons (ss_setO (i := 5) (fun te he => ps_set (i := 5) sc__law_any.nd rfl (by first | exact .inl rfl | exact .inr rfl) he) (so_lst (sa_cons se_int sa_nil)))
  (ss_cons (ss_for c.po rfl (si_range1 (by rfl) T.n_range (sa_cons (se_rd (pv 2)) sa_nil)) (sg_name (pg_name (i := 6) sc__law_any.nd rfl (by first | exact .inl rfl | exact .inr rfl)))
  (ss_cons (ss_set (i := 7) (fun te he => ps_set (i := 7) sc__law_any.nd rfl (by first | exact .inl rfl | exact .inr rfl) he) (se_pop (pe_bm0 PySem.F.plainAttrs_list PySem.F.slot_list_pop PySem.F.type_list_pop mt_pop (pv 5))))
  (ss_cons (ss_set (i := 8) (fun te he => ps_set (i := 8) sc__law_any.nd rfl (by first | exact .inl rfl | exact .inr rfl) he) (se_callI c (by decide) (ok__law_token T) (by rfl) T.g__law_token T.F__law_token.kp T.b__law_token .nil DefOk.nil (sai_cons (se_rd (pv 0)) (sai_here (pv 1) (sa_cons (se_rd (pv 7)) (sa_cons (se_sub (se_sub (se_sub (se_rd (pv 2)) (se_with (se_len (by rfl) T.n_len (sa_cons (se_rd (pv 4)) sa_nil)))) se_int) (se_with (se_len (by rfl) T.n_len (sa_cons (se_rd (pv 5)) sa_nil)))) (sa_cons (se_rd (pv 3)) (sa_cons (se_eq c.u5 (se_with (se_len (by rfl) T.n_len (sa_cons (se_rd (pv 5)) sa_nil))) se_int) sa_nil))))))))
  (ss_cons (ss_app (i := 4) (fun te he => pe_bm PySem.F.plainAttrs_list PySem.F.slot_list_append PySem.F.type_list_append mt_append (pv 4) (pa_cons he pa_nil)) (se_rd (pv 8)))
  (ss_cons (ss_set (i := 9) (fun te he => ps_set (i := 9) sc__law_any.nd rfl (by first | exact .inl rfl | exact .inr rfl) he) (se_call c (by decide) (ok__law_arity T) (by rfl) T.g__law_arity T.F__law_arity.kp T.b__law_arity .nil DefOk.nil (sa_cons (se_rd (pv 8)) sa_nil)))
  (ss_one (ss_ext2 (i := 5) (fun te he => pe_bm PySem.F.plainAttrs_list PySem.F.slot_list_extend PySem.F.type_list_extend mt_extA (pv 5) (pa_cons he pa_nil)) (se_of (so_lc (own := [("k", 10)]) rfl sc__law_any.nd (si_range1 (by rfl) T.n_range (sa_cons (se_rd (pv 9)) sa_nil)) (blkOk_by (N := N__law_any) (sc := defScope s__law_any) (by decide +kernel)) (by decide) (fun s H C cl fp => (sg_name (pg_name (i := 10) sc__law_any.nd rfl (by first | exact .inl rfl | exact .inr rfl)))) (fun s H C cl fp => sts_nil) (fun s H C cl fp => (se_add (se_rd (pv 7)) (se_call (c.blk s H _ _ fp) (by decide) (ok__law_binds T) (by rfl) T.g__law_binds T.F__law_binds.kp T.b__law_binds .nil DefOk.nil (sa_cons (se_rd (pv 8)) (sa_cons (se_sub (se_sub (se_rd (pv 9)) se_int) (se_rd (pv 10))) sa_nil))))))))))))))
  (ss_one (ss_ret (se_tuplec (by rfl) T.n_tuple (sa_cons (se_mv (pv 4)) sa_nil)))))))
set_option maxHeartbeats 4000000 in
theorem ok__law_walked (T : Txt K mg) : FnG P w K mg base 3 T.a__law_walked T.d__law_walked ["paper"] (spV K mg 1 none true F__law_walked) :=
  fn_ok (N := N__law_walked) (io := none) (ro := true) (body := m__law_walked) T.F__law_walked sc__law_walked rfl (by decide) fun cdv A outer s H E c =>
  (ss_cons (ss_setO (i := 1) (fun te he => ps_set (i := 1) sc__law_walked.nd rfl (by first | exact .inl rfl | exact .inr rfl) he) (so_lc (own := [("token", 9)]) rfl sc__law_walked.nd (si_seq (se_rd (pv 0))) (blkOk_by (N := N__law_walked) (sc := defScope s__law_walked) (by decide +kernel)) (by decide) (fun s H C cl fp => (sg_name (pg_name (i := 9) sc__law_walked.nd rfl (by first | exact .inl rfl | exact .inr rfl)))) (fun s H C cl fp => sts_nil) (fun s H C cl fp => se_int)))
  (ss_cons (lc_setO (i := 2) (own := [("token", 9)]) (ps_setLc (i := 2) (own := [("token", 9)]) rfl sc__law_walked.nd rfl rfl (sw_true rfl rfl rfl (by decide +kernel)) (si_seq (se_rd (pv 0))) (blkOk_by (N := N__law_walked) (sc := defScope s__law_walked) (by decide +kernel)) (fun s H C cl fp => (sg_name (pg_name (i := 9) sc__law_walked.nd rfl (by first | exact .inl rfl | exact .inr rfl)))) (fun s H C cl fp => sts_nil) (fun s H C cl fp => (so_lst sa_nil))) (by decide))
  (ss_cons (lc_set (i := 3) (own := [("token", 9)]) (ps_setLc (i := 3) (own := [("token", 9)]) rfl sc__law_walked.nd rfl rfl (sw_true rfl rfl rfl (by decide +kernel)) (si_seq (se_rd (pv 0))) (blkOk_by (N := N__law_walked) (sc := defScope s__law_walked) (by decide +kernel)) (fun s H C cl fp => (sg_name (pg_name (i := 9) sc__law_walked.nd rfl (by first | exact .inl rfl | exact .inr rfl)))) (fun s H C cl fp => sts_nil) (fun s H C cl fp => se_int)) (by decide))
  (ss_cons (ss_setO (i := 4) (fun te he => ps_set (i := 4) sc__law_walked.nd rfl (by first | exact .inl rfl | exact .inr rfl) he) (so_lst sa_nil))
  (ss_cons (ss_for c.po rfl (si_range1 (by rfl) T.n_range (sa_cons (se_len (by rfl) T.n_len (sa_cons (se_rd (pv 0)) sa_nil)) sa_nil)) (sg_name (pg_name (i := 5) sc__law_walked.nd rfl (by first | exact .inl rfl | exact .inr rfl)))
  (ss_cons (ss_if (st_gt (se_with (se_len (by rfl) T.n_len (sa_cons (se_rd (pv 4)) sa_nil))) se_int) (ss_cons (ss_set (i := 6) (fun te he => ps_set (i := 6) sc__law_walked.nd rfl (by first | exact .inl rfl | exact .inr rfl) he) (se_with (se_ix (se_rd (pv 4)) (se_sub (se_len (by rfl) T.n_len (sa_cons (se_rd (pv 4)) sa_nil)) se_int))))
  (ss_cons (ss_put (fun te ti he hi => ps_asg he (pg_sub (pv 3) hi set_list)) (se_add (se_with (se_ix (se_rd (pv 3)) (se_rd (pv 6)))) (se_call c (by decide) (ok__law_binds T) (by rfl) T.g__law_binds T.F__law_binds.kp T.b__law_binds .nil DefOk.nil (sa_cons (se_ix (se_rd (pv 0)) (se_rd (pv 6))) (sa_cons (se_with (se_len (by rfl) T.n_len (sa_cons (se_ix (se_rd (pv 2)) (se_rd (pv 6))) sa_nil))) sa_nil)))) (se_rd (pv 5)))
  (ss_one (ss_appIx (i := 2) (fun tk te hk he => pe_bm PySem.F.plainAttrs_list PySem.F.slot_list_append PySem.F.type_list_append mt_append (pe_ix ix_list (pv 2) hk (fun _ _ => rfl)) (pa_cons he pa_nil)) (se_rd (pv 6)) (se_rd (pv 5)))))) ss_nil)
  (ss_cons (ss_app (i := 4) (fun te he => pe_bm PySem.F.plainAttrs_list PySem.F.slot_list_append PySem.F.type_list_append mt_append (pv 4) (pa_cons he pa_nil)) (se_rd (pv 5)))
  (ss_cons (ss_for c.po rfl (si_range1 (by rfl) T.n_range (sa_cons (se_with (se_len (by rfl) T.n_len (sa_cons (se_rd (pv 4)) sa_nil))) sa_nil)) (sg_name (pg_name (i := 7) sc__law_walked.nd rfl (by first | exact .inl rfl | exact .inr rfl)))
  (ss_cons (ss_set (i := 8) (fun te he => ps_set (i := 8) sc__law_walked.nd rfl (by first | exact .inl rfl | exact .inr rfl) he) (se_with (se_ix (se_rd (pv 4)) (se_sub (se_sub (se_len (by rfl) T.n_len (sa_cons (se_rd (pv 4)) sa_nil)) se_int) (se_rd (pv 7))))))
  (ss_cons (ss_if (st_lt (se_with (se_len (by rfl) T.n_len (sa_cons (se_ix (se_rd (pv 2)) (se_rd (pv 8))) sa_nil))) (se_call c (by decide) (ok__law_arity T) (by rfl) T.g__law_arity T.F__law_arity.kp T.b__law_arity .nil DefOk.nil (sa_cons (se_ix (se_rd (pv 0)) (se_rd (pv 8))) sa_nil))) (ss_one ss_break) ss_nil)
  (ss_one (ss_put (fun te ti he hi => ps_asg he (pg_sub (pv 1) hi set_list)) (se_add (se_rd (pv 5)) se_int) (se_rd (pv 8)))))))
  (ss_one (lc_set (i := 4) (own := [("last", 8)]) (ps_setLc (i := 4) (own := [("last", 8)]) rfl sc__law_walked.nd rfl rfl (sw_true rfl rfl rfl (by decide +kernel)) (si_seq (se_mv (pv 4))) (blkOk_by (N := N__law_walked) (sc := defScope s__law_walked) (by decide +kernel)) (fun s H C cl fp => (sg_name (pg_name (i := 8) sc__law_walked.nd rfl (by first | exact .inl rfl | exact .inr rfl)))) (fun s H C cl fp => (sts_one (st_eq (c.blk s H _ _ fp).u5 (se_with (se_ix (se_rd (pv 1)) (se_rd (pv 8)))) se_int))) (fun s H C cl fp => (se_rd (pv 8)))) (by decide)))))))
  (ss_one (ss_retO (so_lst (sa_cons (se_mv (pv 1)) (sa_cons (se_mv (pv 2)) (sa_cons (se_mv (pv 3)) sa_nil)))))))))))
set_option maxHeartbeats 4000000 in
theorem ok__law_is_shut (T : Txt K mg) : FnG P w K mg base 2 T.a__law_is_shut T.d__law_is_shut ["paper", "walked", "at"] (spV K mg 3 none false F__law_is_shut) :=
  fn_ok (N := N__law_is_shut) (io := none) (ro := false) (body := m__law_is_shut) T.F__law_is_shut sc__law_is_shut rfl (by decide) fun cdv A outer s H E c =>
  (ss_cons (ss_for c.po rfl (si_range2 (by rfl) T.n_range (sa_cons (se_rd (pv 2)) (sa_cons (se_ix (se_ix (se_rd (pv 1)) se_int) (se_rd (pv 2))) sa_nil))) (sg_name (pg_name (i := 3) sc__law_is_shut.nd rfl (by first | exact .inl rfl | exact .inr rfl)))
  (ss_one (ss_if (PW.pt (sw_and (st_val (se_call c (by decide) (ok__law_whole T) (by rfl) T.g__law_whole T.F__law_whole.kp T.b__law_whole .nil DefOk.nil (sa_cons (se_ix (se_rd (pv 0)) (se_rd (pv 3))) sa_nil))) (sw_and1 (st_ge (se_ix (se_rd (pv 0)) (se_rd (pv 3))) (se_sub (se_ix (se_ix (se_rd (pv 1)) se_int) (se_rd (pv 3))) (se_ix (se_ix (se_rd (pv 1)) se_int) (se_rd (pv 2)))))))) (ss_one (ss_ret se_bl)) ss_nil)))
  (ss_one (ss_ret se_bl)))
set_option maxHeartbeats 4000000 in
theorem ok__law_refused (T : Txt K mg) : FnG P w K mg base 5 T.a__law_refused T.d__law_refused ["paper", "spot", "other", "turn"] (spV K mg 4 none false F__law_refused) :=
  fn_ok (N := N__law_refused) (io := none) (ro := false) (body := m__law_refused) T.F__law_refused sc__law_refused rfl (by decide) fun cdv A outer s H E c =>
  (ss_cons (ss_try_as (i := 4) c rfl rfl rfl sc__law_refused.nd rfl rfl T.err (by decide +kernel) (by rfl) (by decide) (fun W' pn xe c1 => (ss_one (ss_if (st_eq c1.u5 (se_rd (pv 3)) se_int) (ss_one (ss_expr (se_call c1 (by decide) (ok_children_of T) (by rfl) T.g_children_of T.F_children_of.kp T.b_children_of .nil DefOk.nil (sa_cons (se_rd (pv 0)) (sa_cons (se_rd (pv 1)) sa_nil))))) (ss_one (ss_if (st_eq c1.u5 (se_rd (pv 3)) se_int) (ss_one (ss_expr (se_call c1 (by decide) (ok_part_of T) (by rfl) T.g_part_of T.F_part_of.kp T.b_part_of .nil DefOk.nil (sa_cons (se_rd (pv 0)) (sa_cons (se_rd (pv 1)) sa_nil))))) (ss_one (ss_expr (se_call c1 (by decide) (ok_put_part T) (by rfl) T.g_put_part T.F_put_part.kp T.b_put_part .nil DefOk.nil (sa_cons (se_rd (pv 0)) (sa_cons (se_rd (pv 1)) (sa_cons (se_rd (pv 2)) sa_nil))))))))))) (fun a oe pn ch1 => (ss_one (ss_ret (se_and (se_isX T.err (by decide +kernel) (by rfl) T.n_isinstance (by rfl) (by decide) (pv 4)) (se_and (se_not (se_isXT T.err (by decide +kernel) (by decide) (by rfl) T.n_isinstance (nl_cons T.err (by decide +kernel) (by rfl) (by decide) (nl_cons T.err (by decide +kernel) (by rfl) (by decide) (nl_cons T.err (by decide +kernel) (by rfl) (by decide) (nl_cons T.err (by decide +kernel) (by rfl) (by decide) nl_nil)))) (pv 4))) (se_one (se_eq ch1.u5 (se_repr ch1.u ch1.hg (by rfl) T.n_repr (sa_cons (se_exF T.err (by decide +kernel) (pv 4)) sa_nil)) (se_repr ch1.u ch1.hg (by rfl) T.n_repr (sa_cons (se_rd (pv 1)) sa_nil))))))))))
  (ss_one (ss_ret se_bl)))
set_option maxHeartbeats 4000000 in
theorem ok__law_place_right (T : Txt K mg) : FnG P w K mg base 6 T.a__law_place_right T.d__law_place_right ["paper", "walked", "at"] (spV K mg 3 none false F__law_place_right) :=
  fn_ok (N := N__law_place_right) (io := none) (ro := false) (body := m__law_place_right) T.F__law_place_right sc__law_place_right rfl (by decide) fun cdv A outer s H E c =>
  (ss_cons (ss_set (i := 3) (fun te he => ps_set (i := 3) sc__law_place_right.nd rfl (by first | exact .inl rfl | exact .inr rfl) he) (se_ix (se_rd (pv 0)) (se_rd (pv 2))))
  (ss_cons (ss_set (i := 4) (fun te he => ps_set (i := 4) sc__law_place_right.nd rfl (by first | exact .inl rfl | exact .inr rfl) he) (se_ix (se_ix (se_rd (pv 1)) se_int) (se_rd (pv 2))))
  (ss_cons (ss_if (PW.pt (sw_or (st_ne c.u5 (se_repr c.u c.hg (by rfl) T.n_repr (sa_cons (se_call c (by decide) (ok_arity_of T) (by rfl) T.g_arity_of T.F_arity_of.kp T.b_arity_of .nil DefOk.nil (sa_cons (se_rd (pv 3)) sa_nil)) sa_nil)) (se_repr c.u c.hg (by rfl) T.n_repr (sa_cons (se_len (by rfl) T.n_len (sa_cons (se_rd (pv 4)) sa_nil)) sa_nil))) (sw_or1 (st_ne c.u5 (se_repr c.u c.hg (by rfl) T.n_repr (sa_cons (se_call c (by decide) (ok_children_of T) (by rfl) T.g_children_of T.F_children_of.kp T.b_children_of .nil DefOk.nil (sa_cons (se_rd (pv 0)) (sa_cons (se_rd (pv 2)) sa_nil))) sa_nil)) (se_repr c.u c.hg (by rfl) T.n_repr (sa_cons (se_tuplec (by rfl) T.n_tuple (sa_cons (se_rd (pv 4)) sa_nil)) sa_nil)))))) (ss_one (ss_ret se_bl)) ss_nil)
  (ss_cons (ss_for c.po rfl (si_range1 (by rfl) T.n_range (sa_cons (se_len (by rfl) T.n_len (sa_cons (se_rd (pv 4)) sa_nil)) sa_nil)) (sg_name (pg_name (i := 5) sc__law_place_right.nd rfl (by first | exact .inl rfl | exact .inr rfl)))
  (ss_one (ss_if (st_ne c.u5 (se_repr c.u c.hg (by rfl) T.n_repr (sa_cons (se_call c (by decide) (ok_bound_in T) (by rfl) T.g_bound_in T.F_bound_in.kp T.b_bound_in .nil DefOk.nil (sa_cons (se_rd (pv 3)) (sa_cons (se_rd (pv 5)) sa_nil))) sa_nil)) (se_repr c.u c.hg (by rfl) T.n_repr (sa_cons (se_sub (se_ix (se_ix (se_rd (pv 1)) se_int) (se_ix (se_rd (pv 4)) (se_rd (pv 5)))) (se_ix (se_ix (se_rd (pv 1)) se_int) (se_rd (pv 2)))) sa_nil))) (ss_one (ss_ret se_bl)) ss_nil)))
  (ss_cons (ss_set (i := 6) (fun te he => ps_set (i := 6) sc__law_place_right.nd rfl (by first | exact .inl rfl | exact .inr rfl) he) (se_call c (by decide) (ok_part_of T) (by rfl) T.g_part_of T.F_part_of.kp T.b_part_of .nil DefOk.nil (sa_cons (se_rd (pv 0)) (sa_cons (se_rd (pv 2)) sa_nil))))
  (ss_one (ss_ret (se_and (se_eq c.u5 (se_repr c.u c.hg (by rfl) T.n_repr (sa_cons (se_rd (pv 6)) sa_nil)) (se_repr c.u c.hg (by rfl) T.n_repr (sa_cons (se_slice (se_rd (pv 0)) (sp_some (se_rd (pv 2))) (sp_some (se_ix (se_ix (se_rd (pv 1)) se_int) (se_rd (pv 2))))) sa_nil))) (se_one (se_eq c.u5 (se_repr c.u c.hg (by rfl) T.n_repr (sa_cons (se_call c (by decide) (ok_is_closed T) (by rfl) T.g_is_closed T.F_is_closed.kp T.b_is_closed .nil DefOk.nil (sa_cons (se_rd (pv 6)) sa_nil)) sa_nil)) (se_repr c.u c.hg (by rfl) T.n_repr (sa_cons (se_call c (by decide) (ok__law_is_shut T) (by rfl) T.g__law_is_shut T.F__law_is_shut.kp T.b__law_is_shut .nil DefOk.nil (sa_cons (se_rd (pv 0)) (sa_cons (se_rd (pv 1)) (sa_cons (se_rd (pv 2)) sa_nil)))) sa_nil))))))))))))
set_option maxHeartbeats 4000000 in
theorem ok_law (T : Txt K mg) : FnG P w K mg base 7 T.a_law T.d_law ["script"] (spV K mg 1 none false F_law) :=
  fn_ok (N := N_law) (io := none) (ro := false) (body := m_law) T.F_law sc_law rfl (by decide) fun cdv A outer s H E c =>
  (ss_cons (ss_set (i := 1) (fun te he => ps_set (i := 1) sc_law.nd rfl (by first | exact .inl rfl | exact .inr rfl) he) (se_fz (so_call c (by decide) (ok__law_row T) (by rfl) T.g__law_row T.F__law_row.kp T.b__law_row .nil DefOk.nil (sa_cons (se_rd (pv 0)) (sa_cons se_int (sa_cons se_int sa_nil))))))
  (ss_cons (ss_setO (i := 2) (fun te he => ps_set (i := 2) sc_law.nd rfl (by first | exact .inl rfl | exact .inr rfl) he) (so_lst (sa_cons se_int sa_nil)))
  (ss_cons (ss_set (i := 3) (fun te he => ps_set (i := 3) sc_law.nd rfl (by first | exact .inl rfl | exact .inr rfl) he) (se_of (so_lst (sa_cons (se_add se_int (se_callI c (by decide) (ok__law_pick T) (by rfl) T.g__law_pick T.F__law_pick.kp T.b__law_pick .nil DefOk.nil (sai_cons (se_rd (pv 1)) (sai_here (pv 2) (sa_cons se_int sa_nil))))) (sa_cons (se_add se_int (se_callI c (by decide) (ok__law_pick T) (by rfl) T.g__law_pick T.F__law_pick.kp T.b__law_pick .nil DefOk.nil (sai_cons (se_rd (pv 1)) (sai_here (pv 2) (sa_cons se_int sa_nil))))) (sa_cons (se_add se_int (se_callI c (by decide) (ok__law_pick T) (by rfl) T.g__law_pick T.F__law_pick.kp T.b__law_pick .nil DefOk.nil (sai_cons (se_rd (pv 1)) (sai_here (pv 2) (sa_cons se_int sa_nil))))) (sa_cons (se_sub se_int (se_callI c (by decide) (ok__law_pick T) (by rfl) T.g__law_pick T.F__law_pick.kp T.b__law_pick .nil DefOk.nil (sai_cons (se_rd (pv 1)) (sai_here (pv 2) (sa_cons se_int sa_nil))))) sa_nil)))))))
  (ss_cons (ss_set (i := 3) (fun te he => ps_set (i := 3) sc_law.nd rfl (by first | exact .inl rfl | exact .inr rfl) he) (se_ix (se_rd (pv 3)) (se_ix (se_of (so_lst (sa_cons se_int (sa_cons se_int (sa_cons se_int (sa_cons se_int (sa_cons se_int (sa_cons se_int (sa_cons se_int (sa_cons se_int (sa_cons se_int (sa_cons se_int (sa_cons se_int (sa_cons se_int sa_nil)))))))))))))) (se_callI c (by decide) (ok__law_pick T) (by rfl) T.g__law_pick T.F__law_pick.kp T.b__law_pick .nil DefOk.nil (sai_cons (se_rd (pv 1)) (sai_here (pv 2) (sa_cons se_int sa_nil)))))))
  (ss_cons (ss_set (i := 4) (fun te he => ps_set (i := 4) sc_law.nd rfl (by first | exact .inl rfl | exact .inr rfl) he) (se_callI c (by decide) (ok__law_any T) (by rfl) T.g__law_any T.F__law_any.kp T.b__law_any .nil DefOk.nil (sai_cons (se_rd (pv 1)) (sai_here (pv 2) (sa_cons (se_rd (pv 3)) (sa_cons (se_gt (se_callI c (by decide) (ok__law_pick T) (by rfl) T.g__law_pick T.F__law_pick.kp T.b__law_pick .nil DefOk.nil (sai_cons (se_rd (pv 1)) (sai_here (pv 2) (sa_cons se_int sa_nil)))) se_int) sa_nil))))))
  (ss_cons (ss_set (i := 5) (fun te he => ps_set (i := 5) sc_law.nd rfl (by first | exact .inl rfl | exact .inr rfl) he) (se_fz (so_call c (by decide) (ok__law_row T) (by rfl) T.g__law_row T.F__law_row.kp T.b__law_row .nil DefOk.nil (sa_cons (se_rd (pv 0)) (sa_cons se_int (sa_cons se_int sa_nil))))))
  (ss_cons (ss_set (i := 6) (fun te he => ps_set (i := 6) sc_law.nd rfl (by first | exact .inl rfl | exact .inr rfl) he) (se_callI c (by decide) (ok__law_any T) (by rfl) T.g__law_any T.F__law_any.kp T.b__law_any .nil DefOk.nil (sai_cons (se_rd (pv 5)) (sai_here (pv 2) (sa_cons (se_add se_int (se_callI c (by decide) (ok__law_pick T) (by rfl) T.g__law_pick T.F__law_pick.kp T.b__law_pick .nil DefOk.nil (sai_cons (se_rd (pv 5)) (sai_here (pv 2) (sa_cons se_int sa_nil))))) (sa_cons (se_eq c.u5 (se_callI c (by decide) (ok__law_pick T) (by rfl) T.g__law_pick T.F__law_pick.kp T.b__law_pick .nil DefOk.nil (sai_cons (se_rd (pv 5)) (sai_here (pv 2) (sa_cons se_int sa_nil)))) se_int) sa_nil))))))
  (ss_cons (ss_setO (i := 7) (fun te he => ps_set (i := 7) sc_law.nd rfl (by first | exact .inl rfl | exact .inr rfl) he) (so_lst (sa_cons (se_rd (pv 4)) (sa_cons (se_rd (pv 6)) sa_nil))))
  (ss_cons (lc_set (i := 8) (own := [("at", 11)]) (ps_setLc (i := 8) (own := [("at", 11)]) rfl sc_law.nd rfl rfl (sw_true rfl rfl rfl (by decide +kernel)) (si_range1 (by rfl) T.n_range (sa_cons (se_len (by rfl) T.n_len (sa_cons (se_rd (pv 4)) sa_nil)) sa_nil)) (blkOk_by (N := N_law) (sc := defScope s_law) (by decide +kernel)) (fun s H C cl fp => (sg_name (pg_name (i := 11) sc_law.nd rfl (by first | exact .inl rfl | exact .inr rfl)))) (fun s H C cl fp => (sts_one (st_val (se_call (c.blk s H _ _ fp) (by decide) (ok__law_whole T) (by rfl) T.g__law_whole T.F__law_whole.kp T.b__law_whole .nil DefOk.nil (sa_cons (se_ix (se_rd (pv 4)) (se_rd (pv 11))) sa_nil))))) (fun s H C cl fp => (se_rd (pv 11)))) (by decide))
  (ss_cons (ss_set (i := 9) (fun te he => ps_set (i := 9) sc_law.nd rfl (by first | exact .inl rfl | exact .inr rfl) he) (se_fz (so_call c (by decide) (ok__law_walked T) (by rfl) T.g__law_walked T.F__law_walked.kp T.b__law_walked .nil DefOk.nil (sa_cons (se_rd (pv 4)) sa_nil))))
  (ss_cons (ss_for c.po rfl (si_range1 (by rfl) T.n_range (sa_cons (se_min rfl (by rfl) T.n_min (sa_cons se_int (sa_cons (se_len (by rfl) T.n_len (sa_cons (se_mv (pv 8)) sa_nil)) sa_nil))) sa_nil)) (sg_name (pg_name (i := 10) sc_law.nd rfl (by first | exact .inl rfl | exact .inr rfl)))
  (ss_cons (ss_set (i := 11) (fun te he => ps_set (i := 11) sc_law.nd rfl (by first | exact .inl rfl | exact .inr rfl) he) (se_ix (se_mv (pv 8)) (se_callI c (by decide) (ok__law_pick T) (by rfl) T.g__law_pick T.F__law_pick.kp T.b__law_pick .nil DefOk.nil (sai_cons (se_rd (pv 5)) (sai_here (pv 2) (sa_cons (se_len (by rfl) T.n_len (sa_cons (se_mv (pv 8)) sa_nil)) sa_nil))))))
  (ss_one (ss_app (i := 7) (fun te he => pe_bm PySem.F.plainAttrs_list PySem.F.slot_list_append PySem.F.type_list_append mt_append (pv 7) (pa_cons he pa_nil)) (se_add (se_add (se_slice (se_rd (pv 4)) sp_none (sp_some (se_rd (pv 11)))) (se_tup (sa_cons (se_max rfl (by rfl) T.n_max (sa_cons se_int (sa_cons (se_sub (se_ix (se_ix (se_rd (pv 9)) se_int) (se_rd (pv 11))) (se_rd (pv 10))) sa_nil))) sa_nil))) (se_slice (se_rd (pv 4)) (sp_some (se_add (se_rd (pv 11)) se_int)) sp_none))))))
  (ss_cons (ss_for c.po rfl (si_seq (se_add (se_mv (pv 7)) (se_of (so_lst (sa_cons (se_rd (pv 4)) sa_nil))))) (sg_name (pg_name (i := 12) sc_law.nd rfl (by first | exact .inl rfl | exact .inr rfl)))
  (ss_cons (ss_set (i := 13) (fun te he => ps_set (i := 13) sc_law.nd rfl (by first | exact .inl rfl | exact .inr rfl) he) (se_fz (so_call c (by decide) (ok__law_walked T) (by rfl) T.g__law_walked T.F__law_walked.kp T.b__law_walked .nil DefOk.nil (sa_cons (se_rd (pv 12)) sa_nil))))
  (ss_cons (ss_if (PW.pt (sw_or (st_ne c.u5 (se_repr c.u c.hg (by rfl) T.n_repr (sa_cons (se_call c (by decide) (ok_program_ends T) (by rfl) T.g_program_ends T.F_program_ends.kp T.b_program_ends .nil DefOk.nil (sa_cons (se_rd (pv 12)) sa_nil)) sa_nil)) (se_repr c.u c.hg (by rfl) T.n_repr (sa_cons (se_tuplec (by rfl) T.n_tuple (sa_cons (se_ix (se_rd (pv 13)) se_int) sa_nil)) sa_nil))) (sw_or1 (st_ne c.u5 (se_repr c.u c.hg (by rfl) T.n_repr (sa_cons (se_call c (by decide) (ok_levels_of T) (by rfl) T.g_levels_of T.F_levels_of.kp T.b_levels_of .nil DefOk.nil (sa_cons (se_rd (pv 12)) sa_nil)) sa_nil)) (se_repr c.u c.hg (by rfl) T.n_repr (sa_cons (se_tuplec (by rfl) T.n_tuple (sa_cons (se_ix (se_rd (pv 13)) se_int) sa_nil)) sa_nil)))))) (ss_one (ss_ret se_bl)) ss_nil)
  (ss_one (ss_if (st_ne c.u5 (se_repr c.u c.hg (by rfl) T.n_repr (sa_cons (se_call c (by decide) (ok_is_closed T) (by rfl) T.g_is_closed T.F_is_closed.kp T.b_is_closed .nil DefOk.nil (sa_cons (se_rd (pv 12)) sa_nil)) sa_nil)) (se_repr c.u c.hg (by rfl) T.n_repr (sa_cons (se_call c (by decide) (ok__law_is_shut T) (by rfl) T.g__law_is_shut T.F__law_is_shut.kp T.b__law_is_shut .nil DefOk.nil (sa_cons (se_rd (pv 12)) (sa_cons (se_rd (pv 13)) (sa_cons se_int sa_nil)))) sa_nil))) (ss_one (ss_ret se_bl)) ss_nil)))))
  (ss_cons (lc_set (i := 14) (own := [("at", 11)]) (ps_setLc (i := 14) (own := [("at", 11)]) rfl sc_law.nd rfl rfl (sw_true rfl rfl rfl (by decide +kernel)) (si_range1 (by rfl) T.n_range (sa_cons (se_len (by rfl) T.n_len (sa_cons (se_rd (pv 4)) sa_nil)) sa_nil)) (blkOk_by (N := N_law) (sc := defScope s_law) (by decide +kernel)) (fun s H C cl fp => (sg_name (pg_name (i := 11) sc_law.nd rfl (by first | exact .inl rfl | exact .inr rfl)))) (fun s H C cl fp => sts_nil) (fun s H C cl fp => (se_rd (pv 11)))) (by decide))
  (ss_cons (ss_if (st_gt (se_len (by rfl) T.n_len (sa_cons (se_mv (pv 14)) sa_nil)) se_int) (ss_one (ss_setO (i := 14) (fun te he => ps_set (i := 14) sc_law.nd rfl (by first | exact .inl rfl | exact .inr rfl) he) (so_cat (se_of (so_lst (sa_cons se_int (sa_cons (se_sub (se_len (by rfl) T.n_len (sa_cons (se_rd (pv 4)) sa_nil)) se_int) sa_nil)))) (se_of (so_lc (own := [("k", 10)]) rfl sc_law.nd (si_range1 (by rfl) T.n_range (sa_cons se_int sa_nil)) (blkOk_by (N := N_law) (sc := defScope s_law) (by decide +kernel)) (by decide) (fun s H C cl fp => (sg_name (pg_name (i := 10) sc_law.nd rfl (by first | exact .inl rfl | exact .inr rfl)))) (fun s H C cl fp => sts_nil) (fun s H C cl fp => (se_callI (c.blk s H _ _ fp) (by decide) (ok__law_pick T) (by rfl) T.g__law_pick T.F__law_pick.kp T.b__law_pick .nil DefOk.nil (sai_cons (se_rd (pv 5)) (sai_here (pv 2) (sa_cons (se_len (by rfl) T.n_len (sa_cons (se_rd (pv 4)) sa_nil)) sa_nil)))))))))) ss_nil)
  (ss_cons (ss_for c.po rfl (si_seq (se_mv (pv 14))) (sg_name (pg_name (i := 11) sc_law.nd rfl (by first | exact .inl rfl | exact .inr rfl)))
  (ss_one (ss_if (st_not (st_val (se_call c (by decide) (ok__law_place_right T) (by rfl) T.g__law_place_right T.F__law_place_right.kp T.b__law_place_right .nil DefOk.nil (sa_cons (se_rd (pv 4)) (sa_cons (se_rd (pv 9)) (sa_cons (se_rd (pv 11)) sa_nil)))))) (ss_one (ss_ret se_bl)) ss_nil)))
  (ss_cons (ss_for c.po rfl (si_range1 (by rfl) T.n_range (sa_cons se_int sa_nil)) (sg_name (pg_name (i := 10) sc_law.nd rfl (by first | exact .inl rfl | exact .inr rfl)))
  (ss_cons (ss_set (i := 11) (fun te he => ps_set (i := 11) sc_law.nd rfl (by first | exact .inl rfl | exact .inr rfl) he) (se_ix (se_of (so_lst (sa_cons (se_callI c (by decide) (ok__law_pick T) (by rfl) T.g__law_pick T.F__law_pick.kp T.b__law_pick .nil DefOk.nil (sai_cons (se_rd (pv 5)) (sai_here (pv 2) (sa_cons (se_len (by rfl) T.n_len (sa_cons (se_rd (pv 4)) sa_nil)) sa_nil)))) (sa_cons se_int (sa_cons (se_sub (se_len (by rfl) T.n_len (sa_cons (se_rd (pv 4)) sa_nil)) se_int) sa_nil))))) (se_rd (pv 10))))
  (ss_cons (ss_set (i := 15) (fun te he => ps_set (i := 15) sc_law.nd rfl (by first | exact .inl rfl | exact .inr rfl) he) (se_call c (by decide) (ok_put_part T) (by rfl) T.g_put_part T.F_put_part.kp T.b_put_part .nil DefOk.nil (sa_cons (se_rd (pv 4)) (sa_cons (se_rd (pv 11)) (sa_cons (se_rd (pv 6)) sa_nil)))))
  (ss_cons (ss_if (st_ne c.u5 (se_repr c.u c.hg (by rfl) T.n_repr (sa_cons (se_rd (pv 15)) sa_nil)) (se_repr c.u c.hg (by rfl) T.n_repr (sa_cons (se_add (se_add (se_slice (se_rd (pv 4)) sp_none (sp_some (se_rd (pv 11)))) (se_rd (pv 6))) (se_slice (se_rd (pv 4)) (sp_some (se_ix (se_ix (se_rd (pv 9)) se_int) (se_rd (pv 11)))) sp_none)) sa_nil))) (ss_one (ss_ret se_bl)) ss_nil)
  (ss_one (ss_if (st_ne c.u5 (se_repr c.u c.hg (by rfl) T.n_repr (sa_cons (se_kw c (by decide) (ok_put_part T) (by rfl) T.g_put_part T.F_put_part.kp (kb_put_part_1 T) (kj_ord _ _) (sa_cons (se_rd (pv 15)) sa_nil) (sk_cons (se_rd (pv 11)) (sk_cons (se_kw0 c (by decide) (ok_part_of T) (by rfl) T.g_part_of T.F_part_of.kp (kb_part_of_0 T) (kj_ord _ _) (sk_cons (se_rd (pv 4)) (sk_cons (se_rd (pv 11)) sk_nil))) sk_nil))) sa_nil)) (se_repr c.u c.hg (by rfl) T.n_repr (sa_cons (se_rd (pv 4)) sa_nil))) (ss_one (ss_ret se_bl)) ss_nil))))))
  (ss_cons (ss_set (i := 16) (fun te he => ps_set (i := 16) sc_law.nd rfl (by first | exact .inl rfl | exact .inr rfl) he) (se_of (so_lst (sa_cons (se_neg se_int) (sa_cons (se_len (by rfl) T.n_len (sa_cons (se_rd (pv 4)) sa_nil)) (sa_cons (se_add (se_add (se_len (by rfl) T.n_len (sa_cons (se_rd (pv 4)) sa_nil)) se_int) (se_callI c (by decide) (ok__law_pick T) (by rfl) T.g__law_pick T.F__law_pick.kp T.b__law_pick .nil DefOk.nil (sai_cons (se_rd (pv 5)) (sai_here (pv 2) (sa_cons se_int sa_nil))))) (sa_cons (se_sub se_int (se_len (by rfl) T.n_len (sa_cons (se_rd (pv 4)) sa_nil))) (sa_cons (se_pow se_int se_int) (sa_cons (se_sub (se_neg se_int) (se_callI c (by decide) (ok__law_pick T) (by rfl) T.g__law_pick T.F__law_pick.kp T.b__law_pick .nil DefOk.nil (sai_cons (se_rd (pv 5)) (sai_here (pv 2) (sa_cons (se_len (by rfl) T.n_len (sa_cons (se_rd (pv 4)) sa_nil)) sa_nil))))) sa_nil)))))))))
  (ss_cons (ss_for c.po rfl (si_range1 (by rfl) T.n_range (sa_cons se_int sa_nil)) (sg_name (pg_name (i := 10) sc_law.nd rfl (by first | exact .inl rfl | exact .inr rfl)))
  (ss_one (ss_if (st_not (st_val (se_call c (by decide) (ok__law_refused T) (by rfl) T.g__law_refused T.F__law_refused.kp T.b__law_refused .nil DefOk.nil (sa_cons (se_rd (pv 4)) (sa_cons (se_ix (se_rd (pv 16)) (se_rd (pv 10))) (sa_cons (se_rd (pv 6)) (sa_cons (se_ix (se_of (so_lst (sa_cons se_int (sa_cons se_int (sa_cons se_int (sa_cons se_int (sa_cons se_int (sa_cons se_int sa_nil)))))))) (se_mod (se_intc (by rfl) T.n_int (sa_cons (se_add (se_rd (pv 10)) (se_callI c (by decide) (ok__law_pick T) (by rfl) T.g__law_pick T.F__law_pick.kp T.b__law_pick .nil DefOk.nil (sai_cons (se_rd (pv 5)) (sai_here (pv 2) (sa_cons se_int sa_nil))))) sa_nil)) se_int)) sa_nil))))))) (ss_one (ss_ret se_bl)) ss_nil)))
  (ss_cons (ss_set (i := 13) (fun te he => ps_set (i := 13) sc_law.nd rfl (by first | exact .inl rfl | exact .inr rfl) he) (se_fz (so_call c (by decide) (ok__law_walked T) (by rfl) T.g__law_walked T.F__law_walked.kp T.b__law_walked .nil DefOk.nil (sa_cons (se_rd (pv 6)) sa_nil))))
  (ss_cons (ss_if (st_ne c.u5 (se_repr c.u c.hg (by rfl) T.n_repr (sa_cons (se_of (so_lst (sa_cons (se_kw0 c (by decide) (ok_program_ends T) (by rfl) T.g_program_ends T.F_program_ends.kp (kb_program_ends_0 T) (kj_ord _ _) (sk_cons (se_rd (pv 6)) sk_nil)) (sa_cons (se_kw0 c (by decide) (ok_levels_of T) (by rfl) T.g_levels_of T.F_levels_of.kp (kb_levels_of_0 T) (kj_ord _ _) (sk_cons (se_rd (pv 6)) sk_nil)) sa_nil)))) sa_nil)) (se_repr c.u c.hg (by rfl) T.n_repr (sa_cons (se_of (so_lst (sa_cons (se_tuplec (by rfl) T.n_tuple (sa_cons (se_ix (se_rd (pv 13)) se_int) sa_nil)) (sa_cons (se_tuplec (by rfl) T.n_tuple (sa_cons (se_ix (se_rd (pv 13)) se_int) sa_nil)) sa_nil)))) sa_nil))) (ss_one (ss_ret se_bl)) ss_nil)
  (ss_cons (ss_if (st_ne c.u5 (se_repr c.u c.hg (by rfl) T.n_repr (sa_cons (se_of (so_lst (sa_cons (se_kw0 c (by decide) (ok_arity_of T) (by rfl) T.g_arity_of T.F_arity_of.kp (kb_arity_of_0 T) (kj_ord _ _) (sk_cons (se_ix (se_rd (pv 6)) se_int) sk_nil)) (sa_cons (se_kw0 c (by decide) (ok_is_closed T) (by rfl) T.g_is_closed T.F_is_closed.kp (kb_is_closed_0 T) (kj_ord _ _) (sk_cons (se_rd (pv 6)) sk_nil)) sa_nil)))) sa_nil)) (se_repr c.u c.hg (by rfl) T.n_repr (sa_cons (se_of (so_lst (sa_cons (se_len (by rfl) T.n_len (sa_cons (se_ix (se_ix (se_rd (pv 13)) se_int) se_int) sa_nil)) (sa_cons (se_call c (by decide) (ok__law_is_shut T) (by rfl) T.g__law_is_shut T.F__law_is_shut.kp T.b__law_is_shut .nil DefOk.nil (sa_cons (se_rd (pv 6)) (sa_cons (se_rd (pv 13)) (sa_cons se_int sa_nil)))) sa_nil)))) sa_nil))) (ss_one (ss_ret se_bl)) ss_nil)
  (ss_cons (ss_for c.po rfl (si_range1 (by rfl) T.n_range (sa_cons (se_len (by rfl) T.n_len (sa_cons (se_ix (se_ix (se_rd (pv 13)) se_int) se_int) sa_nil)) sa_nil)) (sg_name (pg_name (i := 10) sc_law.nd rfl (by first | exact .inl rfl | exact .inr rfl)))
  (ss_one (ss_if (st_ne c.u5 (se_repr c.u c.hg (by rfl) T.n_repr (sa_cons (se_kw0 c (by decide) (ok_bound_in T) (by rfl) T.g_bound_in T.F_bound_in.kp (kb_bound_in_0_10 T) (kjp_ord _ _) (sk_cons (se_rd (pv 10)) (sk_cons (se_ix (se_rd (pv 6)) se_int) sk_nil))) sa_nil)) (se_repr c.u c.hg (by rfl) T.n_repr (sa_cons (se_call c (by decide) (ok__law_binds T) (by rfl) T.g__law_binds T.F__law_binds.kp T.b__law_binds .nil DefOk.nil (sa_cons (se_ix (se_rd (pv 6)) se_int) (sa_cons (se_rd (pv 10)) sa_nil))) sa_nil))) (ss_one (ss_ret se_bl)) ss_nil)))
  (ss_one (ss_ret (se_and (se_eq c.u5 (se_repr c.u c.hg (by rfl) T.n_repr (sa_cons (se_kw0 c (by decide) (ok_children_of T) (by rfl) T.g_children_of T.F_children_of.kp (kb_children_of_0_10 T) (kjp_ord _ _) (sk_cons se_int (sk_cons (se_rd (pv 6)) sk_nil))) sa_nil)) (se_repr c.u c.hg (by rfl) T.n_repr (sa_cons (se_tuplec (by rfl) T.n_tuple (sa_cons (se_ix (se_ix (se_rd (pv 13)) se_int) se_int) sa_nil)) sa_nil))) (se_one (se_call c (by decide) (ok__law_place_right T) (by rfl) T.g__law_place_right T.F__law_place_right.kp T.b__law_place_right .nil DefOk.nil (sa_cons (se_rd (pv 6)) (sa_cons (se_rd (pv 13)) (sa_cons se_int sa_nil))))))))))))))))))))))))))))))
end
end VM.K15

set_option Elab.async false
set_option linter.all false
set_option autoImplicit false
set_option maxRecDepth 100000
set_option maxHeartbeats 400000
namespace VM
open PySem PySem.Spec PyProof.Rows L2

/-! ### programs, token by token -/
inductive Tok where
  | num (n : Nat) | hp (w : Str) (k : D) | fn (k r : D) | mk (w : Str) (n : Nat) | un | of | ask (w : Str) | keep (k a b : D) (c : List D) | cs (a b : D) (hs : List D)
def Tok.d : Tok → D
  | .num n => .int n
  | .hp w k => .tup [.str "helper", .str w, k]
  | .fn k r => .tup [.str "fun", k, r]
  | .mk w n => .tup [.str "make", .str w, .int n]
  | .un => .tup [.str "under"]
  | .of => .tup [.str "of"]
  | .ask w => .tup [.str "ask", .str w]
  | .keep k a b c => .tup [.str "keep", k, a, b, .tup c]
  | .cs a b hs => .tup [.str "case", a, b, .tup hs]
def Tok.ar : Tok → Nat
  | .num _ | .hp _ _ => 0
  | .fn _ _ | .ask _ => 1
  | .mk _ n => n
  | .un | .of => 2
  | .keep _ _ _ c => 1 + c.length
  | .cs _ _ hs => 1 + hs.length
/-- how many parts are still to come -/
def rn : Nat → List Tok → Option Nat
  | p, [] => some p
  | 0, _ :: _ => none
  | p + 1, t :: r => rn (p + t.ar) r
theorem rn_app : ∀ (a b : List Tok) (p : Nat), rn p (a ++ b) = (rn p a).bind fun q => rn q b
  | [], _, _ => rfl
  | _ :: _, _, 0 => rfl
  | t :: a, b, p + 1 => rn_app a b (p + t.ar)
theorem rn_up (c : Nat) : ∀ (a : List Tok) (p q : Nat), rn p a = some q → rn (p + c) a = some (q + c)
  | [], p, q, h => by simp [rn] at h ⊢; omega
  | _ :: _, 0, _, h => by simp [rn] at h
  | t :: a, p + 1, q, h => by
    have := rn_up c a (p + t.ar) q h
    rw [show p + 1 + c = (p + c) + 1 by omega]
    show rn (p + c + t.ar) a = _
    rw [show p + c + t.ar = p + t.ar + c by omega]
    exact this
theorem rn_one {ts : List Tok} (h : rn 1 ts = some 0) : ts ≠ [] := fun e => by subst e; simp [rn] at h
/-- the sizes of the parts of a row of tokens -/
def fsz : List Tok → List Nat
  | [] => []
  | t :: r => (1 + ((fsz r).take t.ar).sum) :: (fsz r).drop t.ar
theorem rn_fs : ∀ (ts : List Tok) (p : Nat), rn p ts = some 0 → (fsz ts).length = p
  | [], p, h => by simp [rn] at h; subst h; rfl
  | _ :: _, 0, h => by simp [rn] at h
  | t :: r, p + 1, h => by
    have := rn_fs r (p + t.ar) h
    simp [fsz, this]
theorem fs_sum : ∀ ts : List Tok, (fsz ts).sum = ts.length
  | [] => rfl
  | t :: r => by
    have h1 := fs_sum r
    have h2 : ((fsz r).take t.ar).sum + ((fsz r).drop t.ar).sum = (fsz r).sum := by rw [← List.sum_append, List.take_append_drop]
    simp [fsz]
    omega
theorem fs_cons (t : Tok) (r : List Tok) (m : Nat) : ((fsz (t :: r)).take (m + 1)).sum = ((fsz r).take (t.ar + m)).sum + 1 := by
  have h : ((fsz r).take (t.ar + m)).sum = ((fsz r).take t.ar).sum + (((fsz r).drop t.ar).take m).sum := by rw [List.take_add, List.sum_append]
  rw [h]
  simp [fsz]; omega
theorem fs_drop : ∀ (ts : List Tok) (m : Nat), fsz (ts.drop ((fsz ts).take m).sum) = (fsz ts).drop m
  | [], m => by simp [fsz]
  | t :: r, 0 => by simp
  | t :: r, m + 1 => by
    rw [fs_cons, List.drop_succ_cons, fs_drop r (t.ar + m)]
    simp [fsz, List.drop_drop]
theorem fs_lenle : ∀ ts : List Tok, (fsz ts).length ≤ ts.length
  | [] => Nat.le_refl _
  | t :: r => by
    have := fs_lenle r
    simp [fsz]; omega
theorem fs_lend (ts : List Tok) (j : Nat) : (fsz (ts.drop j)).length ≤ ts.length := Nat.le_trans (fs_lenle _) (by simp)
/-- well laid: every token finds its parts -/
theorem rn_tail : ∀ {a b : List Tok} {p : Nat}, rn p (a ++ b) = some 0 → ∃ q, rn q b = some 0 := fun {a b p} h => by
  rw [rn_app] at h
  cases hq : rn p a with
  | none => rw [hq] at h; cases h
  | some q => rw [hq] at h; exact ⟨q, h⟩
theorem rn_drop {ts : List Tok} {p : Nat} (h : rn p ts = some 0) (j : Nat) : ∃ q, rn q (ts.drop j) = some 0 := by
  rw [← List.take_append_drop j ts] at h
  exact rn_tail h
/-- a part of it -/
theorem fs_take : ∀ (ts : List Tok) (p m : Nat), rn p ts = some 0 → m ≤ p → rn m (ts.take ((fsz ts).take m).sum) = some 0
  | [], p, m, h, hm => by simp [rn] at h; subst h; simp at hm; subst hm; rfl
  | _ :: _, 0, _, h, _ => by simp [rn] at h
  | t :: r, p + 1, 0, h, _ => by simp [rn]
  | t :: r, p + 1, m + 1, h, hm => by
    have h1 := fs_take r (p + t.ar) (m + t.ar) h (by omega)
    have hl := rn_fs r _ h
    rw [fs_cons, List.take_succ_cons, Nat.add_comm t.ar m]
    exact h1
/-- the size of the part that begins at a place -/
def szt (ts : List Tok) (j : Nat) : Nat := ((fsz (ts.drop j))[0]?).getD 0
/-- where the parts of the token at a place begin -/
def sta (ts : List Tok) (j m : Nat) : Nat := j + 1 + ((fsz (ts.drop (j + 1))).take m).sum
theorem dr {ts : List Tok} {j : Nat} (h : j < ts.length) : ∃ t, ts[j]? = some t ∧ ts.drop j = t :: ts.drop (j + 1) := ⟨ts[j], List.getElem?_eq_getElem h, List.drop_eq_getElem_cons h⟩
theorem ar_le {ts : List Tok} {p j : Nat} {t : Tok} (h : rn p ts = some 0) (ht : ts[j]? = some t) : t.ar ≤ (fsz (ts.drop (j + 1))).length := by
  obtain ⟨hj, e⟩ := List.getElem?_eq_some_iff.mp ht
  obtain ⟨q, hq⟩ := rn_drop h j
  rw [List.drop_eq_getElem_cons hj, e] at hq
  cases q with
  | zero => simp [rn] at hq
  | succ q =>
    have hq' : rn (q + t.ar) (ts.drop (j + 1)) = some 0 := hq
    have := rn_fs _ _ hq'
    omega
theorem sta_zero (ts : List Tok) (j : Nat) : sta ts j 0 = j + 1 := by simp [sta]
theorem fs_len (ts : List Tok) (j : Nat) : (fsz (ts.drop j)).sum = ts.length - j := by rw [fs_sum, List.length_drop]
theorem sta_step {ts : List Tok} {p j m : Nat} {t : Tok} (h : rn p ts = some 0) (ht : ts[j]? = some t) (hm : m < t.ar) : sta ts j m < ts.length ∧ j < sta ts j m ∧ sta ts j (m + 1) = sta ts j m + szt ts (sta ts j m) := by
  have hl := ar_le h ht
  have hml : m < (fsz (ts.drop (j + 1))).length := by omega
  have hd := fs_drop (ts.drop (j + 1)) m
  rw [List.drop_drop] at hd
  have hne : (fsz (ts.drop (j + 1 + ((fsz (ts.drop (j + 1))).take m).sum)))[0]? = some ((fsz (ts.drop (j + 1)))[m]) := by
    rw [hd, List.getElem?_drop]; simp [hml]
  refine ⟨?_, by unfold sta; omega, ?_⟩
  · unfold sta
    apply Nat.lt_of_not_le
    intro hge
    rw [List.drop_eq_nil_of_le hge] at hne
    simp [fsz] at hne
  · unfold sta szt
    rw [hne, List.take_add_one, List.sum_append]
    simp [hml]; omega
theorem szt_at {ts : List Tok} {j : Nat} {t : Tok} (ht : ts[j]? = some t) : j + szt ts j = sta ts j t.ar := by
  obtain ⟨hj, e⟩ := List.getElem?_eq_some_iff.mp ht
  unfold szt sta
  rw [List.drop_eq_getElem_cons hj, e]
  simp [fsz]; omega
theorem szt_le (ts : List Tok) (j : Nat) : szt ts j ≤ ts.length - j := by
  have := fs_len ts j
  unfold szt
  cases h : fsz (ts.drop j) with
  | nil => simp
  | cons a r => rw [h] at this; simp at this ⊢; omega
theorem sta_le {ts : List Tok} (j m : Nat) (hj : j < ts.length) : sta ts j m ≤ ts.length := by
  have h1 := fs_len ts (j + 1)
  have h2 : ((fsz (ts.drop (j + 1))).take m).sum ≤ (fsz (ts.drop (j + 1))).sum := by
    conv => rhs; rw [← List.take_append_drop m (fsz (ts.drop (j + 1)))]
    rw [List.sum_append]; omega
  unfold sta; omega
/-- values -/
def vl1 (t : Tok) (V : Nat → Bool) : Bool := match t with
  | .num _ | .hp _ _ | .fn _ _ => true
  | .un | .mk _ _ => (List.range t.ar).all V
  | _ => false
def vlS : List Tok → List Bool
  | [] => []
  | t :: r => vl1 t (fun m => ((vlS r)[((fsz r).take m).sum]?).getD false) :: vlS r
theorem vs_drop : ∀ (ts : List Tok) (j : Nat), (vlS ts).drop j = vlS (ts.drop j)
  | [], j => by simp [vlS]
  | t :: r, 0 => rfl
  | t :: r, j + 1 => by simp [vlS, vs_drop r j]
theorem vs_len : ∀ ts : List Tok, (vlS ts).length = ts.length
  | [] => rfl
  | t :: r => by simp [vlS, vs_len r]
def vl (ts : List Tok) (j : Nat) : Bool := ((vlS ts)[j]?).getD false
theorem vl_at {ts : List Tok} {j : Nat} {t : Tok} (ht : ts[j]? = some t) : vl ts j = vl1 t (fun m => vl ts (sta ts j m)) := by
  obtain ⟨hj, e⟩ := List.getElem?_eq_some_iff.mp ht
  have h1 : (vlS ts)[j]? = ((vlS ts).drop j)[0]? := by rw [List.getElem?_drop, Nat.add_zero]
  have h2 : ∀ m, vl ts (sta ts j m) = ((vlS (ts.drop (j + 1)))[((fsz (ts.drop (j + 1))).take m).sum]?).getD false := fun m => by
    unfold vl sta
    rw [← vs_drop, List.getElem?_drop]
  simp only [h2]
  unfold vl
  rw [h1, vs_drop, List.drop_eq_getElem_cons hj, e]
  simp [vlS]
theorem vl_get {ts : List Tok} {j : Nat} (h : j < ts.length) : (vlS ts)[j]? = some (vl ts j) := by
  have : j < (vlS ts).length := by rw [vs_len]; exact h
  unfold vl
  rw [List.getElem?_eq_getElem this]; rfl
abbrev tsd (ts : List Tok) : D := .tup (ts.map Tok.d)
end VM

set_option Elab.async false
set_option linter.all false
set_option autoImplicit false
set_option maxRecDepth 100000
set_option maxHeartbeats 400000
namespace VM
open PySem PySem.Spec PyProof.Rows L2

/-! ### levels of the places of a program -/
def hdl : D → Nat
  | .tup [_, .tup ms] => ms.length
  | _ => 0
/-- how many variables a token binds in its part number k -/
def bd : Tok → Nat → Nat
  | .fn _ _, _ => 1
  | .cs _ _ hs, k + 1 => hdl (hs[k]?.getD .non)
  | .keep _ _ _ _, _ + 1 => 2
  | _, _ => 0
def lvF : List Nat → List Tok → List Nat
  | l :: st, t :: r => l :: lvF ((List.range t.ar).map (fun k => l + bd t k) ++ st) r
  | _, _ => []
def HOk : Tok → Prop
  | .cs _ _ hs => ∀ h ∈ hs, ∃ w ms, h = .tup [w, .tup ms]
  | _ => True
theorem lvF_len : ∀ (ts : List Tok) (st : List Nat), rn st.length ts = some 0 → (lvF st ts).length = ts.length
  | [], st, h => by cases st <;> rfl
  | t :: r, [], h => by simp [rn] at h
  | t :: r, l :: st, h => by
    have := lvF_len r ((List.range t.ar).map (fun k => l + bd t k) ++ st) (by
      have h : rn (st.length + t.ar) r = some 0 := h
      rw [List.length_append, List.length_map, List.length_range, Nat.add_comm]
      exact h)
    simp [lvF, this]
/-- levels laid down ahead -/
structure Lay (ts : List Tok) (S : List Nat) (i : Nat) (st : List Nat) : Prop where
  len : S.length = ts.length
  run : rn st.length (ts.drop i) = some 0
  pend : ∀ m l, st[m]? = some l → S[i + ((fsz (ts.drop i)).take m).sum]? = some l
  done : S.take i ++ lvF st (ts.drop i) = lvF [0] ts
theorem take_oneN {S : List Nat} {i v : Nat} (h : S[i]? = some v) : S.take (i + 1) = S.take i ++ [v] := by rw [List.take_add_one, h]; rfl
theorem Lay.start {ts : List Tok} (h : rn 1 ts = some 0) : Lay ts (List.replicate ts.length 0) 0 [0] := by
  have hn := List.length_pos_iff.mpr (rn_one h)
  refine ⟨by simp, h, fun m l hl => ?_, by simp⟩
  cases m with
  | zero => simp at hl; subst hl; simp [hn]
  | succ m => simp at hl
/-- the array after the parts of the token at i are laid -/
def layN (ts : List Tok) (S : List Nat) (i : Nat) (f : Nat → Nat) : Nat → List Nat
  | 0 => S
  | m + 1 => (layN ts S i f m).set (sta ts i m) (f m)
theorem layN_len (ts : List Tok) (S : List Nat) (i : Nat) (f : Nat → Nat) : ∀ m, (layN ts S i f m).length = S.length
  | 0 => rfl
  | m + 1 => by simp [layN, layN_len ts S i f m]
theorem sta_mono {ts : List Tok} {i : Nat} {t : Tok} (h : rn 1 ts = some 0) (ht : ts[i]? = some t) {m m' : Nat} (hm : m < m') (hm' : m' ≤ t.ar) : sta ts i m < sta ts i m' := by
  induction m' with
  | zero => omega
  | succ m' ih =>
    obtain ⟨s1, s2, s3⟩ := sta_step h ht (m := m') (by omega)
    have hpos : 0 < szt ts (sta ts i m') := by
      obtain ⟨u, hu, _⟩ := dr s1
      obtain ⟨hj, e⟩ := List.getElem?_eq_some_iff.mp hu
      unfold szt
      rw [List.drop_eq_getElem_cons hj]
      simp [fsz]
      omega
    rcases Nat.lt_or_ge m m' with hlt | hge
    · have := ih hlt (by omega)
      omega
    · obtain rfl : m = m' := by omega
      omega
theorem layN_at {ts : List Tok} {S : List Nat} {i : Nat} {f : Nat → Nat} {t : Tok} (h : rn 1 ts = some 0) (ht : ts[i]? = some t) (hS : S.length = ts.length) : ∀ n, n ≤ t.ar → ∀ m, m < n → (layN ts S i f n)[sta ts i m]? = some (f m)
  | 0, _, m, hm => by omega
  | n + 1, hn, m, hm => by
    obtain ⟨s1, s2, s3⟩ := sta_step h ht (m := n) (by omega)
    unfold layN
    by_cases e : m = n
    · subst e
      rw [List.getElem?_set_self (by rw [layN_len, hS]; exact s1)]
    · have := sta_mono h ht (m := m) (m' := n) (by omega) (by omega)
      rw [List.getElem?_set_ne (by omega)]
      exact layN_at h ht hS n (by omega) m (by omega)
theorem layN_off {ts : List Tok} {S : List Nat} {i : Nat} {f : Nat → Nat} {j : Nat} : ∀ n, (∀ m, m < n → sta ts i m ≠ j) → (layN ts S i f n)[j]? = S[j]?
  | 0, _ => rfl
  | n + 1, h => by
    unfold layN
    rw [List.getElem?_set_ne (h n (by omega))]
    exact layN_off n fun m hm => h m (by omega)
theorem layN_lo (ts : List Tok) (S : List Nat) (i : Nat) (f : Nat → Nat) : ∀ n, (layN ts S i f n).take (i + 1) = S.take (i + 1)
  | 0 => rfl
  | n + 1 => by
    unfold layN
    have : i + 1 ≤ sta ts i n := by unfold sta; omega
    rw [List.take_set, List.set_eq_of_length_le (by simp; omega)]
    exact layN_lo ts S i f n
theorem Lay.step {ts : List Tok} {S : List Nat} {i : Nat} {l : Nat} {st : List Nat} {t : Tok} (h : rn 1 ts = some 0) (L : Lay ts S i (l :: st)) (ht : ts[i]? = some t) : Lay ts (layN ts S i (fun k => l + bd t k) t.ar) (i + 1) ((List.range t.ar).map (fun k => l + bd t k) ++ st) := by
  obtain ⟨hi, e⟩ := List.getElem?_eq_some_iff.mp ht
  have hdr : ts.drop i = t :: ts.drop (i + 1) := by rw [List.drop_eq_getElem_cons hi, e]
  have hal := ar_le h ht
  have hl0 : S[i]? = some l := by have := L.pend 0 l rfl; simpa using this
  refine ⟨by rw [layN_len, L.len], ?_, fun m v hv => ?_, ?_⟩
  · have := L.run
    rw [hdr] at this
    have this : rn (st.length + t.ar) (ts.drop (i + 1)) = some 0 := this
    rw [List.length_append, List.length_map, List.length_range, Nat.add_comm]
    exact this
  · rw [← sta]
    rcases Nat.lt_or_ge m t.ar with hm | hm
    · rw [List.getElem?_append_left (by simpa using hm)] at hv
      rw [layN_at h ht L.len t.ar (Nat.le_refl _) m hm]
      rw [List.getElem?_map, List.getElem?_range hm] at hv
      simpa using hv
    · rw [List.getElem?_append_right (by simpa using hm)] at hv
      simp only [List.length_map, List.length_range] at hv
      have hp := L.pend (m - t.ar + 1) v (by simpa using hv)
      rw [hdr, fs_cons] at hp
      have em : t.ar + (m - t.ar) = m := by omega
      rw [em] at hp
      have e2 : sta ts i m = i + (((fsz (ts.drop (i + 1))).take m).sum + 1) := by unfold sta; omega
      rw [layN_off t.ar, e2]
      · exact hp
      · intro k hk
        have h1 : ∀ a b, a ≤ b → ((fsz (ts.drop (i + 1))).take a).sum ≤ ((fsz (ts.drop (i + 1))).take b).sum := fun a b hab => by
          rw [show b = a + (b - a) by omega, List.take_add, List.sum_append]; omega
        have h2 := sta_mono h ht hk (Nat.le_refl _)
        have h3 := h1 t.ar m hm
        unfold sta at h2 ⊢
        omega
  · rw [layN_lo, take_oneN hl0, ← L.done, hdr]
    simp [lvF]
end VM

set_option Elab.async false
set_option linter.all false
set_option autoImplicit false
set_option maxRecDepth 100000
set_option maxHeartbeats 400000
namespace VM
open PySem PySem.Spec PyProof.Rows L2

/-! ### comprehensions whose element changes what the frame holds -/
theorem lcL_io {β : Type} {own : List Nat} {t : MT} {me : M D} (S : β → SV) (I : Nat → β → List D → Prop) : ∀ (ds : List D) (i : Nat) (b : β) (acc : List D), I i b acc → acc.length + ds.length ≤ 16777216 →
    (∀ j d b acc, ds[j]? = some d → I (i + j) b acc → ∃ s1, t d (S b) = some s1 ∧ ∃ y s3 b', me s1 = .ok y s3 ∧ wipeV s3 own = S b' ∧ I (i + j + 1) b' (acc ++ [y])) →
    ∃ b' acc', lcL own t mYes me ds (S b) acc = .ok acc' (S b') ∧ I (i + ds.length) b' acc' ∧ acc'.length = acc.length + ds.length
  | [], i, b, acc, h, _, _ => ⟨b, acc, rfl, h, rfl⟩
  | d :: ds, i, b, acc, h, hl, hs => by
    obtain ⟨s1, h1, y, s3, b', h2, h3, h4⟩ := hs 0 d b acc rfl h
    have hl' : acc.length + (ds.length + 1) ≤ 16777216 := hl
    obtain ⟨b2, acc2, e1, e2, e3⟩ := lcL_io S I ds (i + 1) b' (acc ++ [y]) h4 (by simp; omega) (fun j d b acc hd hI => by
      have e : i + 1 + j = i + (j + 1) := by omega
      rw [e] at hI ⊢
      exact hs (j + 1) d b acc (by simpa using hd) hI)
    refine ⟨b2, acc2, ?_, ?_, ?_⟩
    · unfold lcL
      rw [h1]
      show (match (R.ok true s1 : R Bool) with
        | .ok false s2 => lcL own t mYes me ds (wipeV s2 own) acc
        | .ok true s2 => match me s2 with
          | .ok y s3 => if acc.length < sizeLine then lcL own t mYes me ds (wipeV s3 own) (acc ++ [y]) else .bad
          | _ => .bad
        | _ => .bad) = _
      dsimp only
      rw [h2]
      dsimp only
      rw [if_pos (by rw [sizeLine_eq]; omega), h3, e1]
    · have : i + (ds.length + 1) = i + 1 + ds.length := by omega
      rw [List.length_cons, this]; exact e2
    · rw [e3]; simp; omega
/-- [f x for x in xs] where f changes what the frame holds: S tells the frame with the comprehension's own names wiped -/
theorem lc_io {β : Type} {own : List Nat} {mi : M (List D)} {t : MT} {me : M D} {s s0 : SV} {ds : List D} (S : β → SV) (I : Nat → β → List D → Prop) (b : β) (hi : mi s = .ok ds s0) (ho : ownOk own s0 = true) (e0 : wipeV s0 own = S b) (hl : ds.length ≤ 16777216) (h0 : I 0 b [])
    (hs : ∀ j d b acc, ds[j]? = some d → I j b acc → ∃ s1, t d (S b) = some s1 ∧ ∃ y s3 b', me s1 = .ok y s3 ∧ wipeV s3 own = S b' ∧ I (j + 1) b' (acc ++ [y])) :
    ∃ b' acc', mLc own mi t mYes me s = .ok (.lst acc') (restV own s0 (S b')) ∧ I ds.length b' acc' ∧ acc'.length = ds.length := by
  obtain ⟨b', acc', e1, e2, e3⟩ := lcL_io (own := own) (t := t) (me := me) S I ds 0 b [] h0 (by simpa using hl) (fun j d b acc hd hI => by rw [Nat.zero_add] at hI ⊢; exact hs j d b acc hd hI)
  refine ⟨b', acc', ?_, by rw [Nat.zero_add] at e2; exact e2, by simpa using e3⟩
  unfold mLc
  rw [hi]
  show (if ownOk own s0 = true then (lcL own t mYes me ds (wipeV s0 own) []).bind fun acc s' => R.ok (D.lst acc) (restV own s0 s') else .bad) = _
  rw [if_pos ho, e0, e1]
  rfl

/-- [f x for x in xs if p x], where the walk's own thing changes the frame -/
theorem lc_of2 {α : Type} {own : List Nat} {mi : M (List D)} {t : MT} {mc : M Bool} {me : M D} {s s0 : SV} (xs : List α) (enc f : α → D) (p : α → Bool) (hi : mi s = .ok (xs.map enc) s0) (ho : ownOk own s0 = true) (hl : xs.length ≤ 16777216)
    (h : ∀ x ∈ xs, ∃ s1, t (enc x) (wipeV s0 own) = some s1 ∧ mc s1 = .ok (p x) s1 ∧ (p x = true → me s1 = .ok (f x) s1) ∧ wipeV s1 own = wipeV s0 own) : mLc own mi t mc me s = .ok (D.lst ((xs.filter p).map f)) s0 := by
  unfold mLc
  rw [hi]
  show (if ownOk own s0 = true then (lcL own t mc me (xs.map enc) (wipeV s0 own) []).bd fun acc s' => R.ok (D.lst acc) (restV own s0 s') else .bad) = _
  rw [if_pos ho, lcL_fm xs [] (by simpa using hl) h]
  show R.ok (D.lst ([] ++ (xs.filter p).map f)) (restV own s0 (wipeV s0 own)) = _
  rw [restV_self, List.nil_append]
theorem lcLO_map {α : Type} {own : List Nat} {t : MT} {me : M D} {w : SV} {enc f : α → D} : ∀ (xs : List α) (acc : List D), acc.length + xs.length ≤ 16777216 →
    (∀ x ∈ xs, ∃ s1, t (enc x) w = some s1 ∧ me s1 = .ok (f x) s1 ∧ wipeV s1 own = w) → lcLO own t mYes me (xs.map enc) w acc = .ok (acc ++ xs.map fun x => .own (f x)) w
  | [], acc, _, _ => by simp [lcLO]
  | x :: xs, acc, hl, h => by
    obtain ⟨s1, h1, h3, h4⟩ := h x List.mem_cons_self
    rw [List.map_cons]
    unfold lcLO
    rw [h1]
    have hl' : acc.length + (xs.length + 1) ≤ 16777216 := hl
    show (match (R.ok true s1 : R Bool) with
      | .ok false s2 => lcLO own t mYes me (xs.map enc) (wipeV s2 own) acc
      | .ok true s2 => match me s2 with
        | .ok y s3 => if acc.length < sizeLine then lcLO own t mYes me (xs.map enc) (wipeV s3 own) (acc ++ [D.own y]) else .bad
        | _ => .bad
      | _ => .bad) = _
    dsimp only
    rw [h3]
    dsimp only
    rw [if_pos (by rw [sizeLine_eq]; omega), h4, lcLO_map xs _ (by simp; omega) fun y hy => h y (List.mem_cons_of_mem _ hy)]
    simp
/-- [f x for x in xs], each item the list's own -/
theorem lcO_map {α : Type} {own : List Nat} {mi : M (List D)} {t : MT} {me : M D} {s : SV} (xs : List α) (enc f : α → D) (hi : mi s = .ok (xs.map enc) s) (ho : ownOk own s = true) (hl : xs.length ≤ 16777216)
    (h : ∀ x ∈ xs, ∃ s1, t (enc x) (wipeV s own) = some s1 ∧ me s1 = .ok (f x) s1 ∧ wipeV s1 own = wipeV s own) : mLcO own mi t mYes me s = .ok (D.deep (.lst (xs.map fun x => D.own (f x)))) s := by
  unfold mLcO
  rw [hi]
  show (if ownOk own s = true then (lcLO own t mYes me (xs.map enc) (wipeV s own) []).bind fun acc s' => R.ok (D.deep (.lst acc)) (restV own s s') else .bad) = _
  rw [if_pos ho, lcLO_map xs [] (by simpa using hl) h]
  show R.ok (D.deep (.lst ([] ++ xs.map fun x => D.own (f x)))) (restV own s (wipeV s own)) = _
  rw [restV_self, List.nil_append]
theorem appIx_ok {i j : Nat} {mk m : M D} {s s1 s2 : SV} {ds xs : List D} {z : Int} {d : D} (h1 : s[i]? = some (.ow (.deep (.lst ds)))) (h2 : mk (s.set i .un) = .ok (.int z) s1) (h3 : ixN ds.length z = some j) (h4 : ds[j]? = some (.own (.lst xs))) (h5 : m s1 = .ok d s2) (h6 : xs.length < 16777216) :
    mAppIx i mk m s = .nx (s2.set i (.ow (.deep (.lst (ds.set j (.own (.lst (xs ++ [d])))))))) := by
  unfold mAppIx
  rw [h1]
  dsimp only
  rw [h2]
  dsimp only
  rw [h3]
  dsimp only
  rw [h4]
  dsimp only
  rw [h5]
  dsimp only
  rw [if_pos (by rw [sizeLine_eq]; exact h6)]
theorem q_p20 : dI2 cPow (.int 10) (.int 20) = some (.int 100000000000000000000) := (rfl)

/-! ### what repr shows, by the number of its signs -/
structure Rs (d : D) (n dp : Nat) : Prop where
  h : ∃ q, py d = some q ∧ q.showable = true ∧ q.hasDict = false ∧ q.depth ≤ dp ∧ q.shown.length ≤ n
structure RsL (ds : List D) (n dp : Nat) : Prop where
  h : ∃ qs, pyL ds = some qs ∧ PyData.showableAll qs = true ∧ PyData.hasDictAll qs = false ∧ PyData.depthAll qs ≤ dp ∧ ((PyData.shownAll qs).map (·.length)).sum + 2 * qs.length ≤ n
theorem Rs.mono {d : D} {w w' dp dp' : Nat} (h : Rs d w dp) (h1 : w ≤ w') (h2 : dp ≤ dp') : Rs d w' dp' := by
  obtain ⟨q, a, b, c, e, f⟩ := h.h
  exact ⟨q, a, b, c, by omega, by omega⟩
theorem RsL.mono {d : List D} {w w' dp dp' : Nat} (h : RsL d w dp) (h1 : w ≤ w') (h2 : dp ≤ dp') : RsL d w' dp' := by
  obtain ⟨q, a, b, c, e, f⟩ := h.h
  exact ⟨q, a, b, c, by omega, by omega⟩
theorem RsL.nil {dp : Nat} : RsL [] 0 dp := ⟨[], rfl, rfl, rfl, Nat.zero_le _, Nat.le_refl _⟩
theorem RsL.cons {d : D} {ds : List D} {w w' dp : Nat} (h : Rs d w dp) (h' : RsL ds w' dp) : RsL (d :: ds) (w + 2 + w') dp := by
  obtain ⟨q, a, b, c, e, f⟩ := h.h
  obtain ⟨qs, a', b', c', e', f'⟩ := h'.h
  refine ⟨q :: qs, by simp only [pyL, a, a'], by simp only [PyData.showableAll, b, b', Bool.and_self], by simp only [PyData.hasDictAll, c, c', Bool.or_self], ?_, ?_⟩
  · simp only [PyData.depthAll]; omega
  · simp only [PyData.shownAll, List.map_cons, List.sum_cons, List.length_cons]; omega
theorem RsL.all {w dp : Nat} : ∀ {ds : List D}, (∀ d ∈ ds, Rs d w dp) → RsL ds ((w + 2) * ds.length) dp
  | [], _ => RsL.nil.mono (Nat.zero_le _) (Nat.le_refl _)
  | d :: ds, h => ((RsL.cons (h d List.mem_cons_self) (RsL.all fun x hx => h x (List.mem_cons_of_mem _ hx))).mono (by
      rw [List.length_cons, Nat.mul_add, Nat.mul_one]
      omega) (Nat.le_refl _))
theorem Rs.tup {ds : List D} {w dp : Nat} (h : RsL ds w dp) : Rs (.tup ds) (w + 3) (dp + 1) := by
  obtain ⟨qs, a', b', c', e', f'⟩ := h.h
  have h2 := tupleText_len_le (PyData.shownAll qs)
  have h3 := PyData.shownAll_length qs
  refine ⟨.tuple qs, by simp only [py, a', Option.map_some], b', c', by simp only [PyData.depth]; omega, ?_⟩
  simp only [PyData.shown]
  omega
theorem Rs.lst {ds : List D} {w dp : Nat} (h : RsL ds w dp) : Rs (.lst ds) (w + 3) (dp + 1) := by
  obtain ⟨qs, a', b', c', e', f'⟩ := h.h
  have h2 := listText_len_le (PyData.shownAll qs)
  have h3 := PyData.shownAll_length qs
  refine ⟨.list qs, by simp only [py, a', Option.map_some], b', c', by simp only [PyData.depth]; omega, ?_⟩
  simp only [PyData.shown]
  omega
theorem Rs.nat {n : Nat} (h : n < 10 ^ 50) : Rs (.int n) 52 0 := by
  have l1 : (n : Int).natAbs.log2 < 170 := by
    rw [Int.natAbs_natCast]
    by_cases h0 : n = 0
    · subst h0; decide
    · exact (Nat.log2_lt h0).mpr (Nat.lt_trans h (by decide))
  refine ⟨.int n, rfl, ?_, rfl, Nat.le_refl _, ?_⟩
  · simp only [PyData.showable]
    exact decide_eq_true (by omega)
  · have := toString_length_le (v := (n : Int)) (by omega) (k := 50) (by decide) (by exact_mod_cast h)
    have e : PyData.shown (.int (n : Int)) = Str.ofString (toString (n : Int)) := rfl
    rw [e]
    omega
theorem Rs.bl (b : Bool) : Rs (.bl b) 5 0 := ⟨.bool b, rfl, rfl, rfl, Nat.le_refl _, by cases b <;> decide⟩
theorem Rs.non : Rs .non 4 0 := ⟨.none, rfl, rfl, rfl, Nat.le_refl _, by decide⟩
/-- .. worked out -/
def rsB (d : D) (n dp : Nat) : Bool := match py d with
  | some q => q.showable && !q.hasDict && decide (q.depth ≤ dp) && decide (q.shown.length ≤ n)
  | none => false
theorem Rs.by {d : D} {n dp : Nat} (h : rsB d n dp = true) : Rs d n dp := by
  unfold rsB at h
  cases hq : py d with
  | none => rw [hq] at h; cases h
  | some q =>
    rw [hq] at h
    simp only [Bool.and_eq_true, Bool.not_eq_true', decide_eq_true_eq] at h
    exact ⟨q, hq, h.1.1.1, h.1.1.2, h.1.2, h.2⟩
theorem reprs_of {d : D} {n dp : Nat} (h : Rs d n dp) (h1 : n ≤ 16777216) (h2 : dp ≤ 60) : ∃ z, dRepr [d] = some (.str z) := by
  obtain ⟨q, a, b, c, e, f⟩ := h.h
  have hr : reprOk q = true := by
    unfold reprOk
    rw [b, c, decide_eq_true (by omega : q.depth ≤ 60), decide_eq_true (by rw [sizeLine_eq]; omega)]
    rfl
  refine ⟨q.shown, ?_⟩
  unfold dRepr
  dsimp only
  rw [a]
  dsimp only
  rw [if_pos hr]
theorem Rs.to {d : D} {n dp dp' : Nat} (h : Rs d n dp) (h' : dp ≤ dp' := by decide) : Rs d n dp' := h.mono (Nat.le_refl _) h'
end VM

set_option Elab.async false
set_option linter.all false
set_option autoImplicit false
set_option maxRecDepth 100000
set_option maxHeartbeats 400000
namespace VM.K15
open PySem PySem.Spec PyProof.Rows L2 VM
theorem cell_ok (ns : List Int) (k : Nat) : Ans (F__law_cell [.fl (ns.map .int), .int k]) fun d => ∃ c : Int, d = .int c := by
  unfold F__law_cell
  rw [fnOf_none]
  unfold m__law_cell
  by_cases hk : k < ns.length
  · simp [dCmp, dLen, ciLt, hk, dIx, atI_natL]
  · obtain ⟨s, e1, x, y, hx, e2⟩ := for_turns (t := mtN 3) (b := b__law_cell_0) (ds := ns.map D.int) (sv := [.pl (.fl (ns.map .int)), .pl (.int k), .pl (.int 17), .un])
      (fun i s => ∃ (x : Int) (y : Sl), (0 ≤ x ∧ x < 1000003) ∧ s = [.pl (.fl (ns.map .int)), .pl (.int k), .pl (.int x), y]) ⟨17, .un, by decide, rfl⟩ fun i d s hd hP => by
        obtain ⟨x, y, hx, rfl⟩ := hP
        obtain ⟨n, hn, rfl⟩ : ∃ n, ns[i]? = some n ∧ D.int n = d := by simpa using hd
        simp [b__law_cell_0, dInt, dAdd, cMul, cMod, dI2]
        exact ⟨Int.emod_nonneg _ (by decide), Int.emod_lt_of_pos _ (by decide)⟩
    subst e2
    have h1 := cMulL (i := x + 7) (k + 3) (by omega) (by omega)
    have h2 := fun i => cMulR i (j := 69621) (by decide) (by decide)
    have hF : f__law_cell_1 [.pl (.fl (ns.map .int)), .pl (.int k), .pl (.int 17), .un] = .nx [.pl (.fl (ns.map .int)), .pl (.int k), .pl (.int x), y] := for_of (by simp) e1
    simp [dCmp, dLen, ciLt, hk, hF, dAdd, dInt, h1, h2, cMod, dI2]
end VM.K15

set_option Elab.async false
set_option linter.all false
set_option autoImplicit false
set_option maxRecDepth 100000
set_option maxHeartbeats 400000
namespace VM.K15
open PySem PySem.Spec PyProof.Rows L2 VM
local macro_rules | `(tactic| walk_at "ev") => `(tactic| simp (disch := first | omega | (simp only [List.length_cons, List.length_nil, List.length_map, List.length_append, List.length_replicate, List.length_set, rngs_length]; omega)) only [*, q_seq, q_skip, q_knx, q_krt, q_kro, q_kbk, q_kct, q_ker, q_kk, q_bind, q_bok, q_ber, q_drop, q_ret, q_reto, q_ifs, q_ct, q_cf, q_asg, q_asgo, q_asgt, q_rok, q_rer, q_c, q_rd, q_mv, q_fz, fz_lst, fz_dct, fz_obj, fz_dlst, fz_ddct, fz_dobj, q_tk, q_2, q_1, q_os, q_b, q_not, q_and, q_or, q_at, q_af, q_ao, q_rt, q_rf, q_ro, q_andv, q_orv, q_avt, q_avf, q_avo, q_rvt, q_rvf, q_rvo, q_ife, q_it, q_if, q_io, q_on, q_oS, q_sl, q_nil, q_cons, q_tup, q_lst, q_call1, q_call, q_f0, q_f1, q_f2, q_f3, q_f4, q_f5, q_f6, q_f7, q_callk, q_frok, q_frer, q_calli, q_mihere, q_micons, q_fri, q_sdo, q_sdi, q_rso, q_rsi, q_app, q_ext, q_ext2, q_put, q_pop, q_with, q_wok, q_for, q_enum, q_items, q_raise, q_gt, q_grt, q_lt, q_le, q_rng1, q_rng2, q_rg1, q_lrg, q_lrgi, q_rg2, q_add, q_adds, q_addl, q_addt, q_cat, q_sub, q_mulr, q_mull, q_div, q_mod, q_p18, q_p12, q_cmplt, q_cmple, q_cmpgt, q_cmpge, q_eqi, q_eqs, q_eqb, q_nei, q_nes, q_isn, q_isnn, q_isb, q_isnb, q_neg, q_dnot, q_lenl, q_lent, q_lenf, q_lens, q_int, q_intb, q_tupl, q_tupt, q_lstl, q_lstt, q_min, q_max, q_ixn, q_ixm, q_ixl, q_ixt, q_ixf, q_rep, q_isi_tt, q_isi_ts, q_isi_ti, q_isi_ss, q_isi_st, q_isi_ii, q_isi_it, q_isi_is, q_isi_bi, q_lfi, q_lfb, q_lfs, q_lfn, q_itt, q_itl, q_itf, q_slt, q_sll, q_sls, tk_row, tk_wd, q_cut, q_cutf, q_cutt, q_try, q_tryo, q_tnx, q_trt, q_tonx, q_tort, w_irt, w_inx, w_iro, w_lnx, w_lct, w_lbk, w_lrt, w_lro, w_ler, w_nnx, w_nrt, w_nro, w_ner, w_rnx, w_rrt, w_rro, w_rer, w_tn, w_tt, w_tt3, ev_ownL, ev_putL, ev_lend, ev_hn, ev_hp, ev_hu, ev_ho, ev_hi, ev_i0, ev_i1, ev_tN, ev_tnil, ev_tcons, ev_tTup, List.getElem?_cons_zero, List.getElem?_cons_succ, List.set_cons_zero, List.set_cons_succ, List.length_cons, List.length_nil, List.length_append, List.length_map, List.length_replicate, List.length_set, rngs_length, List.nil_append, List.cons_append, Int.toNat_natCast, Int.toNat_zero, Int.toNat_one, Int.reduceToNat, List.getElem?_map, Option.map_some, Nat.reduceAdd, Nat.reduceSub, Nat.reduceLT, Nat.reduceLeDiff, Nat.reduceEqDiff, Int.reduceEq, Int.reduceLT, Int.reduceLE, Int.reduceAdd, Int.reduceSub, Int.reduceMul, Int.reduceNeg, List.replicate_succ, List.replicate_zero, Bool.not_true, Bool.not_false, Bool.and_true, Bool.true_and, Bool.and_false, Bool.false_and, Bool.or_true, Bool.true_or, Bool.or_false, Bool.false_or, decide_true, decide_false, if_true, if_false, and_self, true_and, and_true, Nat.sub_self, Nat.add_zero, Nat.zero_add, Bool.true_eq_false, Bool.false_eq_true, ite_true, ite_false, reduceIte, eq_self])
theorem wne : decide (("helper" : Str) = "fun") = false ∧ decide (("helper" : Str) = "make") = false ∧ decide (("helper" : Str) = "under") = false ∧ decide (("helper" : Str) = "of") = false ∧ decide (("helper" : Str) = "ask") = false ∧ decide (("helper" : Str) = "keep") = false ∧ decide (("helper" : Str) = "case") = false ∧ decide (("fun" : Str) = "helper") = false ∧ decide (("fun" : Str) = "make") = false ∧ decide (("fun" : Str) = "under") = false ∧ decide (("fun" : Str) = "of") = false ∧ decide (("fun" : Str) = "ask") = false ∧ decide (("fun" : Str) = "keep") = false ∧ decide (("fun" : Str) = "case") = false ∧ decide (("make" : Str) = "helper") = false ∧ decide (("make" : Str) = "fun") = false ∧ decide (("make" : Str) = "under") = false ∧ decide (("make" : Str) = "of") = false ∧ decide (("make" : Str) = "ask") = false ∧ decide (("make" : Str) = "keep") = false ∧ decide (("make" : Str) = "case") = false ∧ decide (("under" : Str) = "helper") = false ∧ decide (("under" : Str) = "fun") = false ∧ decide (("under" : Str) = "make") = false ∧ decide (("under" : Str) = "of") = false ∧ decide (("under" : Str) = "ask") = false ∧ decide (("under" : Str) = "keep") = false ∧ decide (("under" : Str) = "case") = false ∧ decide (("of" : Str) = "helper") = false ∧ decide (("of" : Str) = "fun") = false ∧ decide (("of" : Str) = "make") = false ∧ decide (("of" : Str) = "under") = false ∧ decide (("of" : Str) = "ask") = false ∧ decide (("of" : Str) = "keep") = false ∧ decide (("of" : Str) = "case") = false ∧ decide (("ask" : Str) = "helper") = false ∧ decide (("ask" : Str) = "fun") = false ∧ decide (("ask" : Str) = "make") = false ∧ decide (("ask" : Str) = "under") = false ∧ decide (("ask" : Str) = "of") = false ∧ decide (("ask" : Str) = "keep") = false ∧ decide (("ask" : Str) = "case") = false ∧ decide (("keep" : Str) = "helper") = false ∧ decide (("keep" : Str) = "fun") = false ∧ decide (("keep" : Str) = "make") = false ∧ decide (("keep" : Str) = "under") = false ∧ decide (("keep" : Str) = "of") = false ∧ decide (("keep" : Str) = "ask") = false ∧ decide (("keep" : Str) = "case") = false ∧ decide (("case" : Str) = "helper") = false ∧ decide (("case" : Str) = "fun") = false ∧ decide (("case" : Str) = "make") = false ∧ decide (("case" : Str) = "under") = false ∧ decide (("case" : Str) = "of") = false ∧ decide (("case" : Str) = "ask") = false ∧ decide (("case" : Str) = "keep") = false := by decide
theorem whole_ok (t : Tok) : F_is_whole [t.d] = .ok (.bl (match t with
  | .num _ => true
  | _ => false)) none := Cmp.eq <| cmp_of <| by
  unfold m_is_whole
  cases t <;> (simp only [Tok.d]; walk_at "ev")
theorem lwhole_ok (t : Tok) : F__law_whole [t.d] = .ok (.bl (match t with
  | .num _ => true
  | _ => false)) none := Cmp.eq <| cmp_of <| by
  unfold m__law_whole
  cases t <;> (simp only [Tok.d]; walk_at "ev")
theorem arity_ok (t : Tok) : F_arity_of [t.d] = .ok (.int (t.ar : Int)) none := Cmp.eq <| cmp_of <| by
  have hw := whole_ok t
  have hn := wne
  have x5 : ∀ a b c d e : D, dIx (.tup [a, b, c, d, e]) (.int (-1)) = some e := fun _ _ _ _ _ => rfl
  have x4 : ∀ a b c d : D, dIx (.tup [a, b, c, d]) (.int (-1)) = some d := fun _ _ _ _ => rfl
  unfold m_arity_of
  cases t <;> simp only [Tok.d] at hw ⊢ <;> walk_at "ev" <;> simp [Tok.ar]
theorem larity_ok (t : Tok) : F__law_arity [t.d] = .ok (.int (t.ar : Int)) none := Cmp.eq <| cmp_of <| by
  have hw := lwhole_ok t
  have hn := wne
  have x5 : (((5 : Nat) : Int) - 1).toNat = 4 := rfl
  have x4 : (((4 : Nat) : Int) - 1).toNat = 3 := rfl
  unfold m__law_arity
  cases t <;> simp only [Tok.d] at hw ⊢ <;> walk_at "ev" <;> simp [Tok.ar]

structure EnT (ts : List Tok) (E : List Nat) : Prop where
  len : E.length = ts.length
  at_ : ∀ j, j < ts.length → E[j]? = some (j + szt ts j)
theorem nget {n j : Nat} {d : D} (h : (rngs 0 n)[j]? = some d) : j < n ∧ d = .int (j : Int) := by
  obtain ⟨h1, h2⟩ := rngs_at h
  exact ⟨h1, by rw [h2, Int.zero_add]⟩
abbrev iN (E : List Nat) : List D := E.map fun (n : Nat) => D.int (n : Int)
theorem iN_at {E : List Nat} {j x : Nat} (h : E[j]? = some x) : (iN E)[j]? = some (.int (x : Int)) := by
  show (E.map _)[j]? = _
  rw [List.getElem?_map, h]; rfl
theorem tk_at {ts : List Tok} {j : Nat} {t : Tok} (h : ts[j]? = some t) : (ts.map Tok.d)[j]? = some t.d := by rw [List.getElem?_map, h]; rfl
theorem EnT.uniq {ts : List Tok} {E E' : List Nat} (h : EnT ts E) (h' : EnT ts E') : E = E' := by
  apply List.ext_getElem?
  intro j
  by_cases hj : j < ts.length
  · rw [h.at_ j hj, h'.at_ j hj]
  · rw [List.getElem?_eq_none (by rw [h.len]; omega), List.getElem?_eq_none (by rw [h'.len]; omega)]
theorem inner {Q : O → Prop} {N B : SV → Prop} {ts : List Tok} (hr : rn 1 ts = some 0) (hl : ts.length ≤ 1000000) {E : List Nat} {i p : Nat} {t : Tok} (ht : ts[p]? = some t) (hE : E.length = ts.length) (hEj : ∀ j, p < j → j < ts.length → E[j]? = some (j + szt ts j)) (y2 y3 y4 y5 : Sl) (hi : p + 1 + i = ts.length)
    (hN : ∀ E' y, E'.length = ts.length → (∀ j, p ≤ j → j < ts.length → E'[j]? = some (j + szt ts j)) → N [.pl (tsd ts), .ow (.lst (iN E')), .pl (.int i), .pl (.int p), .pl (.int ((sta ts p t.ar : Nat) : Int)), y]) :
    Wp (b_program_ends_2 [.pl (tsd ts), .ow (.lst (iN E)), .pl (.int i), y3, y4, y5]) (LpQ N B Q) := by
  have hp : (ts.length : Int) - 1 - i = p := by omega
  have e0 := tk_at ht
  have ha := arity_ok t
  have hal := ar_le hr ht
  have hfl : (fsz (ts.drop (p + 1))).length ≤ ts.length := fs_lend ts (p + 1)
  have e0' : Option.map Tok.d ts[p]? = some t.d := by rw [ht]; rfl
  unfold b_program_ends_2
  walk_at "ev"
  unfold f_program_ends_1
  walk_at "ev"
  refine w_for (Y := Nat × Sl) (fun y => [.pl (tsd ts), .ow (.lst (iN E)), .pl (.int i), .pl (.int p), .pl (.int (y.1 : Int)), y.2]) (fun j y => y.1 = sta ts p j) (sta ts p 0, y5) (by simp [sta_zero]) rfl (fun j d y hd hy => ?_) fun y hy => ?_
  · obtain ⟨x, y2⟩ := y
    dsimp only at hy
    subst hy
    obtain ⟨hj, rfl⟩ := nget hd
    obtain ⟨s1, s2, s3⟩ := sta_step hr ht hj
    have e1 := hEj _ (by omega) s1
    rw [← s3] at e1
    unfold b_program_ends_0
    walk_at "ev"
    exact ⟨(_, _), rfl, rfl⟩
  · obtain ⟨x, y2⟩ := y
    dsimp only at hy
    rw [rngs_length] at hy
    subst hy
    have hN := hN (E.set p (sta ts p t.ar)) y2 (by simp [hE]) (fun j h1 h2 => by
      by_cases hj : j = p
      · subst hj
        rw [List.getElem?_set_self (by omega), szt_at ht]
      · rw [List.getElem?_set_ne (by omega)]
        exact hEj j (by omega) h2)
    have hs : (iN E).set p (.int ((sta ts p t.ar : Nat) : Int)) = iN (E.set p (sta ts p t.ar)) := by simp [iN]
    walk_at "ev"
theorem ends_ok {ts : List Tok} (hr : rn 1 ts = some 0) (hl : ts.length ≤ 1000000) : ∃ E, F_program_ends [tsd ts] = .ok (.tup (iN E)) none ∧ EnT ts E := by
  have h : Cmp (F_program_ends [tsd ts]) (fun d => ∃ E, d = .tup (iN E) ∧ EnT ts E) fun _ => False := by
    refine cmp_of ?_
    have hlen : (ts.map Tok.d).length = ts.length := List.length_map _
    unfold m_program_ends
    walk_at "ev"
    unfold f_program_ends_3
    walk_at "ev"
    refine w_for (Y := List Nat × Sl × Sl × Sl × Sl) (fun y => [.pl (tsd ts), .ow (.lst (iN y.1)), y.2.1, y.2.2.1, y.2.2.2.1, y.2.2.2.2]) (fun i y => y.1.length = ts.length ∧ ∀ j, ts.length - i ≤ j → j < ts.length → y.1[j]? = some (j + szt ts j)) (List.replicate ts.length 0, .un, .un, .un, .un) (by simp) ⟨by simp, fun j h1 h2 => by omega⟩ (fun i d y hd hy => ?_) fun y hy => ?_
    · obtain ⟨E, y2, y3, y4, y5⟩ := y
      obtain ⟨hi, rfl⟩ := nget hd
      obtain ⟨hE, hEj⟩ := hy
      dsimp only at hE hEj
      obtain ⟨p, hpn⟩ : ∃ p : Nat, p + 1 + i = ts.length := ⟨ts.length - 1 - i, by omega⟩
      obtain ⟨t, ht, _⟩ := dr (ts := ts) (j := p) (by omega)
      refine inner hr hl ht hE (fun j h1 h2 => hEj j (by omega) h2) (.pl (.int i)) y3 y4 y5 hpn fun E' y h1 h2 => ?_
      exact ⟨(E', _, _, _, _), rfl, h1, fun j h3 h4 => h2 j (by omega) h4⟩
    · obtain ⟨E, y2, y3, y4, y5⟩ := y
      obtain ⟨hE, hEj⟩ := hy
      dsimp only at hE hEj
      walk_at "ev"
      exact ⟨E, rfl, hE, fun j hj => hEj j (by rw [rngs_length]; omega) hj⟩
  obtain ⟨d, h1, E, rfl, h2⟩ := h.ok
  exact ⟨E, h1, h2⟩
theorem starts_ok {ts : List Tok} (hr : rn 1 ts = some 0) (hl : ts.length ≤ 1000000) {E : List Nat} (hE : EnT ts E) {p : Nat} {t : Tok} (ht : ts[p]? = some t) : F_starts_of [tsd ts, .tup (iN E), .int p] = .ok (.tup (iN ((List.range t.ar).map (sta ts p)))) none := Cmp.eq <| cmp_of <| by
  have e0 := tk_at ht
  have e0' : Option.map Tok.d ts[p]? = some t.d := by rw [ht]; rfl
  have ha := arity_ok t
  have hal := ar_le hr ht
  have hfl := fs_lend ts (p + 1)
  have hEl := hE.len
  obtain ⟨hpl, _⟩ := List.getElem?_eq_some_iff.mp ht
  unfold m_starts_of
  walk_at "ev"
  unfold f_starts_of_1
  walk_at "ev"
  refine w_for (Y := List Nat × Nat × Sl) (fun y => [.pl (tsd ts), .pl (.tup (iN E)), .pl (.int p), .ow (.lst (iN y.1)), .pl (.int (y.2.1 : Int)), y.2.2]) (fun j y => y.1 = (List.range j).map (sta ts p) ∧ y.2.1 = sta ts p j) ([], p + 1, .un) (by simp) ⟨rfl, by simp [sta_zero]⟩ (fun j d y hd hy => ?_) fun y hy => ?_
  · obtain ⟨L, x, y2⟩ := y
    obtain ⟨hL, hx⟩ := hy
    dsimp only at hL hx
    obtain ⟨hj, rfl⟩ := nget hd
    obtain ⟨s1, s2, s3⟩ := sta_step hr ht hj
    have e1 := hE.at_ _ s1
    rw [← s3, ← hx] at e1
    have hx1 : x < ts.length := by rw [hx]; exact s1
    have hll : L.length = j := by rw [hL]; simp
    have hL2 : L ++ [x] = (List.range (j + 1)).map (sta ts p) := by rw [List.range_succ, List.map_append, hL, hx]; rfl
    clear hL hx s1 s2 s3
    unfold b_starts_of_0
    walk_at "ev"
    exact ⟨(L ++ [x], sta ts p (j + 1), _), by simp; rfl, hL2, rfl⟩
  · obtain ⟨L, x, y2⟩ := y
    obtain ⟨hL, hx⟩ := hy
    dsimp only at hL hx
    rw [rngs_length] at hL hx
    subst hL hx
    walk_at "ev"
abbrev bN (V : List Bool) : List D := V.map D.bl
theorem bN_at {V : List Bool} {j : Nat} {x : Bool} (h : V[j]? = some x) : (bN V)[j]? = some (.bl x) := by
  show (V.map _)[j]? = _
  rw [List.getElem?_map, h]; rfl
end VM.K15

set_option Elab.async false
set_option linter.all false
set_option autoImplicit false
set_option maxRecDepth 100000
set_option maxHeartbeats 400000
namespace VM.K15
open PySem PySem.Spec PyProof.Rows L2 VM
local macro_rules | `(tactic| walk_at "ev") => `(tactic| simp (disch := first | omega | (simp only [List.length_cons, List.length_nil, List.length_map, List.length_append, List.length_replicate, List.length_set, rngs_length]; omega)) only [*, q_seq, q_skip, q_knx, q_krt, q_kro, q_kbk, q_kct, q_ker, q_kk, q_bind, q_bok, q_ber, q_drop, q_ret, q_reto, q_ifs, q_ct, q_cf, q_asg, q_asgo, q_asgt, q_rok, q_rer, q_c, q_rd, q_mv, q_fz, fz_lst, fz_dct, fz_obj, fz_dlst, fz_ddct, fz_dobj, q_tk, q_2, q_1, q_os, q_b, q_not, q_and, q_or, q_at, q_af, q_ao, q_rt, q_rf, q_ro, q_andv, q_orv, q_avt, q_avf, q_avo, q_rvt, q_rvf, q_rvo, q_ife, q_it, q_if, q_io, q_on, q_oS, q_sl, q_nil, q_cons, q_tup, q_lst, q_call1, q_call, q_f0, q_f1, q_f2, q_f3, q_f4, q_f5, q_f6, q_f7, q_callk, q_frok, q_frer, q_calli, q_mihere, q_micons, q_fri, q_sdo, q_sdi, q_rso, q_rsi, q_app, q_ext, q_ext2, q_put, q_pop, q_with, q_wok, q_for, q_enum, q_items, q_raise, q_gt, q_grt, q_lt, q_le, q_rng1, q_rng2, q_rg1, q_lrg, q_lrgi, q_rg2, q_add, q_adds, q_addl, q_addt, q_cat, q_sub, q_mulr, q_mull, q_div, q_mod, q_p18, q_p12, q_cmplt, q_cmple, q_cmpgt, q_cmpge, q_eqi, q_eqs, q_eqb, q_nei, q_nes, q_isn, q_isnn, q_isb, q_isnb, q_neg, q_dnot, q_lenl, q_lent, q_lenf, q_lens, q_int, q_intb, q_tupl, q_tupt, q_lstl, q_lstt, q_min, q_max, q_ixn, q_ixm, q_ixl, q_ixt, q_ixf, q_rep, q_isi_tt, q_isi_ts, q_isi_ti, q_isi_ss, q_isi_st, q_isi_ii, q_isi_it, q_isi_is, q_isi_bi, q_lfi, q_lfb, q_lfs, q_lfn, q_itt, q_itl, q_itf, q_slt, q_sll, q_sls, tk_row, tk_wd, q_cut, q_cutf, q_cutt, q_try, q_tryo, q_tnx, q_trt, q_tonx, q_tort, w_irt, w_inx, w_iro, w_lnx, w_lct, w_lbk, w_lrt, w_lro, w_ler, w_nnx, w_nrt, w_nro, w_ner, w_rnx, w_rrt, w_rro, w_rer, w_tn, w_tt, w_tt3, ev_ownL, ev_putL, ev_lend, ev_hn, ev_hp, ev_hu, ev_ho, ev_hi, ev_i0, ev_i1, ev_tN, ev_tnil, ev_tcons, ev_tTup, List.getElem?_cons_zero, List.getElem?_cons_succ, List.set_cons_zero, List.set_cons_succ, List.length_cons, List.length_nil, List.length_append, List.length_map, List.length_replicate, List.length_set, rngs_length, List.nil_append, List.cons_append, Int.toNat_natCast, Int.toNat_zero, Int.toNat_one, Int.reduceToNat, List.getElem?_map, Option.map_some, Nat.reduceAdd, Nat.reduceSub, Nat.reduceLT, Nat.reduceLeDiff, Nat.reduceEqDiff, Int.reduceEq, Int.reduceLT, Int.reduceLE, Int.reduceAdd, Int.reduceSub, Int.reduceMul, Int.reduceNeg, List.replicate_succ, List.replicate_zero, Bool.not_true, Bool.not_false, Bool.and_true, Bool.true_and, Bool.and_false, Bool.false_and, Bool.or_true, Bool.true_or, Bool.or_false, Bool.false_or, decide_true, decide_false, if_true, if_false, and_self, true_and, and_true, Nat.sub_self, Nat.add_zero, Nat.zero_add, Bool.true_eq_false, Bool.false_eq_true, ite_true, ite_false, reduceIte, eq_self])
def pk (ds : List Int) (c : Int) (many : Nat) : Nat := (((ds[((c + 1) % (ds.length : Int)).toNat]?.getD 0) + (c + 1) / (ds.length : Int) * 7) % (many : Int)).toNat
theorem pk_lt {ds : List Int} {c : Int} {many : Nat} (hm : 0 < many) : pk ds c many < many := by
  unfold pk
  have := Int.emod_lt_of_pos ((ds[((c + 1) % (ds.length : Int)).toNat]?.getD 0) + (c + 1) / (ds.length : Int) * 7) (b := (many : Int)) (by omega)
  have := Int.emod_nonneg ((ds[((c + 1) % (ds.length : Int)).toNat]?.getD 0) + (c + 1) / (ds.length : Int) * 7) (b := (many : Int)) (by omega)
  omega
theorem pick_ok {ds : List Int} (c : Int) {many : Nat} (hd : 0 < ds.length) (hl : ds.length ≤ 1000) (hm : 0 < many) (hml : many ≤ 1000000) : F__law_pick [.lst (ds.map .int), .lst [.int c], .int (many : Int)] = .ok (.int (pk ds c many : Int)) (some (.lst [.int (c + 1)])) := by
  have h : CmpI (F__law_pick [.lst (ds.map .int), .lst [.int c], .int (many : Int)]) (fun d o => d = .int (pk ds c many : Int) ∧ o = .lst [.int (c + 1)]) := by
    refine cmpI_of ?_
    obtain ⟨q, hq, e0⟩ : ∃ q : Nat, q < ds.length ∧ (c + 1) % (ds.length : Int) = (q : Int) := ⟨((c + 1) % (ds.length : Int)).toNat, by
      have := Int.emod_lt_of_pos (c + 1) (b := (ds.length : Int)) (by omega)
      have := Int.emod_nonneg (c + 1) (b := (ds.length : Int)) (by omega)
      omega, by
      have := Int.emod_nonneg (c + 1) (b := (ds.length : Int)) (by omega)
      omega⟩
    have e1 : ∀ x : Int, x = (ds.length : Int) → (c + 1) % x = (q : Int) := fun x e => by subst e; exact e0
    obtain ⟨v, hv⟩ : ∃ v, ds[q]? = some v := ⟨_, List.getElem?_eq_getElem hq⟩
    have e2 : (ds.map D.int)[q]? = some (.int v) := by rw [List.getElem?_map, hv]; rfl
    have e3 : (v + (c + 1) / (ds.length : Int) * 7) % (many : Int) = (pk ds c many : Int) := by
      unfold pk
      rw [e0, Int.toNat_natCast, hv]
      have := Int.emod_nonneg (v + (c + 1) / (ds.length : Int) * 7) (b := (many : Int)) (by omega)
      simp only [Option.getD_some]
      omega
    show Wp (m__law_pick [.pl (.lst (ds.map .int)), .io 0 (.lst [.int c]), .pl (.int (many : Int))]) _
    unfold m__law_pick
    clear e0
    walk_at "ev"
    exact ⟨0, _, rfl, rfl⟩
  obtain ⟨d, o, h1, rfl, rfl⟩ := h
  exact h1
theorem row_ok (ns : List Int) (a m : Nat) (ha : a ≤ 100) (hm : m ≤ 10) : ∃ ds : List Int, F__law_row [.fl (ns.map .int), .int (a : Int), .int (m : Int)] = .ok (.lst (ds.map .int)) none ∧ ds.length = 20 * m := by
  have h : Cmp (F__law_row [.fl (ns.map .int), .int (a : Int), .int (m : Int)]) (fun d => ∃ ds : List Int, d = .lst (ds.map .int) ∧ ds.length = 20 * m) fun _ => False := by
    refine cmp_of ?_
    unfold m__law_row
    walk_at "ev"
    unfold f__law_row_3
    walk_at "ev"
    refine w_for (Y := List Int × Sl × Sl × Sl × Sl × Sl) (fun y => [.pl (.fl (ns.map .int)), .pl (.int (a : Int)), .pl (.int (m : Int)), .ow (.lst (y.1.map .int)), y.2.1, y.2.2.1, y.2.2.2.1, y.2.2.2.2.1, y.2.2.2.2.2]) (fun j y => y.1.length = 20 * j) ([], .un, .un, .un, .un, .un) rfl rfl (fun j d y hd hy => ?_) fun y hy => ?_
    · obtain ⟨T, y4, y5, y6, y7, y8⟩ := y
      dsimp only at hy
      obtain ⟨hj, rfl⟩ := rngs_at hd
      obtain ⟨_, hc, cv, rfl⟩ := (cell_ok ns (a + j)).eq
      have e0 : (a : Int) + (j : Int) = ((a + j : Nat) : Int) := by omega
      rw [show ((a + j : Nat) : Int) = (a : Int) + (j : Int) by omega] at hc
      unfold b__law_row_2
      clear e0
      walk_at "ev"
      unfold f__law_row_1
      obtain ⟨g, hg, hg2⟩ : ∃ g : Nat, (if decide (0 ≤ cv - 1000000000000000000) = true then (1 : Int) else 0) = (g : Int) ∧ g < 2 := by
        by_cases h : 0 ≤ cv - 1000000000000000000
        · exact ⟨1, by rw [decide_eq_true h]; rfl, by omega⟩
        · exact ⟨0, by rw [decide_eq_false h]; rfl, by omega⟩
      rw [hg]
      refine w_end ?_
      have s0 : 0 ≤ (cv - 1000000000000000000 + 1000000000000000000) % 2147483629 ∧ (cv - 1000000000000000000 + 1000000000000000000) % 2147483629 < 2147483647 := by omega
      generalize (cv - 1000000000000000000 + 1000000000000000000) % 2147483629 = sd at *
      generalize cv - 1000000000000000000 = rs at *
      clear hg hc
      walk_at "ev"
      refine w_for (Y := List Int × Int × Int × Sl) (fun y => [.pl (.fl (ns.map .int)), .pl (.int (a : Int)), .pl (.int (m : Int)), .ow (.lst (y.1.map .int)), .pl (.int ((a : Int) + (j : Int))), .pl (.int y.2.1), .pl (.int (g : Int)), .pl (.int y.2.2.1), y.2.2.2]) (fun i y => y.1.length = 20 * j + i ∧ 0 ≤ y.2.2.1 ∧ y.2.2.1 < 2147483647) (T, rs, sd, y8) rfl ⟨hy, s0.1, s0.2⟩ (fun i d y hd2 hy => ?_) fun y hy => ?_
      · obtain ⟨T, rs, sd, y8⟩ := y
        obtain ⟨h1, h2, h3⟩ := hy
        dsimp only at h1 h2 h3
        obtain ⟨hi, rfl⟩ := nget hd2
        clear hd hd2
        have hi : i < 20 := hi
        have hj : j < 10 := by omega
        obtain ⟨sd', es, b1, b2⟩ : ∃ s : Int, (sd * 48271 + 974711 * (i : Int) + 12345) % 2147483647 = s ∧ 0 ≤ s ∧ s < 2147483647 := ⟨_, rfl, by omega, by omega⟩
        unfold b__law_row_0
        match g, hg2 with
        | 0, _ =>
          walk_at "ev"
          refine ⟨(T ++ [_], _, _, _), by rw [List.map_append]; rfl, by simp [h1]; omega, b1, b2⟩
        | 1, _ =>
          walk_at "ev"
          refine ⟨(T ++ [_], _, _, _), by rw [List.map_append]; rfl, by simp [h1]; omega, b1, b2⟩
      · obtain ⟨T, rs, sd, y8⟩ := y
        obtain ⟨h1, _, _⟩ := hy
        dsimp only at h1
        have h1 : T.length = 20 * j + 20 := h1
        walk_at "ev"
        exact ⟨(T, _, _, _, _, _), rfl, by simp only [h1]; omega⟩
    · obtain ⟨T, y4, y5, y6, y7, y8⟩ := y
      dsimp only at hy
      rw [rngs_length] at hy
      walk_at "ev"
      exact ⟨T, rfl, by omega⟩
  obtain ⟨d, h1, ds, rfl, h2⟩ := h.ok
  exact ⟨ds, h1, h2⟩
end VM.K15

set_option Elab.async false
set_option linter.all false
set_option autoImplicit false
set_option maxRecDepth 100000
set_option maxHeartbeats 400000
namespace VM.K15
open PySem PySem.Spec PyProof.Rows L2 VM
local macro_rules | `(tactic| walk_at "ev") => `(tactic| simp (disch := first | omega | (simp only [List.length_cons, List.length_nil, List.length_map, List.length_append, List.length_replicate, List.length_set, rngs_length]; omega)) only [*, q_seq, q_skip, q_knx, q_krt, q_kro, q_kbk, q_kct, q_ker, q_kk, q_bind, q_bok, q_ber, q_drop, q_ret, q_reto, q_ifs, q_ct, q_cf, q_asg, q_asgo, q_asgt, q_rok, q_rer, q_c, q_rd, q_mv, q_fz, fz_lst, fz_dct, fz_obj, fz_dlst, fz_ddct, fz_dobj, q_tk, q_2, q_1, q_os, q_b, q_not, q_and, q_or, q_at, q_af, q_ao, q_rt, q_rf, q_ro, q_andv, q_orv, q_avt, q_avf, q_avo, q_rvt, q_rvf, q_rvo, q_ife, q_it, q_if, q_io, q_on, q_oS, q_sl, q_nil, q_cons, q_tup, q_lst, q_call1, q_call, q_f0, q_f1, q_f2, q_f3, q_f4, q_f5, q_f6, q_f7, q_callk, q_frok, q_frer, q_calli, q_mihere, q_micons, q_fri, q_sdo, q_sdi, q_rso, q_rsi, q_app, q_ext, q_ext2, q_put, q_pop, q_with, q_wok, q_for, q_enum, q_items, q_raise, q_gt, q_grt, q_lt, q_le, q_rng1, q_rng2, q_rg1, q_lrg, q_lrgi, q_rg2, q_add, q_adds, q_addl, q_addt, q_cat, q_sub, q_mulr, q_mull, q_div, q_mod, q_p18, q_p12, q_cmplt, q_cmple, q_cmpgt, q_cmpge, q_eqi, q_eqs, q_eqb, q_nei, q_nes, q_isn, q_isnn, q_isb, q_isnb, q_neg, q_dnot, q_lenl, q_lent, q_lenf, q_lens, q_int, q_intb, q_tupl, q_tupt, q_lstl, q_lstt, q_min, q_max, q_ixn, q_ixm, q_ixl, q_ixt, q_ixf, q_rep, q_isi_tt, q_isi_ts, q_isi_ti, q_isi_ss, q_isi_st, q_isi_ii, q_isi_it, q_isi_is, q_isi_bi, q_lfi, q_lfb, q_lfs, q_lfn, q_itt, q_itl, q_itf, q_slt, q_sll, q_sls, tk_row, tk_wd, q_cut, q_cutf, q_cutt, q_try, q_tryo, q_tnx, q_trt, q_tonx, q_tort, w_irt, w_inx, w_iro, w_lnx, w_lct, w_lbk, w_lrt, w_lro, w_ler, w_nnx, w_nrt, w_nro, w_ner, w_rnx, w_rrt, w_rro, w_rer, w_tn, w_tt, w_tt3, ev_ownL, ev_putL, ev_lend, ev_hn, ev_hp, ev_hu, ev_ho, ev_hi, ev_i0, ev_i1, ev_tN, ev_tnil, ev_tcons, ev_tTup, List.getElem?_cons_zero, List.getElem?_cons_succ, List.set_cons_zero, List.set_cons_succ, List.length_cons, List.length_nil, List.length_append, List.length_map, List.length_replicate, List.length_set, rngs_length, List.nil_append, List.cons_append, Int.toNat_natCast, Int.toNat_zero, Int.toNat_one, Int.reduceToNat, List.getElem?_map, Option.map_some, Nat.reduceAdd, Nat.reduceSub, Nat.reduceLT, Nat.reduceLeDiff, Nat.reduceEqDiff, Int.reduceEq, Int.reduceLT, Int.reduceLE, Int.reduceAdd, Int.reduceSub, Int.reduceMul, Int.reduceNeg, List.replicate_succ, List.replicate_zero, Bool.not_true, Bool.not_false, Bool.and_true, Bool.true_and, Bool.and_false, Bool.false_and, Bool.or_true, Bool.true_or, Bool.or_false, Bool.false_or, decide_true, decide_false, if_true, if_false, and_self, true_and, and_true, Nat.sub_self, Nat.add_zero, Nat.zero_add, Bool.true_eq_false, Bool.false_eq_true, ite_true, ite_false, reduceIte, eq_self])
theorem bound_ok {t : Tok} (hk : HOk t) {k : Nat} (hlt : k < t.ar) : F_bound_in [t.d, .int (k : Int)] = .ok (.int (bd t k : Int)) none := Cmp.eq <| cmp_of <| by
  have hw := whole_ok t
  have hn := wne
  unfold m_bound_in
  cases t with
  | cs a b hs =>
    cases k with
    | zero =>
      have c1 : decide (0 < ((0 : Nat) : Int)) = false := by decide
      simp only [Tok.d] at hw ⊢
      walk_at "ev"
      rfl
    | succ k =>
      have hl : k < hs.length := by simp [Tok.ar] at hlt; omega
      obtain ⟨w, ms, e⟩ := hk hs[k] (List.getElem_mem hl)
      have e1 : hs[k]? = some (.tup [w, .tup ms]) := by rw [List.getElem?_eq_getElem hl, e]
      have c1 : decide (0 < ((k + 1 : Nat) : Int)) = true := decide_eq_true (by omega)
      have c2 : (((k + 1 : Nat) : Int) - 1) = (k : Int) := by omega
      have c3 : bd (.cs a b hs) (k + 1) = ms.length := by simp [bd, e1, hdl]
      rw [c3]
      simp only [Tok.d] at hw ⊢
      clear c3 hk
      walk_at "ev"
  | keep a b c d =>
    cases k with
    | zero =>
      have c1 : decide (0 < ((0 : Nat) : Int)) = false := by decide
      simp only [Tok.d] at hw ⊢
      walk_at "ev"
      rfl
    | succ k =>
      have c1 : decide (0 < ((k + 1 : Nat) : Int)) = true := decide_eq_true (by omega)
      simp only [Tok.d] at hw ⊢
      walk_at "ev"
      rfl
  | _ =>
    simp only [Tok.d] at hw ⊢
    walk_at "ev"
    try rfl
theorem lbound_ok {t : Tok} (hk : HOk t) {k : Nat} (hlt : k < t.ar) : F__law_binds [t.d, .int (k : Int)] = .ok (.int (bd t k : Int)) none := Cmp.eq <| cmp_of <| by
  have hw := lwhole_ok t
  have hn := wne
  unfold m__law_binds
  cases t with
  | cs a b hs =>
    cases k with
    | zero =>
      have c1 : decide (0 < ((0 : Nat) : Int)) = false := by decide
      simp only [Tok.d] at hw ⊢
      walk_at "ev"
      rfl
    | succ k =>
      have hl : k < hs.length := by simp [Tok.ar] at hlt; omega
      obtain ⟨w, ms, e⟩ := hk hs[k] (List.getElem_mem hl)
      have e1 : hs[k]? = some (.tup [w, .tup ms]) := by rw [List.getElem?_eq_getElem hl, e]
      have c1 : decide (0 < ((k + 1 : Nat) : Int)) = true := decide_eq_true (by omega)
      have c2 : (((k + 1 : Nat) : Int) - 1) = (k : Int) := by omega
      have c3 : bd (.cs a b hs) (k + 1) = ms.length := by simp [bd, e1, hdl]
      rw [c3]
      simp only [Tok.d] at hw ⊢
      clear c3 hk
      walk_at "ev"
  | keep a b c d =>
    cases k with
    | zero =>
      have c1 : decide (0 < ((0 : Nat) : Int)) = false := by decide
      simp only [Tok.d] at hw ⊢
      walk_at "ev"
      rfl
    | succ k =>
      have c1 : decide (0 < ((k + 1 : Nat) : Int)) = true := decide_eq_true (by omega)
      simp only [Tok.d] at hw ⊢
      walk_at "ev"
      rfl
  | _ =>
    simp only [Tok.d] at hw ⊢
    walk_at "ev"
    try rfl
theorem enumN : ∀ {xs : List D} {j : Nat} {d : D}, (enumD 0 xs)[j]? = some d → ∃ t, xs[j]? = some t ∧ d = .tup [.int (j : Int), t] := by
  have aux : ∀ (xs : List D) (m j : Nat) (d : D), (enumD m xs)[j]? = some d → ∃ t, xs[j]? = some t ∧ d = .tup [.int ((m + j : Nat) : Int), t] := by
    intro xs
    induction xs with
    | nil => intro m j d h; simp [enumD] at h
    | cons x xs ih =>
      intro m j d h
      cases j with
      | zero => simp [enumD] at h; exact ⟨x, rfl, h.symm⟩
      | succ j =>
        simp only [enumD, List.getElem?_cons_succ] at h
        obtain ⟨t, h1, h2⟩ := ih _ _ _ h
        exact ⟨t, by simpa using h1, by rw [h2]; congr 3; omega⟩
  intro xs j d h
  obtain ⟨t, h1, h2⟩ := aux xs 0 j d h
  exact ⟨t, h1, by rw [h2, Nat.zero_add]⟩
theorem enumN_len (xs : List D) (n : Nat) : (enumD n xs).length = xs.length := by
  induction xs generalizing n with
  | nil => rfl
  | cons x xs ih => simp [enumD, ih]
theorem levels_ok {ts : List Tok} (hr : rn 1 ts = some 0) (hh : ∀ t ∈ ts, HOk t) (hl : ts.length ≤ 1000000) : F_levels_of [tsd ts] = .ok (.tup (iN (lvF [0] ts))) none := Cmp.eq <| cmp_of <| by
  obtain ⟨E, hF, hE⟩ := ends_ok hr hl
  have hlen : (ts.map Tok.d).length = ts.length := List.length_map _
  unfold m_levels_of
  walk_at "ev"
  unfold f_levels_of_3
  walk_at "ev"
  refine w_for (Y := List Nat × Sl × Sl × Sl × Sl) (fun y => [.pl (tsd ts), .pl (.tup (iN E)), .ow (.lst (iN y.1)), y.2.1, y.2.2.1, y.2.2.2.1, y.2.2.2.2]) (fun i y => (∃ st, Lay ts y.1 i st) ∧ (∀ r, hideS (y.2.2.2.1 :: r) = y.2.2.2.1 :: hideS r) ∧ ∀ r, hideS (y.2.2.2.2 :: r) = y.2.2.2.2 :: hideS r) (List.replicate ts.length 0, .un, .un, .un, .un) (by simp) ⟨⟨_, Lay.start hr⟩, fun _ => rfl, fun _ => rfl⟩ (fun i d y hd hy => ?_) fun y hy => ?_
  · obtain ⟨S, y3, y4, y5, y6⟩ := y
    obtain ⟨⟨st, L⟩, p5, p6⟩ := hy
    dsimp only at L p5 p6
    obtain ⟨x, h1, rfl⟩ := enumN hd
    rw [List.getElem?_map] at h1
    obtain ⟨t, ht, rfl⟩ := Option.map_eq_some_iff.mp h1
    obtain ⟨hi, _⟩ := List.getElem?_eq_some_iff.mp ht
    obtain ⟨l, st, rfl⟩ : ∃ l st', st = l :: st' := by
      cases st with
      | nil =>
        have := L.run
        rw [List.drop_eq_getElem_cons hi] at this
        cases this
      | cons l st => exact ⟨l, st, rfl⟩
    have hl0 : S[i]? = some l := by have := L.pend 0 l rfl; simpa using this
    have L2 := L.step hr ht
    have hs := starts_ok hr hl hE ht
    have hho := hh t (List.mem_of_getElem? ht)
    have hal := ar_le hr ht
    have hfl := fs_lend ts (i + 1)
    have hSl := L.len
    rw [w_tt]
    show Wp (b_levels_of_2 [.pl (tsd ts), .pl (.tup (iN E)), .ow (.lst (iN S)), .pl (.int (i : Int)), .pl t.d, y5, y6]) _
    unfold b_levels_of_2 f_levels_of_1
    refine w_end ?_
    clear hd h1 L
    walk_at "ev"
    refine w_for (Y := Nat × Sl × Sl) (fun y => [.pl (tsd ts), .pl (.tup (iN E)), .ow (.lst (iN (layN ts S i (fun k => l + bd t k) y.1))), .pl (.int (i : Int)), .pl t.d, y.2.1, y.2.2]) (fun j y => y.1 = j ∧ (∀ r, hideS (y.2.1 :: r) = y.2.1 :: hideS r) ∧ ∀ r, hideS (y.2.2 :: r) = y.2.2 :: hideS r) (0, y5, y6) rfl ⟨rfl, p5, p6⟩ (fun j d y hd hy => ?_) fun y hy => ?_
    · obtain ⟨j', z5, z6⟩ := y
      obtain ⟨rfl, q5, q6⟩ := hy
      dsimp only at q5 q6 hd
      obtain ⟨x, h1, rfl⟩ := enumN hd
      rw [List.getElem?_map, List.getElem?_map] at h1
      simp only [Option.map_eq_some_iff] at h1
      obtain ⟨_, ⟨m, hm, rfl⟩, rfl⟩ := h1
      obtain ⟨hm1, hm2⟩ := List.getElem?_eq_some_iff.mp hm
      simp at hm1 hm2
      subst hm2
      obtain ⟨s1, s2, s3⟩ := sta_step hr ht hm1
      have hb := bound_ok hho hm1
      have e1 : (layN ts S i (fun k => l + bd t k) j')[i]? = some l := by rw [layN_off j' (fun m _ => by unfold sta; omega)]; exact hl0
      have e2 := iN_at e1
      have e3 := layN_len ts S i (fun k => l + bd t k) j'
      have e4 : (iN (layN ts S i (fun k => l + bd t k) j')).set (sta ts i j') (.int ((l : Int) + (bd t j' : Int))) = iN (layN ts S i (fun k => l + bd t k) (j' + 1)) := by simp [iN, layN]
      clear hd hm L2 hs
      generalize layN ts S i (fun k => l + bd t k) j' = A at *
      generalize hB : layN ts S i (fun k => l + bd t k) (j' + 1) = B at *
      generalize sta ts i j' = q at *
      have e5 : (iN A).length = ts.length := by simp [iN, e3, hSl]
      clear e1
      unfold b_levels_of_0
      walk_at "ev"
      exact ⟨(j' + 1, .pl (.int (j' : Int)), .pl (.int (q : Int))), by simp [hB], rfl, fun _ => rfl, fun _ => rfl⟩
    · obtain ⟨j', z5, z6⟩ := y
      obtain ⟨hj, q5, q6⟩ := hy
      dsimp only at hj q5 q6
      rw [enumN_len, List.length_map, List.length_map, List.length_range] at hj
      subst hj
      have p3 : ∀ r, hideS (.pl (.int (i : Int)) :: r) = .pl (.int (i : Int)) :: hideS r := fun _ => rfl
      clear hs
      walk_at "ev"
      exact ⟨(_, _, _, _, _), rfl, ⟨_, L2⟩, q5, q6⟩
  · obtain ⟨S, y3, y4, y5, y6⟩ := y
    obtain ⟨⟨st, L⟩, _⟩ := hy
    dsimp only at L
    rw [enumN_len, hlen] at L
    have hd := L.done
    rw [List.drop_length, List.take_of_length_le (by rw [L.len]; omega)] at hd
    have hS : S = lvF [0] ts := by
      rw [← hd]
      cases st <;> simp [lvF]
    subst hS
    have hl2 := L.len
    clear hd L
    walk_at "ev"
def rtok (step low : Nat) : Tok → Nat → Tok
  | .num n, l => .num (if l + low ≤ n then n + step else n)
  | t, _ => t
def rai (ts : List Tok) (step low : Nat) : List Tok := List.zipWith (rtok step low) ts (lvF [0] ts)
theorem rai_at {ts : List Tok} (hr : rn 1 ts = some 0) (step low : Nat) {j : Nat} {t : Tok} (ht : ts[j]? = some t) : ∃ l, (lvF [0] ts)[j]? = some l ∧ (rai ts step low).take (j + 1) = (rai ts step low).take j ++ [rtok step low t l] := by
  obtain ⟨hj, e⟩ := List.getElem?_eq_some_iff.mp ht
  have hl : (lvF [0] ts).length = ts.length := lvF_len ts [0] hr
  refine ⟨(lvF [0] ts)[j]'(by omega), List.getElem?_eq_getElem _, ?_⟩
  have : (rai ts step low)[j]? = some (rtok step low t ((lvF [0] ts)[j]'(by omega))) := by
    unfold rai
    rw [List.getElem?_zipWith, ht, List.getElem?_eq_getElem (by omega)]
  rw [List.take_add_one, this]; rfl
theorem rai_len {ts : List Tok} (hr : rn 1 ts = some 0) (step low : Nat) : (rai ts step low).length = ts.length := by
  have hl : (lvF [0] ts).length = ts.length := lvF_len ts [0] hr
  simp [rai, hl]
theorem rai_zero {ts : List Tok} (hr : rn 1 ts = some 0) (low : Nat) : rai ts 0 low = ts := by
  have hl : (lvF [0] ts).length = ts.length := lvF_len ts [0] hr
  have hz : ∀ t l, rtok 0 low t l = t := fun t l => by cases t <;> simp [rtok]
  unfold rai
  generalize lvF [0] ts = L at hl
  clear hr
  induction ts generalizing L with
  | nil => rfl
  | cons t ts ih =>
    cases L with
    | nil => simp at hl
    | cons l L => simp [hz, ih L (by simpa using hl)]
end VM.K15

set_option Elab.async false
set_option linter.all false
set_option autoImplicit false
set_option maxRecDepth 100000
set_option maxHeartbeats 400000
namespace VM.K15
open PySem PySem.Spec PyProof.Rows L2 VM
local macro_rules | `(tactic| walk_at "ev") => `(tactic| simp (disch := first | omega | (simp only [List.length_cons, List.length_nil, List.length_map, List.length_append, List.length_replicate, List.length_set, rngs_length]; omega)) only [*, q_seq, q_skip, q_knx, q_krt, q_kro, q_kbk, q_kct, q_ker, q_kk, q_bind, q_bok, q_ber, q_drop, q_ret, q_reto, q_ifs, q_ct, q_cf, q_asg, q_asgo, q_asgt, q_rok, q_rer, q_c, q_rd, q_mv, q_fz, fz_lst, fz_dct, fz_obj, fz_dlst, fz_ddct, fz_dobj, q_tk, q_2, q_1, q_os, q_b, q_not, q_and, q_or, q_at, q_af, q_ao, q_rt, q_rf, q_ro, q_andv, q_orv, q_avt, q_avf, q_avo, q_rvt, q_rvf, q_rvo, q_ife, q_it, q_if, q_io, q_on, q_oS, q_sl, q_nil, q_cons, q_tup, q_lst, q_call1, q_call, q_f0, q_f1, q_f2, q_f3, q_f4, q_f5, q_f6, q_f7, q_callk, q_frok, q_frer, q_calli, q_mihere, q_micons, q_fri, q_sdo, q_sdi, q_rso, q_rsi, q_app, q_ext, q_ext2, q_put, q_pop, q_with, q_wok, q_for, q_enum, q_items, q_raise, q_gt, q_grt, q_lt, q_le, q_rng1, q_rng2, q_rg1, q_lrg, q_lrgi, q_rg2, q_add, q_adds, q_addl, q_addt, q_cat, q_sub, q_mulr, q_mull, q_div, q_mod, q_p18, q_p12, q_cmplt, q_cmple, q_cmpgt, q_cmpge, q_eqi, q_eqs, q_eqb, q_nei, q_nes, q_isn, q_isnn, q_isb, q_isnb, q_neg, q_dnot, q_lenl, q_lent, q_lenf, q_lens, q_int, q_intb, q_tupl, q_tupt, q_lstl, q_lstt, q_min, q_max, q_ixn, q_ixm, q_ixl, q_ixt, q_ixf, q_rep, q_isi_tt, q_isi_ts, q_isi_ti, q_isi_ss, q_isi_st, q_isi_ii, q_isi_it, q_isi_is, q_isi_bi, q_lfi, q_lfb, q_lfs, q_lfn, q_itt, q_itl, q_itf, q_slt, q_sll, q_sls, tk_row, tk_wd, q_cut, q_cutf, q_cutt, q_try, q_tryo, q_tnx, q_trt, q_tonx, q_tort, w_irt, w_inx, w_iro, w_lnx, w_lct, w_lbk, w_lrt, w_lro, w_ler, w_nnx, w_nrt, w_nro, w_ner, w_rnx, w_rrt, w_rro, w_rer, w_tn, w_tt, w_tt3, ev_ownL, ev_putL, ev_lend, ev_hn, ev_hp, ev_hu, ev_ho, ev_hi, ev_i0, ev_i1, ev_tN, ev_tnil, ev_tcons, ev_tTup, List.getElem?_cons_zero, List.getElem?_cons_succ, List.set_cons_zero, List.set_cons_succ, List.length_cons, List.length_nil, List.length_append, List.length_map, List.length_replicate, List.length_set, rngs_length, List.nil_append, List.cons_append, Int.toNat_natCast, Int.toNat_zero, Int.toNat_one, Int.reduceToNat, List.getElem?_map, Option.map_some, Nat.reduceAdd, Nat.reduceSub, Nat.reduceLT, Nat.reduceLeDiff, Nat.reduceEqDiff, Int.reduceEq, Int.reduceLT, Int.reduceLE, Int.reduceAdd, Int.reduceSub, Int.reduceMul, Int.reduceNeg, List.replicate_succ, List.replicate_zero, Bool.not_true, Bool.not_false, Bool.and_true, Bool.true_and, Bool.and_false, Bool.false_and, Bool.or_true, Bool.true_or, Bool.or_false, Bool.false_or, decide_true, decide_false, if_true, if_false, and_self, true_and, and_true, Nat.sub_self, Nat.add_zero, Nat.zero_add, Bool.true_eq_false, Bool.false_eq_true, ite_true, ite_false, reduceIte, eq_self])
/-! ### levels and fillings, with a stack of levels -/
abbrev chl (t : Tok) (l : Nat) : List Nat := (List.range t.ar).map fun k => l + bd t k
theorem lvF_app : ∀ (x : List Tok) (p st : List Nat) (r : List Tok), rn p.length x = some 0 → lvF (p ++ st) (x ++ r) = lvF p x ++ lvF st r
  | [], p, st, r, h => by
    cases p with
    | nil => simp [lvF]
    | cons l p => simp [rn] at h
  | t :: x, [], st, r, h => by simp [rn] at h
  | t :: x, l :: p, st, r, h => by
    have h2 : rn (chl t l ++ p).length x = some 0 := by
      have h : rn (p.length + t.ar) x = some 0 := h
      rw [List.length_append, List.length_map, List.length_range, Nat.add_comm]; exact h
    have := lvF_app x (chl t l ++ p) st r h2
    simp only [List.cons_append, lvF, List.cons.injEq, true_and]
    rw [← this, List.append_assoc]
theorem lvF_up (l : Nat) : ∀ (x : List Tok) (st : List Nat), lvF (st.map (l + ·)) x = (lvF st x).map (l + ·)
  | [], st => by cases st <;> simp [lvF]
  | t :: x, [] => by simp [lvF]
  | t :: x, k :: st => by
    simp only [List.map_cons, lvF, List.cons.injEq, true_and]
    rw [← lvF_up l x, List.map_append, List.map_map]
    congr 2
    apply List.map_congr_left
    intro a _
    simp [Nat.add_assoc]
end VM.K15

set_option Elab.async false
set_option linter.all false
set_option autoImplicit false
set_option maxRecDepth 100000
set_option maxHeartbeats 400000
namespace VM.K15
open PySem PySem.Spec PyProof.Rows L2 VM
local macro_rules | `(tactic| walk_at "ev") => `(tactic| simp (disch := first | omega | (simp only [List.length_cons, List.length_nil, List.length_map, List.length_append, List.length_replicate, List.length_set, rngs_length]; omega)) only [*, q_seq, q_skip, q_knx, q_krt, q_kro, q_kbk, q_kct, q_ker, q_kk, q_bind, q_bok, q_ber, q_drop, q_ret, q_reto, q_ifs, q_ct, q_cf, q_asg, q_asgo, q_asgt, q_rok, q_rer, q_c, q_rd, q_mv, q_fz, fz_lst, fz_dct, fz_obj, fz_dlst, fz_ddct, fz_dobj, q_tk, q_2, q_1, q_os, q_b, q_not, q_and, q_or, q_at, q_af, q_ao, q_rt, q_rf, q_ro, q_andv, q_orv, q_avt, q_avf, q_avo, q_rvt, q_rvf, q_rvo, q_ife, q_it, q_if, q_io, q_on, q_oS, q_sl, q_nil, q_cons, q_tup, q_lst, q_call1, q_call, q_f0, q_f1, q_f2, q_f3, q_f4, q_f5, q_f6, q_f7, q_callk, q_frok, q_frer, q_calli, q_mihere, q_micons, q_fri, q_sdo, q_sdi, q_rso, q_rsi, q_app, q_ext, q_ext2, q_put, q_pop, q_with, q_wok, q_for, q_enum, q_items, q_raise, q_gt, q_grt, q_lt, q_le, q_rng1, q_rng2, q_rg1, q_lrg, q_lrgi, q_rg2, q_add, q_adds, q_addl, q_addt, q_cat, q_sub, q_mulr, q_mull, q_div, q_mod, q_p18, q_p12, q_cmplt, q_cmple, q_cmpgt, q_cmpge, q_eqi, q_eqs, q_eqb, q_nei, q_nes, q_isn, q_isnn, q_isb, q_isnb, q_neg, q_dnot, q_lenl, q_lent, q_lenf, q_lens, q_int, q_intb, q_tupl, q_tupt, q_lstl, q_lstt, q_min, q_max, q_ixn, q_ixm, q_ixl, q_ixt, q_ixf, q_rep, q_isi_tt, q_isi_ts, q_isi_ti, q_isi_ss, q_isi_st, q_isi_ii, q_isi_it, q_isi_is, q_isi_bi, q_lfi, q_lfb, q_lfs, q_lfn, q_itt, q_itl, q_itf, q_slt, q_sll, q_sls, tk_row, tk_wd, q_cut, q_cutf, q_cutt, q_try, q_tryo, q_tnx, q_trt, q_tonx, q_tort, w_irt, w_inx, w_iro, w_lnx, w_lct, w_lbk, w_lrt, w_lro, w_ler, w_nnx, w_nrt, w_nro, w_ner, w_rnx, w_rrt, w_rro, w_rer, w_tn, w_tt, w_tt3, ev_ownL, ev_putL, ev_lend, ev_hn, ev_hp, ev_hu, ev_ho, ev_hi, ev_i0, ev_i1, ev_tN, ev_tnil, ev_tcons, ev_tTup, List.getElem?_cons_zero, List.getElem?_cons_succ, List.set_cons_zero, List.set_cons_succ, List.length_cons, List.length_nil, List.length_append, List.length_map, List.length_replicate, List.length_set, rngs_length, List.nil_append, List.cons_append, Int.toNat_natCast, Int.toNat_zero, Int.toNat_one, Int.reduceToNat, List.getElem?_map, Option.map_some, Nat.reduceAdd, Nat.reduceSub, Nat.reduceLT, Nat.reduceLeDiff, Nat.reduceEqDiff, Int.reduceEq, Int.reduceLT, Int.reduceLE, Int.reduceAdd, Int.reduceSub, Int.reduceMul, Int.reduceNeg, List.replicate_succ, List.replicate_zero, Bool.not_true, Bool.not_false, Bool.and_true, Bool.true_and, Bool.and_false, Bool.false_and, Bool.or_true, Bool.true_or, Bool.or_false, Bool.false_or, decide_true, decide_false, if_true, if_false, and_self, true_and, and_true, Nat.sub_self, Nat.add_zero, Nat.zero_add, Bool.true_eq_false, Bool.false_eq_true, ite_true, ite_false, reduceIte, eq_self])
def stTail : MS :=
  (mSeq (mIfS (mAnd (mB (m2 dEq (mRd 10) (mC (.str "v")))) (mOr (mB (m2 (dCI ciGt) (mRd 2) (mC (.int 0)))) (mNot (mB (mRd 4))))) (mSeq (mIfS (mB (mRd 4)) (mRet (m2 dIx (mLst (mCons (m2 (dI2 cSub) (mRd 2) (mC (.int 1))) (mCons (mCallI 3 F__law_pick 1 [] (miCons (mRd 0) (miHere 1 (mCons (mRd 2) mNil)))) mNil))) (mCallI 3 F__law_pick 1 [] (miCons (mRd 0) (miHere 1 (mCons (mC (.int 2)) mNil)))))) mSkip)
  (mRet (mCall1 dMax2 (mCons (mC (.int 0)) (mCons (m2 dAdd (m2 (dI2 cSub) (mRd 2) (mC (.int 3))) (mCallI 3 F__law_pick 1 [] (miCons (mRd 0) (miHere 1 (mCons (mC (.int 9)) mNil))))) mNil))))) mSkip)
  (mSeq (mIfS (mB (m2 dEq (mRd 10) (mC (.str "f")))) (mRet (mTup (mCons (mC (.str "fun")) (mCons (mRd 6) (mCons (mRd 7) mNil))))) mSkip)
  (mSeq (mIfS (mB (m2 dEq (mRd 10) (mC (.str "o")))) (mRet (mTup (mCons (mC (.str "of")) mNil))) mSkip)
  (mSeq (mIfS (mB (m2 dEq (mRd 10) (mC (.str "u")))) (mRet (mTup (mCons (mC (.str "under")) mNil))) mSkip)
  (mSeq (mIfS (mB (m2 dEq (mRd 10) (mC (.str "a")))) (mRet (mTup (mCons (mC (.str "ask")) (mCons (m2 dIx (mLst (mCons (mC (.str "get")) (mCons (mC (.str "set")) (mCons (mC (.str "a")) (mCons (mC (.str "raise")) mNil))))) (mCallI 3 F__law_pick 1 [] (miCons (mRd 0) (miHere 1 (mCons (mC (.int 4)) mNil))))) mNil)))) mSkip)
  (mSeq (mIfS (mB (m2 dEq (mRd 10) (mC (.str "m")))) (mRet (mTup (mCons (mC (.str "make")) (mCons (mRd 8) (mCons (mRd 11) mNil))))) mSkip)
  (mSeq (mIfS (mB (m2 dEq (mRd 10) (mC (.str "k")))) (mSeq (mAsg 12 (mSl (mTup (mCons (mC (.str "a")) (mCons (mC (.str "ab")) (mCons (mC (.str "b2")) (mCons (mC (.str "get")) (mCons (mC (.str "set")) (mCons (mC (.str "tell")) mNil))))))) moN (moS (mCall1 dMax2 (mCons (mC (.int 0)) (mCons (mCall1 dMin2 (mCons (m2 (dI2 cSub) (mRd 3) (mC (.int 1))) (mCons (m2 dIx (mLst (mCons (mC (.int 0)) (mCons (mC (.int 1)) (mCons (mC (.int 2)) (mCons (mC (.int 3)) (mCons (mC (.int 1)) (mCons (mC (.int 6)) mNil))))))) (mCallI 3 F__law_pick 1 [] (miCons (mRd 0) (miHere 1 (mCons (mC (.int 6)) mNil))))) mNil))) mNil))))))
  (mRet (mTup (mCons (mC (.str "keep")) (mCons (mRd 6) (mCons (m2 dIx (mLst (mCons (mTup mNil) (mCons (mRd 12) (mCons (mTup (mCons (mC (.str "a")) (mCons (mC (.str "b2")) (mCons (mC (.str "get")) mNil)))) mNil)))) (mCallI 3 F__law_pick 1 [] (miCons (mRd 0) (miHere 1 (mCons (mC (.int 3)) mNil))))) (mCons (mRd 7) (mCons (mRd 12) mNil)))))))) mSkip)
  (mSeq (mIfS (mB (m2 dEq (mRd 10) (mC (.str "c")))) (mSeq (mAsg 13 (mTup mNil))
  (mSeq f__law_token_1
  (mRet (mTup (mCons (mC (.str "case")) (mCons (m2 dIx (mLst (mCons (mC (.str "D")) (mCons (mC (.str "Tree")) (mCons (mC (.str "E2")) mNil)))) (mCallI 3 F__law_pick 1 [] (miCons (mRd 0) (miHere 1 (mCons (mC (.int 3)) mNil))))) (mCons (mRd 6) (mCons (mRd 13) mNil)))))))) mSkip)
  (mRet (mTup (mCons (mC (.str "helper")) (mCons (mRd 8) (mCons (mRd 6) mNil)))))))))))))
theorem token_eq : m__law_token = (mSeq (mAsg 6 (m2 dIx (mLst (mCons (mTup (mCons (mC (.str "o")) mNil)) (mCons (mTup (mCons (mC (.str "D")) mNil)) (mCons (mTup (mCons (mTup mNil) (mCons (mC (.str "D")) (mCons (mC (.str "o")) mNil)))) (mCons (mTup (mCons (mTup (mCons (mC (.str "get")) mNil)) (mCons (mTup mNil) (mCons (mC (.str "o")) (mCons (mC (.str "Tree")) (mCons (mC (.str "num")) mNil)))))) (mCons (mTup (mCons (mC (.str "of")) mNil)) (mCons (mTup (mCons (mC (.str "num")) mNil)) mNil))))))) (mCallI 3 F__law_pick 1 [] (miCons (mRd 0) (miHere 1 (mCons (mC (.int 6)) mNil)))))) (mSeq (mAsg 7 (m2 dIx (mLst (mCons (mTup mNil) (mCons (mTup (mCons (mC (.str "get")) mNil)) (mCons (mTup (mCons (mC (.str "get")) (mCons (mC (.str "set")) mNil))) (mCons (mTup (mCons (mC (.str "a")) mNil)) (mCons (mTup mNil) mNil)))))) (mCallI 3 F__law_pick 1 [] (miCons (mRd 0) (miHere 1 (mCons (mC (.int 5)) mNil)))))) (mSeq (mAsg 8 (m2 dIx (mLst (mCons (mC (.str "c")) (mCons (mC (.str "leaf")) (mCons (mC (.str "h")) (mCons (mC (.str "put2")) (mCons (mC (.str "k")) mNil)))))) (mCallI 3 F__law_pick 1 [] (miCons (mRd 0) (miHere 1 (mCons (mC (.int 5)) mNil)))))) (mSeq (mAsg 9 (m2 dIx (mLst (mCons (mC (.str "")) (mCons (mC (.str "vvvhm")) mNil))) (mCall1 dInt (mCons (mOrV (m1 dNot (mRd 5)) (m2 dEq (mRd 3) (mC (.int 0)))) mNil)))) (mSeq (mAsg 9 (m2 dAdd (mRd 9) (m2 dIx (mLst (mCons (mC (.str "")) (mCons (mC (.str "ffamkc")) (mCons (mC (.str "ffouoamkc")) (mCons (mC (.str "ffouoamkckc")) mNil))))) (mCall1 dMin2 (mCons (mC (.int 3)) (mCons (mRd 3) mNil)))))) (mSeq (mAsg 10 (m2 dIx (mRd 9) (mCallI 3 F__law_pick 1 [] (miCons (mRd 0) (miHere 1 (mCons (mCall1 dLen (mCons (mRd 9) mNil)) mNil)))))) (mSeq (mAsg 11 (mCall1 dMin2 (mCons (mRd 3) (mCons (m2 dIx (mLst (mCons (mC (.int 0)) (mCons (mC (.int 1)) (mCons (mC (.int 2)) (mCons (mC (.int 3)) (mCons (mC (.int 4)) (mCons (mC (.int 7)) mNil))))))) (mCallI 3 F__law_pick 1 [] (miCons (mRd 0) (miHere 1 (mCons (mC (.int 6)) mNil))))) mNil)))) (mSeq (mIfS (mB (mRd 5)) (mAsg 11 (mCall1 dMax2 (mCons (mCall1 dMin2 (mCons (mC (.int 1)) (mCons (mRd 3) mNil))) (mCons (mRd 11) mNil)))) mSkip) stTail)))))))) := rfl
inductive Frm (last : Bool) (room : Nat) : Str → Prop
  | vv (h : last = false ∨ room = 0) : Frm last room "v"
  | hh (h : last = false ∨ room = 0) : Frm last room "h"
  | mm  : Frm last room "m"
  | ff (h : 1 ≤ room) : Frm last room "f"
  | uu (h : 2 ≤ room) : Frm last room "u"
  | oo (h : 2 ≤ room) : Frm last room "o"
  | kk (h : 1 ≤ room) : Frm last room "k"
  | aa (h : 1 ≤ room) : Frm last room "a"
  | cc (h : 1 ≤ room) : Frm last room "c"
theorem cne : decide (("v" : Str) = "h") = false ∧ decide (("v" : Str) = "m") = false ∧ decide (("v" : Str) = "f") = false ∧ decide (("v" : Str) = "u") = false ∧ decide (("v" : Str) = "o") = false ∧ decide (("v" : Str) = "k") = false ∧ decide (("v" : Str) = "a") = false ∧ decide (("v" : Str) = "c") = false ∧ decide (("h" : Str) = "v") = false ∧ decide (("h" : Str) = "m") = false ∧ decide (("h" : Str) = "f") = false ∧ decide (("h" : Str) = "u") = false ∧ decide (("h" : Str) = "o") = false ∧ decide (("h" : Str) = "k") = false ∧ decide (("h" : Str) = "a") = false ∧ decide (("h" : Str) = "c") = false ∧ decide (("m" : Str) = "v") = false ∧ decide (("m" : Str) = "h") = false ∧ decide (("m" : Str) = "f") = false ∧ decide (("m" : Str) = "u") = false ∧ decide (("m" : Str) = "o") = false ∧ decide (("m" : Str) = "k") = false ∧ decide (("m" : Str) = "a") = false ∧ decide (("m" : Str) = "c") = false ∧ decide (("f" : Str) = "v") = false ∧ decide (("f" : Str) = "h") = false ∧ decide (("f" : Str) = "m") = false ∧ decide (("f" : Str) = "u") = false ∧ decide (("f" : Str) = "o") = false ∧ decide (("f" : Str) = "k") = false ∧ decide (("f" : Str) = "a") = false ∧ decide (("f" : Str) = "c") = false ∧ decide (("u" : Str) = "v") = false ∧ decide (("u" : Str) = "h") = false ∧ decide (("u" : Str) = "m") = false ∧ decide (("u" : Str) = "f") = false := by decide
theorem cne2 : decide (("u" : Str) = "o") = false ∧ decide (("u" : Str) = "k") = false ∧ decide (("u" : Str) = "a") = false ∧ decide (("u" : Str) = "c") = false ∧ decide (("o" : Str) = "v") = false ∧ decide (("o" : Str) = "h") = false ∧ decide (("o" : Str) = "m") = false ∧ decide (("o" : Str) = "f") = false ∧ decide (("o" : Str) = "u") = false ∧ decide (("o" : Str) = "k") = false ∧ decide (("o" : Str) = "a") = false ∧ decide (("o" : Str) = "c") = false ∧ decide (("k" : Str) = "v") = false ∧ decide (("k" : Str) = "h") = false ∧ decide (("k" : Str) = "m") = false ∧ decide (("k" : Str) = "f") = false ∧ decide (("k" : Str) = "u") = false ∧ decide (("k" : Str) = "o") = false ∧ decide (("k" : Str) = "a") = false ∧ decide (("k" : Str) = "c") = false ∧ decide (("a" : Str) = "v") = false ∧ decide (("a" : Str) = "h") = false ∧ decide (("a" : Str) = "m") = false ∧ decide (("a" : Str) = "f") = false ∧ decide (("a" : Str) = "u") = false ∧ decide (("a" : Str) = "o") = false ∧ decide (("a" : Str) = "k") = false ∧ decide (("a" : Str) = "c") = false ∧ decide (("c" : Str) = "v") = false ∧ decide (("c" : Str) = "h") = false ∧ decide (("c" : Str) = "m") = false ∧ decide (("c" : Str) = "f") = false ∧ decide (("c" : Str) = "u") = false ∧ decide (("c" : Str) = "o") = false ∧ decide (("c" : Str) = "k") = false ∧ decide (("c" : Str) = "a") = false := by decide
structure FOk (last : Bool) (room : Nat) (f : Str) : Prop where
  pos : 0 < f.length
  le : f.length ≤ 100
  at_ : ∀ n : Nat, n < f.length → ∃ ch : Str, dIx (.str f) (.int (n : Int)) = some (.str ch) ∧ Frm last room ch
structure TG (t : Tok) : Prop where
  h : HOk t
  b : ∀ k, bd t k ≤ 16
  r : ∀ dp, 4 ≤ dp → (∀ n, t ≠ .num n) → Rs t.d (120 + 60 * t.ar) dp
abbrev StR (level : Nat) (last : Bool) (room : Nat) : D → D → Prop := fun d o => ∃ t : Tok, d = t.d ∧ TG t ∧ (∀ n, t = .num n → n ≤ level + 5) ∧ t.ar ≤ room ∧ (last = true → 0 < room → 1 ≤ t.ar) ∧ ∃ c : Int, o = .lst [.int c]
abbrev knds : List D := [D.tup [.str "o"], D.tup [.str "D"], D.tup [.tup [], .str "D", .str "o"], D.tup [.tup [.str "get"], .tup [], .str "o", .str "Tree", .str "num"], D.tup [.str "of"], D.tup [.str "num"]]
abbrev askL : List D := [D.tup [], D.tup [.str "get"], D.tup [.str "get", .str "set"], D.tup [.str "a"], D.tup []]
abbrev wdL : List Str := ["c", "leaf", "h", "put2", "k"]
theorem knd_rs {d : D} (h : d ∈ knds) : Rs d 40 2 := by
  have : knds.all (fun d => rsB d 40 2) = true := by decide +kernel
  exact Rs.by (List.all_eq_true.mp this d h)
theorem ask_rs {d : D} (h : d ∈ askL) : Rs d 20 1 := by
  have : askL.all (fun d => rsB d 20 1) = true := by decide +kernel
  exact Rs.by (List.all_eq_true.mp this d h)
theorem wd_rs {w : Str} (h : w ∈ wdL) : Rs (.str w) 6 0 := by
  have : wdL.all (fun w => rsB (.str w) 6 0) = true := by decide +kernel
  exact Rs.by (List.all_eq_true.mp this w h)
theorem sl_rs (w : Str) (n : Nat) (h : rsB (.str w) n 0 = true := by decide +kernel) : Rs (.str w) n 0 := Rs.by h
theorem tg_num (n : Nat) : TG (.num n) := ⟨trivial, fun k => Nat.zero_le _, fun dp h hn => absurd rfl (hn n)⟩
theorem tg_of (t : Tok) (h : HOk t) (b : ∀ k, bd t k ≤ 16) {n : Nat} (r : Rs t.d n 4) (hn : n ≤ 120 + 60 * t.ar) : TG t := ⟨h, b, fun dp hd _ => r.mono hn hd⟩
theorem tg_un : TG .un := tg_of .un trivial (fun k => Nat.zero_le _) (Rs.by (n := 20) (dp := 4) (by decide +kernel)) (by simp [Tok.ar])
theorem tg_ofc : TG .of := tg_of .of trivial (fun k => Nat.zero_le _) (Rs.by (n := 20) (dp := 4) (by decide +kernel)) (by simp [Tok.ar])
theorem tg_fn {k a : D} (hk : k ∈ knds) (ha : a ∈ askL) : TG (.fn k a) := tg_of _ trivial (fun _ => by show 1 ≤ 16; decide) (Rs.tup (dp := 3) (.cons (sl_rs "fun" 5).to (.cons (knd_rs hk).to (.cons (ask_rs ha).to .nil)))) (by simp [Tok.ar])
theorem tg_hp {k : D} {w : Str} (hk : k ∈ knds) (hw : w ∈ wdL) : TG (.hp w k) := tg_of _ trivial (fun _ => Nat.zero_le _) (Rs.tup (dp := 3) (.cons (sl_rs "helper" 8).to (.cons (wd_rs hw).to (.cons (knd_rs hk).to .nil)))) (by simp [Tok.ar])
theorem tg_mk {w : Str} {n : Nat} (hw : w ∈ wdL) (hn : n ≤ 1000) : TG (.mk w n) := tg_of _ trivial (fun _ => Nat.zero_le _) (Rs.tup (dp := 3) (.cons (sl_rs "make" 6).to (.cons (wd_rs hw).to (.cons (Rs.nat (n := n) (Nat.lt_of_le_of_lt hn (by decide))).to .nil)))) (by omega)
theorem tg_ask {w : Str} (hw : rsB (.str w) 9 0 = true) : TG (.ask w) := tg_of _ trivial (fun _ => Nat.zero_le _) (Rs.tup (dp := 3) (.cons (sl_rs "ask" 5).to (.cons (Rs.by hw).to .nil))) (by simp [Tok.ar])
abbrev kws : List D := [.str "a", .str "ab", .str "b2", .str "get", .str "set", .str "tell"]
theorem kws_rs (w : Nat) : Rs (.tup (kws.take w)) 40 1 := by
  have h1 : ∀ n, n < 6 → rsB (.tup (kws.take n)) 40 1 = true := by decide +kernel
  have h2 : rsB (.tup kws) 40 1 = true := by decide +kernel
  by_cases h : w < 6
  · exact Rs.by (h1 w h)
  · rw [List.take_of_length_le (by show 6 ≤ w; omega)]; exact Rs.by h2
theorem tg_keep {k a r : D} {w : Nat} (hk : k ∈ knds) (ha : a ∈ askL) (hr : Rs r 40 1) : TG (.keep k r a (kws.take w)) := tg_of _ trivial (fun k => by cases k <;> simp [bd]) (Rs.tup (dp := 3) (.cons (sl_rs "keep" 6).to (.cons (knd_rs hk).to (.cons hr.to (.cons (ask_rs ha).to (.cons (kws_rs w).to .nil)))))) (by simp only [Tok.ar]; omega)
/-- heads of a drawn case -/
def Hd (h : D) : Prop := ∃ (w : Str) (bs : List Bool), h = .tup [.str w, .tup (bs.map .bl)] ∧ rsB (.str w) 6 0 = true ∧ bs.length ≤ 5
theorem hd_rs {h : D} (H : Hd h) : Rs h 55 2 := by
  obtain ⟨w, bs, rfl, hw, hb⟩ := H
  have h1 : RsL (bs.map .bl) (7 * bs.length) 0 := by
    have := RsL.all (w := 5) (dp := 0) (ds := bs.map .bl) (fun d hd => by
      obtain ⟨b, _, rfl⟩ := List.mem_map.mp hd
      exact Rs.bl b)
    simpa using this
  exact (Rs.tup (dp := 1) (.cons (Rs.by hw).to (.cons (Rs.tup h1) .nil))).mono (by omega) (by decide)
theorem tg_cs {k : D} {w : Str} {hs : List D} (hw : rsB (.str w) 6 0 = true) (hk : k ∈ knds) (hh : ∀ h ∈ hs, Hd h) : TG (.cs (.str w) k hs) := by
  refine tg_of _ (fun h hm => ?_) (fun j => ?_) (Rs.tup (dp := 3) (.cons (sl_rs "case" 6).to (.cons (Rs.by hw).to (.cons (knd_rs hk).to (.cons (Rs.tup (dp := 2) (RsL.all fun d hd => hd_rs (hh d hd))) .nil))))) ?_
  · obtain ⟨w, bs, rfl, _, _⟩ := hh h hm
    exact ⟨_, _, rfl⟩
  · cases j with
    | zero => simp [bd]
    | succ j =>
      show hdl (hs[j]?.getD .non) ≤ 16
      cases hj : hs[j]? with
      | none => simp [hdl]
      | some h =>
        obtain ⟨w, bs, rfl, _, hb⟩ := hh h (List.mem_of_getElem? hj)
        simp [hdl]; omega
  · simp only [Tok.ar]; omega
theorem pickE {ds : List Int} (hd : 0 < ds.length) (hl : ds.length ≤ 1000) (c : Int) {many : Nat} (hm : 0 < many) (hml : many ≤ 1000000) : ∃ n : Nat, n < many ∧ F__law_pick [.lst (ds.map .int), .lst [.int c], .int (many : Int)] = .ok (.int (n : Int)) (some (.lst [.int (c + 1)])) :=
  ⟨_, pk_lt hm, pick_ok c hd hl hm hml⟩
end VM.K15

set_option Elab.async false
set_option linter.all false
set_option autoImplicit false
set_option maxRecDepth 100000
set_option maxHeartbeats 400000
namespace VM.K15
open PySem PySem.Spec PyProof.Rows L2 VM
local macro_rules | `(tactic| walk_at "ev") => `(tactic| simp (disch := first | omega | (simp only [List.length_cons, List.length_nil, List.length_map, List.length_append, List.length_replicate, List.length_set, rngs_length]; omega)) only [*, q_seq, q_skip, q_knx, q_krt, q_kro, q_kbk, q_kct, q_ker, q_kk, q_bind, q_bok, q_ber, q_drop, q_ret, q_reto, q_ifs, q_ct, q_cf, q_asg, q_asgo, q_asgt, q_rok, q_rer, q_c, q_rd, q_mv, q_fz, fz_lst, fz_dct, fz_obj, fz_dlst, fz_ddct, fz_dobj, q_tk, q_2, q_1, q_os, q_b, q_not, q_and, q_or, q_at, q_af, q_ao, q_rt, q_rf, q_ro, q_andv, q_orv, q_avt, q_avf, q_avo, q_rvt, q_rvf, q_rvo, q_ife, q_it, q_if, q_io, q_on, q_oS, q_sl, q_nil, q_cons, q_tup, q_lst, q_call1, q_call, q_f0, q_f1, q_f2, q_f3, q_f4, q_f5, q_f6, q_f7, q_callk, q_frok, q_frer, q_calli, q_mihere, q_micons, q_fri, q_sdo, q_sdi, q_rso, q_rsi, q_app, q_ext, q_ext2, q_put, q_pop, q_with, q_wok, q_for, q_enum, q_items, q_raise, q_gt, q_grt, q_lt, q_le, q_rng1, q_rng2, q_rg1, q_lrg, q_lrgi, q_rg2, q_add, q_adds, q_addl, q_addt, q_cat, q_sub, q_mulr, q_mull, q_div, q_mod, q_p18, q_p12, q_cmplt, q_cmple, q_cmpgt, q_cmpge, q_eqi, q_eqs, q_eqb, q_nei, q_nes, q_isn, q_isnn, q_isb, q_isnb, q_neg, q_dnot, q_lenl, q_lent, q_lenf, q_lens, q_int, q_intb, q_tupl, q_tupt, q_lstl, q_lstt, q_min, q_max, q_ixn, q_ixm, q_ixl, q_ixt, q_ixf, q_rep, q_isi_tt, q_isi_ts, q_isi_ti, q_isi_ss, q_isi_st, q_isi_ii, q_isi_it, q_isi_is, q_isi_bi, q_lfi, q_lfb, q_lfs, q_lfn, q_itt, q_itl, q_itf, q_slt, q_sll, q_sls, tk_row, tk_wd, q_cut, q_cutf, q_cutt, q_try, q_tryo, q_tnx, q_trt, q_tonx, q_tort, w_irt, w_inx, w_iro, w_lnx, w_lct, w_lbk, w_lrt, w_lro, w_ler, w_nnx, w_nrt, w_nro, w_ner, w_rnx, w_rrt, w_rro, w_rer, w_tn, w_tt, w_tt3, ev_ownL, ev_putL, ev_lend, ev_hn, ev_hp, ev_hu, ev_ho, ev_hi, ev_i0, ev_i1, ev_tN, ev_tnil, ev_tcons, ev_tTup, List.getElem?_cons_zero, List.getElem?_cons_succ, List.set_cons_zero, List.set_cons_succ, List.length_cons, List.length_nil, List.length_append, List.length_map, List.length_replicate, List.length_set, rngs_length, List.nil_append, List.cons_append, Int.toNat_natCast, Int.toNat_zero, Int.toNat_one, Int.reduceToNat, List.getElem?_map, Option.map_some, Nat.reduceAdd, Nat.reduceSub, Nat.reduceLT, Nat.reduceLeDiff, Nat.reduceEqDiff, Int.reduceEq, Int.reduceLT, Int.reduceLE, Int.reduceAdd, Int.reduceSub, Int.reduceMul, Int.reduceNeg, List.replicate_succ, List.replicate_zero, Bool.not_true, Bool.not_false, Bool.and_true, Bool.true_and, Bool.and_false, Bool.false_and, Bool.or_true, Bool.true_or, Bool.or_false, Bool.false_or, decide_true, decide_false, if_true, if_false, and_self, true_and, and_true, Nat.sub_self, Nat.add_zero, Nat.zero_add, Bool.true_eq_false, Bool.false_eq_true, ite_true, ite_false, reduceIte, eq_self])
theorem marks_ok {ds : List Int} (hd : 0 < ds.length) (hl : ds.length ≤ 1000) (c : Int) (x2 x3 x4 x5 x6 x7 x8 x9 x10 x11 x12 x13 x14 x15 : Sl) : ∃ (bs : List Bool) (c' : Int), bs.length ≤ 5 ∧
    mLc [16] (mRng1 (mCons (m2 dIx (mLst (mCons (mC (.int 0)) (mCons (mC (.int 1)) (mCons (mC (.int 2)) (mCons (mC (.int 3)) (mCons (mC (.int 1)) (mCons (mC (.int 5)) mNil))))))) (mCallI 3 F__law_pick 1 [] (miCons (mRd 0) (miHere 1 (mCons (mC (.int 6)) mNil))))) mNil)) (mtN 16) mYes (m2 dEq (mCallI 3 F__law_pick 1 [] (miCons (mRd 0) (miHere 1 (mCons (mC (.int 2)) mNil)))) (mC (.int 0)))
      [.pl (.lst (ds.map .int)), .io 0 (.lst [.int c]), x2, x3, x4, x5, x6, x7, x8, x9, x10, x11, x12, x13, x14, x15, .un] = .ok (.lst (bs.map .bl)) [.pl (.lst (ds.map .int)), .io 0 (.lst [.int c']), x2, x3, x4, x5, x6, x7, x8, x9, x10, x11, x12, x13, x14, x15, .un] := by
  obtain ⟨n, hn, p⟩ := pickE hd hl c (many := 6) (by decide) (by decide)
  have p : F__law_pick [.lst (ds.map .int), .lst [.int c], .int 6] = .ok (.int (n : Int)) (some (.lst [.int (c + 1)])) := p
  obtain ⟨m, hm, em⟩ : ∃ m : Nat, m ≤ 5 ∧ [D.int 0, D.int 1, D.int 2, D.int 3, D.int 1, D.int 5][n]? = some (.int (m : Int)) := by
    match n, hn with
    | 0, _ => exact ⟨0, by decide, rfl⟩
    | 1, _ => exact ⟨1, by decide, rfl⟩
    | 2, _ => exact ⟨2, by decide, rfl⟩
    | 3, _ => exact ⟨3, by decide, rfl⟩
    | 4, _ => exact ⟨1, by decide, rfl⟩
    | 5, _ => exact ⟨5, by decide, rfl⟩
  obtain ⟨c', acc, h1, ⟨bs, hb⟩, h3⟩ := lc_io (own := [16]) (mi := mRng1 (mCons (m2 dIx (mLst (mCons (mC (.int 0)) (mCons (mC (.int 1)) (mCons (mC (.int 2)) (mCons (mC (.int 3)) (mCons (mC (.int 1)) (mCons (mC (.int 5)) mNil))))))) (mCallI 3 F__law_pick 1 [] (miCons (mRd 0) (miHere 1 (mCons (mC (.int 6)) mNil))))) mNil)) (t := mtN 16) (me := m2 dEq (mCallI 3 F__law_pick 1 [] (miCons (mRd 0) (miHere 1 (mCons (mC (.int 2)) mNil)))) (mC (.int 0)))
    (s := [.pl (.lst (ds.map .int)), .io 0 (.lst [.int c]), x2, x3, x4, x5, x6, x7, x8, x9, x10, x11, x12, x13, x14, x15, .un]) (s0 := [.pl (.lst (ds.map .int)), .io 0 (.lst [.int (c + 1)]), x2, x3, x4, x5, x6, x7, x8, x9, x10, x11, x12, x13, x14, x15, .un]) (ds := rngs 0 m)
    (fun c => [.pl (.lst (ds.map .int)), .io 0 (.lst [.int c]), x2, x3, x4, x5, x6, x7, x8, x9, x10, x11, x12, x13, x14, x15, .un]) (fun _ _ acc => ∃ bs : List Bool, acc = bs.map .bl) (c + 1) (by walk_at "ev") rfl rfl (by rw [rngs_length]; omega) ⟨[], rfl⟩ (fun j d c acc hd' hI => by
      obtain ⟨bs, rfl⟩ := hI
      obtain ⟨q, hq, p⟩ := pickE hd hl c (many := 2) (by decide) (by decide)
      have p : F__law_pick [.lst (ds.map .int), .lst [.int c], .int 2] = .ok (.int (q : Int)) (some (.lst [.int (c + 1)])) := p
      refine ⟨[.pl (.lst (ds.map .int)), .io 0 (.lst [.int c]), x2, x3, x4, x5, x6, x7, x8, x9, x10, x11, x12, x13, x14, x15, .pl d], rfl, .bl (decide ((q : Int) = 0)), [.pl (.lst (ds.map .int)), .io 0 (.lst [.int (c + 1)]), x2, x3, x4, x5, x6, x7, x8, x9, x10, x11, x12, x13, x14, x15, .pl d], c + 1, ?_, rfl, bs ++ [decide ((q : Int) = 0)], by simp⟩
      clear hd'
      walk_at "ev")
  refine ⟨bs, c', ?_, ?_⟩
  · rw [hb, rngs_length] at h3
    simp at h3; omega
  · rw [h1, hb]; rfl
theorem heads_ok {ds : List Int} (hd : 0 < ds.length) (hl : ds.length ≤ 1000) (c : Int) {room : Nat} (hro : room ≤ 1000) (x2 x4 x5 x6 x7 x8 x9 x10 x11 x12 : Sl) {k : MS} {Q : O → Prop}
    (hk : ∀ (c : Int) (hs : List D) (x14 x15 : Sl), (∀ h ∈ hs, Hd h) → hs.length ≤ room - 1 → Wp (k [.pl (.lst (ds.map .int)), .io 0 (.lst [.int c]), x2, .pl (.int (room : Int)), x4, x5, x6, x7, x8, x9, x10, x11, x12, .pl (.tup hs), x14, x15, .un]) Q) :
    Wp (kO (f__law_token_1 [.pl (.lst (ds.map .int)), .io 0 (.lst [.int c]), x2, .pl (.int (room : Int)), x4, x5, x6, x7, x8, x9, x10, x11, x12, .pl (.tup []), .un, .un, .un]) k) Q := by
  obtain ⟨n, hn, p⟩ := pickE hd hl c (many := 8) (by decide) (by decide)
  have p : F__law_pick [.lst (ds.map .int), .lst [.int c], .int 8] = .ok (.int (n : Int)) (some (.lst [.int (c + 1)])) := p
  obtain ⟨m, hm, em⟩ : ∃ m : Nat, m ≤ 16 ∧ [D.int 0, D.int 1, D.int 2, D.int 3, D.int 1, D.int 2, D.int 6, D.int 16][n]? = some (.int (m : Int)) := by
    match n, hn with
    | 0, _ => exact ⟨0, by decide, rfl⟩
    | 1, _ => exact ⟨1, by decide, rfl⟩
    | 2, _ => exact ⟨2, by decide, rfl⟩
    | 3, _ => exact ⟨3, by decide, rfl⟩
    | 4, _ => exact ⟨1, by decide, rfl⟩
    | 5, _ => exact ⟨2, by decide, rfl⟩
    | 6, _ => exact ⟨6, by decide, rfl⟩
    | 7, _ => exact ⟨16, by decide, rfl⟩
  obtain ⟨w, hw, ew⟩ : ∃ w : Nat, w ≤ room - 1 ∧ w ≤ 16 ∧ min (max 0 ((room : Int) - 1)) (m : Int) = (w : Int) := ⟨min (room - 1) m, by omega, by omega, by omega⟩
  obtain ⟨hw16, ew⟩ := ew
  unfold f__law_token_1
  walk_at "ev"
  refine w_for (Y := Int × List D × Sl × Sl) (fun y => [.pl (.lst (ds.map .int)), .io 0 (.lst [.int y.1]), x2, .pl (.int (room : Int)), x4, x5, x6, x7, x8, x9, x10, x11, x12, .pl (.tup y.2.1), y.2.2.1, y.2.2.2, .un]) (fun j y => y.2.1.length = j ∧ ∀ h ∈ y.2.1, Hd h) (c + 1, [], .un, .un) rfl ⟨rfl, by simp⟩ (fun j d y hd' hy => ?_) fun y hy => ?_
  · obtain ⟨c1, hs, x14, x15⟩ := y
    obtain ⟨g1, g2⟩ := hy
    dsimp only at g1 g2
    obtain ⟨hj, rfl⟩ := nget hd'
    obtain ⟨bs, c2, hb, mk⟩ := marks_ok hd hl c1 x2 (.pl (.int (room : Int))) x4 x5 x6 x7 x8 x9 x10 x11 x12 (.pl (.tup hs)) (.pl (.int (j : Int))) x15
    obtain ⟨q, hq, p4⟩ := pickE hd hl c2 (many := 4) (by decide) (by decide)
    have p4 : F__law_pick [.lst (ds.map .int), .lst [.int c2], .int 4] = .ok (.int (q : Int)) (some (.lst [.int (c2 + 1)])) := p4
    obtain ⟨v, hv, ev⟩ : ∃ v : Str, rsB (.str v) 6 0 = true ∧ [D.str "c", D.str "leaf", D.str "d", D.str "mk"][q]? = some (.str v) := by
      match q, hq with
      | 0, _ => exact ⟨"c", by decide +kernel, rfl⟩
      | 1, _ => exact ⟨"leaf", by decide +kernel, rfl⟩
      | 2, _ => exact ⟨"d", by decide +kernel, rfl⟩
      | 3, _ => exact ⟨"mk", by decide +kernel, rfl⟩
    have hH : Hd (.tup [.str v, .tup (bs.map .bl)]) := ⟨v, bs, rfl, hv, hb⟩
    have g3 : ∀ h ∈ hs ++ [D.tup [.str v, .tup (bs.map .bl)]], Hd h := fun h hm => (List.mem_append.mp hm).elim (g2 h) fun hm => by simp at hm; subst hm; exact hH
    clear hd' g2 hH hv p
    rw [w_tn]
    show Wp (b__law_token_0 [.pl (.lst (ds.map .int)), .io 0 (.lst [.int c1]), x2, .pl (.int (room : Int)), x4, x5, x6, x7, x8, x9, x10, x11, x12, .pl (.tup hs), .pl (.int (j : Int)), x15, .un]) _
    unfold b__law_token_0
    generalize bs.map D.bl = BB at *
    walk_at "ev"
    exact ⟨(c2 + 1, hs ++ [D.tup [.str v, .tup BB]], .pl (.int (j : Int)), .pl (.tup BB)), rfl, by simp [g1], g3⟩
  · obtain ⟨c1, hs, x14, x15⟩ := y
    obtain ⟨g1, g2⟩ := hy
    dsimp only at g1 g2
    rw [rngs_length] at g1
    exact hk c1 hs x14 x15 g2 (by omega)
end VM.K15

set_option Elab.async false
set_option linter.all false
set_option autoImplicit false
set_option maxRecDepth 100000
set_option maxHeartbeats 400000
namespace VM.K15
open PySem PySem.Spec PyProof.Rows L2 VM
local macro_rules | `(tactic| walk_at "ev") => `(tactic| simp (disch := first | omega | (simp only [List.length_cons, List.length_nil, List.length_map, List.length_append, List.length_replicate, List.length_set, rngs_length]; omega)) only [*, q_seq, q_skip, q_knx, q_krt, q_kro, q_kbk, q_kct, q_ker, q_kk, q_bind, q_bok, q_ber, q_drop, q_ret, q_reto, q_ifs, q_ct, q_cf, q_asg, q_asgo, q_asgt, q_rok, q_rer, q_c, q_rd, q_mv, q_fz, fz_lst, fz_dct, fz_obj, fz_dlst, fz_ddct, fz_dobj, q_tk, q_2, q_1, q_os, q_b, q_not, q_and, q_or, q_at, q_af, q_ao, q_rt, q_rf, q_ro, q_andv, q_orv, q_avt, q_avf, q_avo, q_rvt, q_rvf, q_rvo, q_ife, q_it, q_if, q_io, q_on, q_oS, q_sl, q_nil, q_cons, q_tup, q_lst, q_call1, q_call, q_f0, q_f1, q_f2, q_f3, q_f4, q_f5, q_f6, q_f7, q_callk, q_frok, q_frer, q_calli, q_mihere, q_micons, q_fri, q_sdo, q_sdi, q_rso, q_rsi, q_app, q_ext, q_ext2, q_put, q_pop, q_with, q_wok, q_for, q_enum, q_items, q_raise, q_gt, q_grt, q_lt, q_le, q_rng1, q_rng2, q_rg1, q_lrg, q_lrgi, q_rg2, q_add, q_adds, q_addl, q_addt, q_cat, q_sub, q_mulr, q_mull, q_div, q_mod, q_p18, q_p12, q_cmplt, q_cmple, q_cmpgt, q_cmpge, q_eqi, q_eqs, q_eqb, q_nei, q_nes, q_isn, q_isnn, q_isb, q_isnb, q_neg, q_dnot, q_lenl, q_lent, q_lenf, q_lens, q_int, q_intb, q_tupl, q_tupt, q_lstl, q_lstt, q_min, q_max, q_ixn, q_ixm, q_ixl, q_ixt, q_ixf, q_rep, q_isi_tt, q_isi_ts, q_isi_ti, q_isi_ss, q_isi_st, q_isi_ii, q_isi_it, q_isi_is, q_isi_bi, q_lfi, q_lfb, q_lfs, q_lfn, q_itt, q_itl, q_itf, q_slt, q_sll, q_sls, tk_row, tk_wd, q_cut, q_cutf, q_cutt, q_try, q_tryo, q_tnx, q_trt, q_tonx, q_tort, w_irt, w_inx, w_iro, w_lnx, w_lct, w_lbk, w_lrt, w_lro, w_ler, w_nnx, w_nrt, w_nro, w_ner, w_rnx, w_rrt, w_rro, w_rer, w_tn, w_tt, w_tt3, ev_ownL, ev_putL, ev_lend, ev_hn, ev_hp, ev_hu, ev_ho, ev_hi, ev_i0, ev_i1, ev_tN, ev_tnil, ev_tcons, ev_tTup, List.getElem?_cons_zero, List.getElem?_cons_succ, List.set_cons_zero, List.set_cons_succ, List.length_cons, List.length_nil, List.length_append, List.length_map, List.length_replicate, List.length_set, rngs_length, List.nil_append, List.cons_append, Int.toNat_natCast, Int.toNat_zero, Int.toNat_one, Int.reduceToNat, List.getElem?_map, Option.map_some, Nat.reduceAdd, Nat.reduceSub, Nat.reduceLT, Nat.reduceLeDiff, Nat.reduceEqDiff, Int.reduceEq, Int.reduceLT, Int.reduceLE, Int.reduceAdd, Int.reduceSub, Int.reduceMul, Int.reduceNeg, List.replicate_succ, List.replicate_zero, Bool.not_true, Bool.not_false, Bool.and_true, Bool.true_and, Bool.and_false, Bool.false_and, Bool.or_true, Bool.true_or, Bool.or_false, Bool.false_or, decide_true, decide_false, if_true, if_false, and_self, true_and, and_true, Nat.sub_self, Nat.add_zero, Nat.zero_add, Bool.true_eq_false, Bool.false_eq_true, ite_true, ite_false, reduceIte, eq_self])
theorem tail_h {ds : List Int} (hd : 0 < ds.length) (hl : ds.length ≤ 1000) {c : Int} {level room m : Nat} (hro : room ≤ 1000) (hlv : level ≤ 1000000) {closed last : Bool} {kd ak : D} {w : Str} (hk : kd ∈ knds) (ha : ak ∈ askL) (hw : w ∈ wdL) (hm : m ≤ room) (hm7 : m ≤ 7) (hml : last = true → 0 < room → 1 ≤ m) {ff : Sl} (h : last = false ∨ room = 0) :
    Wp (stTail [.pl (.lst (ds.map .int)), .io 0 (.lst [.int c]), .pl (.int (level : Int)), .pl (.int (room : Int)), .pl (.bl closed), .pl (.bl last), .pl kd, .pl ak, .pl (.str w), ff, .pl (.str "h"), .pl (.int (m : Int)), .un, .un, .un, .un, .un]) (RtI false 1 (StR level last room)) := by
  have cn := cne
  have cn2 := cne2
  unfold stTail
  walk_at "ev"
  refine ⟨0, _, rfl, .hp w kd, rfl, tg_hp hk hw, (fun _ z => by cases z), Nat.zero_le _, fun h3 h4 => ?_, _, rfl⟩
  rcases h with h | h
  · rw [h] at h3; cases h3
  · omega
theorem tail_m {ds : List Int} (hd : 0 < ds.length) (hl : ds.length ≤ 1000) {c : Int} {level room m : Nat} (hro : room ≤ 1000) (hlv : level ≤ 1000000) {closed last : Bool} {kd ak : D} {w : Str} (hk : kd ∈ knds) (ha : ak ∈ askL) (hw : w ∈ wdL) (hm : m ≤ room) (hm7 : m ≤ 7) (hml : last = true → 0 < room → 1 ≤ m) {ff : Sl} :
    Wp (stTail [.pl (.lst (ds.map .int)), .io 0 (.lst [.int c]), .pl (.int (level : Int)), .pl (.int (room : Int)), .pl (.bl closed), .pl (.bl last), .pl kd, .pl ak, .pl (.str w), ff, .pl (.str "m"), .pl (.int (m : Int)), .un, .un, .un, .un, .un]) (RtI false 1 (StR level last room)) := by
  have cn := cne
  have cn2 := cne2
  unfold stTail
  walk_at "ev"
  exact ⟨0, _, rfl, .mk w m, rfl, tg_mk hw (by omega), (fun _ z => by cases z), hm, hml, _, rfl⟩
theorem tail_f {ds : List Int} (hd : 0 < ds.length) (hl : ds.length ≤ 1000) {c : Int} {level room m : Nat} (hro : room ≤ 1000) (hlv : level ≤ 1000000) {closed last : Bool} {kd ak : D} {w : Str} (hk : kd ∈ knds) (ha : ak ∈ askL) (hw : w ∈ wdL) (hm : m ≤ room) (hm7 : m ≤ 7) (hml : last = true → 0 < room → 1 ≤ m) {ff : Sl} (h : 1 ≤ room) :
    Wp (stTail [.pl (.lst (ds.map .int)), .io 0 (.lst [.int c]), .pl (.int (level : Int)), .pl (.int (room : Int)), .pl (.bl closed), .pl (.bl last), .pl kd, .pl ak, .pl (.str w), ff, .pl (.str "f"), .pl (.int (m : Int)), .un, .un, .un, .un, .un]) (RtI false 1 (StR level last room)) := by
  have cn := cne
  have cn2 := cne2
  unfold stTail
  walk_at "ev"
  exact ⟨0, _, rfl, .fn kd ak, rfl, tg_fn hk ha, (fun _ z => by cases z), h, fun _ _ => Nat.le_refl _, _, rfl⟩
theorem tail_u {ds : List Int} (hd : 0 < ds.length) (hl : ds.length ≤ 1000) {c : Int} {level room m : Nat} (hro : room ≤ 1000) (hlv : level ≤ 1000000) {closed last : Bool} {kd ak : D} {w : Str} (hk : kd ∈ knds) (ha : ak ∈ askL) (hw : w ∈ wdL) (hm : m ≤ room) (hm7 : m ≤ 7) (hml : last = true → 0 < room → 1 ≤ m) {ff : Sl} (h : 2 ≤ room) :
    Wp (stTail [.pl (.lst (ds.map .int)), .io 0 (.lst [.int c]), .pl (.int (level : Int)), .pl (.int (room : Int)), .pl (.bl closed), .pl (.bl last), .pl kd, .pl ak, .pl (.str w), ff, .pl (.str "u"), .pl (.int (m : Int)), .un, .un, .un, .un, .un]) (RtI false 1 (StR level last room)) := by
  have cn := cne
  have cn2 := cne2
  unfold stTail
  walk_at "ev"
  exact ⟨0, _, rfl, .un, rfl, tg_un, (fun _ z => by cases z), h, fun _ _ => by decide, _, rfl⟩
theorem tail_o {ds : List Int} (hd : 0 < ds.length) (hl : ds.length ≤ 1000) {c : Int} {level room m : Nat} (hro : room ≤ 1000) (hlv : level ≤ 1000000) {closed last : Bool} {kd ak : D} {w : Str} (hk : kd ∈ knds) (ha : ak ∈ askL) (hw : w ∈ wdL) (hm : m ≤ room) (hm7 : m ≤ 7) (hml : last = true → 0 < room → 1 ≤ m) {ff : Sl} (h : 2 ≤ room) :
    Wp (stTail [.pl (.lst (ds.map .int)), .io 0 (.lst [.int c]), .pl (.int (level : Int)), .pl (.int (room : Int)), .pl (.bl closed), .pl (.bl last), .pl kd, .pl ak, .pl (.str w), ff, .pl (.str "o"), .pl (.int (m : Int)), .un, .un, .un, .un, .un]) (RtI false 1 (StR level last room)) := by
  have cn := cne
  have cn2 := cne2
  unfold stTail
  walk_at "ev"
  exact ⟨0, _, rfl, .of, rfl, tg_ofc, (fun _ z => by cases z), h, fun _ _ => by decide, _, rfl⟩
theorem tail_a {ds : List Int} (hd : 0 < ds.length) (hl : ds.length ≤ 1000) {c : Int} {level room m : Nat} (hro : room ≤ 1000) (hlv : level ≤ 1000000) {closed last : Bool} {kd ak : D} {w : Str} (hk : kd ∈ knds) (ha : ak ∈ askL) (hw : w ∈ wdL) (hm : m ≤ room) (hm7 : m ≤ 7) (hml : last = true → 0 < room → 1 ≤ m) {ff : Sl} (h : 1 ≤ room) :
    Wp (stTail [.pl (.lst (ds.map .int)), .io 0 (.lst [.int c]), .pl (.int (level : Int)), .pl (.int (room : Int)), .pl (.bl closed), .pl (.bl last), .pl kd, .pl ak, .pl (.str w), ff, .pl (.str "a"), .pl (.int (m : Int)), .un, .un, .un, .un, .un]) (RtI false 1 (StR level last room)) := by
  have cn := cne
  have cn2 := cne2
  obtain ⟨q, lq, pq⟩ := pickE hd hl c (many := 4) (by decide) (by decide)
  have pq : F__law_pick [.lst (ds.map .int), .lst [.int c], .int 4] = .ok (.int (q : Int)) (some (.lst [.int (c + 1)])) := pq
  obtain ⟨v, hv, ev⟩ : ∃ v : Str, rsB (.str v) 9 0 = true ∧ [D.str "get", D.str "set", D.str "a", D.str "raise"][q]? = some (.str v) := by
    match q, lq with
    | 0, _ => exact ⟨_, by decide +kernel, rfl⟩
    | 1, _ => exact ⟨_, by decide +kernel, rfl⟩
    | 2, _ => exact ⟨_, by decide +kernel, rfl⟩
    | 3, _ => exact ⟨_, by decide +kernel, rfl⟩
  unfold stTail
  walk_at "ev"
  exact ⟨0, _, rfl, .ask v, rfl, tg_ask hv, (fun _ z => by cases z), h, fun _ _ => Nat.le_refl _, _, rfl⟩
theorem tail_k {ds : List Int} (hd : 0 < ds.length) (hl : ds.length ≤ 1000) {c : Int} {level room m : Nat} (hro : room ≤ 1000) (hlv : level ≤ 1000000) {closed last : Bool} {kd ak : D} {w : Str} (hk : kd ∈ knds) (ha : ak ∈ askL) (hw : w ∈ wdL) (hm : m ≤ room) (hm7 : m ≤ 7) (hml : last = true → 0 < room → 1 ≤ m) {ff : Sl} (h : 1 ≤ room) :
    Wp (stTail [.pl (.lst (ds.map .int)), .io 0 (.lst [.int c]), .pl (.int (level : Int)), .pl (.int (room : Int)), .pl (.bl closed), .pl (.bl last), .pl kd, .pl ak, .pl (.str w), ff, .pl (.str "k"), .pl (.int (m : Int)), .un, .un, .un, .un, .un]) (RtI false 1 (StR level last room)) := by
  have cn := cne
  have cn2 := cne2
  obtain ⟨q, lq, pq⟩ := pickE hd hl c (many := 6) (by decide) (by decide)
  have pq : F__law_pick [.lst (ds.map .int), .lst [.int c], .int 6] = .ok (.int (q : Int)) (some (.lst [.int (c + 1)])) := pq
  obtain ⟨r, lr, pr⟩ := pickE hd hl (c + 1) (many := 3) (by decide) (by decide)
  have pr : F__law_pick [.lst (ds.map .int), .lst [.int (c + 1)], .int 3] = .ok (.int (r : Int)) (some (.lst [.int ((c + 1) + 1)])) := pr
  obtain ⟨x, hx, ex⟩ : ∃ x : Nat, x ≤ 6 ∧ [D.int 0, D.int 1, D.int 2, D.int 3, D.int 1, D.int 6][q]? = some (.int (x : Int)) := by
    match q, lq with
    | 0, _ => exact ⟨0, by decide, rfl⟩
    | 1, _ => exact ⟨1, by decide, rfl⟩
    | 2, _ => exact ⟨2, by decide, rfl⟩
    | 3, _ => exact ⟨3, by decide, rfl⟩
    | 4, _ => exact ⟨1, by decide, rfl⟩
    | 5, _ => exact ⟨6, by decide, rfl⟩
  obtain ⟨y, hy, ey⟩ : ∃ y : Nat, y ≤ room - 1 ∧ max 0 (min ((room : Int) - 1) (x : Int)) = (y : Int) := ⟨min (room - 1) x, by omega, by omega⟩
  obtain ⟨v, hv, ev⟩ : ∃ v : D, Rs v 40 1 ∧ [D.tup [], D.tup (kws.take y), D.tup [.str "a", .str "b2", .str "get"]][r]? = some v := by
    match r, lr with
    | 0, _ => exact ⟨_, Rs.by (by decide +kernel), rfl⟩
    | 1, _ => exact ⟨_, kws_rs y, rfl⟩
    | 2, _ => exact ⟨_, Rs.by (by decide +kernel), rfl⟩
  unfold stTail
  walk_at "ev"
  exact ⟨0, _, rfl, .keep kd v ak (kws.take y), rfl, tg_keep hk ha hv, (fun _ z => by cases z), by simp [Tok.ar]; omega, fun _ _ => by simp [Tok.ar], _, rfl⟩
theorem tail_c {ds : List Int} (hd : 0 < ds.length) (hl : ds.length ≤ 1000) {c : Int} {level room m : Nat} (hro : room ≤ 1000) (hlv : level ≤ 1000000) {closed last : Bool} {kd ak : D} {w : Str} (hk : kd ∈ knds) (ha : ak ∈ askL) (hw : w ∈ wdL) (hm : m ≤ room) (hm7 : m ≤ 7) (hml : last = true → 0 < room → 1 ≤ m) {ff : Sl} (h : 1 ≤ room) :
    Wp (stTail [.pl (.lst (ds.map .int)), .io 0 (.lst [.int c]), .pl (.int (level : Int)), .pl (.int (room : Int)), .pl (.bl closed), .pl (.bl last), .pl kd, .pl ak, .pl (.str w), ff, .pl (.str "c"), .pl (.int (m : Int)), .un, .un, .un, .un, .un]) (RtI false 1 (StR level last room)) := by
  have cn := cne
  have cn2 := cne2
  unfold stTail
  walk_at "ev"
  refine heads_ok hd hl c hro _ _ _ _ _ _ _ _ _ _ fun c1 hs x14 x15 g1 g2 => ?_
  obtain ⟨q, lq, pq⟩ := pickE hd hl c1 (many := 3) (by decide) (by decide)
  have pq : F__law_pick [.lst (ds.map .int), .lst [.int c1], .int 3] = .ok (.int (q : Int)) (some (.lst [.int (c1 + 1)])) := pq
  obtain ⟨v, hv, ev⟩ : ∃ v : Str, rsB (.str v) 6 0 = true ∧ [D.str "D", D.str "Tree", D.str "E2"][q]? = some (.str v) := by
    match q, lq with
    | 0, _ => exact ⟨_, by decide +kernel, rfl⟩
    | 1, _ => exact ⟨_, by decide +kernel, rfl⟩
    | 2, _ => exact ⟨_, by decide +kernel, rfl⟩
  have g3 := tg_cs hv hk g1
  clear g1
  walk_at "ev"
  exact ⟨0, _, rfl, .cs (.str v) kd hs, rfl, g3, (fun _ z => by cases z), by simp [Tok.ar]; omega, fun _ _ => by simp [Tok.ar], _, rfl⟩
theorem tail_v {ds : List Int} (hd : 0 < ds.length) (hl : ds.length ≤ 1000) {c : Int} {level room m : Nat} (hro : room ≤ 1000) (hlv : level ≤ 1000000) {closed last : Bool} {kd ak : D} {w : Str} (hk : kd ∈ knds) (ha : ak ∈ askL) (hw : w ∈ wdL) (hm : m ≤ room) (hm7 : m ≤ 7) (hml : last = true → 0 < room → 1 ≤ m) {ff : Sl} (h : last = false ∨ room = 0) :
    Wp (stTail [.pl (.lst (ds.map .int)), .io 0 (.lst [.int c]), .pl (.int (level : Int)), .pl (.int (room : Int)), .pl (.bl closed), .pl (.bl last), .pl kd, .pl ak, .pl (.str w), ff, .pl (.str "v"), .pl (.int (m : Int)), .un, .un, .un, .un, .un]) (RtI false 1 (StR level last room)) := by
  have cn := cne
  have cn2 := cne2
  obtain ⟨s, ls, ps⟩ := pickE hd hl (c + 1) (many := 2) (by decide) (by decide)
  have ps : F__law_pick [.lst (ds.map .int), .lst [.int (c + 1)], .int 2] = .ok (.int (s : Int)) (some (.lst [.int ((c + 1) + 1)])) := ps
  obtain ⟨r, lr, pr⟩ := pickE hd hl c (many := 9) (by decide) (by decide)
  have pr : F__law_pick [.lst (ds.map .int), .lst [.int c], .int 9] = .ok (.int (r : Int)) (some (.lst [.int (c + 1)])) := pr
  have hfin : ∀ (v : Nat) (c' : Int), v ≤ level + 5 → StR level last room (.int (v : Int)) (.lst [.int c']) := fun v c' hv => ⟨.num v, rfl, tg_num v, fun n e => by cases e; exact hv, Nat.zero_le _, fun h3 h4 => by
    rcases h with h | h
    · rw [h] at h3; cases h3
    · omega, c', rfl⟩
  unfold stTail
  cases closed with
  | false =>
    obtain ⟨v, hv, ev⟩ : ∃ v : Nat, v ≤ level + 5 ∧ max 0 ((level : Int) - 3 + (r : Int)) = (v : Int) := ⟨level + r - 3, by omega, by omega⟩
    have ef := fun c' => hfin v c' hv
    clear hfin
    walk_at "ev"
    exact ⟨0, _, rfl, ef _⟩
  | true =>
    by_cases h0 : level = 0
    · have h5 : decide (0 < (level : Int)) = false := decide_eq_false (by omega)
      clear hfin h0
      walk_at "ev"
      refine ⟨0, _, rfl, .hp w kd, rfl, tg_hp hk hw, (fun _ z => by cases z), Nat.zero_le _, fun h3 h4 => ?_, _, rfl⟩
      rcases h with h | h
      · rw [h] at h3; cases h3
      · omega
    · obtain ⟨q, lq, pq⟩ := pickE hd hl c (many := level) (by omega) (by omega)
      obtain ⟨v, hv, ev⟩ : ∃ v : Nat, v ≤ level + 5 ∧ [D.int ((level : Int) - 1), D.int (q : Int)][s]? = some (.int (v : Int)) := by
        match s, ls with
        | 0, _ => exact ⟨level - 1, by omega, by simp; omega⟩
        | 1, _ => exact ⟨q, by omega, rfl⟩
      have h5 : decide (0 < (level : Int)) = true := decide_eq_true (by omega)
      have ef := fun c' => hfin v c' hv
      clear hfin
      walk_at "ev"
      exact ⟨0, _, rfl, ef _⟩
theorem tail_ok {ds : List Int} (hd : 0 < ds.length) (hl : ds.length ≤ 1000) {c : Int} {level room m : Nat} (hro : room ≤ 1000) (hlv : level ≤ 1000000) {closed last : Bool} {kd ak : D} {w : Str} (hk : kd ∈ knds) (ha : ak ∈ askL) (hw : w ∈ wdL) (hm : m ≤ room) (hm7 : m ≤ 7) (hml : last = true → 0 < room → 1 ≤ m) {ff : Sl} {ch : Str} (hf : Frm last room ch) :
    Wp (stTail [.pl (.lst (ds.map .int)), .io 0 (.lst [.int c]), .pl (.int (level : Int)), .pl (.int (room : Int)), .pl (.bl closed), .pl (.bl last), .pl kd, .pl ak, .pl (.str w), ff, .pl (.str ch), .pl (.int (m : Int)), .un, .un, .un, .un, .un]) (RtI false 1 (StR level last room)) := by
  cases hf with
  | vv h => exact tail_v hd hl hro hlv hk ha hw hm hm7 hml h
  | hh h => exact tail_h hd hl hro hlv hk ha hw hm hm7 hml h
  | mm => exact tail_m hd hl hro hlv hk ha hw hm hm7 hml
  | ff h => exact tail_f hd hl hro hlv hk ha hw hm hm7 hml h
  | uu h => exact tail_u hd hl hro hlv hk ha hw hm hm7 hml h
  | oo h => exact tail_o hd hl hro hlv hk ha hw hm hm7 hml h
  | kk h => exact tail_k hd hl hro hlv hk ha hw hm hm7 hml h
  | aa h => exact tail_a hd hl hro hlv hk ha hw hm hm7 hml h
  | cc h => exact tail_c hd hl hro hlv hk ha hw hm hm7 hml h
end VM.K15

set_option Elab.async false
set_option linter.all false
set_option autoImplicit false
set_option maxRecDepth 100000
set_option maxHeartbeats 400000
namespace VM.K15
open PySem PySem.Spec PyProof.Rows L2 VM
local macro_rules | `(tactic| walk_at "ev") => `(tactic| simp (disch := first | omega | (simp only [List.length_cons, List.length_nil, List.length_map, List.length_append, List.length_replicate, List.length_set, rngs_length]; omega)) only [*, q_seq, q_skip, q_knx, q_krt, q_kro, q_kbk, q_kct, q_ker, q_kk, q_bind, q_bok, q_ber, q_drop, q_ret, q_reto, q_ifs, q_ct, q_cf, q_asg, q_asgo, q_asgt, q_rok, q_rer, q_c, q_rd, q_mv, q_fz, fz_lst, fz_dct, fz_obj, fz_dlst, fz_ddct, fz_dobj, q_tk, q_2, q_1, q_os, q_b, q_not, q_and, q_or, q_at, q_af, q_ao, q_rt, q_rf, q_ro, q_andv, q_orv, q_avt, q_avf, q_avo, q_rvt, q_rvf, q_rvo, q_ife, q_it, q_if, q_io, q_on, q_oS, q_sl, q_nil, q_cons, q_tup, q_lst, q_call1, q_call, q_f0, q_f1, q_f2, q_f3, q_f4, q_f5, q_f6, q_f7, q_callk, q_frok, q_frer, q_calli, q_mihere, q_micons, q_fri, q_sdo, q_sdi, q_rso, q_rsi, q_app, q_ext, q_ext2, q_put, q_pop, q_with, q_wok, q_for, q_enum, q_items, q_raise, q_gt, q_grt, q_lt, q_le, q_rng1, q_rng2, q_rg1, q_lrg, q_lrgi, q_rg2, q_add, q_adds, q_addl, q_addt, q_cat, q_sub, q_mulr, q_mull, q_div, q_mod, q_p18, q_p12, q_cmplt, q_cmple, q_cmpgt, q_cmpge, q_eqi, q_eqs, q_eqb, q_nei, q_nes, q_isn, q_isnn, q_isb, q_isnb, q_neg, q_dnot, q_lenl, q_lent, q_lenf, q_lens, q_int, q_intb, q_tupl, q_tupt, q_lstl, q_lstt, q_min, q_max, q_ixn, q_ixm, q_ixl, q_ixt, q_ixf, q_rep, q_isi_tt, q_isi_ts, q_isi_ti, q_isi_ss, q_isi_st, q_isi_ii, q_isi_it, q_isi_is, q_isi_bi, q_lfi, q_lfb, q_lfs, q_lfn, q_itt, q_itl, q_itf, q_slt, q_sll, q_sls, tk_row, tk_wd, q_cut, q_cutf, q_cutt, q_try, q_tryo, q_tnx, q_trt, q_tonx, q_tort, w_irt, w_inx, w_iro, w_lnx, w_lct, w_lbk, w_lrt, w_lro, w_ler, w_nnx, w_nrt, w_nro, w_ner, w_rnx, w_rrt, w_rro, w_rer, w_tn, w_tt, w_tt3, ev_ownL, ev_putL, ev_lend, ev_hn, ev_hp, ev_hu, ev_ho, ev_hi, ev_i0, ev_i1, ev_tN, ev_tnil, ev_tcons, ev_tTup, List.getElem?_cons_zero, List.getElem?_cons_succ, List.set_cons_zero, List.set_cons_succ, List.length_cons, List.length_nil, List.length_append, List.length_map, List.length_replicate, List.length_set, rngs_length, List.nil_append, List.cons_append, Int.toNat_natCast, Int.toNat_zero, Int.toNat_one, Int.reduceToNat, List.getElem?_map, Option.map_some, Nat.reduceAdd, Nat.reduceSub, Nat.reduceLT, Nat.reduceLeDiff, Nat.reduceEqDiff, Int.reduceEq, Int.reduceLT, Int.reduceLE, Int.reduceAdd, Int.reduceSub, Int.reduceMul, Int.reduceNeg, List.replicate_succ, List.replicate_zero, Bool.not_true, Bool.not_false, Bool.and_true, Bool.true_and, Bool.and_false, Bool.false_and, Bool.or_true, Bool.true_or, Bool.or_false, Bool.false_or, decide_true, decide_false, if_true, if_false, and_self, true_and, and_true, Nat.sub_self, Nat.add_zero, Nat.zero_add, Bool.true_eq_false, Bool.false_eq_true, ite_true, ite_false, reduceIte, eq_self])
def FrmL (last : Bool) (room : Nat) (f : Str) : Prop := ∀ c ∈ f.cps.toList, Frm last room ⟨#[c]⟩
theorem FrmL.app {last : Bool} {room : Nat} {f g : Str} (h : FrmL last room f) (h' : FrmL last room g) : FrmL last room (f ++ g) := fun c hc => by
  have : (f ++ g).cps.toList = f.cps.toList ++ g.cps.toList := by show (f.cps ++ g.cps).toList = _; simp
  rw [this] at hc
  exact (List.mem_append.mp hc).elim (h c) (h' c)
theorem app_len (f g : Str) : (f ++ g).length = f.length + g.length := by show (f.cps ++ g.cps).size = _; simp [Str.length]
theorem FrmL.ok {last : Bool} {room : Nat} {f : Str} (h : FrmL last room f) (h1 : 0 < f.length) (h2 : f.length ≤ 100) : FOk last room f := ⟨h1, h2, fun n hn => ⟨_, letter_at (z := f) (n := n) (by simpa [Str.length] using hn) (by simp [Str.length] at h2 ⊢; omega), h _ (List.getElem_mem _)⟩⟩
theorem fr_nil (last : Bool) (room : Nat) : FrmL last room "" := fun c hc => by cases hc
theorem fr_v {last : Bool} {room : Nat} (h : last = false ∨ room = 0) : FrmL last room "vvvhm" := by
  have e : ("vvvhm" : Str).cps.toList = [118, 118, 118, 104, 109] := by decide
  intro c hc
  rw [e] at hc
  simp only [List.mem_cons, List.not_mem_nil, or_false] at hc
  rcases hc with rfl | rfl | rfl | rfl | rfl
  · exact .vv h
  · exact .vv h
  · exact .vv h
  · exact .hh h
  · exact .mm
theorem fr_1 {last : Bool} {room : Nat} (h : 1 ≤ room) : FrmL last room "ffamkc" := by
  have e : ("ffamkc" : Str).cps.toList = [102, 102, 97, 109, 107, 99] := by decide
  intro c hc
  rw [e] at hc
  simp only [List.mem_cons, List.not_mem_nil, or_false] at hc
  rcases hc with rfl | rfl | rfl | rfl | rfl | rfl
  · exact .ff (by omega)
  · exact .ff (by omega)
  · exact .aa (by omega)
  · exact .mm
  · exact .kk (by omega)
  · exact .cc (by omega)
theorem fr_2 {last : Bool} {room : Nat} (h : 2 ≤ room) : FrmL last room "ffouoamkc" := by
  have e : ("ffouoamkc" : Str).cps.toList = [102, 102, 111, 117, 111, 97, 109, 107, 99] := by decide
  intro c hc
  rw [e] at hc
  simp only [List.mem_cons, List.not_mem_nil, or_false] at hc
  rcases hc with rfl | rfl | rfl | rfl | rfl | rfl | rfl | rfl | rfl
  · exact .ff (by omega)
  · exact .ff (by omega)
  · exact .oo (by omega)
  · exact .uu (by omega)
  · exact .oo (by omega)
  · exact .aa (by omega)
  · exact .mm
  · exact .kk (by omega)
  · exact .cc (by omega)
theorem fr_3 {last : Bool} {room : Nat} (h : 3 ≤ room) : FrmL last room "ffouoamkckc" := by
  have e : ("ffouoamkckc" : Str).cps.toList = [102, 102, 111, 117, 111, 97, 109, 107, 99, 107, 99] := by decide
  intro c hc
  rw [e] at hc
  simp only [List.mem_cons, List.not_mem_nil, or_false] at hc
  rcases hc with rfl | rfl | rfl | rfl | rfl | rfl | rfl | rfl | rfl | rfl | rfl
  · exact .ff (by omega)
  · exact .ff (by omega)
  · exact .oo (by omega)
  · exact .uu (by omega)
  · exact .oo (by omega)
  · exact .aa (by omega)
  · exact .mm
  · exact .kk (by omega)
  · exact .cc (by omega)
  · exact .kk (by omega)
  · exact .cc (by omega)
theorem add_ok (a b : Str) (h : a.length + b.length ≤ 1000) : dAdd (.str a) (.str b) = some (.str (a ++ b)) := q_adds (a := a) (b := b) (by omega)
theorem many_in {n : Nat} (h : n < 6) : ∃ m : Nat, m ≤ 7 ∧ [D.int 0, D.int 1, D.int 2, D.int 3, D.int 4, D.int 7][n]? = some (.int (m : Int)) := by
  match n, h with
  | 0, _ => exact ⟨0, by decide, rfl⟩
  | 1, _ => exact ⟨1, by decide, rfl⟩
  | 2, _ => exact ⟨2, by decide, rfl⟩
  | 3, _ => exact ⟨3, by decide, rfl⟩
  | 4, _ => exact ⟨4, by decide, rfl⟩
  | 5, _ => exact ⟨7, by decide, rfl⟩
theorem token_go {ds : List Int} (hd : 0 < ds.length) (hl : ds.length ≤ 1000) {c : Int} {level room : Nat} (hro : room ≤ 1000) (hlv : level ≤ 1000000) {closed last : Bool} {k : Nat} {z : Bool} {f1 f2 : Str} (hm : min (3 : Int) (room : Int) = (k : Int)) (hz : (!last || decide ((room : Int) = 0)) = z) (e1 : [D.str "", D.str "vvvhm"][if z = true then 1 else 0]? = some (.str f1)) (e2 : [D.str "", D.str "ffamkc", D.str "ffouoamkc", D.str "ffouoamkckc"][k]? = some (.str f2)) (h1 : FrmL last room f1) (h2 : FrmL last room f2) (l0 : 0 < f1.length + f2.length) (l1 : f1.length ≤ 50) (l2 : f2.length ≤ 50) :
    Wp (m__law_token [.pl (.lst (ds.map .int)), .io 0 (.lst [.int c]), .pl (.int (level : Int)), .pl (.int (room : Int)), .pl (.bl closed), .pl (.bl last), .un, .un, .un, .un, .un, .un, .un, .un, .un, .un, .un]) (RtI false 1 (StR level last room)) := by
  rw [token_eq]
  obtain ⟨n1, ln1, p1⟩ := pickE hd hl c (many := 6) (by decide) (by decide)
  have p1 : F__law_pick [.lst (ds.map .int), .lst [.int c], .int 6] = .ok (.int (n1 : Int)) (some (.lst [.int (c + 1)])) := p1
  obtain ⟨n2, ln2, p2⟩ := pickE hd hl (c + 1) (many := 5) (by decide) (by decide)
  have p2 : F__law_pick [.lst (ds.map .int), .lst [.int (c + 1)], .int 5] = .ok (.int (n2 : Int)) (some (.lst [.int (c + 1 + 1)])) := p2
  obtain ⟨n3, ln3, p3⟩ := pickE hd hl (c + 1 + 1) (many := 5) (by decide) (by decide)
  have p3 : F__law_pick [.lst (ds.map .int), .lst [.int (c + 1 + 1)], .int 5] = .ok (.int (n3 : Int)) (some (.lst [.int (c + 1 + 1 + 1)])) := p3
  obtain ⟨kd, hk, ek⟩ := at_mem (xs := knds) (n := n1) ln1
  obtain ⟨ak, ha, ea⟩ := at_mem (xs := askL) (n := n2) ln2
  obtain ⟨w, hw, ew⟩ := at_mem (xs := wdL) (n := n3) ln3
  have ew : [D.str "c", D.str "leaf", D.str "h", D.str "put2", D.str "k"][n3]? = some (.str w) := by
    show (wdL.map D.str)[n3]? = _
    rw [List.getElem?_map, ew]; rfl
  unfold knds at ek
  unfold askL at ea
  have a3 := add_ok f1 f2 (by omega)
  have hF := FrmL.ok (h1.app h2) (by rw [app_len]; omega) (by rw [app_len]; omega)
  have hfl := hF.pos
  have hfl2 := hF.le
  have hlen : dLen [.str (f1 ++ f2)] = some (.int ((f1 ++ f2).length : Int)) := q_lens _ (by omega)
  obtain ⟨n4, ln4, p4⟩ := pickE hd hl (c + 1 + 1 + 1) (many := (f1 ++ f2).length) hfl (by omega)
  obtain ⟨ch, hch, hfr⟩ := hF.at_ n4 ln4
  obtain ⟨n5, ln5, p5⟩ := pickE hd hl (c + 1 + 1 + 1 + 1) (many := 6) (by decide) (by decide)
  have p5 : F__law_pick [.lst (ds.map .int), .lst [.int (c + 1 + 1 + 1 + 1)], .int 6] = .ok (.int (n5 : Int)) (some (.lst [.int (c + 1 + 1 + 1 + 1 + 1)])) := p5
  obtain ⟨x, hx, ex⟩ := many_in ln5
  obtain ⟨m0, hm0, em0⟩ : ∃ m : Nat, (m ≤ room ∧ m ≤ 7) ∧ min (room : Int) (x : Int) = (m : Int) := ⟨min room x, by omega, by omega⟩
  obtain ⟨m1, hm1, em1⟩ : ∃ m : Nat, (m ≤ room ∧ m ≤ 7 ∧ (0 < room → 1 ≤ m)) ∧ max (min 1 (room : Int)) (m0 : Int) = (m : Int) := ⟨max (min 1 room) m0, by omega, by omega⟩
  have t0 : last = false → Wp (stTail [.pl (.lst (ds.map .int)), .io 0 (.lst [.int (c + 1 + 1 + 1 + 1 + 1)]), .pl (.int (level : Int)), .pl (.int (room : Int)), .pl (.bl closed), .pl (.bl last), .pl kd, .pl ak, .pl (.str w), .pl (.str (f1 ++ f2)), .pl (.str ch), .pl (.int (m0 : Int)), .un, .un, .un, .un, .un]) (RtI false 1 (StR level last room)) := fun h => tail_ok hd hl hro hlv hk ha hw hm0.1 hm0.2 (fun h' => by rw [h] at h'; cases h') hfr
  have t1 : last = true → Wp (stTail [.pl (.lst (ds.map .int)), .io 0 (.lst [.int (c + 1 + 1 + 1 + 1 + 1)]), .pl (.int (level : Int)), .pl (.int (room : Int)), .pl (.bl closed), .pl (.bl last), .pl kd, .pl ak, .pl (.str w), .pl (.str (f1 ++ f2)), .pl (.str ch), .pl (.int (m1 : Int)), .un, .un, .un, .un, .un]) (RtI false 1 (StR level last room)) := fun h => tail_ok hd hl hro hlv hk ha hw hm1.1 hm1.2.1 (fun _ => hm1.2.2) hfr
  clear hF hfr hx hm0 hm1 h1 h2 hfl ha hk hw ln1 ln2 ln3 ln4 ln5
  generalize (f1 ++ f2).length = fl at *
  generalize f1 ++ f2 = ff at *
  cases last with
  | false =>
    have t0 := t0 rfl
    clear t1
    obtain rfl : z = true := by rw [← hz]; rfl
    have e1 : [D.str "", D.str "vvvhm"][1]? = some (.str f1) := e1
    have e1' : (D.str "vvvhm") = .str f1 := by simpa using e1
    rw [← e1'] at a3
    cases e1'
    walk_at "ev"
  | true =>
    have t1 := t1 rfl
    clear t0
    have hz : decide ((room : Int) = 0) = z := by simpa using hz
    cases z with
    | true =>
      have e1' : (D.str "vvvhm") = .str f1 := by simpa using e1
      cases e1'
      walk_at "ev"
    | false =>
      have e1' : (D.str "") = .str f1 := by simpa using e1
      cases e1'
      walk_at "ev"
theorem token_ok {ds : List Int} (hd : 0 < ds.length) (hl : ds.length ≤ 1000) (c : Int) {level room : Nat} (hro : room ≤ 1000) (hlv : level ≤ 1000000) (closed last : Bool) :
    ∃ t : Tok, ∃ c' : Int, F__law_token [.lst (ds.map .int), .lst [.int c], .int (level : Int), .int (room : Int), .bl closed, .bl last] = .ok t.d (some (.lst [.int c'])) ∧ TG t ∧ (∀ n, t = .num n → n ≤ level + 5) ∧ t.ar ≤ room ∧ (last = true → 0 < room → 1 ≤ t.ar) := by
  have h : CmpI (F__law_token [.lst (ds.map .int), .lst [.int c], .int (level : Int), .int (room : Int), .bl closed, .bl last]) (StR level last room) := by
    refine cmpI_of ?_
    show Wp (m__law_token [.pl (.lst (ds.map .int)), .io 0 (.lst [.int c]), .pl (.int (level : Int)), .pl (.int (room : Int)), .pl (.bl closed), .pl (.bl last), .un, .un, .un, .un, .un, .un, .un, .un, .un, .un, .un]) (RtI false 1 (StR level last room))
    have hv : ∀ z, (!last || decide ((room : Int) = 0)) = z → ∃ f1, [D.str "", D.str "vvvhm"][if z = true then 1 else 0]? = some (.str f1) ∧ FrmL last room f1 ∧ f1.length ≤ 50 ∧ ((0 < room → last = true) → True) ∧ (room = 0 → 0 < f1.length) := fun z hz => by
      cases z with
      | true =>
        refine ⟨"vvvhm", rfl, fr_v ?_, by decide, fun _ => trivial, fun _ => by decide⟩
        simp at hz
        rcases hz with h | h
        · exact .inl h
        · exact .inr (by omega)
      | false =>
        refine ⟨"", rfl, fr_nil _ _, by decide, fun _ => trivial, fun h => ?_⟩
        subst h; simp at hz
    obtain ⟨f1, e1, h1, l1, _, l0⟩ := hv _ rfl
    have L1 : ("ffamkc" : Str).length = 6 := by decide
    have L2 : ("ffouoamkc" : Str).length = 9 := by decide
    have L3 : ("ffouoamkckc" : Str).length = 11 := by decide
    match room, hro with
    | 0, hro => exact token_go hd hl hro hlv (k := 0) (by decide) rfl e1 rfl h1 (fr_nil _ _) (by have := l0 rfl; omega) l1 (by decide)
    | 1, hro => exact token_go hd hl hro hlv (k := 1) (by decide) rfl e1 rfl h1 (fr_1 (by omega)) (by rw [L1]; omega) l1 (by decide)
    | 2, hro => exact token_go hd hl hro hlv (k := 2) (by decide) rfl e1 rfl h1 (fr_2 (by omega)) (by rw [L2]; omega) l1 (by decide)
    | r + 3, hro => exact token_go hd hl hro hlv (k := 3) (by omega) rfl e1 rfl h1 (fr_3 (by omega)) (by rw [L3]; omega) l1 (by decide)
  obtain ⟨d, o, h1, t, rfl, h2, h3, h4, h5, c', rfl⟩ := h
  exact ⟨t, c', h1, h2, h3, h4, h5⟩
end VM.K15

set_option Elab.async false
set_option linter.all false
set_option autoImplicit false
set_option maxRecDepth 100000
set_option maxHeartbeats 400000
namespace VM.K15
open PySem PySem.Spec PyProof.Rows L2 VM
local macro_rules | `(tactic| walk_at "ev") => `(tactic| simp (disch := first | omega | (simp only [List.length_cons, List.length_nil, List.length_map, List.length_append, List.length_replicate, List.length_set, rngs_length]; omega)) only [*, q_seq, q_skip, q_knx, q_krt, q_kro, q_kbk, q_kct, q_ker, q_kk, q_bind, q_bok, q_ber, q_drop, q_ret, q_reto, q_ifs, q_ct, q_cf, q_asg, q_asgo, q_asgt, q_rok, q_rer, q_c, q_rd, q_mv, q_fz, fz_lst, fz_dct, fz_obj, fz_dlst, fz_ddct, fz_dobj, q_tk, q_2, q_1, q_os, q_b, q_not, q_and, q_or, q_at, q_af, q_ao, q_rt, q_rf, q_ro, q_andv, q_orv, q_avt, q_avf, q_avo, q_rvt, q_rvf, q_rvo, q_ife, q_it, q_if, q_io, q_on, q_oS, q_sl, q_nil, q_cons, q_tup, q_lst, q_call1, q_call, q_f0, q_f1, q_f2, q_f3, q_f4, q_f5, q_f6, q_f7, q_callk, q_frok, q_frer, q_calli, q_mihere, q_micons, q_fri, q_sdo, q_sdi, q_rso, q_rsi, q_app, q_ext, q_ext2, q_put, q_pop, q_with, q_wok, q_for, q_enum, q_items, q_raise, q_gt, q_grt, q_lt, q_le, q_rng1, q_rng2, q_rg1, q_lrg, q_lrgi, q_rg2, q_add, q_adds, q_addl, q_addt, q_cat, q_sub, q_mulr, q_mull, q_div, q_mod, q_p18, q_p12, q_cmplt, q_cmple, q_cmpgt, q_cmpge, q_eqi, q_eqs, q_eqb, q_nei, q_nes, q_isn, q_isnn, q_isb, q_isnb, q_neg, q_dnot, q_lenl, q_lent, q_lenf, q_lens, q_int, q_intb, q_tupl, q_tupt, q_lstl, q_lstt, q_min, q_max, q_ixn, q_ixm, q_ixl, q_ixt, q_ixf, q_rep, q_isi_tt, q_isi_ts, q_isi_ti, q_isi_ss, q_isi_st, q_isi_ii, q_isi_it, q_isi_is, q_isi_bi, q_lfi, q_lfb, q_lfs, q_lfn, q_itt, q_itl, q_itf, q_slt, q_sll, q_sls, tk_row, tk_wd, q_cut, q_cutf, q_cutt, q_try, q_tryo, q_tnx, q_trt, q_tonx, q_tort, w_irt, w_inx, w_iro, w_lnx, w_lct, w_lbk, w_lrt, w_lro, w_ler, w_nnx, w_nrt, w_nro, w_ner, w_rnx, w_rrt, w_rro, w_rer, w_tn, w_tt, w_tt3, ev_ownL, ev_putL, ev_lend, ev_hn, ev_hp, ev_hu, ev_ho, ev_hi, ev_i0, ev_i1, ev_tN, ev_tnil, ev_tcons, ev_tTup, List.getElem?_cons_zero, List.getElem?_cons_succ, List.set_cons_zero, List.set_cons_succ, List.length_cons, List.length_nil, List.length_append, List.length_map, List.length_replicate, List.length_set, rngs_length, List.nil_append, List.cons_append, Int.toNat_natCast, Int.toNat_zero, Int.toNat_one, Int.reduceToNat, List.getElem?_map, Option.map_some, Nat.reduceAdd, Nat.reduceSub, Nat.reduceLT, Nat.reduceLeDiff, Nat.reduceEqDiff, Int.reduceEq, Int.reduceLT, Int.reduceLE, Int.reduceAdd, Int.reduceSub, Int.reduceMul, Int.reduceNeg, List.replicate_succ, List.replicate_zero, Bool.not_true, Bool.not_false, Bool.and_true, Bool.true_and, Bool.and_false, Bool.false_and, Bool.or_true, Bool.true_or, Bool.or_false, Bool.false_or, decide_true, decide_false, if_true, if_false, and_self, true_and, and_true, Nat.sub_self, Nat.add_zero, Nat.zero_add, Bool.true_eq_false, Bool.false_eq_true, ite_true, ite_false, reduceIte, eq_self])
theorem lbinds_ok {t : Tok} (h : HOk t) {k : Nat} (hk : k < t.ar) : F__law_binds [t.d, .int (k : Int)] = .ok (.int (bd t k : Int)) none := lbound_ok h hk
/-- the levels that a token lays on the stack, the last part first -/
def newL (t : Tok) (l : Nat) : List Nat := (List.range t.ar).map fun k => l + bd t (t.ar - 1 - k)
theorem any_ok {ds : List Int} (hd : 0 < ds.length) (hl : ds.length ≤ 1000) (c : Int) {size : Nat} (h1 : 1 ≤ size) (h2 : size ≤ 700) (closed : Bool) :
    ∃ ts : List Tok, ∃ c' : Int, F__law_any [.lst (ds.map .int), .lst [.int c], .int (size : Int), .bl closed] = .ok (tsd ts) (some (.lst [.int c'])) ∧ rn 1 ts = some 0 ∧ ts.length = size ∧ (∀ t ∈ ts, TG t) ∧ ∀ n, Tok.num n ∈ ts → n ≤ 20000 := by
  have h : CmpI (F__law_any [.lst (ds.map .int), .lst [.int c], .int (size : Int), .bl closed]) (fun d o => ∃ ts : List Tok, ∃ c' : Int, d = tsd ts ∧ o = .lst [.int c'] ∧ rn 1 ts = some 0 ∧ ts.length = size ∧ (∀ t ∈ ts, TG t) ∧ ∀ n, Tok.num n ∈ ts → n ≤ 20000) := by
    refine cmpI_of ?_
    show Wp (m__law_any [.pl (.lst (ds.map .int)), .io 0 (.lst [.int c]), .pl (.int (size : Int)), .pl (.bl closed), .un, .un, .un, .un, .un, .un, .un]) _
    unfold m__law_any
    walk_at "ev"
    unfold f__law_any_1
    walk_at "ev"
    refine w_for (Y := List Tok × List Nat × Int × Sl × Sl × Sl × Sl) (fun y => [.pl (.lst (ds.map .int)), .io 0 (.lst [.int y.2.2.1]), .pl (.int (size : Int)), .pl (.bl closed), .ow (.lst (y.1.map Tok.d)), .ow (.lst (iN y.2.1)), y.2.2.2.1, y.2.2.2.2.1, y.2.2.2.2.2.1, y.2.2.2.2.2.2, .un]) (fun j y => (y.1.length = j ∧ rn 1 y.1 = some y.2.1.length ∧ j + y.2.1.length ≤ size ∧ (j < size → 1 ≤ y.2.1.length) ∧ (∀ t ∈ y.1, TG t) ∧ (∀ n, Tok.num n ∈ y.1 → n ≤ 20000) ∧ ∀ l ∈ y.2.1, l ≤ 16 * j) ∧ (∀ r, hideS (y.2.2.2.1 :: r) = y.2.2.2.1 :: hideS r) ∧ (∀ r, hideS (y.2.2.2.2.1 :: r) = y.2.2.2.2.1 :: hideS r) ∧ (∀ r, hideS (y.2.2.2.2.2.1 :: r) = y.2.2.2.2.2.1 :: hideS r) ∧ ∀ r, hideS (y.2.2.2.2.2.2 :: r) = y.2.2.2.2.2.2 :: hideS r) ([], [0], c, .un, .un, .un, .un) (by simp) ⟨⟨rfl, rfl, by simp; omega, fun _ => Nat.le_refl _, by simp, by simp, by simp⟩, fun _ => rfl, fun _ => rfl, fun _ => rfl, fun _ => rfl⟩ (fun j d y hd' hy => ?_) fun y hy => ?_
    · obtain ⟨ts, L, c1, y6, y7, y8, y9⟩ := y
      obtain ⟨⟨g1, g2, g3, g4, g5, g6, g7⟩, p6, p7, p8, p9⟩ := hy
      dsimp only at g1 g2 g3 g4 g5 g6 g7 p6 p7 p8 p9
      obtain ⟨hj, rfl⟩ := nget hd'
      have hLk := g4 hj
      obtain ⟨L', l, rfl⟩ : ∃ L' l, L = L' ++ [l] := ⟨L.dropLast, L.getLast (by intro e; subst e; simp at hLk), (List.dropLast_concat_getLast _).symm⟩
      have hll : l ≤ 16 * j := g7 l (by simp)
      have hlen : (L' ++ [l]).length = L'.length + 1 := by simp
      rw [hlen] at g2 g3
      obtain ⟨room, hroom, hro⟩ : ∃ room : Nat, (size : Int) - (j : Int) - 1 - (L'.length : Int) = (room : Int) ∧ room + j + 1 + L'.length = size := ⟨size - j - 1 - L'.length, by omega, by omega⟩
      obtain ⟨t, c2, e1, e2, e2b, e3, e4⟩ := token_ok hd hl c1 (level := l) (room := room) (by omega) (by omega) closed (decide (L'.length = 0))
      have e5 := larity_ok t
      have e6 : decide ((L'.length : Int) = 0) = decide (L'.length = 0) := by by_cases h : L'.length = 0 <;> simp [h]
      have e7 : rn 1 (ts ++ [t]) = some (L'.length + t.ar) := by rw [rn_app, g2]; rfl
      have e8 : (j + 1 < size → 1 ≤ L'.length + t.ar) := fun h => by
        by_cases hh : L'.length = 0
        · have := e4 (decide_eq_true hh) (by omega)
          omega
        · omega
      have e9 : ∀ u ∈ ts ++ [t], TG u := fun u hu => (List.mem_append.mp hu).elim (g5 u) fun hu => by simp at hu; subst hu; exact e2
      have e10 : ∀ n, Tok.num n ∈ ts ++ [t] → n ≤ 20000 := fun n hu => (List.mem_append.mp hu).elim (g6 n) fun hu => by
        simp at hu
        have := e2b n hu.symm
        omega
      have e11 : ∀ x ∈ L' ++ newL t l, x ≤ 16 * (j + 1) := fun x hx => (List.mem_append.mp hx).elim (fun hx => by have := g7 x (by simp [hx]); omega) fun hx => by
        unfold newL at hx
        obtain ⟨k, _, rfl⟩ := List.mem_map.mp hx
        have := e2.b (t.ar - 1 - k)
        omega
      have e12 : (newL t l).length = t.ar := by simp [newL]
      have hpop : iN (L' ++ [l]) = iN L' ++ [.int (l : Int)] := by simp [iN]
      have hpop2 : (iN L' ++ [D.int (l : Int)]).dropLast = iN L' := by simp
      have hpop3 : (iN L' ++ [D.int (l : Int)])[L'.length + 1 - 1]? = some (.int (l : Int)) := by simp
      have hlc : ∀ (x0 x1 x2 x3 x4 x5 x6 : Sl), mLc [10] (mRng1 (mCons (mRd 9) mNil)) (mtN 10) mYes (m2 dAdd (mRd 7) (mCall 2 F__law_binds [] (mCons (mRd 8) (mCons (m2 (dI2 cSub) (m2 (dI2 cSub) (mRd 9) (mC (.int 1))) (mRd 10)) mNil)))) [x0, x1, x2, x3, x4, x5, x6, .pl (.int (l : Int)), .pl t.d, .pl (.int (t.ar : Int)), .un] = .ok (.lst (iN (newL t l))) [x0, x1, x2, x3, x4, x5, x6, .pl (.int (l : Int)), .pl t.d, .pl (.int (t.ar : Int)), .un] := fun x0 x1 x2 x3 x4 x5 x6 => by
        have har : t.ar ≤ 1000 := by omega
        have hh := e2.h
        have := lc_map (own := [10]) (mi := mRng1 (mCons (mRd 9) mNil)) (t := mtN 10) (me := m2 dAdd (mRd 7) (mCall 2 F__law_binds [] (mCons (mRd 8) (mCons (m2 (dI2 cSub) (m2 (dI2 cSub) (mRd 9) (mC (.int 1))) (mRd 10)) mNil)))) (s := [x0, x1, x2, x3, x4, x5, x6, .pl (.int (l : Int)), .pl t.d, .pl (.int (t.ar : Int)), .un]) (List.range t.ar) (fun k => D.int (k : Int)) (fun k => D.int ((l + bd t (t.ar - 1 - k) : Nat) : Int)) (by
            have : (List.range t.ar).map (fun k : Nat => D.int (k : Int)) = rngs 0 t.ar := by simp [rngs]
            rw [this]
            clear e1 e2 e2b e3 e4 e5 e7 e8 e9 e10 e11 e12 hpop hpop2 hpop3 g5 g6 g7 hd'
            walk_at "ev") rfl (by simp; omega) (fun k hk => by
          have hk := List.mem_range.mp hk
          have hb := lbinds_ok hh (k := t.ar - 1 - k) (by omega)
          have hb2 : (t.ar : Int) - 1 - (k : Int) = ((t.ar - 1 - k : Nat) : Int) := by omega
          refine ⟨[x0, x1, x2, x3, x4, x5, x6, .pl (.int (l : Int)), .pl t.d, .pl (.int (t.ar : Int)), .pl (.int (k : Int))], rfl, ?_, rfl⟩
          clear e1 e2 e2b e3 e4 e5 e7 e8 e9 e10 e11 e12 hpop hpop2 hpop3 g5 g6 g7 hd' hk
          generalize t.ar - 1 - k = kk at *
          have hb3 : (l : Int) + (bd t kk : Int) = ((l + bd t kk : Nat) : Int) := by omega
          walk_at "ev")
        rw [this]
        simp [iN, newL]
      have hfin : iN L' ++ iN (newL t l) = iN (L' ++ newL t l) := by simp [iN]
      have hil : (iN L').length = L'.length := by simp [iN]
      have hil2 : (iN (newL t l)).length = t.ar := by simp [iN, e12]
      have hL'l : L'.length ≤ 1000 := by omega
      have har : t.ar ≤ 1000 := by omega
      clear g2 g4 g5 g6 g7 e2 e2b e4 hd'
      generalize hNN : newL t l = NN at *
      generalize decide (L'.length = 0) = bb at *
      rw [w_tn]
      show Wp (b__law_any_0 [.pl (.lst (ds.map .int)), .io 0 (.lst [.int c1]), .pl (.int (size : Int)), .pl (.bl closed), .ow (.lst (ts.map Tok.d)), .ow (.lst (iN (L' ++ [l]))), .pl (.int (j : Int)), y7, y8, y9, .un]) _
      rw [hpop]
      clear hpop
      unfold b__law_any_0
      generalize iN L' = iL at *
      generalize iN NN = iNN at *
      walk_at "ev"
      exact ⟨(ts ++ [t], L' ++ NN, c2, .pl (.int (j : Int)), .pl (.int (l : Int)), .pl t.d, .pl (.int (t.ar : Int))), by simp [hfin], ⟨by simp [g1], by simp [e7, e12], by simp [e12]; omega, fun h => by simp [e12]; exact e8 h, e9, e10, e11⟩, fun _ => rfl, fun _ => rfl, fun _ => rfl, fun _ => rfl⟩
    · obtain ⟨ts, L, c1, y6, y7, y8, y9⟩ := y
      obtain ⟨⟨g1, g2, g3, g4, g5, g6, g7⟩, p6, p7, p8, p9⟩ := hy
      dsimp only at g1 g2 g3 g4 g5 g6 g7 p6 p7 p8 p9
      rw [rngs_length] at g1 g3
      have hL : L.length = 0 := by omega
      rw [hL] at g2
      clear g7
      walk_at "ev"
      exact ⟨0, _, rfl, ts, c1, rfl, rfl, g2, g1, g5, g6⟩
  obtain ⟨d, o, h1, ts, c', rfl, rfl, h2⟩ := h
  exact ⟨ts, c', h1, h2⟩
end VM.K15

set_option Elab.async false
set_option linter.all false
set_option autoImplicit false
set_option maxRecDepth 100000
set_option maxHeartbeats 400000
namespace VM.K15
open PySem PySem.Spec PyProof.Rows L2 VM
local macro_rules | `(tactic| walk_at "ev") => `(tactic| simp (disch := first | omega | (simp only [List.length_cons, List.length_nil, List.length_map, List.length_append, List.length_replicate, List.length_set, rngs_length]; omega)) only [*, q_seq, q_skip, q_knx, q_krt, q_kro, q_kbk, q_kct, q_ker, q_kk, q_bind, q_bok, q_ber, q_drop, q_ret, q_reto, q_ifs, q_ct, q_cf, q_asg, q_asgo, q_asgt, q_rok, q_rer, q_c, q_rd, q_mv, q_fz, fz_lst, fz_dct, fz_obj, fz_dlst, fz_ddct, fz_dobj, q_tk, q_2, q_1, q_os, q_b, q_not, q_and, q_or, q_at, q_af, q_ao, q_rt, q_rf, q_ro, q_andv, q_orv, q_avt, q_avf, q_avo, q_rvt, q_rvf, q_rvo, q_ife, q_it, q_if, q_io, q_on, q_oS, q_sl, q_nil, q_cons, q_tup, q_lst, q_call1, q_call, q_f0, q_f1, q_f2, q_f3, q_f4, q_f5, q_f6, q_f7, q_callk, q_frok, q_frer, q_calli, q_mihere, q_micons, q_fri, q_sdo, q_sdi, q_rso, q_rsi, q_app, q_ext, q_ext2, q_put, q_pop, q_with, q_wok, q_for, q_enum, q_items, q_raise, q_gt, q_grt, q_lt, q_le, q_rng1, q_rng2, q_rg1, q_lrg, q_lrgi, q_rg2, q_add, q_adds, q_addl, q_addt, q_cat, q_sub, q_mulr, q_mull, q_div, q_mod, q_p18, q_p12, q_cmplt, q_cmple, q_cmpgt, q_cmpge, q_eqi, q_eqs, q_eqb, q_nei, q_nes, q_isn, q_isnn, q_isb, q_isnb, q_neg, q_dnot, q_lenl, q_lent, q_lenf, q_lens, q_int, q_intb, q_tupl, q_tupt, q_lstl, q_lstt, q_min, q_max, q_ixn, q_ixm, q_ixl, q_ixt, q_ixf, q_rep, q_isi_tt, q_isi_ts, q_isi_ti, q_isi_ss, q_isi_st, q_isi_ii, q_isi_it, q_isi_is, q_isi_bi, q_lfi, q_lfb, q_lfs, q_lfn, q_itt, q_itl, q_itf, q_slt, q_sll, q_sls, tk_row, tk_wd, q_cut, q_cutf, q_cutt, q_try, q_tryo, q_tnx, q_trt, q_tonx, q_tort, w_irt, w_inx, w_iro, w_lnx, w_lct, w_lbk, w_lrt, w_lro, w_ler, w_nnx, w_nrt, w_nro, w_ner, w_rnx, w_rrt, w_rro, w_rer, w_tn, w_tt, w_tt3, ev_ownL, ev_putL, ev_lend, ev_hn, ev_hp, ev_hu, ev_ho, ev_hi, ev_i0, ev_i1, ev_tN, ev_tnil, ev_tcons, ev_tTup, List.getElem?_cons_zero, List.getElem?_cons_succ, List.set_cons_zero, List.set_cons_succ, List.length_cons, List.length_nil, List.length_append, List.length_map, List.length_replicate, List.length_set, rngs_length, List.nil_append, List.cons_append, Int.toNat_natCast, Int.toNat_zero, Int.toNat_one, Int.reduceToNat, List.getElem?_map, Option.map_some, Nat.reduceAdd, Nat.reduceSub, Nat.reduceLT, Nat.reduceLeDiff, Nat.reduceEqDiff, Int.reduceEq, Int.reduceLT, Int.reduceLE, Int.reduceAdd, Int.reduceSub, Int.reduceMul, Int.reduceNeg, List.replicate_succ, List.replicate_zero, Bool.not_true, Bool.not_false, Bool.and_true, Bool.true_and, Bool.and_false, Bool.false_and, Bool.or_true, Bool.true_or, Bool.or_false, Bool.false_or, decide_true, decide_false, if_true, if_false, and_self, true_and, and_true, Nat.sub_self, Nat.add_zero, Nat.zero_add, Bool.true_eq_false, Bool.false_eq_true, ite_true, ite_false, reduceIte, eq_self])
/-! ### the walk from the left to the right -/
def En (ts : List Tok) (a : Nat) : Nat := a + szt ts a
theorem lv_kid : ∀ (ts : List Tok) (st : List Nat), rn st.length ts = some 0 → ∀ m l, st[m]? = some l → (lvF st ts)[((fsz ts).take m).sum]? = some l
  | [], st, h, m, l, hm => by
    cases st with
    | nil => simp at hm
    | cons a st => simp [rn] at h
  | t :: r, [], h, m, l, hm => by simp at hm
  | t :: r, a :: st, h, 0, l, hm => by simp at hm; subst hm; simp [lvF]
  | t :: r, a :: st, h, m + 1, l, hm => by
    have h2 : rn (chl t a ++ st).length r = some 0 := by
      have h : rn (st.length + t.ar) r = some 0 := h
      rw [List.length_append, List.length_map, List.length_range, Nat.add_comm]; exact h
    have hc : (chl t a ++ st)[t.ar + m]? = some l := by
      rw [List.getElem?_append_right (by simp)]
      simpa using hm
    have := lv_kid r (chl t a ++ st) h2 (t.ar + m) l hc
    rw [fs_cons]
    simpa [lvF] using this
theorem lvF_drop : ∀ (ts : List Tok) (st : List Nat), rn st.length ts = some 0 → ∀ j, j ≤ ts.length → ∃ st', (lvF st ts).drop j = lvF st' (ts.drop j) ∧ rn st'.length (ts.drop j) = some 0
  | ts, st, h, 0, _ => ⟨st, by simp, by simpa using h⟩
  | [], st, h, j + 1, hj => by simp at hj
  | t :: r, [], h, j + 1, hj => by simp [rn] at h
  | t :: r, a :: st, h, j + 1, hj => by
    have h2 : rn (chl t a ++ st).length r = some 0 := by
      have h : rn (st.length + t.ar) r = some 0 := h
      rw [List.length_append, List.length_map, List.length_range, Nat.add_comm]; exact h
    obtain ⟨st', h3, h4⟩ := lvF_drop r (chl t a ++ st) h2 j (by simpa using hj)
    exact ⟨st', by simpa [lvF] using h3, by simpa using h4⟩
/-- the level of a token's part -/
theorem lv_part {ts : List Tok} (h : rn 1 ts = some 0) {P k l : Nat} {t : Tok} (ht : ts[P]? = some t) (hk : k < t.ar) (hl : (lvF [0] ts)[P]? = some l) : (lvF [0] ts)[sta ts P k]? = some (l + bd t k) := by
  obtain ⟨hP, e⟩ := List.getElem?_eq_some_iff.mp ht
  obtain ⟨st, h1, h2⟩ := lvF_drop ts [0] h P (by omega)
  rw [List.drop_eq_getElem_cons hP, e] at h1 h2
  cases st with
  | nil => simp [rn] at h2
  | cons a st =>
    have ha : a = l := by
      have h3 : ((lvF [0] ts).drop P)[0]? = some l := by rw [List.getElem?_drop]; simpa using hl
      rw [h1] at h3
      simpa [lvF] using h3
    subst ha
    have h4 : rn (chl t a ++ st).length (ts.drop (P + 1)) = some 0 := by
      have h2 : rn (st.length + t.ar) (ts.drop (P + 1)) = some 0 := h2
      rw [List.length_append, List.length_map, List.length_range, Nat.add_comm]; exact h2
    have h5 := lv_kid (ts.drop (P + 1)) (chl t a ++ st) h4 k (a + bd t k) (by
      rw [List.getElem?_append_left (by simpa using hk)]
      simp [hk])
    have h6 : (lvF [0] ts)[sta ts P k]? = ((lvF [0] ts).drop P)[1 + ((fsz (ts.drop (P + 1))).take k).sum]? := by
      rw [List.getElem?_drop]; unfold sta; congr 1; omega
    rw [h6, h1]
    show (a :: lvF (chl t a ++ st) (ts.drop (P + 1)))[1 + ((fsz (ts.drop (P + 1))).take k).sum]? = _
    generalize ((fsz (ts.drop (P + 1))).take k).sum = x at *
    rw [Nat.add_comm 1 x, List.getElem?_cons_succ]
    exact h5
/-- the part of a token that holds a place -/
theorem locate {ts : List Tok} (h : rn 1 ts = some 0) {a i : Nat} {t : Tok} (ht : ts[a]? = some t) (h1 : a < i) (h2 : i < En ts a) : ∃ k, k < t.ar ∧ sta ts a k ≤ i ∧ i < sta ts a (k + 1) := by
  have hE : En ts a = sta ts a t.ar := szt_at ht
  rw [hE] at h2
  have key : ∀ n, n ≤ t.ar → i < sta ts a n → ∃ k, k < n ∧ sta ts a k ≤ i ∧ i < sta ts a (k + 1) := by
    intro n
    induction n with
    | zero => intro _ h; rw [sta_zero] at h; omega
    | succ n ih =>
      intro hn h
      by_cases h3 : sta ts a n ≤ i
      · exact ⟨n, by omega, h3, h⟩
      · obtain ⟨k, h4, h5, h6⟩ := ih (by omega) (by omega)
        exact ⟨k, by omega, h5, h6⟩
  obtain ⟨k, h3, h4, h5⟩ := key t.ar (Nat.le_refl _) h2
  exact ⟨k, h3, h4, h5⟩
theorem En_sta {ts : List Tok} (h : rn 1 ts = some 0) {a k : Nat} {t : Tok} (ht : ts[a]? = some t) (hk : k < t.ar) : En ts (sta ts a k) = sta ts a (k + 1) := by
  obtain ⟨_, _, h3⟩ := sta_step h ht hk
  exact h3.symm
theorem En_gt {ts : List Tok} (h : rn 1 ts = some 0) {a : Nat} (ha : a < ts.length) : a < En ts a ∧ En ts a ≤ ts.length := by
  obtain ⟨t, ht, _⟩ := dr ha
  have hE : En ts a = sta ts a t.ar := szt_at ht
  refine ⟨?_, by rw [hE]; exact sta_le a t.ar ha⟩
  rw [hE]; unfold sta; omega
theorem En_zero {ts : List Tok} (h : rn 1 ts = some 0) : En ts 0 = ts.length := by
  have h1 := rn_fs ts 1 h
  have h2 := fs_sum ts
  unfold En szt
  cases e : fsz ts with
  | nil => rw [e] at h1; simp at h1
  | cons x r =>
    rw [e] at h1 h2
    have hr : r = [] := by simpa using h1
    subst hr
    simp [e] at h2 ⊢; omega
/-- a place within another one's program ends with it or ahead of it -/
theorem En_nest {ts : List Tok} (h : rn 1 ts = some 0) : ∀ (n a b : Nat), En ts a - a ≤ n → a < ts.length → a < b → b < En ts a → En ts b ≤ En ts a := by
  intro n
  induction n with
  | zero => intro a b h1 h2 h3 h4; omega
  | succ n ih =>
    intro a b h1 h2 h3 h4
    obtain ⟨t, ht, _⟩ := dr h2
    obtain ⟨k, k1, k2, k3⟩ := locate h ht h3 h4
    obtain ⟨s1, s2, s3⟩ := sta_step h ht k1
    have e1 := En_sta h ht k1
    have hE : En ts a = sta ts a t.ar := szt_at ht
    have hle : sta ts a (k + 1) ≤ sta ts a t.ar := by
      by_cases hk : k + 1 = t.ar
      · rw [hk]; exact Nat.le_refl _
      · exact Nat.le_of_lt (sta_mono h ht (by omega) (Nat.le_refl _))
    by_cases hb : sta ts a k = b
    · subst hb; omega
    · have := ih (sta ts a k) b (by omega) s1 (by omega) (by omega)
      omega
/-- the places whose programs hold place i, and place i -/
def anc (ts : List Tok) (i : Nat) : List Nat := (List.range i).filter fun a => decide (i < En ts a)
/-- the starts of a token's parts ahead of place i -/
def chs (ts : List Tok) (i a : Nat) : List Nat := match ts[a]? with
  | some t => ((List.range t.ar).map (sta ts a)).filter fun s => decide (s < i)
  | none => []
theorem chs_eq {ts : List Tok} (h : rn 1 ts = some 0) {a i k : Nat} {t : Tok} (ht : ts[a]? = some t) (hk : k ≤ t.ar) (h1 : ∀ m, m < k → sta ts a m < i) (h2 : ∀ m, k ≤ m → m < t.ar → i ≤ sta ts a m) : chs ts i a = (List.range k).map (sta ts a) := by
  unfold chs
  rw [ht]
  dsimp only
  have e : t.ar = k + (t.ar - k) := by omega
  rw [e, List.range_add, List.map_append, List.filter_append]
  have p1 : ((List.range k).map (sta ts a)).filter (fun s => decide (s < i)) = (List.range k).map (sta ts a) := List.filter_eq_self.mpr fun s hs => by
    obtain ⟨m, hm, rfl⟩ := List.mem_map.mp hs
    exact decide_eq_true (h1 m (List.mem_range.mp hm))
  have p2 : (((List.range (t.ar - k)).map (k + ·)).map (sta ts a)).filter (fun s => decide (s < i)) = [] := List.filter_eq_nil_iff.mpr fun s hs => by
    rw [List.map_map] at hs
    obtain ⟨m, hm, rfl⟩ := List.mem_map.mp hs
    have := h2 (k + m) (by omega) (by have := List.mem_range.mp hm; omega)
    simpa using this
  rw [p1, p2, List.append_nil]
/-- .. behind the part that holds the place ahead of i -/
theorem chs_at {ts : List Tok} (h : rn 1 ts = some 0) {a i k : Nat} {t : Tok} (ht : ts[a]? = some t) (hk : k < t.ar) (h1 : sta ts a k < i) (h2 : i ≤ sta ts a (k + 1)) : chs ts i a = (List.range (k + 1)).map (sta ts a) :=
  chs_eq h ht (by omega) (fun m hm => by
    by_cases e : m = k
    · rw [e]; exact h1
    · have := sta_mono h ht (m := m) (m' := k) (by omega) (by omega)
      omega) fun m h3 h4 => by
    by_cases e : m = k + 1
    · rw [e]; exact h2
    · have := sta_mono h ht (m := k + 1) (m' := m) (by omega) (by omega)
      omega
theorem chs_all {ts : List Tok} (h : rn 1 ts = some 0) {a i : Nat} {t : Tok} (ht : ts[a]? = some t) (h1 : En ts a ≤ i) : chs ts i a = (List.range t.ar).map (sta ts a) := by
  have hE : En ts a = sta ts a t.ar := szt_at ht
  exact chs_eq h ht (Nat.le_refl _) (fun m hm => by have := sta_mono h ht hm (Nat.le_refl _); omega) fun m h3 h4 => by omega
theorem chs_none {ts : List Tok} {a i : Nat} (h1 : i ≤ a + 1) : chs ts i a = [] := by
  unfold chs
  cases ht : ts[a]? with
  | none => rfl
  | some t =>
    dsimp only
    refine List.filter_eq_nil_iff.mpr fun s hs => ?_
    obtain ⟨m, hm, rfl⟩ := List.mem_map.mp hs
    have : a + 1 ≤ sta ts a m := by unfold sta; omega
    simp; omega
end VM.K15

set_option Elab.async false
set_option linter.all false
set_option autoImplicit false
set_option maxRecDepth 100000
set_option maxHeartbeats 400000
namespace VM.K15
open PySem PySem.Spec PyProof.Rows L2 VM
local macro_rules | `(tactic| walk_at "ev") => `(tactic| simp (disch := first | omega | (simp only [List.length_cons, List.length_nil, List.length_map, List.length_append, List.length_replicate, List.length_set, rngs_length]; omega)) only [*, q_seq, q_skip, q_knx, q_krt, q_kro, q_kbk, q_kct, q_ker, q_kk, q_bind, q_bok, q_ber, q_drop, q_ret, q_reto, q_ifs, q_ct, q_cf, q_asg, q_asgo, q_asgt, q_rok, q_rer, q_c, q_rd, q_mv, q_fz, fz_lst, fz_dct, fz_obj, fz_dlst, fz_ddct, fz_dobj, q_tk, q_2, q_1, q_os, q_b, q_not, q_and, q_or, q_at, q_af, q_ao, q_rt, q_rf, q_ro, q_andv, q_orv, q_avt, q_avf, q_avo, q_rvt, q_rvf, q_rvo, q_ife, q_it, q_if, q_io, q_on, q_oS, q_sl, q_nil, q_cons, q_tup, q_lst, q_call1, q_call, q_f0, q_f1, q_f2, q_f3, q_f4, q_f5, q_f6, q_f7, q_callk, q_frok, q_frer, q_calli, q_mihere, q_micons, q_fri, q_sdo, q_sdi, q_rso, q_rsi, q_app, q_ext, q_ext2, q_put, q_pop, q_with, q_wok, q_for, q_enum, q_items, q_raise, q_gt, q_grt, q_lt, q_le, q_rng1, q_rng2, q_rg1, q_lrg, q_lrgi, q_rg2, q_add, q_adds, q_addl, q_addt, q_cat, q_sub, q_mulr, q_mull, q_div, q_mod, q_p18, q_p12, q_cmplt, q_cmple, q_cmpgt, q_cmpge, q_eqi, q_eqs, q_eqb, q_nei, q_nes, q_isn, q_isnn, q_isb, q_isnb, q_neg, q_dnot, q_lenl, q_lent, q_lenf, q_lens, q_int, q_intb, q_tupl, q_tupt, q_lstl, q_lstt, q_min, q_max, q_ixn, q_ixm, q_ixl, q_ixt, q_ixf, q_rep, q_isi_tt, q_isi_ts, q_isi_ti, q_isi_ss, q_isi_st, q_isi_ii, q_isi_it, q_isi_is, q_isi_bi, q_lfi, q_lfb, q_lfs, q_lfn, q_itt, q_itl, q_itf, q_slt, q_sll, q_sls, tk_row, tk_wd, q_cut, q_cutf, q_cutt, q_try, q_tryo, q_tnx, q_trt, q_tonx, q_tort, w_irt, w_inx, w_iro, w_lnx, w_lct, w_lbk, w_lrt, w_lro, w_ler, w_nnx, w_nrt, w_nro, w_ner, w_rnx, w_rrt, w_rro, w_rer, w_tn, w_tt, w_tt3, ev_ownL, ev_putL, ev_lend, ev_hn, ev_hp, ev_hu, ev_ho, ev_hi, ev_i0, ev_i1, ev_tN, ev_tnil, ev_tcons, ev_tTup, List.getElem?_cons_zero, List.getElem?_cons_succ, List.set_cons_zero, List.set_cons_succ, List.length_cons, List.length_nil, List.length_append, List.length_map, List.length_replicate, List.length_set, rngs_length, List.nil_append, List.cons_append, Int.toNat_natCast, Int.toNat_zero, Int.toNat_one, Int.reduceToNat, List.getElem?_map, Option.map_some, Nat.reduceAdd, Nat.reduceSub, Nat.reduceLT, Nat.reduceLeDiff, Nat.reduceEqDiff, Int.reduceEq, Int.reduceLT, Int.reduceLE, Int.reduceAdd, Int.reduceSub, Int.reduceMul, Int.reduceNeg, List.replicate_succ, List.replicate_zero, Bool.not_true, Bool.not_false, Bool.and_true, Bool.true_and, Bool.and_false, Bool.false_and, Bool.or_true, Bool.true_or, Bool.or_false, Bool.false_or, decide_true, decide_false, if_true, if_false, and_self, true_and, and_true, Nat.sub_self, Nat.add_zero, Nat.zero_add, Bool.true_eq_false, Bool.false_eq_true, ite_true, ite_false, reduceIte, eq_self])
theorem anc_mem {ts : List Tok} {i a : Nat} : a ∈ anc ts i ↔ a < i ∧ i < En ts a := by
  unfold anc
  rw [List.mem_filter, List.mem_range, decide_eq_true_eq]
theorem anc_sort (ts : List Tok) (i : Nat) : (anc ts i).Pairwise (· < ·) := List.Pairwise.filter _ (List.pairwise_lt_range)
theorem anc_next {ts : List Tok} (h : rn 1 ts = some 0) {i : Nat} (hi : i < ts.length) : anc ts (i + 1) = (anc ts i ++ [i]).filter fun a => decide (i + 1 < En ts a) := by
  unfold anc
  rw [List.range_succ, List.filter_append, List.filter_append, List.filter_filter]
  congr 1
  refine List.filter_congr fun a _ => ?_
  by_cases h1 : i + 1 < En ts a
  · have h2 : i < En ts a := by omega
    simp [h1, h2]
  · simp [h1]
/-- the parent of a place -/
theorem anc_top {ts : List Tok} (h : rn 1 ts = some 0) {i : Nat} (h0 : 0 < i) (hi : i < ts.length) : ∃ A P k t, anc ts i = A ++ [P] ∧ P < i ∧ i < En ts P ∧ ts[P]? = some t ∧ k < t.ar ∧ i = sta ts P k := by
  have hne : anc ts i ≠ [] := fun e => by
    have : 0 ∈ anc ts i := anc_mem.mpr ⟨h0, by rw [En_zero h]; exact hi⟩
    rw [e] at this; cases this
  obtain ⟨A, P, hA⟩ : ∃ A P, anc ts i = A ++ [P] := ⟨(anc ts i).dropLast, (anc ts i).getLast hne, (List.dropLast_concat_getLast hne).symm⟩
  have hP := anc_mem.mp (show P ∈ anc ts i by rw [hA]; simp)
  obtain ⟨t, ht, _⟩ := dr (ts := ts) (j := P) (by omega)
  obtain ⟨k, k1, k2, k3⟩ := locate h ht hP.1 hP.2
  refine ⟨A, P, k, t, hA, hP.1, hP.2, ht, k1, ?_⟩
  by_cases e : sta ts P k = i
  · exact e.symm
  · obtain ⟨s1, s2, s3⟩ := sta_step h ht k1
    have hc : sta ts P k ∈ anc ts i := anc_mem.mpr ⟨by omega, by rw [En_sta h ht k1]; exact k3⟩
    have hs := anc_sort ts i
    rw [hA] at hc hs
    rcases List.mem_append.mp hc with hc | hc
    · have := (List.pairwise_append.mp hs).2.2 _ hc P (by simp)
      omega
    · simp at hc; omega
theorem anc_nodup {ts : List Tok} {i : Nat} : (anc ts i ++ [i]).Pairwise (· < ·) := by
  rw [List.pairwise_append]
  exact ⟨anc_sort ts i, by simp, fun a ha b hb => by simp at hb; subst hb; exact (anc_mem.mp ha).1⟩
theorem stk_mem {ts : List Tok} (h : rn 1 ts = some 0) {i a : Nat} (hi : i < ts.length) : a ∈ anc ts i ++ [i] ↔ a ≤ i ∧ i < En ts a := by
  rw [List.mem_append, anc_mem]
  constructor
  · rintro (⟨h1, h2⟩ | h1)
    · exact ⟨by omega, h2⟩
    · simp at h1; subst h1; exact ⟨Nat.le_refl _, (En_gt h hi).1⟩
  · rintro ⟨h1, h2⟩
    by_cases e : a = i
    · right; simp [e]
    · left; exact ⟨by omega, h2⟩
/-- how one more place changes the parts told -/
theorem chs_next {ts : List Tok} (h : rn 1 ts = some 0) {i : Nat} (h0 : 0 < i) (hi : i < ts.length) {A : List Nat} {P k : Nat} {t : Tok} (hA : anc ts i = A ++ [P]) (h1 : P < i) (h2 : i < En ts P) (ht : ts[P]? = some t) (hk : k < t.ar) (e : i = sta ts P k) :
    chs ts i P = (List.range k).map (sta ts P) ∧ chs ts (i + 1) P = chs ts i P ++ [i] ∧ ∀ a, a ≠ P → chs ts (i + 1) a = chs ts i a := by
  obtain ⟨s1, s2, s3⟩ := sta_step h ht hk
  have c1 : chs ts i P = (List.range k).map (sta ts P) := chs_eq h ht (by omega) (fun m hm => by have := sta_mono h ht hm (by omega); omega) fun m h3 h4 => by
    by_cases em : m = k
    · rw [em]; omega
    · have := sta_mono h ht (m := k) (m' := m) (by omega) (by omega); omega
  have hgt := En_gt h s1
  have c2 : chs ts (i + 1) P = (List.range (k + 1)).map (sta ts P) := chs_at h ht hk (by omega) (by have := En_sta h ht hk; rw [← this]; omega)
  refine ⟨c1, by rw [c1, c2, List.range_succ, List.map_append, e]; rfl, fun a ha => ?_⟩
  unfold chs
  cases hta : ts[a]? with
  | none => rfl
  | some u =>
    dsimp only
    refine List.filter_congr fun s hs => ?_
    obtain ⟨m, hm, rfl⟩ := List.mem_map.mp hs
    have hm := List.mem_range.mp hm
    have hne : sta ts a m ≠ i := fun z => by
      obtain ⟨u1, u2, u3⟩ := sta_step h hta hm
      have haE : En ts a = sta ts a u.ar := szt_at hta
      have hle : sta ts a (m + 1) ≤ sta ts a u.ar := by
        by_cases hk : m + 1 = u.ar
        · rw [hk]; exact Nat.le_refl _
        · exact Nat.le_of_lt (sta_mono h hta (by omega) (Nat.le_refl _))
      have hiE : i < En ts i := (En_gt h hi).1
      have hsE := En_sta h hta hm
      rw [z] at hsE
      have haa : a ∈ anc ts i := anc_mem.mpr ⟨by omega, by omega⟩
      have hs := anc_sort ts i
      rw [hA] at haa hs
      have haP : a < P := by
        rcases List.mem_append.mp haa with h5 | h5
        · exact (List.pairwise_append.mp hs).2.2 _ h5 P (by simp)
        · simp at h5; exact absurd h5 ha
      obtain ⟨q, q1, q2, q3⟩ := locate h hta haP (by omega)
      have hq : q < m := by
        apply Nat.lt_of_not_le
        intro hge
        by_cases eq : m = q
        · subst eq; omega
        · have := sta_mono h hta (m := m) (m' := q) (by omega) (by omega); omega
      have hqm : sta ts a (q + 1) ≤ sta ts a m := by
        by_cases eq : q + 1 = m
        · rw [eq]; exact Nat.le_refl _
        · exact Nat.le_of_lt (sta_mono h hta (m := q + 1) (m' := m) (by omega) (by omega))
      obtain ⟨w1, w2, w3⟩ := sta_step h hta q1
      have hqE := En_sta h hta q1
      by_cases eP : sta ts a q = P
      · rw [eP] at hqE; omega
      · have := En_nest h _ (sta ts a q) P (Nat.le_refl _) w1 (by omega) (by omega)
        omega
    by_cases h5 : sta ts a m < i
    · have h6 : sta ts a m < i + 1 := by omega
      simp [h5, h6]
    · have h6 : ¬ sta ts a m < i + 1 := by omega
      simp [h5, h6]
/-- has the topmost place that still goes on all its parts? -/
theorem part_more {ts : List Tok} (h : rn 1 ts = some 0) {i : Nat} (hi : i < ts.length) {b : Nat} {t : Tok} (ht : ts[b]? = some t) (h1 : b ≤ i) (h2 : i < En ts b) (ha : ∀ c, b < c → c ≤ i → i < En ts c → En ts c = i + 1) :
    (i + 1 < En ts b → (chs ts (i + 1) b).length < t.ar) ∧ (En ts b ≤ i + 1 → (chs ts (i + 1) b).length = t.ar) := by
  have hE : En ts b = sta ts b t.ar := szt_at ht
  constructor
  · intro h3
    by_cases e : b = i
    · subst e
      rw [chs_none (Nat.le_refl _)]
      have : t.ar ≠ 0 := fun z => by rw [z, sta_zero] at hE; omega
      simp; omega
    · obtain ⟨k, k1, k2, k3⟩ := locate h ht (show b < i by omega) h2
      obtain ⟨s1, s2, s3⟩ := sta_step h ht k1
      have hc := En_sta h ht k1
      have := ha (sta ts b k) s2 k2 (by omega)
      rw [chs_at h ht k1 (by omega) (by omega)]
      have hk : k + 1 ≠ t.ar := fun z => by rw [z] at hc; omega
      simp; omega
  · intro h3
    rw [chs_all h ht h3]; simp
end VM.K15

set_option Elab.async false
set_option linter.all false
set_option autoImplicit false
set_option maxRecDepth 100000
set_option maxHeartbeats 400000
namespace VM.K15
open PySem PySem.Spec PyProof.Rows L2 VM
local macro_rules | `(tactic| walk_at "ev") => `(tactic| simp (disch := first | omega | (simp only [List.length_cons, List.length_nil, List.length_map, List.length_append, List.length_replicate, List.length_set, rngs_length]; omega)) only [*, q_seq, q_skip, q_knx, q_krt, q_kro, q_kbk, q_kct, q_ker, q_kk, q_bind, q_bok, q_ber, q_drop, q_ret, q_reto, q_ifs, q_ct, q_cf, q_asg, q_asgo, q_asgt, q_rok, q_rer, q_c, q_rd, q_mv, q_fz, fz_lst, fz_dct, fz_obj, fz_dlst, fz_ddct, fz_dobj, q_tk, q_2, q_1, q_os, q_b, q_not, q_and, q_or, q_at, q_af, q_ao, q_rt, q_rf, q_ro, q_andv, q_orv, q_avt, q_avf, q_avo, q_rvt, q_rvf, q_rvo, q_ife, q_it, q_if, q_io, q_on, q_oS, q_sl, q_nil, q_cons, q_tup, q_lst, q_call1, q_call, q_f0, q_f1, q_f2, q_f3, q_f4, q_f5, q_f6, q_f7, q_callk, q_frok, q_frer, q_calli, q_mihere, q_micons, q_fri, q_sdo, q_sdi, q_rso, q_rsi, q_app, q_ext, q_ext2, q_put, q_pop, q_with, q_wok, q_for, q_enum, q_items, q_raise, q_gt, q_grt, q_lt, q_le, q_rng1, q_rng2, q_rg1, q_lrg, q_lrgi, q_rg2, q_add, q_adds, q_addl, q_addt, q_cat, q_sub, q_mulr, q_mull, q_div, q_mod, q_p18, q_p12, q_cmplt, q_cmple, q_cmpgt, q_cmpge, q_eqi, q_eqs, q_eqb, q_nei, q_nes, q_isn, q_isnn, q_isb, q_isnb, q_neg, q_dnot, q_lenl, q_lent, q_lenf, q_lens, q_int, q_intb, q_tupl, q_tupt, q_lstl, q_lstt, q_min, q_max, q_ixn, q_ixm, q_ixl, q_ixt, q_ixf, q_rep, q_isi_tt, q_isi_ts, q_isi_ti, q_isi_ss, q_isi_st, q_isi_ii, q_isi_it, q_isi_is, q_isi_bi, q_lfi, q_lfb, q_lfs, q_lfn, q_itt, q_itl, q_itf, q_slt, q_sll, q_sls, tk_row, tk_wd, q_cut, q_cutf, q_cutt, q_try, q_tryo, q_tnx, q_trt, q_tonx, q_tort, w_irt, w_inx, w_iro, w_lnx, w_lct, w_lbk, w_lrt, w_lro, w_ler, w_nnx, w_nrt, w_nro, w_ner, w_rnx, w_rrt, w_rro, w_rer, w_tn, w_tt, w_tt3, ev_ownL, ev_putL, ev_lend, ev_hn, ev_hp, ev_hu, ev_ho, ev_hi, ev_i0, ev_i1, ev_tN, ev_tnil, ev_tcons, ev_tTup, List.getElem?_cons_zero, List.getElem?_cons_succ, List.set_cons_zero, List.set_cons_succ, List.length_cons, List.length_nil, List.length_append, List.length_map, List.length_replicate, List.length_set, rngs_length, List.nil_append, List.cons_append, Int.toNat_natCast, Int.toNat_zero, Int.toNat_one, Int.reduceToNat, List.getElem?_map, Option.map_some, Nat.reduceAdd, Nat.reduceSub, Nat.reduceLT, Nat.reduceLeDiff, Nat.reduceEqDiff, Int.reduceEq, Int.reduceLT, Int.reduceLE, Int.reduceAdd, Int.reduceSub, Int.reduceMul, Int.reduceNeg, List.replicate_succ, List.replicate_zero, Bool.not_true, Bool.not_false, Bool.and_true, Bool.true_and, Bool.and_false, Bool.false_and, Bool.or_true, Bool.true_or, Bool.or_false, Bool.false_or, decide_true, decide_false, if_true, if_false, and_self, true_and, and_true, Nat.sub_self, Nat.add_zero, Nat.zero_add, Bool.true_eq_false, Bool.false_eq_true, ite_true, ite_false, reduceIte, eq_self])
def Pl (x : Sl) : Prop := x = .un ∨ ∃ d, x = .pl d
theorem Pl.hide {x : Sl} (h : Pl x) : ∀ r, hideS (x :: r) = x :: hideS r := fun r => by
  rcases h with rfl | ⟨d, rfl⟩ <;> rfl
theorem pl_pl (d : D) : Pl (.pl d) := .inr ⟨d, rfl⟩
def eD (ts : List Tok) (i : Nat) : List Nat := (List.range ts.length).map fun a => if En ts a ≤ i then En ts a else 0
def cD (ts : List Tok) (i : Nat) : List D := (List.range ts.length).map fun a => D.own (.lst (iN (chs ts i a)))
def lD (ts : List Tok) (i : Nat) : List Nat := (List.range ts.length).map fun a => if a < i then (lvF [0] ts)[a]?.getD 0 else 0
theorem eD_at {ts : List Tok} {i a : Nat} (h : a < ts.length) : (eD ts i)[a]? = some (if En ts a ≤ i then En ts a else 0) := by
  unfold eD; rw [List.getElem?_map, List.getElem?_range h]; rfl
theorem cD_at {ts : List Tok} {i a : Nat} (h : a < ts.length) : (cD ts i)[a]? = some (D.own (.lst (iN (chs ts i a)))) := by
  unfold cD; rw [List.getElem?_map, List.getElem?_range h]; rfl
theorem lD_at {ts : List Tok} {i a : Nat} (h : a < ts.length) : (lD ts i)[a]? = some (if a < i then (lvF [0] ts)[a]?.getD 0 else 0) := by
  unfold lD; rw [List.getElem?_map, List.getElem?_range h]; rfl
theorem eD_len (ts : List Tok) (i : Nat) : (eD ts i).length = ts.length := by simp [eD]
theorem cD_len (ts : List Tok) (i : Nat) : (cD ts i).length = ts.length := by simp [cD]
theorem lD_len (ts : List Tok) (i : Nat) : (lD ts i).length = ts.length := by simp [lD]
theorem ext_at {α : Type} {xs ys : List α} {n : Nat} (h1 : xs.length = n) (h2 : ys.length = n) (h : ∀ a, a < n → xs[a]? = ys[a]?) : xs = ys := by
  apply List.ext_getElem?
  intro a
  by_cases ha : a < n
  · exact h a ha
  · rw [List.getElem?_eq_none (by omega), List.getElem?_eq_none (by omega)]
abbrev fr (ts : List Tok) (E : List Nat) (C : List D) (L A : List Nat) (x5 x6 x7 x8 : Sl) : SV := [.pl (tsd ts), .ow (.lst (iN E)), .ow (.deep (.lst C)), .ow (.lst (iN L)), .ow (.lst (iN A)), x5, x6, x7, x8, .un]
/-- the walk down the stack -/
theorem down_ok {Q : O → Prop} {k : MS} {ts : List Tok} (h : rn 1 ts = some 0) (hl : ts.length ≤ 100000) {i : Nat} (hi : i < ts.length) (L : List Nat) {x6 x7 x8 : Sl} (p6 : Pl x6) (p7 : Pl x7) (p8 : Pl x8)
    (hk : ∀ x7 x8, Pl x7 → Pl x8 → Wp (k (fr ts (eD ts (i + 1)) (cD ts (i + 1)) L (anc ts i ++ [i]) (.pl (.int (i : Int))) x6 x7 x8)) Q) :
    Wp (kO (f__law_walked_1 (fr ts (eD ts i) (cD ts (i + 1)) L (anc ts i ++ [i]) (.pl (.int (i : Int))) x6 x7 x8)) k) Q := by
  have mem := fun a => stk_mem (a := a) h hi
  have srt := anc_nodup (ts := ts) (i := i)
  have len1 : (anc ts i ++ [i]).length ≤ ts.length := by
    have : (anc ts i).length ≤ (List.range i).length := List.length_filter_le _ _
    simp at this ⊢; omega
  have h6 := p6.hide
  have h7 := p7.hide
  have h8 := p8.hide
  generalize anc ts i ++ [i] = S at *
  have lt_of : ∀ (a b : Nat) (x y : Nat), S[a]? = some x → S[b]? = some y → a < b → x < y := fun a b x y ha hb hab => by
    obtain ⟨h1, e1⟩ := List.getElem?_eq_some_iff.mp ha
    obtain ⟨h2, e2⟩ := List.getElem?_eq_some_iff.mp hb
    have := List.pairwise_iff_getElem.mp srt a b h1 h2 hab
    rw [e1, e2] at this; exact this
  have at_of : ∀ x, x ≤ i → i < En ts x → ∃ j, j < S.length ∧ S[j]? = some x := fun x h1 h2 => by
    obtain ⟨j, hj, e⟩ := List.getElem_of_mem ((mem x).mpr ⟨h1, h2⟩)
    exact ⟨j, hj, by rw [List.getElem?_eq_getElem hj, e]⟩
  -- when all that end here have been told
  have fin : ∀ E : List Nat, E.length = ts.length → (∀ a, a < ts.length → En ts a ≤ i → E[a]? = some (En ts a)) → (∀ a, a < ts.length → En ts a = i + 1 → E[a]? = some (i + 1)) → (∀ a, a < ts.length → i + 1 < En ts a → E[a]? = some 0) → E = eD ts (i + 1) := fun E h1 h2 h3 h4 =>
    ext_at h1 (eD_len ts _) fun a ha => by
      rw [eD_at ha]
      by_cases c1 : En ts a ≤ i
      · rw [h2 a ha c1, if_pos (by omega)]
      · by_cases c2 : En ts a = i + 1
        · rw [h3 a ha c2, if_pos (by omega), c2]
        · rw [h4 a ha (by omega), if_neg (by omega)]
  unfold f__law_walked_1
  have hlS : S.length ≤ 100000 := by omega
  clear len1
  walk_at "ev"
  refine w_for (Y := List Nat × Sl × Sl) (fun y => fr ts y.1 (cD ts (i + 1)) L S (.pl (.int (i : Int))) x6 y.2.1 y.2.2) (fun t y => y.1.length = ts.length ∧ (∀ a, a < ts.length → En ts a ≤ i → y.1[a]? = some (En ts a)) ∧ (∀ j x, S.length ≤ j + t → S[j]? = some x → En ts x = i + 1 ∧ y.1[x]? = some (i + 1)) ∧ (∀ a, a < ts.length → i < En ts a → (∀ j, S.length ≤ j + t → S[j]? ≠ some a) → y.1[a]? = some 0) ∧ Pl y.2.1 ∧ Pl y.2.2) (eD ts i, x7, x8) rfl ⟨eD_len ts i, fun a ha h1 => by rw [eD_at ha, if_pos h1], fun j x hj hx => (by rw [List.getElem?_eq_none (by omega)] at hx; cases hx), fun a ha h1 _ => by rw [eD_at ha, if_neg (by omega)], p7, p8⟩ (fun t d y hd hy => ?_) fun y hy => ?_
  · obtain ⟨E, y7, y8⟩ := y
    obtain ⟨g1, g2, g3, g4, q7, q8⟩ := hy
    dsimp only at g1 g2 g3 g4 q7 q8
    obtain ⟨ht, rfl⟩ := nget hd
    have htl : t < S.length := by simpa using ht
    have hb0 : S.length - 1 - t < S.length := by omega
    obtain ⟨b, hb⟩ : ∃ b, S[S.length - 1 - t]? = some b := ⟨_, List.getElem?_eq_getElem hb0⟩
    have hb2 : S[((S.length : Int) - 1 - (t : Int)).toNat]? = some b := by rw [show ((S.length : Int) - 1 - (t : Int)).toNat = S.length - 1 - t by omega]; exact hb
    obtain ⟨b1, b2⟩ := (mem b).mp (List.mem_of_getElem? hb)
    obtain ⟨u, hu, _⟩ := dr (ts := ts) (j := b) (by omega)
    have habove : ∀ c, b < c → c ≤ i → i < En ts c → En ts c = i + 1 := fun c h1 h2 h3 => by
      obtain ⟨j, hj, hjc⟩ := at_of c h2 h3
      have : S.length - 1 - t < j := by
        apply Nat.lt_of_not_le
        intro hle
        by_cases ej : j = S.length - 1 - t
        · subst ej; rw [hb] at hjc; cases hjc; omega
        · have := lt_of j _ c b hjc hb (by omega); omega
      exact (g3 j c (by omega) hjc).1
    obtain ⟨m1, m2⟩ := part_more h hi hu b1 b2 habove
    have hC := cD_at (ts := ts) (i := i + 1) (a := b) (by omega)
    have hC2 : (fzL (cD ts (i + 1)))[b]? = some (.lst (iN (chs ts (i + 1) b))) := by rw [fzL_get, hC]; rfl
    have har := larity_ok u
    have e0 : Option.map Tok.d ts[b]? = some u.d := by rw [hu]; rfl
    have h7 := q7.hide
    have h8 := q8.hide
    have hsl3 : ((iN S).length : Int) = (S.length : Int) := by simp
    rw [w_tn]
    show Wp (b__law_walked_0 (fr ts E (cD ts (i + 1)) L S (.pl (.int (i : Int))) x6 (.pl (.int (t : Int))) y8)) _
    unfold b__law_walked_0
    by_cases hE : i + 1 < En ts b
    · have c1 : decide (((chs ts (i + 1) b).length : Int) < (u.ar : Int)) = true := decide_eq_true (by have := m1 hE; omega)
      have hfin : E = eD ts (i + 1) := fin E g1 g2 (fun a ha h1 => by
        obtain ⟨j, hj, hja⟩ := at_of a (by have := (En_gt h ha).1; omega) (by omega)
        have hjt : S.length ≤ j + t := by
          apply Nat.le_of_not_lt
          intro hle
          by_cases ej : j = S.length - 1 - t
          · subst ej; rw [hb] at hja; cases hja; omega
          · have hlt := lt_of j _ a b hja hb (by omega)
            have := En_nest h _ a b (Nat.le_refl _) ha hlt (by omega)
            omega
        exact (g3 j a hjt hja).2) (fun a ha h1 => g4 a ha (by omega) fun j hj hja => by have := (g3 j a hj hja).1; omega)
      have hk2 := hk (.pl (.int (t : Int))) (.pl (.int (b : Int))) (pl_pl _) (pl_pl _)
      rw [← hfin] at hk2
      clear hk g2 g3 g4 fin hfin lt_of at_of mem srt hd hC m1 m2 habove hb hE
      generalize cD ts (i + 1) = C at *
      generalize chs ts (i + 1) b = cb at *
      walk_at "ev"
    · have hE1 : En ts b = i + 1 := by omega
      have c1 : decide (((chs ts (i + 1) b).length : Int) < (u.ar : Int)) = false := decide_eq_false (by have := m2 (by omega); omega)
      have hset : (iN E).set b (.int ((i : Int) + 1)) = iN (E.set b (i + 1)) := by simp [iN]
      have hbl : b < ts.length := by omega
      have n1 : (E.set b (i + 1)).length = ts.length := by simp [g1]
      have n2 : ∀ a, a < ts.length → En ts a ≤ i → (E.set b (i + 1))[a]? = some (En ts a) := fun a ha h1 => by
        rw [List.getElem?_set_ne (fun z => by subst z; omega)]; exact g2 a ha h1
      have n3 : ∀ j x, S.length ≤ j + (t + 1) → S[j]? = some x → En ts x = i + 1 ∧ (E.set b (i + 1))[x]? = some (i + 1) := fun j x hj hx => by
        by_cases ej : j = S.length - 1 - t
        · subst ej; rw [hb] at hx; cases hx
          exact ⟨hE1, by rw [List.getElem?_set_self (by omega)]⟩
        · obtain ⟨r1, r2⟩ := g3 j x (by omega) hx
          refine ⟨r1, ?_⟩
          by_cases ex : b = x
          · subst ex; rw [List.getElem?_set_self (by omega)]
          · rw [List.getElem?_set_ne ex]; exact r2
      have n4 : ∀ a, a < ts.length → i < En ts a → (∀ j, S.length ≤ j + (t + 1) → S[j]? ≠ some a) → (E.set b (i + 1))[a]? = some 0 := fun a ha h1 h2 => by
        have hne : b ≠ a := fun z => by subst z; exact h2 (S.length - 1 - t) (by omega) hb
        rw [List.getElem?_set_ne hne]
        exact g4 a ha h1 fun j hj => h2 j (by omega)
      have hEl : (iN E).length = ts.length := by simp [g1]
      clear g2 g3 g4 fin lt_of at_of mem srt hd hC m1 m2 habove hb hE hk
      generalize cD ts (i + 1) = C at *
      generalize chs ts (i + 1) b = cb at *
      walk_at "ev"
      exact ⟨(E.set b (i + 1), .pl (.int (t : Int)), .pl (.int (b : Int))), by simp, n1, n2, n3, n4, pl_pl _, pl_pl _⟩
  · obtain ⟨E, y7, y8⟩ := y
    obtain ⟨g1, g2, g3, g4, q7, q8⟩ := hy
    dsimp only at g1 g2 g3 g4 q7 q8
    rw [rngs_length] at g3 g4
    have g3 : ∀ j x, S[j]? = some x → En ts x = i + 1 ∧ E[x]? = some (i + 1) := fun j x hx => g3 j x (by first | (simp; done) | (simp; omega)) hx
    have hfin : E = eD ts (i + 1) := fin E g1 g2 (fun a ha h1 => by
      obtain ⟨j, hj, hja⟩ := at_of a (by have := (En_gt h ha).1; omega) (by omega)
      exact (g3 j a hja).2) (fun a ha h1 => g4 a ha (by omega) fun j _ hja => by have := (g3 j a hja).1; omega)
    rw [hfin]
    exact hk _ _ q7 q8
end VM.K15

set_option Elab.async false
set_option linter.all false
set_option autoImplicit false
set_option maxRecDepth 100000
set_option maxHeartbeats 400000
namespace VM.K15
open PySem PySem.Spec PyProof.Rows L2 VM
local macro_rules | `(tactic| walk_at "ev") => `(tactic| simp (disch := first | omega | (simp only [List.length_cons, List.length_nil, List.length_map, List.length_append, List.length_replicate, List.length_set, rngs_length]; omega)) only [*, q_seq, q_skip, q_knx, q_krt, q_kro, q_kbk, q_kct, q_ker, q_kk, q_bind, q_bok, q_ber, q_drop, q_ret, q_reto, q_ifs, q_ct, q_cf, q_asg, q_asgo, q_asgt, q_rok, q_rer, q_c, q_rd, q_mv, q_fz, fz_lst, fz_dct, fz_obj, fz_dlst, fz_ddct, fz_dobj, q_tk, q_2, q_1, q_os, q_b, q_not, q_and, q_or, q_at, q_af, q_ao, q_rt, q_rf, q_ro, q_andv, q_orv, q_avt, q_avf, q_avo, q_rvt, q_rvf, q_rvo, q_ife, q_it, q_if, q_io, q_on, q_oS, q_sl, q_nil, q_cons, q_tup, q_lst, q_call1, q_call, q_f0, q_f1, q_f2, q_f3, q_f4, q_f5, q_f6, q_f7, q_callk, q_frok, q_frer, q_calli, q_mihere, q_micons, q_fri, q_sdo, q_sdi, q_rso, q_rsi, q_app, q_ext, q_ext2, q_put, q_pop, q_with, q_wok, q_for, q_enum, q_items, q_raise, q_gt, q_grt, q_lt, q_le, q_rng1, q_rng2, q_rg1, q_lrg, q_lrgi, q_rg2, q_add, q_adds, q_addl, q_addt, q_cat, q_sub, q_mulr, q_mull, q_div, q_mod, q_p18, q_p12, q_cmplt, q_cmple, q_cmpgt, q_cmpge, q_eqi, q_eqs, q_eqb, q_nei, q_nes, q_isn, q_isnn, q_isb, q_isnb, q_neg, q_dnot, q_lenl, q_lent, q_lenf, q_lens, q_int, q_intb, q_tupl, q_tupt, q_lstl, q_lstt, q_min, q_max, q_ixn, q_ixm, q_ixl, q_ixt, q_ixf, q_rep, q_isi_tt, q_isi_ts, q_isi_ti, q_isi_ss, q_isi_st, q_isi_ii, q_isi_it, q_isi_is, q_isi_bi, q_lfi, q_lfb, q_lfs, q_lfn, q_itt, q_itl, q_itf, q_slt, q_sll, q_sls, tk_row, tk_wd, q_cut, q_cutf, q_cutt, q_try, q_tryo, q_tnx, q_trt, q_tonx, q_tort, w_irt, w_inx, w_iro, w_lnx, w_lct, w_lbk, w_lrt, w_lro, w_ler, w_nnx, w_nrt, w_nro, w_ner, w_rnx, w_rrt, w_rro, w_rer, w_tn, w_tt, w_tt3, ev_ownL, ev_putL, ev_lend, ev_hn, ev_hp, ev_hu, ev_ho, ev_hi, ev_i0, ev_i1, ev_tN, ev_tnil, ev_tcons, ev_tTup, List.getElem?_cons_zero, List.getElem?_cons_succ, List.set_cons_zero, List.set_cons_succ, List.length_cons, List.length_nil, List.length_append, List.length_map, List.length_replicate, List.length_set, rngs_length, List.nil_append, List.cons_append, Int.toNat_natCast, Int.toNat_zero, Int.toNat_one, Int.reduceToNat, List.getElem?_map, Option.map_some, Nat.reduceAdd, Nat.reduceSub, Nat.reduceLT, Nat.reduceLeDiff, Nat.reduceEqDiff, Int.reduceEq, Int.reduceLT, Int.reduceLE, Int.reduceAdd, Int.reduceSub, Int.reduceMul, Int.reduceNeg, List.replicate_succ, List.replicate_zero, Bool.not_true, Bool.not_false, Bool.and_true, Bool.true_and, Bool.and_false, Bool.false_and, Bool.or_true, Bool.true_or, Bool.or_false, Bool.false_or, decide_true, decide_false, if_true, if_false, and_self, true_and, and_true, Nat.sub_self, Nat.add_zero, Nat.zero_add, Bool.true_eq_false, Bool.false_eq_true, ite_true, ite_false, reduceIte, eq_self])
def stR : MS := (mSeq (mApp 4 (mRd 5))
  (mSeq f__law_walked_1
  (mAsgO 4 (mLc [8] (mItems (mMv 4)) (mtN 8) (mB (m2 dEq (mWith lfree 1 (m2 dIx (mRd 1) (mRd 8))) (mC (.int 0)))) (mRd 8)))))
theorem rest_ok {Q : O → Prop} {N B : SV → Prop} {ts : List Tok} (h : rn 1 ts = some 0) (hl : ts.length ≤ 100000) {i : Nat} (hi : i < ts.length) (L : List Nat) {x6 x7 x8 : Sl} (p6 : Pl x6) (p7 : Pl x7) (p8 : Pl x8)
    (hN : ∀ x7 x8, Pl x7 → Pl x8 → N (fr ts (eD ts (i + 1)) (cD ts (i + 1)) L (anc ts (i + 1)) (.pl (.int (i : Int))) x6 x7 x8)) :
    Wp (stR (fr ts (eD ts i) (cD ts (i + 1)) L (anc ts i) (.pl (.int (i : Int))) x6 x7 x8)) (LpQ N B Q) := by
  have hal : (anc ts i).length ≤ 100000 := by
    have : (anc ts i).length ≤ (List.range i).length := List.length_filter_le _ _
    simp at this; omega
  have hap : iN (anc ts i) ++ [D.int (i : Int)] = iN (anc ts i ++ [i]) := by simp [iN]
  unfold stR
  generalize hS : anc ts i ++ [i] = S at *
  generalize hA : anc ts i = A at *
  have hIl : (iN A).length ≤ 100000 := by simp; omega
  walk_at "ev"
  rw [← hS, ← hA]
  refine down_ok h hl hi L p6 p7 p8 fun y7 y8 q7 q8 => w_end ?_
  have mem := fun a => stk_mem (a := a) h hi
  have nx := anc_next h hi
  have fin := hN y7 y8 q7 q8
  have h6 := p6.hide
  have h7 := q7.hide
  rw [hA, hS]
  have hS' : anc ts i ++ [i] = S := by rw [hA]; exact hS
  rw [hS'] at nx mem
  have hSl : S.length ≤ 200000 := by rw [← hS]; simp; omega
  have ho : ownOk [8] [.pl (tsd ts), .ow (.lst (iN (eD ts (i + 1)))), .ow (.deep (.lst (cD ts (i + 1)))), .ow (.lst (iN L)), .pl (.lst (iN S)), .pl (.int (i : Int)), x6, y7, y8, .un] = true := by
    rcases q8 with rfl | ⟨d, rfl⟩ <;> rfl
  have hlc := lc_of2 (own := [8]) (mi := mItems (mMv 4)) (t := mtN 8) (mc := mB (m2 dEq (mWith lfree 1 (m2 dIx (mRd 1) (mRd 8))) (mC (.int 0)))) (me := mRd 8)
    (s := fr ts (eD ts (i + 1)) (cD ts (i + 1)) L S (.pl (.int (i : Int))) x6 y7 y8) (s0 := [.pl (tsd ts), .ow (.lst (iN (eD ts (i + 1)))), .ow (.deep (.lst (cD ts (i + 1)))), .ow (.lst (iN L)), .pl (.lst (iN S)), .pl (.int (i : Int)), x6, y7, y8, .un])
    S (fun a => D.int (a : Int)) (fun a => D.int (a : Int)) (fun a => decide (i + 1 < En ts a)) rfl ho (by omega) (fun a ha => by
      obtain ⟨a1, a2⟩ := (mem a).mp ha
      have hE := eD_at (ts := ts) (i := i + 1) (a := a) (by omega)
      refine ⟨[.pl (tsd ts), .ow (.lst (iN (eD ts (i + 1)))), .ow (.deep (.lst (cD ts (i + 1)))), .ow (.lst (iN L)), .pl (.lst (iN S)), .pl (.int (i : Int)), x6, y7, .pl (.int (a : Int)), .un], rfl, ?_, fun _ => rfl, rfl⟩
      clear hN fin nx mem hS hA hS' hap ho ha
      generalize hv : (if En ts a ≤ i + 1 then En ts a else 0) = v at *
      have hd : decide ((v : Int) = 0) = decide (i + 1 < En ts a) := by
        by_cases c : En ts a ≤ i + 1
        · rw [if_pos c] at hv
          rw [decide_eq_false (by omega), decide_eq_false (by omega)]
        · rw [if_neg c] at hv
          rw [decide_eq_true (by omega), decide_eq_true (by omega)]
      have hE2 : (iN (eD ts (i + 1)))[a]? = some (.int (v : Int)) := iN_at hE
      clear hE hv
      generalize decide (i + 1 < En ts a) = bb at *
      generalize iN (eD ts (i + 1)) = EE at *
      generalize cD ts (i + 1) = C at *
      walk_at "ev")
  clear hA hap hS
  have hx : (S.filter fun a => decide (i + 1 < En ts a)) = anc ts (i + 1) := nx.symm
  rw [hx] at hlc
  show Wp (kO (mAsgO 4 _ (fr ts (eD ts (i + 1)) (cD ts (i + 1)) L S (.pl (.int (i : Int))) x6 y7 y8)) mSkip) _
  clear hx nx mem ho hS' hN
  generalize eD ts (i + 1) = E at *
  generalize cD ts (i + 1) = C at *
  generalize anc ts (i + 1) = A2 at *
  walk_at "ev"
end VM.K15

set_option Elab.async false
set_option linter.all false
set_option autoImplicit false
set_option maxRecDepth 100000
set_option maxHeartbeats 400000
namespace VM.K15
open PySem PySem.Spec PyProof.Rows L2 VM
local macro_rules | `(tactic| walk_at "ev") => `(tactic| simp (disch := first | omega | (simp only [List.length_cons, List.length_nil, List.length_map, List.length_append, List.length_replicate, List.length_set, rngs_length]; omega)) only [*, q_seq, q_skip, q_knx, q_krt, q_kro, q_kbk, q_kct, q_ker, q_kk, q_bind, q_bok, q_ber, q_drop, q_ret, q_reto, q_ifs, q_ct, q_cf, q_asg, q_asgo, q_asgt, q_rok, q_rer, q_c, q_rd, q_mv, q_fz, fz_lst, fz_dct, fz_obj, fz_dlst, fz_ddct, fz_dobj, q_tk, q_2, q_1, q_os, q_b, q_not, q_and, q_or, q_at, q_af, q_ao, q_rt, q_rf, q_ro, q_andv, q_orv, q_avt, q_avf, q_avo, q_rvt, q_rvf, q_rvo, q_ife, q_it, q_if, q_io, q_on, q_oS, q_sl, q_nil, q_cons, q_tup, q_lst, q_call1, q_call, q_f0, q_f1, q_f2, q_f3, q_f4, q_f5, q_f6, q_f7, q_callk, q_frok, q_frer, q_calli, q_mihere, q_micons, q_fri, q_sdo, q_sdi, q_rso, q_rsi, q_app, q_ext, q_ext2, q_put, q_pop, q_with, q_wok, q_for, q_enum, q_items, q_raise, q_gt, q_grt, q_lt, q_le, q_rng1, q_rng2, q_rg1, q_lrg, q_lrgi, q_rg2, q_add, q_adds, q_addl, q_addt, q_cat, q_sub, q_mulr, q_mull, q_div, q_mod, q_p18, q_p12, q_cmplt, q_cmple, q_cmpgt, q_cmpge, q_eqi, q_eqs, q_eqb, q_nei, q_nes, q_isn, q_isnn, q_isb, q_isnb, q_neg, q_dnot, q_lenl, q_lent, q_lenf, q_lens, q_int, q_intb, q_tupl, q_tupt, q_lstl, q_lstt, q_min, q_max, q_ixn, q_ixm, q_ixl, q_ixt, q_ixf, q_rep, q_isi_tt, q_isi_ts, q_isi_ti, q_isi_ss, q_isi_st, q_isi_ii, q_isi_it, q_isi_is, q_isi_bi, q_lfi, q_lfb, q_lfs, q_lfn, q_itt, q_itl, q_itf, q_slt, q_sll, q_sls, tk_row, tk_wd, q_cut, q_cutf, q_cutt, q_try, q_tryo, q_tnx, q_trt, q_tonx, q_tort, w_irt, w_inx, w_iro, w_lnx, w_lct, w_lbk, w_lrt, w_lro, w_ler, w_nnx, w_nrt, w_nro, w_ner, w_rnx, w_rrt, w_rro, w_rer, w_tn, w_tt, w_tt3, ev_ownL, ev_putL, ev_lend, ev_hn, ev_hp, ev_hu, ev_ho, ev_hi, ev_i0, ev_i1, ev_tN, ev_tnil, ev_tcons, ev_tTup, List.getElem?_cons_zero, List.getElem?_cons_succ, List.set_cons_zero, List.set_cons_succ, List.length_cons, List.length_nil, List.length_append, List.length_map, List.length_replicate, List.length_set, rngs_length, List.nil_append, List.cons_append, Int.toNat_natCast, Int.toNat_zero, Int.toNat_one, Int.reduceToNat, List.getElem?_map, Option.map_some, Nat.reduceAdd, Nat.reduceSub, Nat.reduceLT, Nat.reduceLeDiff, Nat.reduceEqDiff, Int.reduceEq, Int.reduceLT, Int.reduceLE, Int.reduceAdd, Int.reduceSub, Int.reduceMul, Int.reduceNeg, List.replicate_succ, List.replicate_zero, Bool.not_true, Bool.not_false, Bool.and_true, Bool.true_and, Bool.and_false, Bool.false_and, Bool.or_true, Bool.true_or, Bool.or_false, Bool.false_or, decide_true, decide_false, if_true, if_false, and_self, true_and, and_true, Nat.sub_self, Nat.add_zero, Nat.zero_add, Bool.true_eq_false, Bool.false_eq_true, ite_true, ite_false, reduceIte, eq_self])
theorem lv_zero {ts : List Tok} (h : rn 1 ts = some 0) : (lvF [0] ts)[0]? = some 0 := by
  cases ts with
  | nil => exact absurd rfl (rn_one h)
  | cons t r => simp [lvF]
theorem first0 {ts : List Tok} (h : rn 1 ts = some 0) : cD ts 0 = cD ts 1 ∧ lD ts 0 = lD ts 1 := by
  constructor
  · refine ext_at (cD_len ts 0) (cD_len ts 1) fun a ha => ?_
    rw [cD_at ha, cD_at ha, chs_none (by omega), chs_none (by omega)]
  · refine ext_at (lD_len ts 0) (lD_len ts 1) fun a ha => ?_
    rw [lD_at ha, lD_at ha]
    by_cases e : a = 0
    · subst e; rw [lv_zero h]; simp
    · rw [if_neg (by omega), if_neg (by omega)]
theorem turn_ok {Q : O → Prop} {N B : SV → Prop} {ts : List Tok} (h : rn 1 ts = some 0) (hh : ∀ t ∈ ts, HOk t) (hl : ts.length ≤ 100000) {i : Nat} (hi : i < ts.length) {x6 x7 x8 : Sl} (p6 : Pl x6) (p7 : Pl x7) (p8 : Pl x8)
    (hN : ∀ x6 x7 x8, Pl x6 → Pl x7 → Pl x8 → N (fr ts (eD ts (i + 1)) (cD ts (i + 1)) (lD ts (i + 1)) (anc ts (i + 1)) (.pl (.int (i : Int))) x6 x7 x8)) :
    Wp (b__law_walked_2 (fr ts (eD ts i) (cD ts i) (lD ts i) (anc ts i) (.pl (.int (i : Int))) x6 x7 x8)) (LpQ N B Q) := by
  have eb : b__law_walked_2 = mSeq (mIfS (mB (m2 (dCI ciGt) (mWith lfree 4 (mCall1 dLen (mCons (mRd 4) mNil))) (mC (.int 0)))) (mSeq (mAsg 6 (mWith lfree 4 (m2 dIx (mRd 4) (m2 (dI2 cSub) (mCall1 dLen (mCons (mRd 4) mNil)) (mC (.int 1))))))
    (mSeq (mPut 3 (m2 dAdd (mWith lfree 3 (m2 dIx (mRd 3) (mRd 6))) (mCall 2 F__law_binds [] (mCons (m2 dIx (mRd 0) (mRd 6)) (mCons (mWith lfree 2 (mCall1 dLen (mCons (m2 dIx (mRd 2) (mRd 6)) mNil))) mNil)))) (mRd 5))
    (mAppIx 2 (mRd 6) (mRd 5)))) mSkip) stR := rfl
  rw [eb]
  have h6 := p6.hide
  have h7 := p7.hide
  have h8 := p8.hide
  by_cases i0 : i = 0
  · subst i0
    have hr := rest_ok (Q := Q) (B := B) h hl hi (lD ts 1) p6 p7 p8 (fun x7 x8 q7 q8 => hN x6 x7 x8 p6 q7 q8)
    obtain ⟨z1, z2⟩ := first0 h
    rw [z1, z2]
    have ea : anc ts 0 = [] := rfl
    have e00 : decide (0 < (((0 : Nat)) : Int)) = false := by decide
    rw [ea] at hr ⊢
    clear hN
    generalize eD ts 0 = E at *
    have hr : Wp (stR (fr ts E (cD ts 1) (lD ts 1) [] (.pl (.int ((0 : Nat) : Int))) x6 x7 x8)) (LpQ N B Q) := hr
    generalize cD ts 1 = C at *
    generalize lD ts 1 = L at *
    walk_at "ev"
  · obtain ⟨A, P, k, t, hA, h1, h2, ht, hk, e⟩ := anc_top h (by omega) hi
    obtain ⟨c1, c2, c3⟩ := chs_next h (by omega) hi hA h1 h2 ht hk e
    have hr := rest_ok (Q := Q) (B := B) h hl hi (lD ts (i + 1)) (pl_pl (.int (P : Int))) p7 p8 (fun x7 x8 q7 q8 => hN _ x7 x8 (pl_pl _) q7 q8)
    clear hN
    have hPl : P < ts.length := by omega
    have hll : (lvF [0] ts).length = ts.length := lvF_len ts [0] h
    obtain ⟨l, hlP⟩ : ∃ l, (lvF [0] ts)[P]? = some l := ⟨_, List.getElem?_eq_getElem (by omega)⟩
    have hli : (lvF [0] ts)[i]? = some (l + bd t k) := by rw [e]; exact lv_part h ht hk hlP
    have hL : (lD ts i)[P]? = some l := by rw [lD_at hPl, if_pos h1, hlP]; rfl
    have hL2 : (iN (lD ts i))[P]? = some (.int (l : Int)) := iN_at hL
    have hLs : (iN (lD ts i)).set i (.int ((l : Int) + (bd t k : Int))) = iN (lD ts (i + 1)) := by
      have : (lD ts i).set i (l + bd t k) = lD ts (i + 1) := by
        refine ext_at (n := ts.length) (by simp [lD_len]) (lD_len ts _) fun a ha => ?_
        by_cases ea : i = a
        · subst ea
          rw [List.getElem?_set_self (by rw [lD_len]; exact ha), lD_at ha, if_pos (by omega), hli]; rfl
        · rw [List.getElem?_set_ne ea, lD_at ha, lD_at ha]
          by_cases c : a < i
          · rw [if_pos c, if_pos (by omega)]
          · rw [if_neg c, if_neg (by omega)]
      rw [← this]; simp [iN]
    have hb := lbinds_ok (hh t (List.mem_of_getElem? ht)) hk
    have hC := cD_at (ts := ts) (i := i) hPl
    have hCs : (cD ts i).set P (.own (.lst (iN (chs ts i P) ++ [.int (i : Int)]))) = cD ts (i + 1) := by
      refine ext_at (n := ts.length) (by simp [cD_len]) (cD_len ts _) fun a ha => ?_
      by_cases ea : P = a
      · subst ea
        rw [List.getElem?_set_self (by rw [cD_len]; exact ha), cD_at ha, c2]; simp [iN]
      · rw [List.getElem?_set_ne ea, cD_at ha, cD_at ha, c3 a (fun z => ea z.symm)]
    have hC2 : (fzL (cD ts i))[P]? = some (.lst (iN (chs ts i P))) := by rw [fzL_get, hC]; rfl
    have hkl : (chs ts i P).length = k := by rw [c1]; simp
    have e0 : Option.map Tok.d ts[P]? = some t.d := by rw [ht]; rfl
    have hA2 : (A ++ [P])[((A.length : Int) + 1 - 1).toNat]? = some P := by
      rw [show ((A.length : Int) + 1 - 1).toNat = A.length by omega]; simp
    have hkar : k ≤ 100000 := by
      have := ar_le h ht
      have := fs_lend ts (P + 1)
      omega
    have hap := fun (s : SV) (y : Sl) => appIx_ok (i := 2) (j := P) (mk := mRd 6) (m := mRd 5) (s := [.pl (tsd ts), .ow (.lst (iN (eD ts i))), .ow (.deep (.lst (cD ts i))), .ow (.lst (iN (lD ts (i + 1)))), .ow (.lst (iN (A ++ [P]))), .pl (.int (i : Int)), .pl (.int (P : Int)), x7, x8, .un])
      (z := (P : Int)) (d := .int (i : Int)) (xs := iN (chs ts i P)) (ds := cD ts i) rfl rfl (by rw [cD_len]; exact q_ixn (P : Int) (by omega) (by omega)) hC rfl (by first | (simp [hkl]; done) | (simp [hkl]; omega))
    have hap := hap [] .un
    rw [hCs] at hap
    have hap : mAppIx 2 (mRd 6) (mRd 5) [.pl (tsd ts), .ow (.lst (iN (eD ts i))), .ow (.deep (.lst (cD ts i))), .ow (.lst (iN (lD ts (i + 1)))), .ow (.lst (iN (A ++ [P]))), .pl (.int (i : Int)), .pl (.int (P : Int)), x7, x8, .un] = .nx (fr ts (eD ts i) (cD ts (i + 1)) (lD ts (i + 1)) (A ++ [P]) (.pl (.int (i : Int))) (.pl (.int (P : Int))) x7 x8) := hap
    have hLl : (iN (lD ts i)).length = ts.length := by simp [lD_len]
    have hz : decide (0 < ((A ++ [P]).length : Int)) = true := decide_eq_true (by first | (simp; done) | (simp; omega))
    have hz2 : decide (0 < (A.length : Int) + 1) = true := decide_eq_true (by omega)
    have hz3 : ((A.length + 1 : Nat) : Int) = (A.length : Int) + 1 := by omega
    have hz4 : decide (0 < ((A.length + 1 : Nat) : Int)) = true := decide_eq_true (by omega)
    rw [hA] at hr ⊢
    clear hC hCs c1 c2 c3 hlP hli hh hA e
    generalize lD ts i = L0 at *
    generalize lD ts (i + 1) = L1 at *
    generalize eD ts i = E at *
    generalize cD ts (i + 1) = C1 at *
    generalize cD ts i = C at *
    generalize chs ts i P = cp at *
    walk_at "ev"
end VM.K15

set_option Elab.async false
set_option linter.all false
set_option autoImplicit false
set_option maxRecDepth 100000
set_option maxHeartbeats 400000
namespace VM.K15
open PySem PySem.Spec PyProof.Rows L2 VM
local macro_rules | `(tactic| walk_at "ev") => `(tactic| simp (disch := first | omega | (simp only [List.length_cons, List.length_nil, List.length_map, List.length_append, List.length_replicate, List.length_set, rngs_length]; omega)) only [*, q_seq, q_skip, q_knx, q_krt, q_kro, q_kbk, q_kct, q_ker, q_kk, q_bind, q_bok, q_ber, q_drop, q_ret, q_reto, q_ifs, q_ct, q_cf, q_asg, q_asgo, q_asgt, q_rok, q_rer, q_c, q_rd, q_mv, q_fz, fz_lst, fz_dct, fz_obj, fz_dlst, fz_ddct, fz_dobj, q_tk, q_2, q_1, q_os, q_b, q_not, q_and, q_or, q_at, q_af, q_ao, q_rt, q_rf, q_ro, q_andv, q_orv, q_avt, q_avf, q_avo, q_rvt, q_rvf, q_rvo, q_ife, q_it, q_if, q_io, q_on, q_oS, q_sl, q_nil, q_cons, q_tup, q_lst, q_call1, q_call, q_f0, q_f1, q_f2, q_f3, q_f4, q_f5, q_f6, q_f7, q_callk, q_frok, q_frer, q_calli, q_mihere, q_micons, q_fri, q_sdo, q_sdi, q_rso, q_rsi, q_app, q_ext, q_ext2, q_put, q_pop, q_with, q_wok, q_for, q_enum, q_items, q_raise, q_gt, q_grt, q_lt, q_le, q_rng1, q_rng2, q_rg1, q_lrg, q_lrgi, q_rg2, q_add, q_adds, q_addl, q_addt, q_cat, q_sub, q_mulr, q_mull, q_div, q_mod, q_p18, q_p12, q_cmplt, q_cmple, q_cmpgt, q_cmpge, q_eqi, q_eqs, q_eqb, q_nei, q_nes, q_isn, q_isnn, q_isb, q_isnb, q_neg, q_dnot, q_lenl, q_lent, q_lenf, q_lens, q_int, q_intb, q_tupl, q_tupt, q_lstl, q_lstt, q_min, q_max, q_ixn, q_ixm, q_ixl, q_ixt, q_ixf, q_rep, q_isi_tt, q_isi_ts, q_isi_ti, q_isi_ss, q_isi_st, q_isi_ii, q_isi_it, q_isi_is, q_isi_bi, q_lfi, q_lfb, q_lfs, q_lfn, q_itt, q_itl, q_itf, q_slt, q_sll, q_sls, tk_row, tk_wd, q_cut, q_cutf, q_cutt, q_try, q_tryo, q_tnx, q_trt, q_tonx, q_tort, w_irt, w_inx, w_iro, w_lnx, w_lct, w_lbk, w_lrt, w_lro, w_ler, w_nnx, w_nrt, w_nro, w_ner, w_rnx, w_rrt, w_rro, w_rer, w_tn, w_tt, w_tt3, ev_ownL, ev_putL, ev_lend, ev_hn, ev_hp, ev_hu, ev_ho, ev_hi, ev_i0, ev_i1, ev_tN, ev_tnil, ev_tcons, ev_tTup, List.getElem?_cons_zero, List.getElem?_cons_succ, List.set_cons_zero, List.set_cons_succ, List.length_cons, List.length_nil, List.length_append, List.length_map, List.length_replicate, List.length_set, rngs_length, List.nil_append, List.cons_append, Int.toNat_natCast, Int.toNat_zero, Int.toNat_one, Int.reduceToNat, List.getElem?_map, Option.map_some, Nat.reduceAdd, Nat.reduceSub, Nat.reduceLT, Nat.reduceLeDiff, Nat.reduceEqDiff, Int.reduceEq, Int.reduceLT, Int.reduceLE, Int.reduceAdd, Int.reduceSub, Int.reduceMul, Int.reduceNeg, List.replicate_succ, List.replicate_zero, Bool.not_true, Bool.not_false, Bool.and_true, Bool.true_and, Bool.and_false, Bool.false_and, Bool.or_true, Bool.true_or, Bool.or_false, Bool.false_or, decide_true, decide_false, if_true, if_false, and_self, true_and, and_true, Nat.sub_self, Nat.add_zero, Nat.zero_add, Bool.true_eq_false, Bool.false_eq_true, ite_true, ite_false, reduceIte, eq_self])
def wkD (ts : List Tok) : D := .lst [.lst (iN ((List.range ts.length).map (En ts))), .lst ((List.range ts.length).map fun a => D.lst (iN (chs ts ts.length a))), .lst (iN (lvF [0] ts))]
theorem walked_ok {ts : List Tok} (h : rn 1 ts = some 0) (hh : ∀ t ∈ ts, HOk t) (hl : ts.length ≤ 100000) : F__law_walked [tsd ts] = .ok (wkD ts) none := Cmp.eq <| cmp_of <| by
  have hlen : (ts.map Tok.d).length = ts.length := List.length_map _
  have hn := List.length_pos_iff.mpr (rn_one h)
  have z0 : ∀ (x1 x2 x3 x4 x5 x6 x7 x8 : Sl), mLc [9] (mItems (mRd 0)) (mtN 9) mYes (mC (.int 0)) [.pl (tsd ts), x1, x2, x3, x4, x5, x6, x7, x8, .un] = .ok (.lst (List.replicate ts.length (.int 0))) [.pl (tsd ts), x1, x2, x3, x4, x5, x6, x7, x8, .un] := fun x1 x2 x3 x4 x5 x6 x7 x8 => by
    have := lc_map (own := [9]) (mi := mItems (mRd 0)) (t := mtN 9) (me := mC (.int 0)) (s := [.pl (tsd ts), x1, x2, x3, x4, x5, x6, x7, x8, .un]) (ts.map Tok.d) id (fun _ => D.int 0) (by rw [List.map_id]; rfl) rfl (by simp; omega) (fun d _ => ⟨[.pl (tsd ts), x1, x2, x3, x4, x5, x6, x7, x8, .pl d], rfl, rfl, rfl⟩)
    rw [this, List.map_const']
    simp
  have z1 : ∀ (x1 x2 x3 x4 x5 x6 x7 x8 : Sl), mLcO [9] (mItems (mRd 0)) (mtN 9) mYes (mLst mNil) [.pl (tsd ts), x1, x2, x3, x4, x5, x6, x7, x8, .un] = .ok (.deep (.lst (List.replicate ts.length (.own (.lst []))))) [.pl (tsd ts), x1, x2, x3, x4, x5, x6, x7, x8, .un] := fun x1 x2 x3 x4 x5 x6 x7 x8 => by
    have := lcO_map (own := [9]) (mi := mItems (mRd 0)) (t := mtN 9) (me := mLst mNil) (s := [.pl (tsd ts), x1, x2, x3, x4, x5, x6, x7, x8, .un]) (ts.map Tok.d) id (fun _ => D.lst []) (by rw [List.map_id]; rfl) rfl (by simp; omega) (fun d _ => ⟨[.pl (tsd ts), x1, x2, x3, x4, x5, x6, x7, x8, .pl d], rfl, by clear hl hh h hlen hn; walk_at "ev", rfl⟩)
    rw [this, List.map_const']
    simp
  have e0 : iN (eD ts 0) = List.replicate ts.length (.int 0) := by
    apply List.ext_getElem?
    intro a
    by_cases ha : a < ts.length
    · rw [iN_at (eD_at ha), if_neg (by have := (En_gt h ha).1; omega), List.getElem?_replicate, if_pos ha]; rfl
    · rw [List.getElem?_eq_none (by simp [eD_len]; omega), List.getElem?_eq_none (by simp; omega)]
  have c0 : cD ts 0 = List.replicate ts.length (.own (.lst [])) := by
    apply List.ext_getElem?
    intro a
    by_cases ha : a < ts.length
    · rw [cD_at ha, chs_none (by omega), List.getElem?_replicate, if_pos ha]; rfl
    · rw [List.getElem?_eq_none (by simp [cD_len]; omega), List.getElem?_eq_none (by simp; omega)]
  have l0 : iN (lD ts 0) = List.replicate ts.length (.int 0) := by
    apply List.ext_getElem?
    intro a
    by_cases ha : a < ts.length
    · rw [iN_at (lD_at ha), if_neg (by omega), List.getElem?_replicate, if_pos ha]; rfl
    · rw [List.getElem?_eq_none (by simp [lD_len]; omega), List.getElem?_eq_none (by simp; omega)]
  have eN : eD ts ts.length = (List.range ts.length).map (En ts) := by
    unfold eD
    apply List.map_congr_left
    intro a ha
    rw [if_pos (En_gt h (List.mem_range.mp ha)).2]
  have lN : lD ts ts.length = lvF [0] ts := by
    have hll : (lvF [0] ts).length = ts.length := lvF_len ts [0] h
    refine ext_at (lD_len ts _) hll fun a ha => ?_
    rw [lD_at ha, if_pos ha, List.getElem?_eq_getElem (by omega)]; rfl
  have cN : fzL (cD ts ts.length) = (List.range ts.length).map fun a => D.lst (iN (chs ts ts.length a)) := by
    apply List.ext_getElem?
    intro a
    rw [fzL_get]
    unfold cD
    rw [List.getElem?_map, List.getElem?_map]
    cases (List.range ts.length)[a]? with
    | none => rfl
    | some x => rfl
  unfold m__law_walked
  show Wp (mSeq _ _ [.pl (tsd ts), .un, .un, .un, .un, .un, .un, .un, .un, .un]) _
  clear hn
  have e0' := e0
  walk_at "ev"
  unfold f__law_walked_3
  walk_at "ev"
  refine w_for (Y := List Nat × List D × List Nat × List Nat × Sl × Sl × Sl × Sl) (fun y => fr ts y.1 y.2.1 y.2.2.1 y.2.2.2.1 y.2.2.2.2.1 y.2.2.2.2.2.1 y.2.2.2.2.2.2.1 y.2.2.2.2.2.2.2) (fun i y => y.1 = eD ts i ∧ y.2.1 = cD ts i ∧ y.2.2.1 = lD ts i ∧ y.2.2.2.1 = anc ts i ∧ Pl y.2.2.2.2.2.1 ∧ Pl y.2.2.2.2.2.2.1 ∧ Pl y.2.2.2.2.2.2.2) (eD ts 0, cD ts 0, lD ts 0, [], .un, .un, .un, .un) (by simp only [fr, e0, c0, l0]; rfl) ⟨rfl, rfl, rfl, rfl, .inl rfl, .inl rfl, .inl rfl⟩ (fun i d y hd hy => ?_) fun y hy => ?_
  · obtain ⟨E, C, L, A, x5, x6, x7, x8⟩ := y
    obtain ⟨rfl, rfl, rfl, rfl, p6, p7, p8⟩ := hy
    obtain ⟨hi, rfl⟩ := nget hd
    rw [w_tn]
    exact turn_ok h hh hl hi p6 p7 p8 fun x6 x7 x8 q6 q7 q8 => ⟨(_, _, _, _, _, _, _, _), rfl, rfl, rfl, rfl, rfl, q6, q7, q8⟩
  · obtain ⟨E, C, L, A, x5, x6, x7, x8⟩ := y
    obtain ⟨h1, h2, h3, h4, p6, p7, p8⟩ := hy
    dsimp only at h1 h2 h3 h4 p6 p7 p8
    rw [rngs_length] at h1 h2 h3 h4
    subst h1 h2 h3 h4
    clear z0 z1 e0 c0 l0 e0'
    show Wp (mRetO (mLst (mCons (mMv 1) (mCons (mMv 2) (mCons (mMv 3) mNil)))) (fr ts (eD ts ts.length) (cD ts ts.length) (lD ts ts.length) (anc ts ts.length) x5 x6 x7 x8)) _
    rw [eN, lN]
    have hfin : wkD ts = .lst [.lst (iN ((List.range ts.length).map (En ts))), .lst (fzL (cD ts ts.length)), .lst (iN (lvF [0] ts))] := by rw [cN]; rfl
    rw [hfin]
    clear hfin cN lN eN
    generalize (List.range ts.length).map (En ts) = EE at *
    generalize cD ts ts.length = CC at *
    generalize lvF [0] ts = LL at *
    generalize anc ts ts.length = AA at *
    walk_at "ev"
end VM.K15

set_option Elab.async false
set_option linter.all false
set_option autoImplicit false
set_option maxRecDepth 100000
set_option maxHeartbeats 400000
namespace VM.K15
open PySem PySem.Spec PyProof.Rows L2 VM
local macro_rules | `(tactic| walk_at "ev") => `(tactic| simp (disch := first | omega | (simp only [List.length_cons, List.length_nil, List.length_map, List.length_append, List.length_replicate, List.length_set, rngs_length]; omega)) only [*, q_seq, q_skip, q_knx, q_krt, q_kro, q_kbk, q_kct, q_ker, q_kk, q_bind, q_bok, q_ber, q_drop, q_ret, q_reto, q_ifs, q_ct, q_cf, q_asg, q_asgo, q_asgt, q_rok, q_rer, q_c, q_rd, q_mv, q_fz, fz_lst, fz_dct, fz_obj, fz_dlst, fz_ddct, fz_dobj, q_tk, q_2, q_1, q_os, q_b, q_not, q_and, q_or, q_at, q_af, q_ao, q_rt, q_rf, q_ro, q_andv, q_orv, q_avt, q_avf, q_avo, q_rvt, q_rvf, q_rvo, q_ife, q_it, q_if, q_io, q_on, q_oS, q_sl, q_nil, q_cons, q_tup, q_lst, q_call1, q_call, q_f0, q_f1, q_f2, q_f3, q_f4, q_f5, q_f6, q_f7, q_callk, q_frok, q_frer, q_calli, q_mihere, q_micons, q_fri, q_sdo, q_sdi, q_rso, q_rsi, q_app, q_ext, q_ext2, q_put, q_pop, q_with, q_wok, q_for, q_enum, q_items, q_raise, q_gt, q_grt, q_lt, q_le, q_rng1, q_rng2, q_rg1, q_lrg, q_lrgi, q_rg2, q_add, q_adds, q_addl, q_addt, q_cat, q_sub, q_mulr, q_mull, q_div, q_mod, q_p18, q_p12, q_cmplt, q_cmple, q_cmpgt, q_cmpge, q_eqi, q_eqs, q_eqb, q_nei, q_nes, q_isn, q_isnn, q_isb, q_isnb, q_neg, q_dnot, q_lenl, q_lent, q_lenf, q_lens, q_int, q_intb, q_tupl, q_tupt, q_lstl, q_lstt, q_min, q_max, q_ixn, q_ixm, q_ixl, q_ixt, q_ixf, q_rep, q_isi_tt, q_isi_ts, q_isi_ti, q_isi_ss, q_isi_st, q_isi_ii, q_isi_it, q_isi_is, q_isi_bi, q_lfi, q_lfb, q_lfs, q_lfn, q_itt, q_itl, q_itf, q_slt, q_sll, q_sls, tk_row, tk_wd, q_cut, q_cutf, q_cutt, q_try, q_tryo, q_tnx, q_trt, q_tonx, q_tort, w_irt, w_inx, w_iro, w_lnx, w_lct, w_lbk, w_lrt, w_lro, w_ler, w_nnx, w_nrt, w_nro, w_ner, w_rnx, w_rrt, w_rro, w_rer, w_tn, w_tt, w_tt3, ev_ownL, ev_putL, ev_lend, ev_hn, ev_hp, ev_hu, ev_ho, ev_hi, ev_i0, ev_i1, ev_tN, ev_tnil, ev_tcons, ev_tTup, List.getElem?_cons_zero, List.getElem?_cons_succ, List.set_cons_zero, List.set_cons_succ, List.length_cons, List.length_nil, List.length_append, List.length_map, List.length_replicate, List.length_set, rngs_length, List.nil_append, List.cons_append, Int.toNat_natCast, Int.toNat_zero, Int.toNat_one, Int.reduceToNat, List.getElem?_map, Option.map_some, Nat.reduceAdd, Nat.reduceSub, Nat.reduceLT, Nat.reduceLeDiff, Nat.reduceEqDiff, Int.reduceEq, Int.reduceLT, Int.reduceLE, Int.reduceAdd, Int.reduceSub, Int.reduceMul, Int.reduceNeg, List.replicate_succ, List.replicate_zero, Bool.not_true, Bool.not_false, Bool.and_true, Bool.true_and, Bool.and_false, Bool.false_and, Bool.or_true, Bool.true_or, Bool.or_false, Bool.false_or, decide_true, decide_false, if_true, if_false, and_self, true_and, and_true, Nat.sub_self, Nat.add_zero, Nat.zero_add, Bool.true_eq_false, Bool.false_eq_true, ite_true, ite_false, reduceIte, eq_self])
theorem lvF_le : ∀ (ts : List Tok) (st : List Nat) (c : Nat), (∀ t ∈ ts, ∀ k, bd t k ≤ 16) → (∀ l ∈ st, l ≤ c) → ∀ l ∈ lvF st ts, l ≤ c + 16 * ts.length
  | [], st, c, _, _ => by cases st <;> simp [lvF]
  | t :: r, [], c, _, _ => by simp [lvF]
  | t :: r, l :: st, c, hb, hs => by
    intro x hx
    simp only [lvF] at hx
    rcases List.mem_cons.mp hx with rfl | hx
    · have := hs x (by simp); omega
    · have := lvF_le r (chl t l ++ st) (c + 16) (fun u hu => hb u (by simp [hu])) (fun y hy => by
        rcases List.mem_append.mp hy with hy | hy
        · obtain ⟨k, _, rfl⟩ := List.mem_map.mp hy
          have h1 := hs l (by simp)
          have h2 := hb t (by simp) k
          omega
        · have := hs y (by simp [hy]); omega) x hx
      simp only [List.length_cons]; omega
structure Pr (ts : List Tok) (n B : Nat) : Prop where
  r : rn 1 ts = some 0
  g : ∀ t ∈ ts, TG t
  l : ts.length ≤ n
  v : ∀ m, Tok.num m ∈ ts → m ≤ B
theorem Pr.h {ts : List Tok} {n B : Nat} (p : Pr ts n B) : ∀ t ∈ ts, HOk t := fun t ht => (p.g t ht).h
theorem Pr.lv {ts : List Tok} {n B : Nat} (p : Pr ts n B) : ∀ l ∈ lvF [0] ts, l ≤ 16 * n := fun l hl => by
  have := lvF_le ts [0] 0 (fun t ht => (p.g t ht).b) (by simp) l hl
  have := p.l
  omega
theorem Pr.mono {ts : List Tok} {n n' B B' : Nat} (p : Pr ts n B) (h1 : n ≤ n') (h2 : B ≤ B') : Pr ts n' B' := ⟨p.r, p.g, Nat.le_trans p.l h1, fun m hm => Nat.le_trans (p.v m hm) h2⟩
theorem ar_sum : ∀ (ts : List Tok) (p q : Nat), rn p ts = some q → (ts.map Tok.ar).sum + p = q + ts.length
  | [], p, q, h => by simp [rn] at h; simp [h]
  | _ :: _, 0, q, h => by simp [rn] at h
  | t :: r, p + 1, q, h => by
    have := ar_sum r (p + t.ar) q h
    simp only [List.map_cons, List.sum_cons, List.length_cons]; omega
theorem toks_rs : ∀ (ts : List Tok), (∀ t ∈ ts, TG t) → (∀ m, Tok.num m ∈ ts → m < 10 ^ 50) → RsL (ts.map Tok.d) (122 * ts.length + 60 * (ts.map Tok.ar).sum) 4
  | [], _, _ => .nil
  | t :: r, hg, hv => by
    have ih := toks_rs r (fun u hu => hg u (by simp [hu])) (fun m hm => hv m (by simp [hm]))
    have h1 : Rs t.d (120 + 60 * t.ar) 4 := by
      cases t with
      | num n => exact (Rs.nat (hv n (by simp))).mono (by omega) (by omega)
      | _ => exact (hg _ (by simp)).r 4 (by decide) (fun n z => by cases z)
    exact (RsL.cons h1 ih).mono (by simp only [List.length_cons, List.map_cons, List.sum_cons]; omega) (Nat.le_refl _)
abbrev big : Nat := 10 ^ 20

theorem Pr.rs {ts : List Tok} {n B : Nat} (p : Pr ts n B) (hn : n ≤ 80000) (hB : B < 10 ^ 50) : ∃ z, dRepr [tsd ts] = some (.str z) := by
  have h1 := toks_rs ts p.g (fun m hm => Nat.lt_of_le_of_lt (p.v m hm) hB)
  have h2 := ar_sum ts 1 0 p.r
  have h3 := p.l
  exact reprs_of (Rs.tup h1) (by omega) (by decide)
theorem natL_rs {xs : List Nat} (h : ∀ x ∈ xs, x < 10 ^ 50) : RsL (iN xs) (54 * xs.length) 0 := by
  have := RsL.all (w := 52) (dp := 0) (ds := iN xs) (fun d hd => by
    obtain ⟨x, hx, rfl⟩ := List.mem_map.mp hd
    exact Rs.nat (h x hx))
  simpa using this
theorem nats_rs {xs : List Nat} (h : ∀ x ∈ xs, x < 10 ^ 50) (hl : xs.length ≤ 200000) : ∃ z, dRepr [.tup (iN xs)] = some (.str z) := reprs_of (Rs.tup (natL_rs h)) (by omega) (by decide)
theorem nat_rs {n : Nat} (h : n < 10 ^ 50) : ∃ z, dRepr [.int (n : Int)] = some (.str z) := reprs_of (Rs.nat h) (by decide) (by decide)
theorem bl_rs (b : Bool) : ∃ z, dRepr [.bl b] = some (.str z) := reprs_of (Rs.bl b) (by decide) (by decide)
theorem neg_rs {m : Nat} (h : m < 1300) : Rs (.int (-(m : Int))) 10 0 := by
  have : (List.range 1300).all (fun m => rsB (.int (-(m : Int))) 10 0) = true := by decide +kernel
  exact Rs.by (List.all_eq_true.mp this m (List.mem_range.mpr h))
theorem fs_app : ∀ (x : List Tok) (p : Nat) (r : List Tok), rn p x = some 0 → fsz (x ++ r) = fsz x ++ fsz r
  | [], p, r, h => by simp [fsz]
  | _ :: _, 0, r, h => by simp [rn] at h
  | t :: x, p + 1, r, h => by
    have h : rn (p + t.ar) x = some 0 := h
    have ih := fs_app x (p + t.ar) r h
    have hl := rn_fs x _ h
    simp only [List.cons_append, fsz, ih]
    rw [List.take_append_of_le_length (by omega), List.drop_append_of_le_length (by omega)]
theorem fs_one {x : List Tok} (h : rn 1 x = some 0) : fsz x = [x.length] := by
  have h1 := rn_fs x 1 h
  have h2 := fs_sum x
  cases e : fsz x with
  | nil => rw [e] at h1; simp at h1
  | cons a r =>
    rw [e] at h1 h2
    have hr : r = [] := by simpa using h1
    subst hr
    simp at h2; rw [h2]
def part (ts : List Tok) (a : Nat) : List Tok := (ts.drop a).take (szt ts a)
theorem part_rn {ts : List Tok} (h : rn 1 ts = some 0) {a : Nat} (ha : a < ts.length) : rn 1 (part ts a) = some 0 := by
  obtain ⟨q, hq⟩ := rn_drop h a
  have hq1 : 1 ≤ q := by
    cases q with
    | zero => rw [List.drop_eq_getElem_cons ha] at hq; cases hq
    | succ q => omega
  have h1 := fs_take _ q 1 hq hq1
  have e : ((fsz (ts.drop a)).take 1).sum = szt ts a := by
    have := rn_fs _ _ hq
    unfold szt
    cases hf : fsz (ts.drop a) with
    | nil => rw [hf] at this; simp at this; omega
    | cons a r => simp
  rw [e] at h1
  exact h1
theorem part_len {ts : List Tok} {a : Nat} : (part ts a).length = szt ts a := by
  have := szt_le ts a
  unfold part
  simp; omega
theorem Pr.cut {ts : List Tok} {n B : Nat} (p : Pr ts n B) {a : Nat} (ha : a < ts.length) : Pr (part ts a) n B :=
  ⟨part_rn p.r ha, fun t ht => p.g t (List.mem_of_mem_drop (List.mem_of_mem_take ht)), by have := p.l; have := szt_le ts a; rw [part_len]; omega, fun m hm => p.v m (List.mem_of_mem_drop (List.mem_of_mem_take hm))⟩
theorem split_at {ts : List Tok} {a : Nat} (ha : a < ts.length) : ts = ts.take a ++ part ts a ++ ts.drop (En ts a) := by
  unfold part En
  rw [List.append_assoc, show a + szt ts a = szt ts a + a by omega, ← List.drop_drop, ]
  have : ts.drop a = (ts.drop a).take (szt ts a) ++ (ts.drop a).drop (szt ts a) := (List.take_append_drop _ _).symm
  rw [List.drop_drop]
  conv => lhs; rw [← List.take_append_drop a ts]; rw [this]
  rw [List.drop_drop, Nat.add_comm]
def putT (ts o : List Tok) (a : Nat) : List Tok := ts.take a ++ o ++ ts.drop (En ts a)
theorem put_parts {ts o : List Tok} (h : rn 1 ts = some 0) (ho : rn 1 o = some 0) {a : Nat} (ha : a < ts.length) : rn 1 (putT ts o a) = some 0 := by
  have h1 := h
  rw [split_at ha, List.append_assoc, rn_app] at h1
  unfold putT
  rw [List.append_assoc, rn_app]
  cases hq : rn 1 (ts.take a) with
  | none => rw [hq] at h1; cases h1
  | some q =>
    rw [hq] at h1
    have h1 : rn q (part ts a ++ ts.drop (En ts a)) = some 0 := h1
    show rn q (o ++ ts.drop (En ts a)) = some 0
    have hp := part_rn h ha
    cases q with
    | zero =>
      have : part ts a ≠ [] := rn_one hp
      cases e : part ts a with
      | nil => exact absurd e this
      | cons t r => rw [e] at h1; cases h1
    | succ q =>
      have u1 := rn_up q _ 1 0 hp
      have u2 := rn_up q _ 1 0 ho
      rw [rn_app, show q + 1 = 1 + q by omega, u1] at h1
      rw [rn_app, show q + 1 = 1 + q by omega, u2]
      simpa using h1
theorem Pr.put {ts o : List Tok} {n m B : Nat} (p : Pr ts n B) (q : Pr o m B) {a : Nat} (ha : a < ts.length) : Pr (putT ts o a) (n + m) B := by
  refine ⟨put_parts p.r q.r ha, fun t ht => ?_, ?_, fun v hv => ?_⟩
  · unfold putT at ht
    rcases List.mem_append.mp ht with ht | ht
    · rcases List.mem_append.mp ht with ht | ht
      · exact p.g t (List.mem_of_mem_take ht)
      · exact q.g t ht
    · exact p.g t (List.mem_of_mem_drop ht)
  · have := p.l; have := q.l
    have := (En_gt p.r ha).1
    unfold putT; simp; omega
  · unfold putT at hv
    rcases List.mem_append.mp hv with ht | ht
    · rcases List.mem_append.mp ht with ht | ht
      · exact p.v v (List.mem_of_mem_take ht)
      · exact q.v v ht
    · exact p.v v (List.mem_of_mem_drop ht)
theorem put_end {ts o : List Tok} (h : rn 1 ts = some 0) (ho : rn 1 o = some 0) {a : Nat} (ha : a < ts.length) : En (putT ts o a) a = a + o.length := by
  have e : (putT ts o a).drop a = o ++ ts.drop (En ts a) := by
    unfold putT
    rw [List.append_assoc, List.drop_append_of_le_length (by simp; omega)]
    rw [List.drop_eq_nil_of_le (by simp; omega)]; rfl
  unfold En szt
  rw [e, fs_app o 1 _ ho, fs_one ho]; rfl
theorem put_back {ts o : List Tok} (h : rn 1 ts = some 0) (ho : rn 1 o = some 0) {a : Nat} (ha : a < ts.length) : putT (putT ts o a) (part ts a) a = ts := by
  have e1 := put_end h ho ha
  have e2 : (putT ts o a).take a = ts.take a := by
    unfold putT
    rw [List.append_assoc, List.take_append_of_le_length (by simp; omega), List.take_take, Nat.min_self]
  have e3 : (putT ts o a).drop (a + o.length) = ts.drop (En ts a) := by
    unfold putT
    rw [List.drop_append, List.length_append, List.length_take, Nat.min_eq_left (by omega), Nat.sub_self, List.drop_zero, List.drop_eq_nil_of_le (by simp; omega)]; rfl
  show (putT ts o a).take a ++ part ts a ++ (putT ts o a).drop (En (putT ts o a) a) = ts
  rw [e1, e2, e3]
  exact (split_at ha).symm
/-- levels within a part -/
theorem lv_in {ts : List Tok} (h : rn 1 ts = some 0) {a j l : Nat} (ha : a < ts.length) (hj : j < szt ts a) (hl : (lvF [0] ts)[a]? = some l) : ∃ x, (lvF [0] (part ts a))[j]? = some x ∧ (lvF [0] ts)[a + j]? = some (l + x) ∧ (part ts a)[j]? = ts[a + j]? := by
  have hp := part_rn h ha
  have hpl : (lvF [0] (part ts a)).length = (part ts a).length := lvF_len _ [0] hp
  obtain ⟨st, h1, h2⟩ := lvF_drop ts [0] h a (by omega)
  have hd : ts.drop a = part ts a ++ ts.drop (En ts a) := by
    unfold part En
    rw [show a + szt ts a = a + szt ts a from rfl, ← List.drop_drop, List.take_append_drop]
  rw [hd] at h1 h2
  cases st with
  | nil =>
    have : part ts a ≠ [] := rn_one hp
    cases e : part ts a with
    | nil => exact absurd e this
    | cons t r => rw [e] at h2; cases h2
  | cons b st =>
    have h3 : lvF (b :: st) (part ts a ++ ts.drop (En ts a)) = lvF [b] (part ts a) ++ lvF st (ts.drop (En ts a)) := lvF_app (part ts a) [b] st _ hp
    have h4 : lvF [b] (part ts a) = (lvF [0] (part ts a)).map (b + ·) := by
      have := lvF_up b (part ts a) [0]
      simpa using this
    rw [h3, h4] at h1
    have at_ : ∀ i, i < szt ts a → (lvF [0] ts)[a + i]? = ((lvF [0] (part ts a)).map (b + ·))[i]? := fun i hi => by
      have : ((lvF [0] ts).drop a)[i]? = (lvF [0] ts)[a + i]? := List.getElem?_drop
      rw [← this, h1, List.getElem?_append_left (by rw [List.length_map, hpl, part_len]; exact hi)]
    have hx : (lvF [0] (part ts a))[j]? = some ((lvF [0] (part ts a))[j]'(by rw [hpl, part_len]; exact hj)) := List.getElem?_eq_getElem _
    have hb : b = l := by
      have h0 := at_ 0 (by omega)
      rw [Nat.add_zero, hl, List.getElem?_map, lv_zero hp] at h0
      simpa using h0.symm
    refine ⟨_, hx, ?_, ?_⟩
    · rw [at_ j hj, List.getElem?_map, hx, hb]; rfl
    · unfold part
      rw [List.getElem?_take, if_pos hj, List.getElem?_drop]
/-- is a program closed? -/
def okT : Tok → Nat → Bool
  | .num n, l => decide (n < l)
  | _, _ => true
def clU (ts : List Tok) (n : Nat) : Bool := (List.range n).all fun j => okT (ts[j]?.getD .un) ((lvF [0] ts)[j]?.getD 0)
def clB (ts : List Tok) : Bool := clU ts ts.length
theorem clU_next (ts : List Tok) (n : Nat) : clU ts (n + 1) = (clU ts n && okT (ts[n]?.getD .un) ((lvF [0] ts)[n]?.getD 0)) := by
  unfold clU
  rw [List.range_succ, List.all_append]; simp
theorem clB_false {ts : List Tok} {j : Nat} (hj : j < ts.length) (h : okT (ts[j]?.getD .un) ((lvF [0] ts)[j]?.getD 0) = false) : clB ts = false := by
  cases hc : clB ts with
  | false => rfl
  | true =>
    have := List.all_eq_true.mp hc j (List.mem_range.mpr hj)
    rw [h] at this; cases this
end VM.K15

set_option Elab.async false
set_option linter.all false
set_option autoImplicit false
set_option maxRecDepth 100000
set_option maxHeartbeats 400000
namespace VM.K15
open PySem PySem.Spec PyProof.Rows L2 VM
local macro_rules | `(tactic| walk_at "ev") => `(tactic| simp (disch := first | omega | (simp only [List.length_cons, List.length_nil, List.length_map, List.length_append, List.length_replicate, List.length_set, rngs_length]; omega)) only [*, q_seq, q_skip, q_knx, q_krt, q_kro, q_kbk, q_kct, q_ker, q_kk, q_bind, q_bok, q_ber, q_drop, q_ret, q_reto, q_ifs, q_ct, q_cf, q_asg, q_asgo, q_asgt, q_rok, q_rer, q_c, q_rd, q_mv, q_fz, fz_lst, fz_dct, fz_obj, fz_dlst, fz_ddct, fz_dobj, q_tk, q_2, q_1, q_os, q_b, q_not, q_and, q_or, q_at, q_af, q_ao, q_rt, q_rf, q_ro, q_andv, q_orv, q_avt, q_avf, q_avo, q_rvt, q_rvf, q_rvo, q_ife, q_it, q_if, q_io, q_on, q_oS, q_sl, q_nil, q_cons, q_tup, q_lst, q_call1, q_call, q_f0, q_f1, q_f2, q_f3, q_f4, q_f5, q_f6, q_f7, q_callk, q_frok, q_frer, q_calli, q_mihere, q_micons, q_fri, q_sdo, q_sdi, q_rso, q_rsi, q_app, q_ext, q_ext2, q_put, q_pop, q_with, q_wok, q_for, q_enum, q_items, q_raise, q_gt, q_grt, q_lt, q_le, q_rng1, q_rng2, q_rg1, q_lrg, q_lrgi, q_rg2, q_add, q_adds, q_addl, q_addt, q_cat, q_sub, q_mulr, q_mull, q_div, q_mod, q_p18, q_p12, q_cmplt, q_cmple, q_cmpgt, q_cmpge, q_eqi, q_eqs, q_eqb, q_nei, q_nes, q_isn, q_isnn, q_isb, q_isnb, q_neg, q_dnot, q_lenl, q_lent, q_lenf, q_lens, q_int, q_intb, q_tupl, q_tupt, q_lstl, q_lstt, q_min, q_max, q_ixn, q_ixm, q_ixl, q_ixt, q_ixf, q_rep, q_isi_tt, q_isi_ts, q_isi_ti, q_isi_ss, q_isi_st, q_isi_ii, q_isi_it, q_isi_is, q_isi_bi, q_lfi, q_lfb, q_lfs, q_lfn, q_itt, q_itl, q_itf, q_slt, q_sll, q_sls, tk_row, tk_wd, q_cut, q_cutf, q_cutt, q_try, q_tryo, q_tnx, q_trt, q_tonx, q_tort, w_irt, w_inx, w_iro, w_lnx, w_lct, w_lbk, w_lrt, w_lro, w_ler, w_nnx, w_nrt, w_nro, w_ner, w_rnx, w_rrt, w_rro, w_rer, w_tn, w_tt, w_tt3, ev_ownL, ev_putL, ev_lend, ev_hn, ev_hp, ev_hu, ev_ho, ev_hi, ev_i0, ev_i1, ev_tN, ev_tnil, ev_tcons, ev_tTup, List.getElem?_cons_zero, List.getElem?_cons_succ, List.set_cons_zero, List.set_cons_succ, List.length_cons, List.length_nil, List.length_append, List.length_map, List.length_replicate, List.length_set, rngs_length, List.nil_append, List.cons_append, Int.toNat_natCast, Int.toNat_zero, Int.toNat_one, Int.reduceToNat, List.getElem?_map, Option.map_some, Nat.reduceAdd, Nat.reduceSub, Nat.reduceLT, Nat.reduceLeDiff, Nat.reduceEqDiff, Int.reduceEq, Int.reduceLT, Int.reduceLE, Int.reduceAdd, Int.reduceSub, Int.reduceMul, Int.reduceNeg, List.replicate_succ, List.replicate_zero, Bool.not_true, Bool.not_false, Bool.and_true, Bool.true_and, Bool.and_false, Bool.false_and, Bool.or_true, Bool.true_or, Bool.or_false, Bool.false_or, decide_true, decide_false, if_true, if_false, and_self, true_and, and_true, Nat.sub_self, Nat.add_zero, Nat.zero_add, Bool.true_eq_false, Bool.false_eq_true, ite_true, ite_false, reduceIte, eq_self])
theorem check_ok {ts : List Tok} (hl : ts.length ≤ 1000000) {a : Nat} (ha : a < ts.length) : F_check_index [tsd ts, .int (a : Int)] = .ok .non none := Cmp.eq <| cmp_of <| by
  have c1 : dCmp ciLt csLt (.int (a : Int)) (.int 0) = some (.bl false) := by rw [q_cmplt]; rw [decide_eq_false (by omega)]
  have c2 : dCI ciGe (.int (a : Int)) (.int (ts.length : Int)) = some (.bl false) := by rw [q_cmpge]; rw [decide_eq_false (by omega)]
  have hlen : (ts.map Tok.d).length = ts.length := List.length_map _
  unfold m_check_index
  walk_at "ev"
theorem check_bad {ts : List Tok} (hl : ts.length ≤ 1000000) {z : Int} (hz : z < 0 ∨ (ts.length : Int) ≤ z) : F_check_index [tsd ts, .int z] = .err ⟨"BadPlace", [("place", .int z)]⟩ none := Cmp.er <| cmp_of <| by
  have hlen : (ts.map Tok.d).length = ts.length := List.length_map _
  unfold m_check_index
  by_cases c : z < 0
  · have c1 : dCmp ciLt csLt (.int z) (.int 0) = some (.bl true) := by rw [q_cmplt]; rw [decide_eq_true c]
    clear hz
    walk_at "ev"
    rfl
  · have c1 : dCmp ciLt csLt (.int z) (.int 0) = some (.bl false) := by rw [q_cmplt]; rw [decide_eq_false c]
    have c2 : dCI ciGe (.int z) (.int (ts.length : Int)) = some (.bl true) := by rw [q_cmpge]; rw [decide_eq_true (by omega)]
    clear hz c
    walk_at "ev"
    rfl
theorem ends2 {ts : List Tok} (h : rn 1 ts = some 0) (hl : ts.length ≤ 1000000) : F_program_ends [tsd ts] = .ok (.tup (iN ((List.range ts.length).map (En ts)))) none := by
  obtain ⟨E, h1, h2⟩ := ends_ok h hl
  have : E = (List.range ts.length).map (En ts) := ext_at h2.len (by simp) fun a ha => by
    rw [h2.at_ a ha, List.getElem?_map, List.getElem?_range ha]; rfl
  rw [h1, this]
theorem enT {ts : List Tok} : EnT ts ((List.range ts.length).map (En ts)) := ⟨by simp, fun j hj => by rw [List.getElem?_map, List.getElem?_range hj]; rfl⟩
theorem ens_at {ts : List Tok} {a : Nat} (ha : a < ts.length) : ((List.range ts.length).map (En ts))[a]? = some (En ts a) := by rw [List.getElem?_map, List.getElem?_range ha]; rfl
theorem children_ok {ts : List Tok} (h : rn 1 ts = some 0) (hl : ts.length ≤ 1000000) {a : Nat} {t : Tok} (ht : ts[a]? = some t) : F_children_of [tsd ts, .int (a : Int)] = .ok (.tup (iN ((List.range t.ar).map (sta ts a)))) none := Cmp.eq <| cmp_of <| by
  have e1 := check_ok hl (List.getElem?_eq_some_iff.mp ht).1
  have e2 := ends2 h hl
  have e3 := starts_ok h hl enT ht
  unfold m_children_of
  clear ht
  generalize (List.range ts.length).map (En ts) = EE at *
  generalize (List.range t.ar).map (sta ts a) = SS at *
  walk_at "ev"
theorem partof_ok {ts : List Tok} (h : rn 1 ts = some 0) (hl : ts.length ≤ 1000000) {a : Nat} (ha : a < ts.length) : F_part_of [tsd ts, .int (a : Int)] = .ok (tsd (part ts a)) none := Cmp.eq <| cmp_of <| by
  have e1 := check_ok hl ha
  have e2 := ends2 h hl
  have e3 := ens_at ha
  have e4 : List.take (En ts a - a) (List.drop a (ts.map Tok.d)) = (part ts a).map Tok.d := by
    unfold part
    rw [show En ts a - a = szt ts a by unfold En; omega, List.map_take, List.map_drop]
  unfold m_part_of
  generalize hEE : (List.range ts.length).map (En ts) = EE at *
  clear hEE
  generalize part ts a = PP at *
  generalize En ts a = ea at *
  walk_at "ev"
theorem put_ok {ts : List Tok} (h : rn 1 ts = some 0) (hl : ts.length ≤ 1000000) {a : Nat} (ha : a < ts.length) {o : List Tok} (hol : o.length ≤ 1000000) : F_put_part [tsd ts, .int (a : Int), tsd o] = .ok (tsd (putT ts o a)) none := Cmp.eq <| cmp_of <| by
  have e1 := check_ok hl ha
  have e2 := ends2 h hl
  have e3 := ens_at ha
  have e4 : List.take a (ts.map Tok.d) ++ o.map Tok.d ++ List.drop (En ts a) (ts.map Tok.d) = (putT ts o a).map Tok.d := by unfold putT; simp
  have l1 : (List.take a (ts.map Tok.d)).length ≤ 1000000 := by simp; omega
  have l2 : (List.drop (En ts a) (ts.map Tok.d)).length ≤ 1000000 := by simp; omega
  have l3 : (o.map Tok.d).length ≤ 1000000 := by simpa using hol
  unfold m_put_part
  generalize hEE : (List.range ts.length).map (En ts) = EE at *
  clear hEE
  generalize putT ts o a = PP at *
  generalize En ts a = ea at *
  walk_at "ev"
theorem closed_ok {ts : List Tok} (h : rn 1 ts = some 0) (hh : ∀ t ∈ ts, HOk t) (hl : ts.length ≤ 1000000) : F_is_closed [tsd ts] = .ok (.bl (clB ts)) none := Cmp.eq <| cmp_of <| by
  have e1 := levels_ok h hh hl
  have hll : (lvF [0] ts).length = ts.length := lvF_len ts [0] h
  have hlen : (ts.map Tok.d).length = ts.length := List.length_map _
  unfold m_is_closed
  walk_at "ev"
  unfold f_is_closed_1
  walk_at "ev"
  refine w_for (Y := Sl × Sl) (fun y => [.pl (tsd ts), .pl (.tup (iN (lvF [0] ts))), y.1, y.2]) (fun j y => clU ts j = true) (.un, .un) rfl rfl (fun j d y hd hy => ?_) fun y hy => ?_
  · obtain ⟨y2, y3⟩ := y
    obtain ⟨x, h2, rfl⟩ := enumN hd
    rw [List.getElem?_map] at h2
    obtain ⟨t, ht, rfl⟩ := Option.map_eq_some_iff.mp h2
    have hj : j < ts.length := (List.getElem?_eq_some_iff.mp ht).1
    obtain ⟨l, hl1⟩ : ∃ l, (lvF [0] ts)[j]? = some l := ⟨_, List.getElem?_eq_getElem (by omega)⟩
    have hw := whole_ok t
    have nx0 := clU_next ts j
    rw [hy, ht, hl1] at nx0
    have nx : clU ts (j + 1) = okT t l := by simpa using nx0
    clear nx0
    have ff : okT t l = false → clB ts = false := fun z => clB_false hj (by rw [ht, hl1]; exact z)
    rw [w_tt]
    show Wp (b_is_closed_0 [.pl (tsd ts), .pl (.tup (iN (lvF [0] ts))), .pl (.int (j : Int)), .pl t.d]) _
    have hl2 := iN_at hl1
    clear hd h2 ht e1 hy
    generalize lvF [0] ts = LV at *
    generalize clB ts = cb at *
    unfold b_is_closed_0
    cases t with
    | num n =>
      simp only [Tok.d] at hw ⊢
      by_cases c : l ≤ n
      · have c1 : dCI ciGe (.int (n : Int)) (.int (l : Int)) = some (.bl true) := by rw [q_cmpge]; rw [decide_eq_true (by omega)]
        have hcb := ff (by simp [okT]; omega)
        clear ff nx
        walk_at "ev"
      · have c1 : dCI ciGe (.int (n : Int)) (.int (l : Int)) = some (.bl false) := by rw [q_cmpge]; rw [decide_eq_false (by omega)]
        have nx2 : clU ts (j + 1) = true := by rw [nx]; simp [okT]; omega
        clear ff hl1 nx
        walk_at "ev"
        exact ⟨(.pl (.int (j : Int)), .pl _), rfl⟩
    | _ =>
      simp only [Tok.d] at hw ⊢
      have nx2 : clU ts (j + 1) = true := nx
      clear ff hl1 hl2 nx
      walk_at "ev"
      exact ⟨(.pl (.int (j : Int)), .pl _), rfl⟩
  · obtain ⟨y2, y3⟩ := y
    rw [enumN_len, hlen] at hy
    have hy : clB ts = true := hy
    generalize clB ts = cb at *
    clear e1
    walk_at "ev"
theorem shut_ok {ts : List Tok} (h : rn 1 ts = some 0) (hl : ts.length ≤ 1000000) {a : Nat} (ha : a < ts.length) : F__law_is_shut [tsd ts, wkD ts, .int (a : Int)] = .ok (.bl (clB (part ts a))) none := Cmp.eq <| cmp_of <| by
  have hll : (lvF [0] ts).length = ts.length := lvF_len ts [0] h
  have hlen : (ts.map Tok.d).length = ts.length := List.length_map _
  have hE := ens_at ha
  obtain ⟨l0, hl0⟩ : ∃ l, (lvF [0] ts)[a]? = some l := ⟨_, List.getElem?_eq_getElem (by omega)⟩
  have hEg := En_gt h ha
  have hpl := part_len (ts := ts) (a := a)
  have hen : ((En ts a : Int) - (a : Int)).toNat = szt ts a := by unfold En; omega
  show Wp (m__law_is_shut [.pl (tsd ts), .pl (.lst [.lst (iN ((List.range ts.length).map (En ts))), .lst ((List.range ts.length).map fun a => D.lst (iN (chs ts ts.length a))), .lst (iN (lvF [0] ts))]), .pl (.int (a : Int)), .un]) _
  have lin := fun j hj => lv_in h (j := j) ha hj hl0
  have hEle : En ts a ≤ 1000000 := by omega
  generalize hWW : (List.range ts.length).map (En ts) = EE at *
  clear hWW
  generalize (List.range ts.length).map (fun a => D.lst (iN (chs ts ts.length a))) = CC at *
  unfold m__law_is_shut
  walk_at "ev"
  unfold f__law_is_shut_1
  generalize hsz : En ts a = ea at *
  walk_at "ev"
  refine w_for (Y := Sl) (fun y => [.pl (tsd ts), .pl (.lst [.lst (iN EE), .lst CC, .lst (iN (lvF [0] ts))]), .pl (.int (a : Int)), y]) (fun j y => clU (part ts a) j = true) .un rfl rfl (fun j d y hd hy => ?_) fun y hy => ?_
  · obtain ⟨hj, rfl⟩ := rngs_at hd
    obtain ⟨x, x1, x2, x3⟩ := lin j hj
    obtain ⟨t, ht⟩ : ∃ t, ts[a + j]? = some t := ⟨_, List.getElem?_eq_getElem (by have := szt_le ts a; omega)⟩
    rw [ht] at x3
    have hw := lwhole_ok t
    have nx0 := clU_next (part ts a) j
    rw [hy, x3, x1] at nx0
    have nx : clU (part ts a) (j + 1) = okT t x := by simpa using nx0
    clear nx0
    have ff : okT t x = false → clB (part ts a) = false := fun z => clB_false (j := j) (by rw [hpl]; exact hj) (by rw [x3, x1]; exact z)
    have e0 : Option.map Tok.d ts[a + j]? = some t.d := by rw [ht]; rfl
    have en : ((a : Int) + (j : Int)).toNat = a + j := by omega
    rw [w_tn]
    show Wp (b__law_is_shut_0 [.pl (tsd ts), .pl (.lst [.lst (iN EE), .lst CC, .lst (iN (lvF [0] ts))]), .pl (.int (a : Int)), .pl (.int ((a : Int) + (j : Int)))]) _
    clear hd lin ht x3 x1 hy hE
    generalize lvF [0] ts = LV at *
    generalize clB (part ts a) = cb at *
    unfold b__law_is_shut_0
    cases t with
    | num n =>
      simp only [Tok.d] at hw e0
      by_cases c : x ≤ n
      · have c1 : dCI ciGe (.int (n : Int)) (.int (((l0 + x : Nat) : Int) - (l0 : Int))) = some (.bl true) := by rw [q_cmpge]; rw [decide_eq_true (by omega)]
        have hcb := ff (by simp [okT]; omega)
        clear ff nx
        walk_at "ev"
      · have c1 : dCI ciGe (.int (n : Int)) (.int (((l0 + x : Nat) : Int) - (l0 : Int))) = some (.bl false) := by rw [q_cmpge]; rw [decide_eq_false (by omega)]
        have nx2 : clU (part ts a) (j + 1) = true := by rw [nx]; simp [okT]; omega
        clear ff nx
        walk_at "ev"
        exact ⟨.pl (.int ((a : Int) + (j : Int))), rfl⟩
    | _ =>
      simp only [Tok.d] at hw e0
      have nx2 : clU (part ts a) (j + 1) = true := nx
      clear ff nx
      walk_at "ev"
      exact ⟨.pl (.int ((a : Int) + (j : Int))), rfl⟩
  · rw [rngs_length] at hy
    have hy : clB (part ts a) = true := by unfold clB; rw [hpl]; exact hy
    generalize clB (part ts a) = cb at *
    clear lin
    walk_at "ev"
end VM.K15

set_option Elab.async false
set_option linter.all false
set_option autoImplicit false
set_option maxRecDepth 100000
set_option maxHeartbeats 400000
namespace VM.K15
open PySem PySem.Spec PyProof.Rows L2 VM
local macro_rules | `(tactic| walk_at "ev") => `(tactic| simp (disch := first | omega | (simp only [List.length_cons, List.length_nil, List.length_map, List.length_append, List.length_replicate, List.length_set, rngs_length]; omega)) only [*, q_seq, q_skip, q_knx, q_krt, q_kro, q_kbk, q_kct, q_ker, q_kk, q_bind, q_bok, q_ber, q_drop, q_ret, q_reto, q_ifs, q_ct, q_cf, q_asg, q_asgo, q_asgt, q_rok, q_rer, q_c, q_rd, q_mv, q_fz, fz_lst, fz_dct, fz_obj, fz_dlst, fz_ddct, fz_dobj, q_tk, q_2, q_1, q_os, q_b, q_not, q_and, q_or, q_at, q_af, q_ao, q_rt, q_rf, q_ro, q_andv, q_orv, q_avt, q_avf, q_avo, q_rvt, q_rvf, q_rvo, q_ife, q_it, q_if, q_io, q_on, q_oS, q_sl, q_nil, q_cons, q_tup, q_lst, q_call1, q_call, q_f0, q_f1, q_f2, q_f3, q_f4, q_f5, q_f6, q_f7, q_callk, q_frok, q_frer, q_calli, q_mihere, q_micons, q_fri, q_sdo, q_sdi, q_rso, q_rsi, q_app, q_ext, q_ext2, q_put, q_pop, q_with, q_wok, q_for, q_enum, q_items, q_raise, q_gt, q_grt, q_lt, q_le, q_rng1, q_rng2, q_rg1, q_lrg, q_lrgi, q_rg2, q_add, q_adds, q_addl, q_addt, q_cat, q_sub, q_mulr, q_mull, q_div, q_mod, q_p18, q_p12, q_cmplt, q_cmple, q_cmpgt, q_cmpge, q_eqi, q_eqs, q_eqb, q_nei, q_nes, q_isn, q_isnn, q_isb, q_isnb, q_neg, q_dnot, q_lenl, q_lent, q_lenf, q_lens, q_int, q_intb, q_tupl, q_tupt, q_lstl, q_lstt, q_min, q_max, q_ixn, q_ixm, q_ixl, q_ixt, q_ixf, q_rep, q_isi_tt, q_isi_ts, q_isi_ti, q_isi_ss, q_isi_st, q_isi_ii, q_isi_it, q_isi_is, q_isi_bi, q_lfi, q_lfb, q_lfs, q_lfn, q_itt, q_itl, q_itf, q_slt, q_sll, q_sls, tk_row, tk_wd, q_cut, q_cutf, q_cutt, q_try, q_tryo, q_tnx, q_trt, q_tonx, q_tort, w_irt, w_inx, w_iro, w_lnx, w_lct, w_lbk, w_lrt, w_lro, w_ler, w_nnx, w_nrt, w_nro, w_ner, w_rnx, w_rrt, w_rro, w_rer, w_tn, w_tt, w_tt3, ev_ownL, ev_putL, ev_lend, ev_hn, ev_hp, ev_hu, ev_ho, ev_hi, ev_i0, ev_i1, ev_tN, ev_tnil, ev_tcons, ev_tTup, List.getElem?_cons_zero, List.getElem?_cons_succ, List.set_cons_zero, List.set_cons_succ, List.length_cons, List.length_nil, List.length_append, List.length_map, List.length_replicate, List.length_set, rngs_length, List.nil_append, List.cons_append, Int.toNat_natCast, Int.toNat_zero, Int.toNat_one, Int.reduceToNat, List.getElem?_map, Option.map_some, Nat.reduceAdd, Nat.reduceSub, Nat.reduceLT, Nat.reduceLeDiff, Nat.reduceEqDiff, Int.reduceEq, Int.reduceLT, Int.reduceLE, Int.reduceAdd, Int.reduceSub, Int.reduceMul, Int.reduceNeg, List.replicate_succ, List.replicate_zero, Bool.not_true, Bool.not_false, Bool.and_true, Bool.true_and, Bool.and_false, Bool.false_and, Bool.or_true, Bool.true_or, Bool.or_false, Bool.false_or, decide_true, decide_false, if_true, if_false, and_self, true_and, and_true, Nat.sub_self, Nat.add_zero, Nat.zero_add, Bool.true_eq_false, Bool.false_eq_true, ite_true, ite_false, reduceIte, eq_self])
theorem place_ok {ts : List Tok} {n : Nat} (p : Pr ts n big) (hn : n ≤ 2000) {a : Nat} (ha : a < ts.length) : F__law_place_right [tsd ts, wkD ts, .int (a : Int)] = .ok (.bl true) none := Cmp.eq <| cmp_of <| by
  have h := p.r
  have hl : ts.length ≤ 2000 := Nat.le_trans p.l hn
  have hlen : (ts.map Tok.d).length = ts.length := List.length_map _
  have hll : (lvF [0] ts).length = ts.length := lvF_len ts [0] h
  obtain ⟨t, ht, _⟩ := dr ha
  have har := arity_ok t
  have hch := children_ok h (by omega) ht
  have hpo := partof_ok h (by omega) ha
  have pc := p.cut ha
  have hcl := closed_ok pc.r pc.h (by have := pc.l; omega)
  have hsh := shut_ok h (by omega) ha
  obtain ⟨z1, r1⟩ := pc.rs (by omega) (by decide)
  obtain ⟨z2, r2⟩ := bl_rs (clB (part ts a))
  have hal := ar_le h ht
  have hfl := fs_lend ts (a + 1)
  have hstl : ∀ m, m < t.ar → sta ts a m < ts.length := fun m hm => (sta_step h ht hm).1
  have hca : chs ts ts.length a = (List.range t.ar).map (sta ts a) := chs_all h ht (En_gt h ha).2
  obtain ⟨z3, r3⟩ := nats_rs (xs := (List.range t.ar).map (sta ts a)) (fun x hx => by
    obtain ⟨m, hm, rfl⟩ := List.mem_map.mp hx
    have := hstl m (List.mem_range.mp hm)
    exact Nat.lt_of_le_of_lt (show sta ts a m ≤ 2000 by omega) (by decide)) (by simp; omega)
  obtain ⟨z4, r4⟩ := nat_rs (n := t.ar) (Nat.lt_of_le_of_lt (show t.ar ≤ 2000 by omega) (by decide))
  obtain ⟨l0, hl0⟩ : ∃ l, (lvF [0] ts)[a]? = some l := ⟨_, List.getElem?_eq_getElem (by omega)⟩
  have hlv : ∀ m, m < t.ar → (lvF [0] ts)[sta ts a m]? = some (l0 + bd t m) := fun m hm => lv_part h ht hm hl0
  have hE := ens_at ha
  have hEg := En_gt h ha
  have e4 : List.take (En ts a - a) (List.drop a (ts.map Tok.d)) = (part ts a).map Tok.d := by
    unfold part
    rw [show En ts a - a = szt ts a by unfold En; omega, List.map_take, List.map_drop]
  have e0 : Option.map Tok.d ts[a]? = some t.d := by rw [ht]; rfl
  have hho := p.h t (List.mem_of_getElem? ht)
  have hbd := (p.g t (List.mem_of_getElem? ht)).b
  have hG : ∀ m, m < t.ar → ((List.range t.ar).map (sta ts a))[m]? = some (sta ts a m) := fun m hm => by simp [hm]
  have hGl : ((List.range t.ar).map (sta ts a)).length = t.ar := by simp
  have hCC : ((List.range ts.length).map fun a => D.lst (iN (chs ts ts.length a)))[a]? = some (.lst (iN ((List.range t.ar).map (sta ts a)))) := by
    rw [List.getElem?_map, List.getElem?_range ha]; simp [hca]
  have hwk : wkD ts = .lst [.lst (iN ((List.range ts.length).map (En ts))), .lst ((List.range ts.length).map fun a => D.lst (iN (chs ts ts.length a))), .lst (iN (lvF [0] ts))] := rfl
  rw [hwk] at hsh ⊢
  show Wp (m__law_place_right [.pl (tsd ts), .pl (.lst [.lst (iN ((List.range ts.length).map (En ts))), .lst ((List.range ts.length).map fun a => D.lst (iN (chs ts ts.length a))), .lst (iN (lvF [0] ts))]), .pl (.int (a : Int)), .un, .un, .un, .un]) _
  generalize hWW : (List.range ts.length).map (En ts) = EE at *
  clear hWW
  generalize (List.range ts.length).map (fun a => D.lst (iN (chs ts ts.length a))) = CC at *
  generalize hGG : (List.range t.ar).map (sta ts a) = GG at *
  clear hGG hca ht pc p hwk hll
  have hGI : (iN GG).length = t.ar := by simp [iN, hGl]
  have r3' : dRepr [.tup (iN GG)] = some (.str z3) := r3
  generalize hPP : part ts a = PP at *
  clear hPP
  generalize hEA : En ts a = ea at *
  clear hEA
  unfold m__law_place_right
  have hl0' := iN_at hl0
  have hE' := iN_at hE
  walk_at "ev"
  unfold f__law_place_right_1
  have hal2 : t.ar ≤ 2000 := by omega
  walk_at "ev"
  refine w_for (Y := Sl) (fun y => [.pl (tsd ts), .pl (.lst [.lst (iN EE), .lst CC, .lst (iN (lvF [0] ts))]), .pl (.int (a : Int)), .pl t.d, .pl (.lst (iN GG)), y, .un]) (fun j y => True) .un rfl trivial (fun j d y hd hy => ?_) fun y hy => ?_
  · obtain ⟨hj, rfl⟩ := nget hd
    have hb := bound_ok hho hj
    have g1 := hG j hj
    have g2 := hlv j hj
    have c1 : ((l0 + bd t j : Nat) : Int) - (l0 : Int) = ((bd t j : Nat) : Int) := by omega
    obtain ⟨z5, r5⟩ := nat_rs (n := bd t j) (Nat.lt_of_le_of_lt (hbd j) (by decide))
    rw [w_tn]
    show Wp (b__law_place_right_0 [.pl (tsd ts), .pl (.lst [.lst (iN EE), .lst CC, .lst (iN (lvF [0] ts))]), .pl (.int (a : Int)), .pl t.d, .pl (.lst (iN GG)), .pl (.int (j : Int)), .un]) _
    clear hd hG hlv hbd hstl
    generalize lvF [0] ts = LV at *
    generalize sta ts a j = sj at *
    generalize bd t j = bj at *
    unfold b__law_place_right_0
    walk_at "ev"
    exact ⟨_, rfl⟩
  · clear hG hlv hbd hstl
    generalize lvF [0] ts = LV at *
    generalize clB PP = cb at *
    walk_at "ev"
end VM.K15

set_option Elab.async false
set_option linter.all false
set_option autoImplicit false
set_option maxRecDepth 100000
set_option maxHeartbeats 400000
namespace VM.K15
open PySem PySem.Spec PyProof.Rows L2 VM
local macro_rules | `(tactic| walk_at "ev") => `(tactic| simp (disch := first | omega | (simp only [List.length_cons, List.length_nil, List.length_map, List.length_append, List.length_replicate, List.length_set, rngs_length]; omega)) only [*, q_seq, q_skip, q_knx, q_krt, q_kro, q_kbk, q_kct, q_ker, q_kk, q_bind, q_bok, q_ber, q_drop, q_ret, q_reto, q_ifs, q_ct, q_cf, q_asg, q_asgo, q_asgt, q_rok, q_rer, q_c, q_rd, q_mv, q_fz, fz_lst, fz_dct, fz_obj, fz_dlst, fz_ddct, fz_dobj, q_tk, q_2, q_1, q_os, q_b, q_not, q_and, q_or, q_at, q_af, q_ao, q_rt, q_rf, q_ro, q_andv, q_orv, q_avt, q_avf, q_avo, q_rvt, q_rvf, q_rvo, q_ife, q_it, q_if, q_io, q_on, q_oS, q_sl, q_nil, q_cons, q_tup, q_lst, q_call1, q_call, q_f0, q_f1, q_f2, q_f3, q_f4, q_f5, q_f6, q_f7, q_callk, q_frok, q_frer, q_calli, q_mihere, q_micons, q_fri, q_sdo, q_sdi, q_rso, q_rsi, q_app, q_ext, q_ext2, q_put, q_pop, q_with, q_wok, q_for, q_enum, q_items, q_raise, q_gt, q_grt, q_lt, q_le, q_rng1, q_rng2, q_rg1, q_lrg, q_lrgi, q_rg2, q_add, q_adds, q_addl, q_addt, q_cat, q_sub, q_mulr, q_mull, q_div, q_mod, q_p18, q_p12, q_cmplt, q_cmple, q_cmpgt, q_cmpge, q_eqi, q_eqs, q_eqb, q_nei, q_nes, q_isn, q_isnn, q_isb, q_isnb, q_neg, q_dnot, q_lenl, q_lent, q_lenf, q_lens, q_int, q_intb, q_tupl, q_tupt, q_lstl, q_lstt, q_min, q_max, q_ixn, q_ixm, q_ixl, q_ixt, q_ixf, q_rep, q_isi_tt, q_isi_ts, q_isi_ti, q_isi_ss, q_isi_st, q_isi_ii, q_isi_it, q_isi_is, q_isi_bi, q_lfi, q_lfb, q_lfs, q_lfn, q_itt, q_itl, q_itf, q_slt, q_sll, q_sls, tk_row, tk_wd, q_cut, q_cutf, q_cutt, q_try, q_tryo, q_tnx, q_trt, q_tonx, q_tort, w_irt, w_inx, w_iro, w_lnx, w_lct, w_lbk, w_lrt, w_lro, w_ler, w_nnx, w_nrt, w_nro, w_ner, w_rnx, w_rrt, w_rro, w_rer, w_tn, w_tt, w_tt3, ev_ownL, ev_putL, ev_lend, ev_hn, ev_hp, ev_hu, ev_ho, ev_hi, ev_i0, ev_i1, ev_tN, ev_tnil, ev_tcons, ev_tTup, List.getElem?_cons_zero, List.getElem?_cons_succ, List.set_cons_zero, List.set_cons_succ, List.length_cons, List.length_nil, List.length_append, List.length_map, List.length_replicate, List.length_set, rngs_length, List.nil_append, List.cons_append, Int.toNat_natCast, Int.toNat_zero, Int.toNat_one, Int.reduceToNat, List.getElem?_map, Option.map_some, Nat.reduceAdd, Nat.reduceSub, Nat.reduceLT, Nat.reduceLeDiff, Nat.reduceEqDiff, Int.reduceEq, Int.reduceLT, Int.reduceLE, Int.reduceAdd, Int.reduceSub, Int.reduceMul, Int.reduceNeg, List.replicate_succ, List.replicate_zero, Bool.not_true, Bool.not_false, Bool.and_true, Bool.true_and, Bool.and_false, Bool.false_and, Bool.or_true, Bool.true_or, Bool.or_false, Bool.false_or, decide_true, decide_false, if_true, if_false, and_self, true_and, and_true, Nat.sub_self, Nat.add_zero, Nat.zero_add, Bool.true_eq_false, Bool.false_eq_true, ite_true, ite_false, reduceIte, eq_self])
abbrev xBP (z : Int) : Exn := ⟨"BadPlace", [("place", .int z)]⟩
theorem ch_bad {ts : List Tok} (hl : ts.length ≤ 1000000) {z : Int} (hz : z < 0 ∨ (ts.length : Int) ≤ z) : F_children_of [tsd ts, .int z] = .err (xBP z) none := Cmp.er <| cmp_of <| by
  have e := check_bad hl hz
  clear hz
  unfold m_children_of
  walk_at "ev"
theorem pa_bad {ts : List Tok} (hl : ts.length ≤ 1000000) {z : Int} (hz : z < 0 ∨ (ts.length : Int) ≤ z) : F_part_of [tsd ts, .int z] = .err (xBP z) none := Cmp.er <| cmp_of <| by
  have e := check_bad hl hz
  clear hz
  unfold m_part_of
  walk_at "ev"
theorem pu_bad {ts : List Tok} (hl : ts.length ≤ 1000000) {z : Int} (hz : z < 0 ∨ (ts.length : Int) ≤ z) (o : D) : F_put_part [tsd ts, .int z, o] = .err (xBP z) none := Cmp.er <| cmp_of <| by
  have e := check_bad hl hz
  clear hz
  unfold m_put_part
  walk_at "ev"
theorem refused_ok {ts : List Tok} (hl : ts.length ≤ 1000000) {z : Int} (hz : z < 0 ∨ (ts.length : Int) ≤ z) (hr : ∃ s, dRepr [.int z] = some (.str s)) (o : D) {n : Nat} (hn : n < 3) : F__law_refused [tsd ts, .int z, o, .int (n : Int)] = .ok (.bl true) none := Cmp.eq <| cmp_of <| by
  obtain ⟨s, hs⟩ := hr
  have e1 := ch_bad hl hz
  have e2 := pa_bad hl hz
  have e3 := pu_bad hl hz o
  have hB : ("BadPlace" : Str) ∈ errNs := by decide +kernel
  have hS : isSub errTop "BadPlace" "OwnleftError" = true := by decide +kernel
  have hS2 : isSub errTop "BadPlace" "BadPlace" = true := by decide +kernel
  have ht : ∀ ms s, trO errTop errNs "OwnleftError" 4 ms (.err (xBP z) s) = endEx 4 (ms (s.set 4 (.ex (xBP z)))) := fun ms s => q_ter hB hS
  have hx : ∀ (x0 x1 x2 x3 : Sl) t, mExIs errNs 4 t [x0, x1, x2, x3, .ex (xBP z)] = .ok (.bl (t "BadPlace")) [x0, x1, x2, x3, .ex (xBP z)] := fun x0 x1 x2 x3 t => q_exis (e := xBP z) rfl hB
  have hf : ∀ x0 x1 x2 x3 : Sl, mExF errNs 4 "place" [x0, x1, x2, x3, .ex (xBP z)] = .ok (.int z) [x0, x1, x2, x3, .ex (xBP z)] := fun x0 x1 x2 x3 => q_exf (e := xBP z) rfl hB rfl
  have c1 : (["BadKind", "Misfit", "NoStep", "Unknown"] : List Str).any (isSub errTop "BadPlace") = false := by decide +kernel
  have he : ∀ d' s, endEx 4 (.rt d' [.pl (tsd ts), .pl (.int z), .pl o, .pl (.int (n : Int)), .ex s]) = .rt d' [.pl (tsd ts), .pl (.int z), .pl o, .pl (.int (n : Int)), .un] := fun d' s => q_ert rfl
  show Wp (m__law_refused [.pl (tsd ts), .pl (.int z), .pl o, .pl (.int (n : Int)), .un]) _
  clear hz hB hS
  generalize tsd ts = td at *
  generalize hX : xBP z = X at *
  unfold m__law_refused
  match n, hn with
  | 0, _ =>
    have d0 : decide (((0 : Nat) : Int) = 0) = true := by decide
    walk_at "ev"
  | 1, _ =>
    have d0 : decide (((1 : Nat) : Int) = 0) = false := by decide
    have d1 : decide (((1 : Nat) : Int) = 1) = true := by decide
    walk_at "ev"
  | 2, _ =>
    have d0 : decide (((2 : Nat) : Int) = 0) = false := by decide
    have d1 : decide (((2 : Nat) : Int) = 1) = false := by decide
    walk_at "ev"
theorem Pr.hd {ts : List Tok} {n B : Nat} (p : Pr ts n B) : 0 < ts.length := List.length_pos_iff.mpr (rn_one p.r)
/-- what is told of a program is right -/
theorem told_ok {ts : List Tok} {n : Nat} (p : Pr ts n big) (hn : n ≤ 2000) : ∃ z1 z2, dRepr [.tup (iN ((List.range ts.length).map (En ts)))] = some (.str z1) ∧ dRepr [.tup (iN (lvF [0] ts))] = some (.str z2) := by
  have hl := p.l
  have hll : (lvF [0] ts).length = ts.length := lvF_len ts [0] p.r
  obtain ⟨z1, r1⟩ := nats_rs (xs := (List.range ts.length).map (En ts)) (fun x hx => by
    obtain ⟨m, hm, rfl⟩ := List.mem_map.mp hx
    have := (En_gt p.r (List.mem_range.mp hm)).2
    exact Nat.lt_of_le_of_lt (show En ts m ≤ 2000 by omega) (by decide)) (by simp; omega)
  obtain ⟨z2, r2⟩ := nats_rs (xs := lvF [0] ts) (fun x hx => by
    have := p.lv x hx
    exact Nat.lt_of_le_of_lt (show x ≤ 32000 by omega) (by decide)) (by omega)
  exact ⟨z1, z2, r1, r2⟩
theorem part0 {ts : List Tok} (h : rn 1 ts = some 0) : part ts 0 = ts := by
  have := En_zero h
  unfold part
  rw [List.drop_zero, List.take_of_length_le (by unfold En at this; omega)]
theorem one_ok {Q : O → Prop} {N B : SV → Prop} {ts : List Tok} {n : Nat} (p : Pr ts n big) (hn : n ≤ 2000) (x0 x1 x2 x3 x4 x5 x6 x7 x8 x9 x10 x11 x13 x14 x15 x16 : Sl)
    (hN : N [x0, x1, x2, x3, x4, x5, x6, x7, x8, x9, x10, x11, .pl (tsd ts), .pl (wkD ts), x14, x15, x16]) :
    Wp (b_law_2 [x0, x1, x2, x3, x4, x5, x6, x7, x8, x9, x10, x11, .pl (tsd ts), x13, x14, x15, x16]) (LpQ N B Q) := by
  have hl := p.l
  have hw := walked_ok p.r p.h (by omega)
  have he := ends2 p.r (by omega)
  have hlv := levels_ok p.r p.h (by omega)
  have hc := closed_ok p.r p.h (by omega)
  have hs := shut_ok p.r (by omega) p.hd
  rw [part0 p.r] at hs
  have hs : F__law_is_shut [tsd ts, wkD ts, .int 0] = .ok (.bl (clB ts)) none := hs
  obtain ⟨z1, z2, r1, r2⟩ := told_ok p hn
  obtain ⟨z3, r3⟩ := bl_rs (clB ts)
  have hwk : wkD ts = .lst [.lst (iN ((List.range ts.length).map (En ts))), .lst ((List.range ts.length).map fun a => D.lst (iN (chs ts ts.length a))), .lst (iN (lvF [0] ts))] := rfl
  rw [hwk] at hw hs hN
  clear hwk p
  generalize (List.range ts.length).map (En ts) = EE at *
  generalize (List.range ts.length).map (fun a => D.lst (iN (chs ts ts.length a))) = CC at *
  generalize lvF [0] ts = LV at *
  generalize clB ts = cb at *
  generalize tsd ts = td at *
  have r1' : dRepr [.tup (iN EE)] = some (.str z1) := r1
  have r2' : dRepr [.tup (iN LV)] = some (.str z2) := r2
  unfold b_law_2
  walk_at "ev"
end VM.K15

set_option Elab.async false
set_option linter.all false
set_option autoImplicit false
set_option maxRecDepth 100000
set_option maxHeartbeats 400000
namespace VM.K15
open PySem PySem.Spec PyProof.Rows L2 VM
local macro_rules | `(tactic| walk_at "ev") => `(tactic| simp (disch := first | omega | (simp only [List.length_cons, List.length_nil, List.length_map, List.length_append, List.length_replicate, List.length_set, rngs_length]; omega)) only [*, q_seq, q_skip, q_knx, q_krt, q_kro, q_kbk, q_kct, q_ker, q_kk, q_bind, q_bok, q_ber, q_drop, q_ret, q_reto, q_ifs, q_ct, q_cf, q_asg, q_asgo, q_asgt, q_rok, q_rer, q_c, q_rd, q_mv, q_fz, fz_lst, fz_dct, fz_obj, fz_dlst, fz_ddct, fz_dobj, q_tk, q_2, q_1, q_os, q_b, q_not, q_and, q_or, q_at, q_af, q_ao, q_rt, q_rf, q_ro, q_andv, q_orv, q_avt, q_avf, q_avo, q_rvt, q_rvf, q_rvo, q_ife, q_it, q_if, q_io, q_on, q_oS, q_sl, q_nil, q_cons, q_tup, q_lst, q_call1, q_call, q_f0, q_f1, q_f2, q_f3, q_f4, q_f5, q_f6, q_f7, q_callk, q_frok, q_frer, q_calli, q_mihere, q_micons, q_fri, q_sdo, q_sdi, q_rso, q_rsi, q_app, q_ext, q_ext2, q_put, q_pop, q_with, q_wok, q_for, q_enum, q_items, q_raise, q_gt, q_grt, q_lt, q_le, q_rng1, q_rng2, q_rg1, q_lrg, q_lrgi, q_rg2, q_add, q_adds, q_addl, q_addt, q_cat, q_sub, q_mulr, q_mull, q_div, q_mod, q_p18, q_p12, q_cmplt, q_cmple, q_cmpgt, q_cmpge, q_eqi, q_eqs, q_eqb, q_nei, q_nes, q_isn, q_isnn, q_isb, q_isnb, q_neg, q_dnot, q_lenl, q_lent, q_lenf, q_lens, q_int, q_intb, q_tupl, q_tupt, q_lstl, q_lstt, q_min, q_max, q_ixn, q_ixm, q_ixl, q_ixt, q_ixf, q_rep, q_isi_tt, q_isi_ts, q_isi_ti, q_isi_ss, q_isi_st, q_isi_ii, q_isi_it, q_isi_is, q_isi_bi, q_lfi, q_lfb, q_lfs, q_lfn, q_itt, q_itl, q_itf, q_slt, q_sll, q_sls, tk_row, tk_wd, q_cut, q_cutf, q_cutt, q_try, q_tryo, q_tnx, q_trt, q_tonx, q_tort, w_irt, w_inx, w_iro, w_lnx, w_lct, w_lbk, w_lrt, w_lro, w_ler, w_nnx, w_nrt, w_nro, w_ner, w_rnx, w_rrt, w_rro, w_rer, w_tn, w_tt, w_tt3, ev_ownL, ev_putL, ev_lend, ev_hn, ev_hp, ev_hu, ev_ho, ev_hi, ev_i0, ev_i1, ev_tN, ev_tnil, ev_tcons, ev_tTup, List.getElem?_cons_zero, List.getElem?_cons_succ, List.set_cons_zero, List.set_cons_succ, List.length_cons, List.length_nil, List.length_append, List.length_map, List.length_replicate, List.length_set, rngs_length, List.nil_append, List.cons_append, Int.toNat_natCast, Int.toNat_zero, Int.toNat_one, Int.reduceToNat, List.getElem?_map, Option.map_some, Nat.reduceAdd, Nat.reduceSub, Nat.reduceLT, Nat.reduceLeDiff, Nat.reduceEqDiff, Int.reduceEq, Int.reduceLT, Int.reduceLE, Int.reduceAdd, Int.reduceSub, Int.reduceMul, Int.reduceNeg, List.replicate_succ, List.replicate_zero, Bool.not_true, Bool.not_false, Bool.and_true, Bool.true_and, Bool.and_false, Bool.false_and, Bool.or_true, Bool.true_or, Bool.or_false, Bool.false_or, decide_true, decide_false, if_true, if_false, and_self, true_and, and_true, Nat.sub_self, Nat.add_zero, Nat.zero_add, Bool.true_eq_false, Bool.false_eq_true, ite_true, ite_false, reduceIte, eq_self])
theorem Pr.num {ts : List Tok} {n a m v : Nat} (p : Pr ts n big) (ha : ts[a]? = some (.num m)) (hv : v ≤ big) : Pr (ts.take a ++ .num v :: ts.drop (a + 1)) n big := by
  obtain ⟨h1, e⟩ := List.getElem?_eq_some_iff.mp ha
  have hs : ts = ts.take a ++ .num m :: ts.drop (a + 1) := by
    rw [← e, ← List.drop_eq_getElem_cons h1, List.take_append_drop]
  refine ⟨?_, fun t ht => ?_, by have := p.l; simp; omega, fun k hk => ?_⟩
  · have := p.r
    rw [hs, rn_app] at this
    rw [rn_app]
    cases hq : rn 1 (ts.take a) with
    | none => rw [hq] at this; cases this
    | some q =>
      rw [hq] at this
      cases q with
      | zero => cases this
      | succ q => exact this
  · rcases List.mem_append.mp ht with ht | ht
    · exact p.g t (List.mem_of_mem_take ht)
    · rcases List.mem_cons.mp ht with rfl | ht
      · exact tg_num _
      · exact p.g t (List.mem_of_mem_drop ht)
  · rcases List.mem_append.mp hk with ht | ht
    · exact p.v k (List.mem_of_mem_take ht)
    · rcases List.mem_cons.mp ht with h | ht
      · cases h; exact hv
      · exact p.v k (List.mem_of_mem_drop ht)
theorem loop1_ok {Q : O → Prop} {k : MS} {es : List Int} (he : 0 < es.length) (hel : es.length ≤ 1000) {ts : List Tok} (p : Pr ts 602 big) {I : List Nat} (hI : ∀ a ∈ I, ∃ m, ts[a]? = some (.num m)) (hIl : I.length ≤ 602) {PS : List (List Tok)} (hP : ∀ x ∈ PS, Pr x 602 big) (hPl : PS.length ≤ 10) (c : Int) (x0 x1 x3 x6 x12 x13 x14 x15 x16 : Sl)
    (hk : ∀ (PS : List (List Tok)) (c : Int) (x10 x11 : Sl), (∀ x ∈ PS, Pr x 602 big) → PS.length ≤ 20 → Pl x10 → Pl x11 → Wp (k [x0, x1, .ow (.lst [.int c]), x3, .pl (tsd ts), .pl (.lst (es.map .int)), x6, .ow (.lst (PS.map tsd)), .pl (.lst (iN I)), .pl (wkD ts), x10, x11, x12, x13, x14, x15, x16]) Q) :
    Wp (kO (f_law_1 [x0, x1, .ow (.lst [.int c]), x3, .pl (tsd ts), .pl (.lst (es.map .int)), x6, .ow (.lst (PS.map tsd)), .ow (.lst (iN I)), .pl (wkD ts), .un, .un, x12, x13, x14, x15, x16]) k) Q := by
  have hlen : (ts.map Tok.d).length = ts.length := List.length_map _
  have hl := p.l
  have hIl2 : (iN I).length = I.length := by simp
  obtain ⟨w, hw, ew⟩ : ∃ w : Nat, w ≤ 2 ∧ w ≤ I.length ∧ min 2 (I.length : Int) = (w : Int) := ⟨min 2 I.length, by omega, by omega, by omega⟩
  obtain ⟨hwI, ew⟩ := ew
  unfold f_law_1
  walk_at "ev"
  refine w_for (Y := List (List Tok) × Int × Sl × Sl) (fun y => [x0, x1, .ow (.lst [.int y.2.1]), x3, .pl (tsd ts), .pl (.lst (es.map .int)), x6, .ow (.lst (y.1.map tsd)), .pl (.lst (iN I)), .pl (wkD ts), y.2.2.1, y.2.2.2, x12, x13, x14, x15, x16]) (fun j y => (∀ x ∈ y.1, Pr x 602 big) ∧ y.1.length ≤ 10 + j ∧ Pl y.2.2.1 ∧ Pl y.2.2.2) (PS, c, .un, .un) rfl ⟨hP, by omega, .inl rfl, .inl rfl⟩ (fun j d y hd hy => ?_) fun y hy => ?_
  · obtain ⟨PS, c, x10, x11⟩ := y
    obtain ⟨g1, g2, q1, q2⟩ := hy
    dsimp only at g1 g2 q1 q2
    obtain ⟨hj, rfl⟩ := nget hd
    have hI0 : 0 < I.length := by omega
    obtain ⟨q, lq, pq⟩ := pickE he hel c (many := I.length) hI0 (by omega)
    obtain ⟨a, hIa⟩ : ∃ a, I[q]? = some a := ⟨_, List.getElem?_eq_getElem lq⟩
    obtain ⟨m, hm⟩ := hI a (List.mem_of_getElem? hIa)
    have ha : a < ts.length := (List.getElem?_eq_some_iff.mp hm).1
    have hll : (lvF [0] ts).length = ts.length := lvF_len ts [0] p.r
    obtain ⟨l, hl1⟩ : ∃ l, (lvF [0] ts)[a]? = some l := ⟨_, List.getElem?_eq_getElem (by omega)⟩
    have hlle := p.lv l (List.mem_of_getElem? hl1)
    obtain ⟨v, hv, ev⟩ : ∃ v : Nat, v ≤ big ∧ max 0 ((l : Int) - (j : Int)) = (v : Int) := ⟨l - j, by unfold big; omega, by omega⟩
    have hN := p.num hm hv
    have e4 : List.take a (ts.map Tok.d) ++ [D.int (v : Int)] ++ List.drop (a + 1) (ts.map Tok.d) = (ts.take a ++ .num v :: ts.drop (a + 1)).map Tok.d := by simp [Tok.d]
    have l1 : (List.take a (ts.map Tok.d)).length ≤ 1000 := by simp; omega
    have l2 : (List.drop (a + 1) (ts.map Tok.d)).length ≤ 1000 := by simp; omega
    have en : ((a : Int) + 1).toNat = a + 1 := by omega
    have hwk : dIx (wkD ts) (.int 2) = some (.lst (iN (lvF [0] ts))) := rfl
    have hq : (iN I)[q]? = some (.int (a : Int)) := iN_at hIa
    have hl2 := iN_at hl1
    rw [w_tn]
    show Wp (b_law_0 [x0, x1, .ow (.lst [.int c]), x3, .pl (tsd ts), .pl (.lst (es.map .int)), x6, .ow (.lst (PS.map tsd)), .pl (.lst (iN I)), .pl (wkD ts), .pl (.int (j : Int)), x11, x12, x13, x14, x15, x16]) _
    have hfin : ∀ x ∈ PS ++ [ts.take a ++ .num v :: ts.drop (a + 1)], Pr x 602 big := fun x hx => (List.mem_append.mp hx).elim (g1 x) fun hx => by simp at hx; subst hx; exact hN
    clear hk hd hm hN hI p hP g1 hll hwI ew lq
    generalize hNN : ts.take a ++ .num v :: ts.drop (a + 1) = NN at *
    clear hNN
    unfold b_law_0
    generalize wkD ts = wd at *
    have hpap : (PS.map tsd).length ≤ 1000 := by simp; omega
    generalize lvF [0] ts = LV at *
    walk_at "ev"
    exact ⟨(PS ++ [NN], c + 1, .pl (.int (j : Int)), .pl (.int (a : Int))), by simp, hfin, by simp; omega, pl_pl _, pl_pl _⟩
  · obtain ⟨PS, c, x10, x11⟩ := y
    obtain ⟨g1, g2, q1, q2⟩ := hy
    dsimp only at g1 g2 q1 q2
    rw [rngs_length] at g2
    exact hk PS c x10 x11 g1 (by omega) q1 q2
theorem loop3_ok {Q : O → Prop} {k : MS} {ts : List Tok} (p : Pr ts 602 big) {PS : List (List Tok)} (hP : ∀ x ∈ PS, Pr x 602 big) (hPl : PS.length ≤ 20) (x0 x1 x2 x3 x5 x6 x8 x9 x10 x11 x14 x15 x16 : Sl)
    (hk : ∀ (x12 x13 : Sl), Pl x12 → Pl x13 → Wp (k [x0, x1, x2, x3, .pl (tsd ts), x5, x6, .pl (.lst (PS.map tsd)), x8, x9, x10, x11, x12, x13, x14, x15, x16]) Q) :
    Wp (kO (f_law_3 [x0, x1, x2, x3, .pl (tsd ts), x5, x6, .ow (.lst (PS.map tsd)), x8, x9, x10, x11, .un, .un, x14, x15, x16]) k) Q := by
  have hpap : (PS.map tsd).length ≤ 1000 := by simp; omega
  have hall : ∀ x ∈ PS ++ [ts], Pr x 602 big := fun x hx => (List.mem_append.mp hx).elim (hP x) fun hx => by simp at hx; subst hx; exact p
  have e1 : PS.map tsd ++ [tsd ts] = (PS ++ [ts]).map tsd := by simp
  unfold f_law_3
  clear hP p
  generalize hTT : PS ++ [ts] = TT at *
  clear hTT
  walk_at "ev"
  refine w_for (Y := Sl × Sl) (fun y => [x0, x1, x2, x3, .pl (tsd ts), x5, x6, .pl (.lst (PS.map tsd)), x8, x9, x10, x11, y.1, y.2, x14, x15, x16]) (fun j y => Pl y.1 ∧ Pl y.2) (.un, .un) rfl ⟨.inl rfl, .inl rfl⟩ (fun j d y hd hy => ?_) fun y hy => ?_
  · obtain ⟨x12, x13⟩ := y
    rw [List.getElem?_map] at hd
    obtain ⟨T, hT, rfl⟩ := Option.map_eq_some_iff.mp hd
    rw [w_tn]
    exact one_ok (hall T (List.mem_of_getElem? hT)) (by decide) x0 x1 x2 x3 (.pl (tsd ts)) x5 x6 (.pl (.lst (PS.map tsd))) x8 x9 x10 x11 x13 x14 x15 x16 ⟨(.pl (tsd T), .pl (wkD T)), rfl, pl_pl _, pl_pl _⟩
  · obtain ⟨x12, x13⟩ := y
    exact hk x12 x13 hy.1 hy.2
theorem loop5_ok {Q : O → Prop} {k : MS} {ts : List Tok} (p : Pr ts 602 big) {SP : List Nat} (hS : ∀ a ∈ SP, a < ts.length) (x0 x1 x2 x3 x5 x6 x7 x8 x10 x11 x12 x13 x14 x15 x16 : Sl) (h14 : x14 = .pl (.lst (iN SP)) ∨ x14 = .ow (.lst (iN SP))) (p11 : Pl x11)
    (hk : ∀ (x11 : Sl), Pl x11 → Wp (k [x0, x1, x2, x3, .pl (tsd ts), x5, x6, x7, x8, .pl (wkD ts), x10, x11, x12, x13, .pl (.lst (iN SP)), x15, x16]) Q) :
    Wp (kO (f_law_5 [x0, x1, x2, x3, .pl (tsd ts), x5, x6, x7, x8, .pl (wkD ts), x10, x11, x12, x13, x14, x15, x16]) k) Q := by
  have h14' : mItems (mMv 14) [x0, x1, x2, x3, .pl (tsd ts), x5, x6, x7, x8, .pl (wkD ts), x10, x11, x12, x13, x14, x15, x16] = .ok (iN SP) [x0, x1, x2, x3, .pl (tsd ts), x5, x6, x7, x8, .pl (wkD ts), x10, x11, x12, x13, .pl (.lst (iN SP)), x15, x16] := by
    rcases h14 with rfl | rfl <;> rfl
  have hpl := fun a (ha : a ∈ SP) => place_ok p (by decide) (hS a ha)
  unfold f_law_5
  clear p
  generalize wkD ts = wd at *
  generalize tsd ts = td at *
  rw [q_for, h14', q_bok]
  refine w_for (Y := Sl) (fun y => [x0, x1, x2, x3, .pl td, x5, x6, x7, x8, .pl wd, x10, y, x12, x13, .pl (.lst (iN SP)), x15, x16]) (fun j y => Pl y) x11 rfl p11 (fun j d y hd hy => ?_) fun y hy => hk y hy
  rw [List.getElem?_map] at hd
  obtain ⟨a, ha, rfl⟩ := Option.map_eq_some_iff.mp hd
  have hp := hpl a (List.mem_of_getElem? ha)
  rw [w_tn]
  show Wp (b_law_4 [x0, x1, x2, x3, .pl td, x5, x6, x7, x8, .pl wd, x10, .pl (.int (a : Int)), x12, x13, .pl (.lst (iN SP)), x15, x16]) _
  clear hpl hd ha hk h14'
  unfold b_law_4
  walk_at "ev"
  exact ⟨_, rfl, pl_pl _⟩
end VM.K15

set_option Elab.async false
set_option linter.all false
set_option autoImplicit false
set_option maxRecDepth 100000
set_option maxHeartbeats 400000
namespace VM.K15
open PySem PySem.Spec PyProof.Rows L2 VM
local macro_rules | `(tactic| walk_at "ev") => `(tactic| simp (disch := first | omega | (simp only [List.length_cons, List.length_nil, List.length_map, List.length_append, List.length_replicate, List.length_set, rngs_length]; omega)) only [*, q_seq, q_skip, q_knx, q_krt, q_kro, q_kbk, q_kct, q_ker, q_kk, q_bind, q_bok, q_ber, q_drop, q_ret, q_reto, q_ifs, q_ct, q_cf, q_asg, q_asgo, q_asgt, q_rok, q_rer, q_c, q_rd, q_mv, q_fz, fz_lst, fz_dct, fz_obj, fz_dlst, fz_ddct, fz_dobj, q_tk, q_2, q_1, q_os, q_b, q_not, q_and, q_or, q_at, q_af, q_ao, q_rt, q_rf, q_ro, q_andv, q_orv, q_avt, q_avf, q_avo, q_rvt, q_rvf, q_rvo, q_ife, q_it, q_if, q_io, q_on, q_oS, q_sl, q_nil, q_cons, q_tup, q_lst, q_call1, q_call, q_f0, q_f1, q_f2, q_f3, q_f4, q_f5, q_f6, q_f7, q_callk, q_frok, q_frer, q_calli, q_mihere, q_micons, q_fri, q_sdo, q_sdi, q_rso, q_rsi, q_app, q_ext, q_ext2, q_put, q_pop, q_with, q_wok, q_for, q_enum, q_items, q_raise, q_gt, q_grt, q_lt, q_le, q_rng1, q_rng2, q_rg1, q_lrg, q_lrgi, q_rg2, q_add, q_adds, q_addl, q_addt, q_cat, q_sub, q_mulr, q_mull, q_div, q_mod, q_p18, q_p12, q_cmplt, q_cmple, q_cmpgt, q_cmpge, q_eqi, q_eqs, q_eqb, q_nei, q_nes, q_isn, q_isnn, q_isb, q_isnb, q_neg, q_dnot, q_lenl, q_lent, q_lenf, q_lens, q_int, q_intb, q_tupl, q_tupt, q_lstl, q_lstt, q_min, q_max, q_ixn, q_ixm, q_ixl, q_ixt, q_ixf, q_rep, q_isi_tt, q_isi_ts, q_isi_ti, q_isi_ss, q_isi_st, q_isi_ii, q_isi_it, q_isi_is, q_isi_bi, q_lfi, q_lfb, q_lfs, q_lfn, q_itt, q_itl, q_itf, q_slt, q_sll, q_sls, tk_row, tk_wd, q_cut, q_cutf, q_cutt, q_try, q_tryo, q_tnx, q_trt, q_tonx, q_tort, w_irt, w_inx, w_iro, w_lnx, w_lct, w_lbk, w_lrt, w_lro, w_ler, w_nnx, w_nrt, w_nro, w_ner, w_rnx, w_rrt, w_rro, w_rer, w_tn, w_tt, w_tt3, ev_ownL, ev_putL, ev_lend, ev_hn, ev_hp, ev_hu, ev_ho, ev_hi, ev_i0, ev_i1, ev_tN, ev_tnil, ev_tcons, ev_tTup, List.getElem?_cons_zero, List.getElem?_cons_succ, List.set_cons_zero, List.set_cons_succ, List.length_cons, List.length_nil, List.length_append, List.length_map, List.length_replicate, List.length_set, rngs_length, List.nil_append, List.cons_append, Int.toNat_natCast, Int.toNat_zero, Int.toNat_one, Int.reduceToNat, List.getElem?_map, Option.map_some, Nat.reduceAdd, Nat.reduceSub, Nat.reduceLT, Nat.reduceLeDiff, Nat.reduceEqDiff, Int.reduceEq, Int.reduceLT, Int.reduceLE, Int.reduceAdd, Int.reduceSub, Int.reduceMul, Int.reduceNeg, List.replicate_succ, List.replicate_zero, Bool.not_true, Bool.not_false, Bool.and_true, Bool.true_and, Bool.and_false, Bool.false_and, Bool.or_true, Bool.true_or, Bool.or_false, Bool.false_or, decide_true, decide_false, if_true, if_false, and_self, true_and, and_true, Nat.sub_self, Nat.add_zero, Nat.zero_add, Bool.true_eq_false, Bool.false_eq_true, ite_true, ite_false, reduceIte, eq_self])
theorem loop7_ok {Q : O → Prop} {k : MS} {es : List Int} (he : 0 < es.length) (hel : es.length ≤ 1000) {ts o : List Tok} (p : Pr ts 602 big) (po : Pr o 602 big) (c : Int) (x0 x1 x3 x7 x8 x10 x11 x12 x13 x14 x16 : Sl) (p10 : Pl x10) (p11 : Pl x11)
    (hk : ∀ (c : Int) (x10 x11 x15 : Sl), Pl x10 → Pl x11 → Pl x15 → Wp (k [x0, x1, .ow (.lst [.int c]), x3, .pl (tsd ts), .pl (.lst (es.map .int)), .pl (tsd o), x7, x8, .pl (wkD ts), x10, x11, x12, x13, x14, x15, x16]) Q) :
    Wp (kO (f_law_7 [x0, x1, .ow (.lst [.int c]), x3, .pl (tsd ts), .pl (.lst (es.map .int)), .pl (tsd o), x7, x8, .pl (wkD ts), x10, x11, x12, x13, x14, .un, x16]) k) Q := by
  have hlen : (ts.map Tok.d).length = ts.length := List.length_map _
  have hl := p.l
  have hol := po.l
  have h0 := p.hd
  unfold f_law_7
  walk_at "ev"
  refine w_for (Y := Int × Sl × Sl × Sl) (fun y => [x0, x1, .ow (.lst [.int y.1]), x3, .pl (tsd ts), .pl (.lst (es.map .int)), .pl (tsd o), x7, x8, .pl (wkD ts), y.2.1, y.2.2.1, x12, x13, x14, y.2.2.2, x16]) (fun j y => Pl y.2.1 ∧ Pl y.2.2.1 ∧ Pl y.2.2.2) (c, x10, x11, .un) rfl ⟨p10, p11, .inl rfl⟩ (fun j d y hd hy => ?_) fun y hy => ?_
  · obtain ⟨c, x10, x11, x15⟩ := y
    obtain ⟨hj, rfl⟩ := nget hd
    obtain ⟨q, lq, pq⟩ := pickE he hel c (many := ts.length) h0 (by omega)
    obtain ⟨a, ha, ea⟩ : ∃ a : Nat, a < ts.length ∧ [D.int (q : Int), D.int 0, D.int ((ts.length : Int) - 1)][j]? = some (.int (a : Int)) := by
      match j, hj with
      | 0, _ => exact ⟨q, lq, rfl⟩
      | 1, _ => exact ⟨0, h0, rfl⟩
      | 2, _ => exact ⟨ts.length - 1, by omega, by simp; omega⟩
    have f1 := put_ok p.r (by omega) ha (o := o) (by omega)
    have pp := p.put po ha
    obtain ⟨z1, r1⟩ := pp.rs (by decide) (by decide)
    obtain ⟨z2, r2⟩ := p.rs (by decide) (by decide)
    have hE := ens_at ha
    have hEg := En_gt p.r ha
    have e4 : List.take a (ts.map Tok.d) ++ o.map Tok.d ++ List.drop (En ts a) (ts.map Tok.d) = (putT ts o a).map Tok.d := by unfold putT; simp
    have l1 : (List.take a (ts.map Tok.d)).length ≤ 1000 := by simp; omega
    have l2 : (List.drop (En ts a) (ts.map Tok.d)).length ≤ 1000 := by simp; omega
    have l3 : (o.map Tok.d).length ≤ 1000 := by simp; omega
    have f2 := partof_ok p.r (by omega) ha
    have hpl : (putT ts o a).length = a + o.length + (ts.length - En ts a) := by unfold putT; simp; omega
    have f3 := put_ok pp.r (by have := pp.l; omega) (a := a) (by have := po.hd; omega) (o := part ts a) (by have := part_len (ts := ts) (a := a); have := szt_le ts a; omega)
    rw [put_back p.r po.r ha] at f3
    have hwk : dIx (wkD ts) (.int 0) = some (.lst (iN ((List.range ts.length).map (En ts)))) := rfl
    have kk1 : ∀ a b c : D, kj 1 2 [a] [b, c] = [a, b, c] := fun _ _ _ => rfl
    have kk2 : ∀ a b : D, kj 0 2 ([] : List D) [a, b] = [a, b] := fun _ _ => rfl
    rw [w_tn]
    show Wp (b_law_6 [x0, x1, .ow (.lst [.int c]), x3, .pl (tsd ts), .pl (.lst (es.map .int)), .pl (tsd o), x7, x8, .pl (wkD ts), .pl (.int (j : Int)), x11, x12, x13, x14, x15, x16]) _
    clear hd hk pp p po hpl lq
    generalize hEE : (List.range ts.length).map (En ts) = EE at *
    clear hEE
    generalize wkD ts = wd at *
    generalize hPT : putT ts o a = PT at *
    clear hPT
    generalize hPA : part ts a = PA at *
    clear hPA
    generalize hEA : En ts a = ea at *
    clear hEA
    unfold b_law_6
    walk_at "ev"
    exact ⟨(c + 1, .pl (.int (j : Int)), .pl (.int (a : Int)), .pl (tsd PT)), rfl, pl_pl _, pl_pl _, pl_pl _⟩
  · obtain ⟨c, x10, x11, x15⟩ := y
    exact hk c x10 x11 x15 hy.1 hy.2.1 hy.2.2
theorem loop9_ok {Q : O → Prop} {k : MS} {es : List Int} (he : 0 < es.length) (hel : es.length ≤ 1000) {ts : List Tok} (hl : ts.length ≤ 1000) {o : D} {W : List Int} (hWl : W.length = 6) (hW : ∀ z ∈ W, (z < 0 ∨ (ts.length : Int) ≤ z) ∧ ∃ s, dRepr [.int z] = some (.str s)) (c : Int) (x0 x1 x3 x7 x8 x9 x10 x11 x12 x13 x14 x15 : Sl) (p10 : Pl x10)
    (hk : ∀ (c : Int) (x10 : Sl), Pl x10 → Wp (k [x0, x1, .ow (.lst [.int c]), x3, .pl (tsd ts), .pl (.lst (es.map .int)), .pl o, x7, x8, x9, x10, x11, x12, x13, x14, x15, .pl (.lst (W.map .int))]) Q) :
    Wp (kO (f_law_9 [x0, x1, .ow (.lst [.int c]), x3, .pl (tsd ts), .pl (.lst (es.map .int)), .pl o, x7, x8, x9, x10, x11, x12, x13, x14, x15, .pl (.lst (W.map .int))]) k) Q := by
  unfold f_law_9
  walk_at "ev"
  refine w_for (Y := Int × Sl) (fun y => [x0, x1, .ow (.lst [.int y.1]), x3, .pl (tsd ts), .pl (.lst (es.map .int)), .pl o, x7, x8, x9, y.2, x11, x12, x13, x14, x15, .pl (.lst (W.map .int))]) (fun j y => Pl y.2) (c, x10) rfl p10 (fun j d y hd hy => ?_) fun y hy => ?_
  · obtain ⟨c, x10⟩ := y
    obtain ⟨hj, rfl⟩ := nget hd
    obtain ⟨q, lq, pq⟩ := pickE he hel c (many := 3) (by decide) (by decide)
    have pq : F__law_pick [.lst (es.map .int), .lst [.int c], .int 3] = .ok (.int (q : Int)) (some (.lst [.int (c + 1)])) := pq
    have hj6 : j < 6 := hj
    obtain ⟨z, hz⟩ : ∃ z, W[j]? = some z := ⟨_, List.getElem?_eq_getElem (by omega)⟩
    obtain ⟨h1, h2⟩ := hW z (List.mem_of_getElem? hz)
    obtain ⟨i, hi, ei⟩ : ∃ i : Nat, i < 6 ∧ ((j : Int) + (q : Int)) % 6 = (i : Int) := ⟨(j + q) % 6, by omega, by omega⟩
    obtain ⟨t, ht, et⟩ : ∃ t : Nat, t < 3 ∧ [D.int 0, D.int 1, D.int 2, D.int 1, D.int 0, D.int 2][i]? = some (.int (t : Int)) := by
      match i, hi with
      | 0, _ => exact ⟨0, by decide, rfl⟩
      | 1, _ => exact ⟨1, by decide, rfl⟩
      | 2, _ => exact ⟨2, by decide, rfl⟩
      | 3, _ => exact ⟨1, by decide, rfl⟩
      | 4, _ => exact ⟨0, by decide, rfl⟩
      | 5, _ => exact ⟨2, by decide, rfl⟩
    have hr := refused_ok (by omega) h1 h2 o ht
    rw [w_tn]
    show Wp (b_law_8 [x0, x1, .ow (.lst [.int c]), x3, .pl (tsd ts), .pl (.lst (es.map .int)), .pl o, x7, x8, x9, .pl (.int (j : Int)), x11, x12, x13, x14, x15, .pl (.lst (W.map .int))]) _
    clear hd hk hW h1 h2
    generalize tsd ts = td at *
    unfold b_law_8
    walk_at "ev"
    exact ⟨(c + 1, .pl (.int (j : Int))), rfl, pl_pl _⟩
  · obtain ⟨c, x10⟩ := y
    exact hk c x10 hy
theorem loop11_ok {Q : O → Prop} {k : MS} {o : List Tok} (po : Pr o 602 big) (x0 x1 x2 x3 x4 x5 x7 x8 x9 x10 x11 x12 x14 x15 x16 : Sl) (p10 : Pl x10)
    (hk : ∀ (x10 : Sl), Pl x10 → Wp (k [x0, x1, x2, x3, x4, x5, .pl (tsd o), x7, x8, x9, x10, x11, x12, .pl (wkD o), x14, x15, x16]) Q) :
    Wp (kO (f_law_11 [x0, x1, x2, x3, x4, x5, .pl (tsd o), x7, x8, x9, x10, x11, x12, .pl (wkD o), x14, x15, x16]) k) Q := by
  have h0 := po.hd
  have hl := po.l
  obtain ⟨t, ht, _⟩ := dr h0
  have hal := ar_le po.r ht
  have hfl := fs_lend o 1
  have hca : chs o o.length 0 = (List.range t.ar).map (sta o 0) := chs_all po.r ht (En_gt po.r h0).2
  have w1 : dIx (wkD o) (.int 1) = some (.lst ((List.range o.length).map fun a => D.lst (iN (chs o o.length a)))) := rfl
  have w2 : ((List.range o.length).map fun a => D.lst (iN (chs o o.length a)))[0]? = some (.lst (iN ((List.range t.ar).map (sta o 0)))) := by
    rw [List.getElem?_map, List.getElem?_range h0]; simp [hca]
  have hGI : (iN ((List.range t.ar).map (sta o 0))).length = t.ar := by simp [iN]
  have e0 : Option.map Tok.d o[0]? = some t.d := by rw [ht]; rfl
  have hho := po.h t (List.mem_of_getElem? ht)
  have hbd := (po.g t (List.mem_of_getElem? ht)).b
  have hal2 : t.ar ≤ 1000 := by
    have : (fsz (o.drop (0 + 1))).length ≤ o.length := hfl
    omega
  unfold f_law_11
  clear po ht hca hal hfl
  generalize wkD o = wd at *
  generalize (List.range o.length).map (fun a => D.lst (iN (chs o o.length a))) = CC at *
  generalize iN ((List.range t.ar).map (sta o 0)) = GG at *
  walk_at "ev"
  refine w_for (Y := Sl) (fun y => [x0, x1, x2, x3, x4, x5, .pl (tsd o), x7, x8, x9, y, x11, x12, .pl wd, x14, x15, x16]) (fun j y => Pl y) x10 rfl p10 (fun j d y hd hy => ?_) fun y hy => hk y hy
  obtain ⟨hj, rfl⟩ := nget hd
  have hb := bound_ok hho hj
  have hb2 := lbinds_ok hho hj
  obtain ⟨z5, r5⟩ := nat_rs (n := bd t j) (Nat.lt_of_le_of_lt (hbd j) (by decide))
  have kk : ∀ a b : D, kjp 0 [1, 0] ([] : List D) [a, b] = [b, a] := fun _ _ => rfl
  rw [w_tn]
  show Wp (b_law_10 [x0, x1, x2, x3, x4, x5, .pl (tsd o), x7, x8, x9, .pl (.int (j : Int)), x11, x12, .pl wd, x14, x15, x16]) _
  clear hd hk hbd
  generalize bd t j = bj at *
  unfold b_law_10
  walk_at "ev"
  exact ⟨_, rfl, pl_pl _⟩
end VM.K15

set_option Elab.async false
set_option linter.all false
set_option autoImplicit false
set_option maxRecDepth 100000
set_option maxHeartbeats 400000
namespace VM.K15
open PySem PySem.Spec PyProof.Rows L2 VM
local macro_rules | `(tactic| walk_at "ev") => `(tactic| simp (disch := first | omega | (simp only [List.length_cons, List.length_nil, List.length_map, List.length_append, List.length_replicate, List.length_set, rngs_length]; omega)) only [*, q_seq, q_skip, q_knx, q_krt, q_kro, q_kbk, q_kct, q_ker, q_kk, q_bind, q_bok, q_ber, q_drop, q_ret, q_reto, q_ifs, q_ct, q_cf, q_asg, q_asgo, q_asgt, q_rok, q_rer, q_c, q_rd, q_mv, q_fz, fz_lst, fz_dct, fz_obj, fz_dlst, fz_ddct, fz_dobj, q_tk, q_2, q_1, q_os, q_b, q_not, q_and, q_or, q_at, q_af, q_ao, q_rt, q_rf, q_ro, q_andv, q_orv, q_avt, q_avf, q_avo, q_rvt, q_rvf, q_rvo, q_ife, q_it, q_if, q_io, q_on, q_oS, q_sl, q_nil, q_cons, q_tup, q_lst, q_call1, q_call, q_f0, q_f1, q_f2, q_f3, q_f4, q_f5, q_f6, q_f7, q_callk, q_frok, q_frer, q_calli, q_mihere, q_micons, q_fri, q_sdo, q_sdi, q_rso, q_rsi, q_app, q_ext, q_ext2, q_put, q_pop, q_with, q_wok, q_for, q_enum, q_items, q_raise, q_gt, q_grt, q_lt, q_le, q_rng1, q_rng2, q_rg1, q_lrg, q_lrgi, q_rg2, q_add, q_adds, q_addl, q_addt, q_cat, q_sub, q_mulr, q_mull, q_div, q_mod, q_p18, q_p12, q_cmplt, q_cmple, q_cmpgt, q_cmpge, q_eqi, q_eqs, q_eqb, q_nei, q_nes, q_isn, q_isnn, q_isb, q_isnb, q_neg, q_dnot, q_lenl, q_lent, q_lenf, q_lens, q_int, q_intb, q_tupl, q_tupt, q_lstl, q_lstt, q_min, q_max, q_ixn, q_ixm, q_ixl, q_ixt, q_ixf, q_rep, q_isi_tt, q_isi_ts, q_isi_ti, q_isi_ss, q_isi_st, q_isi_ii, q_isi_it, q_isi_is, q_isi_bi, q_lfi, q_lfb, q_lfs, q_lfn, q_itt, q_itl, q_itf, q_slt, q_sll, q_sls, tk_row, tk_wd, q_cut, q_cutf, q_cutt, q_try, q_tryo, q_tnx, q_trt, q_tonx, q_tort, w_irt, w_inx, w_iro, w_lnx, w_lct, w_lbk, w_lrt, w_lro, w_ler, w_nnx, w_nrt, w_nro, w_ner, w_rnx, w_rrt, w_rro, w_rer, w_tn, w_tt, w_tt3, ev_ownL, ev_putL, ev_lend, ev_hn, ev_hp, ev_hu, ev_ho, ev_hi, ev_i0, ev_i1, ev_tN, ev_tnil, ev_tcons, ev_tTup, List.getElem?_cons_zero, List.getElem?_cons_succ, List.set_cons_zero, List.set_cons_succ, List.length_cons, List.length_nil, List.length_append, List.length_map, List.length_replicate, List.length_set, rngs_length, List.nil_append, List.cons_append, Int.toNat_natCast, Int.toNat_zero, Int.toNat_one, Int.reduceToNat, List.getElem?_map, Option.map_some, Nat.reduceAdd, Nat.reduceSub, Nat.reduceLT, Nat.reduceLeDiff, Nat.reduceEqDiff, Int.reduceEq, Int.reduceLT, Int.reduceLE, Int.reduceAdd, Int.reduceSub, Int.reduceMul, Int.reduceNeg, List.replicate_succ, List.replicate_zero, Bool.not_true, Bool.not_false, Bool.and_true, Bool.true_and, Bool.and_false, Bool.false_and, Bool.or_true, Bool.true_or, Bool.or_false, Bool.false_or, decide_true, decide_false, if_true, if_false, and_self, true_and, and_true, Nat.sub_self, Nat.add_zero, Nat.zero_add, Bool.true_eq_false, Bool.false_eq_true, ite_true, ite_false, reduceIte, eq_self])
def st4 : MS :=
  (mSeq (mAsg 13 (mFz (mCall 1 F__law_walked [] (mCons (mRd 6) mNil))))
  (mSeq (mIfS (mB (m2 dNe (mCall1 dRepr (mCons (mLst (mCons (mCallK 1 F_program_ends (kj 0 1) mNil (mCons (mRd 6) mNil)) (mCons (mCallK 1 F_levels_of (kj 0 1) mNil (mCons (mRd 6) mNil)) mNil))) mNil)) (mCall1 dRepr (mCons (mLst (mCons (mCall1 dTuple (mCons (m2 dIx (mRd 13) (mC (.int 0))) mNil)) (mCons (mCall1 dTuple (mCons (m2 dIx (mRd 13) (mC (.int 2))) mNil)) mNil))) mNil)))) (mRet (mC (.bl false))) mSkip)
  (mSeq (mIfS (mB (m2 dNe (mCall1 dRepr (mCons (mLst (mCons (mCallK 1 F_arity_of (kj 0 1) mNil (mCons (m2 dIx (mRd 6) (mC (.int 0))) mNil)) (mCons (mCallK 1 F_is_closed (kj 0 1) mNil (mCons (mRd 6) mNil)) mNil))) mNil)) (mCall1 dRepr (mCons (mLst (mCons (mCall1 dLen (mCons (m2 dIx (m2 dIx (mRd 13) (mC (.int 1))) (mC (.int 0))) mNil)) (mCons (mCall 3 F__law_is_shut [] (mCons (mRd 6) (mCons (mRd 13) (mCons (mC (.int 0)) mNil)))) mNil))) mNil)))) (mRet (mC (.bl false))) mSkip)
  (mSeq f_law_11
  (mRet (mAndV (m2 dEq (mCall1 dRepr (mCons (mCallK 2 F_children_of (kjp 0 [1, 0]) mNil (mCons (mC (.int 0)) (mCons (mRd 6) mNil))) mNil)) (mCall1 dRepr (mCons (mCall1 dTuple (mCons (m2 dIx (m2 dIx (mRd 13) (mC (.int 1))) (mC (.int 0))) mNil)) mNil))) (mCall 3 F__law_place_right [] (mCons (mRd 6) (mCons (mRd 13) (mCons (mC (.int 0)) mNil))))))))))
def st3 : MS :=
  (mSeq (mAsg 16 (mLst (mCons (m1 dNeg (mC (.int 1))) (mCons (mCall1 dLen (mCons (mRd 4) mNil)) (mCons (m2 dAdd (m2 dAdd (mCall1 dLen (mCons (mRd 4) mNil)) (mC (.int 1))) (mCallI 3 F__law_pick 1 [] (miCons (mRd 5) (miHere 2 (mCons (mC (.int 9)) mNil))))) (mCons (m2 (dI2 cSub) (mC (.int 0)) (mCall1 dLen (mCons (mRd 4) mNil))) (mCons (m2 (dI2 cPow) (mC (.int 10)) (mC (.int 20))) (mCons (m2 (dI2 cSub) (m1 dNeg (mC (.int 1))) (mCallI 3 F__law_pick 1 [] (miCons (mRd 5) (miHere 2 (mCons (mCall1 dLen (mCons (mRd 4) mNil)) mNil))))) mNil))))))))
  (mSeq f_law_9 st4))
def st2 : MS :=
  (mSeq (mAsgO 14 (mLc [11] (mRng1 (mCons (mCall1 dLen (mCons (mRd 4) mNil)) mNil)) (mtN 11) mYes (mRd 11)))
  (mSeq (mIfS (mB (m2 (dCI ciGt) (mCall1 dLen (mCons (mMv 14) mNil)) (mC (.int 61)))) (mAsgO 14 (m2 dCat (mLst (mCons (mC (.int 0)) (mCons (m2 (dI2 cSub) (mCall1 dLen (mCons (mRd 4) mNil)) (mC (.int 1))) mNil))) (mLc [10] (mRng1 (mCons (mC (.int 25)) mNil)) (mtN 10) mYes (mCallI 3 F__law_pick 1 [] (miCons (mRd 5) (miHere 2 (mCons (mCall1 dLen (mCons (mRd 4) mNil)) mNil))))))) mSkip)
  (mSeq f_law_5
  (mSeq f_law_7 st3))))
def st1 : MS :=
  (mSeq (mAsgO 7 (mLst (mCons (mRd 4) (mCons (mRd 6) mNil))))
  (mSeq (mAsgO 8 (mLc [11] (mRng1 (mCons (mCall1 dLen (mCons (mRd 4) mNil)) mNil)) (mtN 11) (mB (mCall 1 F__law_whole [] (mCons (m2 dIx (mRd 4) (mRd 11)) mNil))) (mRd 11)))
  (mSeq (mAsg 9 (mFz (mCall 1 F__law_walked [] (mCons (mRd 4) mNil))))
  (mSeq f_law_1
  (mSeq f_law_3 st2)))))
theorem law_eq : m_law = (mSeq (mAsg 1 (mFz (mCall 3 F__law_row [] (mCons (mRd 0) (mCons (mC (.int 0)) (mCons (mC (.int 6)) mNil)))))) (mSeq (mAsgO 2 (mLst (mCons (mC (.int 0)) mNil))) (mSeq (mAsg 3 (mLst (mCons (m2 dAdd (mC (.int 1)) (mCallI 3 F__law_pick 1 [] (miCons (mRd 1) (miHere 2 (mCons (mC (.int 8)) mNil))))) (mCons (m2 dAdd (mC (.int 2)) (mCallI 3 F__law_pick 1 [] (miCons (mRd 1) (miHere 2 (mCons (mC (.int 40)) mNil))))) (mCons (m2 dAdd (mC (.int 10)) (mCallI 3 F__law_pick 1 [] (miCons (mRd 1) (miHere 2 (mCons (mC (.int 50)) mNil))))) (mCons (m2 (dI2 cSub) (mC (.int 600)) (mCallI 3 F__law_pick 1 [] (miCons (mRd 1) (miHere 2 (mCons (mC (.int 300)) mNil))))) mNil)))))) (mSeq (mAsg 3 (m2 dIx (mRd 3) (m2 dIx (mLst (mCons (mC (.int 0)) (mCons (mC (.int 1)) (mCons (mC (.int 1)) (mCons (mC (.int 2)) (mCons (mC (.int 1)) (mCons (mC (.int 2)) (mCons (mC (.int 1)) (mCons (mC (.int 2)) (mCons (mC (.int 1)) (mCons (mC (.int 2)) (mCons (mC (.int 1)) (mCons (mC (.int 3)) mNil))))))))))))) (mCallI 3 F__law_pick 1 [] (miCons (mRd 1) (miHere 2 (mCons (mC (.int 12)) mNil))))))) (mSeq (mAsg 4 (mCallI 4 F__law_any 1 [] (miCons (mRd 1) (miHere 2 (mCons (mRd 3) (mCons (m2 (dCI ciGt) (mCallI 3 F__law_pick 1 [] (miCons (mRd 1) (miHere 2 (mCons (mC (.int 3)) mNil)))) (mC (.int 0))) mNil)))))) (mSeq (mAsg 5 (mFz (mCall 3 F__law_row [] (mCons (mRd 0) (mCons (mC (.int 6)) (mCons (mC (.int 4)) mNil)))))) (mSeq (mAsg 6 (mCallI 4 F__law_any 1 [] (miCons (mRd 5) (miHere 2 (mCons (m2 dAdd (mC (.int 1)) (mCallI 3 F__law_pick 1 [] (miCons (mRd 5) (miHere 2 (mCons (mC (.int 20)) mNil))))) (mCons (m2 dEq (mCallI 3 F__law_pick 1 [] (miCons (mRd 5) (miHere 2 (mCons (mC (.int 3)) mNil)))) (mC (.int 0))) mNil)))))) st1))))))) := rfl
theorem st4_ok {o : List Tok} (po : Pr o 602 big) (x0 x1 x2 x3 x4 x5 x7 x8 x9 x10 x11 x12 x13 x14 x15 x16 : Sl) (p10 : Pl x10) :
    Wp (st4 [x0, x1, x2, x3, x4, x5, .pl (tsd o), x7, x8, x9, x10, x11, x12, x13, x14, x15, x16]) (RtQ false (fun e => e = .bl true) fun _ => False) := by
  have h0 := po.hd
  have hl := po.l
  obtain ⟨t, ht, _⟩ := dr h0
  have hal := ar_le po.r ht
  have hfl := fs_lend o 1
  have hal2 : t.ar ≤ 1000 := by
    have : (fsz (o.drop (0 + 1))).length ≤ o.length := hfl
    omega
  have hca : chs o o.length 0 = (List.range t.ar).map (sta o 0) := chs_all po.r ht (En_gt po.r h0).2
  have hch : F_children_of [tsd o, .int 0] = .ok (.tup (iN ((List.range t.ar).map (sta o 0)))) none := children_ok po.r (by omega) ht
  have w0 : dIx (wkD o) (.int 0) = some (.lst (iN ((List.range o.length).map (En o)))) := rfl
  have w2 : dIx (wkD o) (.int 2) = some (.lst (iN (lvF [0] o))) := rfl
  have w1 : dIx (wkD o) (.int 1) = some (.lst ((List.range o.length).map fun a => D.lst (iN (chs o o.length a)))) := rfl
  have w3 : ((List.range o.length).map fun a => D.lst (iN (chs o o.length a)))[0]? = some (.lst (iN ((List.range t.ar).map (sta o 0)))) := by
    rw [List.getElem?_map, List.getElem?_range h0]; simp [hca]
  have hGI : (iN ((List.range t.ar).map (sta o 0))).length = t.ar := by simp [iN]
  have e0 : Option.map Tok.d o[0]? = some t.d := by rw [ht]; rfl
  have har := arity_ok t
  have hw := walked_ok po.r po.h (by omega)
  have he := ends2 po.r (by omega)
  have hlv := levels_ok po.r po.h (by omega)
  have hc := closed_ok po.r po.h (by omega)
  have hs := shut_ok po.r (by omega) po.hd
  rw [part0 po.r] at hs
  have hs : F__law_is_shut [tsd o, wkD o, .int 0] = .ok (.bl (clB o)) none := hs
  have hp0 : F__law_place_right [tsd o, wkD o, .int 0] = .ok (.bl true) none := place_ok po (by decide) h0
  have gA : Rs (.tup (iN ((List.range o.length).map (En o)))) ((52 + 2) * 602 + 3) 1 := ((Rs.tup (RsL.all (w := 52) (dp := 0) fun d hd => by
    obtain ⟨v, hv, rfl⟩ := List.mem_map.mp hd
    obtain ⟨a, ha, rfl⟩ := List.mem_map.mp hv
    exact Rs.nat (Nat.lt_of_le_of_lt (show _ ≤ 2000 by have := (En_gt po.r (List.mem_range.mp ha)).2; omega) (by decide)))).mono (by simp; omega) (Nat.le_refl _))
  have gB : Rs (.tup (iN (lvF [0] o))) ((52 + 2) * 602 + 3) 1 := ((Rs.tup (RsL.all (w := 52) (dp := 0) fun d hd => by
    obtain ⟨v, hv, rfl⟩ := List.mem_map.mp hd
    exact Rs.nat (Nat.lt_of_le_of_lt (show _ ≤ 32000 by have := po.lv v hv; omega) (by decide)))).mono (by simp [lvF_len o [0] po.r]; omega) (Nat.le_refl _))
  have gC : Rs (.tup (iN ((List.range t.ar).map (sta o 0)))) ((52 + 2) * 1000 + 3) 1 := ((Rs.tup (RsL.all (w := 52) (dp := 0) fun d hd => by
    obtain ⟨v, hv, rfl⟩ := List.mem_map.mp hd
    obtain ⟨a, ha, rfl⟩ := List.mem_map.mp hv
    have ha := List.mem_range.mp ha
    have h2 : sta o 0 a < o.length := (sta_step po.r ht ha).1
    exact Rs.nat (Nat.lt_of_le_of_lt (show _ ≤ 2000 by omega) (by decide)))).mono (by simp; omega) (Nat.le_refl _))
  obtain ⟨z1, r1⟩ := reprs_of (Rs.lst (RsL.cons gA (RsL.cons gB RsL.nil))) (by decide) (by decide)
  obtain ⟨z2, r2⟩ := reprs_of (Rs.lst (RsL.cons (Rs.to (Rs.nat (n := t.ar) (Nat.lt_of_le_of_lt hal2 (by decide)))) (RsL.cons (Rs.to (dp' := 0) (Rs.bl (clB o))) RsL.nil))) (by decide) (by decide)
  obtain ⟨z3, r3⟩ := reprs_of gC (by decide) (by decide)
  have k1 : ∀ a : D, kj 0 1 ([] : List D) [a] = [a] := fun _ => rfl
  have k2 : ∀ a b : D, kjp 0 [1, 0] ([] : List D) [a, b] = [b, a] := fun _ _ => rfl
  have L11 := fun (Q : O → Prop) (k : MS) x0 x1 x2 x3 x4 x5 x7 x8 x9 x10 x11 x12 x14 x15 x16 => loop11_ok (Q := Q) (k := k) po x0 x1 x2 x3 x4 x5 x7 x8 x9 x10 x11 x12 x14 x15 x16
  unfold st4
  clear po hca hal hfl gA gB gC ht
  have hfz : fz (wkD o) = wkD o := rfl
  generalize wkD o = wd at *
  generalize (List.range o.length).map (fun a => D.lst (iN (chs o o.length a))) = CC at *
  generalize (List.range o.length).map (En o) = EE at *
  generalize lvF [0] o = LL at *
  generalize (List.range t.ar).map (sta o 0) = GG at *
  generalize clB o = cb at *
  walk_at "ev"
  refine L11 _ _ _ _ _ _ _ _ _ _ _ _ _ _ _ _ _ p10 fun x10 q10 => ?_
  clear L11
  walk_at "ev"
theorem st3_ok {es : List Int} (he : 0 < es.length) (hel : es.length ≤ 1000) {ts o : List Tok} (p : Pr ts 602 big) (po : Pr o 602 big) (c : Int) (x0 x1 x3 x7 x8 x9 x10 x11 x12 x13 x14 x15 : Sl) (p10 : Pl x10) :
    Wp (st3 [x0, x1, .ow (.lst [.int c]), x3, .pl (tsd ts), .pl (.lst (es.map .int)), .pl (tsd o), x7, x8, x9, x10, x11, x12, x13, x14, x15, .un]) (RtQ false (fun e => e = .bl true) fun _ => False) := by
  have hlen : (ts.map Tok.d).length = ts.length := List.length_map _
  have hl := p.l
  have h0 := p.hd
  obtain ⟨q, lq, pq⟩ := pickE he hel c (many := 9) (by decide) (by decide)
  have pq : F__law_pick [.lst (es.map .int), .lst [.int c], .int 9] = .ok (.int (q : Int)) (some (.lst [.int (c + 1)])) := pq
  obtain ⟨r, lr, pr⟩ := pickE he hel (c + 1) (many := ts.length) h0 (by omega)
  have L9 := fun (Q : O → Prop) (k : MS) W (h1 : W.length = 6) h2 c x0 x1 x3 x7 x8 x9 x10 x11 x12 x13 x14 x15 => loop9_ok (Q := Q) (k := k) he hel (ts := ts) (by omega) (o := tsd o) (W := W) h1 h2 c x0 x1 x3 x7 x8 x9 x10 x11 x12 x13 x14 x15
  have L4 := st4_ok po
  have hW : ∀ z ∈ [-1, (ts.length : Int), (ts.length : Int) + 1 + (q : Int), 0 - (ts.length : Int), 100000000000000000000, -1 - (r : Int)], (z < 0 ∨ (ts.length : Int) ≤ z) ∧ ∃ s, dRepr [.int z] = some (.str s) := by
    have nat : ∀ m : Nat, m ≤ 10 ^ 20 → ∀ z : Int, z = (m : Int) → ∃ s, dRepr [.int z] = some (.str s) := fun m hm z hz => by
      subst hz; exact nat_rs (Nat.lt_of_le_of_lt hm (by decide))
    have neg : ∀ m : Nat, m < 1300 → ∀ z : Int, z = -(m : Int) → ∃ s, dRepr [.int z] = some (.str s) := fun m hm z hz => by
      subst hz; exact reprs_of (neg_rs hm) (by decide) (by decide)
    intro z hz
    simp only [List.mem_cons, List.not_mem_nil, or_false] at hz
    rcases hz with rfl | rfl | rfl | rfl | rfl | rfl
    · exact ⟨by omega, neg 1 (by decide) _ (by omega)⟩
    · exact ⟨by omega, nat ts.length (by omega) _ rfl⟩
    · exact ⟨by omega, nat (ts.length + 1 + q) (by omega) _ (by omega)⟩
    · exact ⟨by omega, neg ts.length (by omega) _ (by omega)⟩
    · exact ⟨by omega, nat (10 ^ 20) (Nat.le_refl _) _ (by decide)⟩
    · exact ⟨by omega, neg (r + 1) (by omega) _ (by omega)⟩
  have qp := q_p20
  unfold st3
  clear p po hl
  generalize tsd o = od at *
  walk_at "ev"
  refine L9 _ _ [-1, (ts.length : Int), (ts.length : Int) + 1 + (q : Int), 0 - (ts.length : Int), 100000000000000000000, -1 - (r : Int)] rfl hW _ _ _ _ _ _ _ _ _ _ _ _ _ p10 fun c x10 q10 => ?_
  clear L9 hW
  exact L4 _ _ _ _ _ _ _ _ _ _ _ _ _ _ _ _ q10
theorem mny_ok {es : List Int} (he : 0 < es.length) (hel : es.length ≤ 1000) {ts o : List Tok} (p : Pr ts 602 big) (c : Int) (x0 x1 x3 x7 x8 x9 x10 x11 x12 x13 x14 x15 x16 : Sl) (p10 : Pl x10) :
    ∃ (SP : List Nat) (c' : Int), SP.length = 25 ∧ (∀ a ∈ SP, a < ts.length) ∧ (mLc [10] (mRng1 (mCons (mC (.int 25)) mNil)) (mtN 10) mYes (mCallI 3 F__law_pick 1 [] (miCons (mRd 5) (miHere 2 (mCons (mCall1 dLen (mCons (mRd 4) mNil)) mNil))))) [x0, x1, .ow (.lst [.int c]), x3, .pl (tsd ts), .pl (.lst (es.map .int)), .pl (tsd o), x7, x8, x9, x10, x11, x12, x13, x14, x15, x16] = .ok (.lst (iN SP)) [x0, x1, .ow (.lst [.int c']), x3, .pl (tsd ts), .pl (.lst (es.map .int)), .pl (tsd o), x7, x8, x9, x10, x11, x12, x13, x14, x15, x16] := by
  have hlen : (ts.map Tok.d).length = ts.length := List.length_map _
  have hl := p.l
  have h0 := p.hd
  obtain ⟨c', acc, h1, ⟨X, hb, hX⟩, h3⟩ := lc_io (own := [10]) (mi := (mRng1 (mCons (mC (.int 25)) mNil))) (t := mtN 10) (me := (mCallI 3 F__law_pick 1 [] (miCons (mRd 5) (miHere 2 (mCons (mCall1 dLen (mCons (mRd 4) mNil)) mNil)))))
    (s := [x0, x1, .ow (.lst [.int c]), x3, .pl (tsd ts), .pl (.lst (es.map .int)), .pl (tsd o), x7, x8, x9, x10, x11, x12, x13, x14, x15, x16]) (s0 := [x0, x1, .ow (.lst [.int c]), x3, .pl (tsd ts), .pl (.lst (es.map .int)), .pl (tsd o), x7, x8, x9, x10, x11, x12, x13, x14, x15, x16]) (ds := rngs 0 25)
    (fun c => [x0, x1, .ow (.lst [.int c]), x3, .pl (tsd ts), .pl (.lst (es.map .int)), .pl (tsd o), x7, x8, x9, .un, x11, x12, x13, x14, x15, x16]) (fun _ _ acc => ∃ X : List Nat, acc = iN X ∧ ∀ x ∈ X, x < ts.length) c (by walk_at "ev") (by rcases p10 with rfl | ⟨d, rfl⟩ <;> rfl) rfl (by decide) ⟨[], rfl, by simp⟩ (fun j d c acc hd' hI => by
      obtain ⟨X, rfl, hX⟩ := hI
      obtain ⟨q, lq, pq⟩ := pickE he hel c (many := ts.length) h0 (by omega)
      refine ⟨[x0, x1, .ow (.lst [.int c]), x3, .pl (tsd ts), .pl (.lst (es.map .int)), .pl (tsd o), x7, x8, x9, .pl d, x11, x12, x13, x14, x15, x16], rfl, .int (q : Int), [x0, x1, .ow (.lst [.int (c + 1)]), x3, .pl (tsd ts), .pl (.lst (es.map .int)), .pl (tsd o), x7, x8, x9, .pl d, x11, x12, x13, x14, x15, x16], c + 1, ?_, rfl, X ++ [q], by simp, fun x hx => (List.mem_append.mp hx).elim (hX x) fun hx => ?_⟩
      · clear hd' hX lq p
        walk_at "ev"
      · simp at hx; omega)
  refine ⟨X, c', ?_, hX, ?_⟩
  · rw [hb, rngs_length] at h3
    simpa using h3
  · rw [h1, hb]; rfl
theorem st2_ok {es : List Int} (he : 0 < es.length) (hel : es.length ≤ 1000) {ts o : List Tok} (p : Pr ts 602 big) (po : Pr o 602 big) (c : Int) (x0 x1 x3 x7 x8 x10 x11 x12 x13 : Sl) (p10 : Pl x10) (p11 : Pl x11) :
    Wp (st2 [x0, x1, .ow (.lst [.int c]), x3, .pl (tsd ts), .pl (.lst (es.map .int)), .pl (tsd o), x7, x8, .pl (wkD ts), x10, x11, x12, x13, .un, .un, .un]) (RtQ false (fun e => e = .bl true) fun _ => False) := by
  have hlen : (ts.map Tok.d).length = ts.length := List.length_map _
  have hl := p.l
  have h0 := p.hd
  have hlc : (mLc [11] (mRng1 (mCons (mCall1 dLen (mCons (mRd 4) mNil)) mNil)) (mtN 11) mYes (mRd 11)) [x0, x1, .ow (.lst [.int c]), x3, .pl (tsd ts), .pl (.lst (es.map .int)), .pl (tsd o), x7, x8, .pl (wkD ts), x10, x11, x12, x13, .un, .un, .un] = .ok (.lst (iN (List.range ts.length))) [x0, x1, .ow (.lst [.int c]), x3, .pl (tsd ts), .pl (.lst (es.map .int)), .pl (tsd o), x7, x8, .pl (wkD ts), x10, x11, x12, x13, .un, .un, .un] := by
    have := lc_map (own := [11]) (mi := mRng1 (mCons (mCall1 dLen (mCons (mRd 4) mNil)) mNil)) (t := mtN 11) (me := mRd 11) (s := [x0, x1, .ow (.lst [.int c]), x3, .pl (tsd ts), .pl (.lst (es.map .int)), .pl (tsd o), x7, x8, .pl (wkD ts), x10, x11, x12, x13, .un, .un, .un]) (List.range ts.length) (fun k => D.int (k : Int)) (fun k => D.int (k : Int)) (by
        have : (List.range ts.length).map (fun k : Nat => D.int (k : Int)) = rngs 0 ts.length := by simp [rngs]
        rw [this]
        clear p po
        walk_at "ev") (by rcases p11 with rfl | ⟨d, rfl⟩ <;> rfl) (by simp; omega) (fun k hk => ⟨[x0, x1, .ow (.lst [.int c]), x3, .pl (tsd ts), .pl (.lst (es.map .int)), .pl (tsd o), x7, x8, .pl (wkD ts), x10, .pl (.int (k : Int)), x12, x13, .un, .un, .un], by rcases p11 with rfl | ⟨d, rfl⟩ <;> rfl, rfl, by rcases p11 with rfl | ⟨d, rfl⟩ <;> rfl⟩)
    rw [this]
  have fin : ∀ (SP : List Nat) (c : Int) (x14 : Sl), (∀ a ∈ SP, a < ts.length) → (x14 = .pl (.lst (iN SP)) ∨ x14 = .ow (.lst (iN SP))) → Wp ((mSeq f_law_5 (mSeq f_law_7 st3)) [x0, x1, .ow (.lst [.int c]), x3, .pl (tsd ts), .pl (.lst (es.map .int)), .pl (tsd o), x7, x8, .pl (wkD ts), x10, x11, x12, x13, x14, .un, .un]) (RtQ false (fun e => e = .bl true) fun _ => False) := fun SP c x14 hS h14 => by
    have L5 := fun (Q : O → Prop) (k : MS) => loop5_ok (Q := Q) (k := k) p hS x0 x1 (.ow (.lst [.int c])) x3 (.pl (.lst (es.map .int))) (.pl (tsd o)) x7 x8 x10 x11 x12 x13 x14 .un .un h14 p11
    have L7 := fun (Q : O → Prop) (k : MS) => loop7_ok (Q := Q) (k := k) he hel p po c x0 x1 x3 x7 x8 x10
    have L3 := st3_ok he hel p po
    clear hlc
    walk_at "ev"
    refine L5 _ _ fun x11 q11 => ?_
    clear L5
    walk_at "ev"
    refine L7 _ _ x11 x12 x13 _ _ p10 q11 fun c y10 y11 y15 q10 q11 q15 => ?_
    exact L3 _ _ _ _ _ _ _ _ _ _ _ _ _ q10
  have m25 := mny_ok he hel (o := o) p c x0 x1 x3 x7 x8 (.pl (wkD ts)) x10 x11 x12 x13 (.pl (.lst (iN (List.range ts.length)))) .un .un p10
  obtain ⟨SP, c', hSl, hS, e25⟩ := m25
  have hSi : (iN SP).length = 25 := by simp [hSl]
  have hri : (iN (List.range ts.length)).length = ts.length := by simp
  have f1 := fin (List.range ts.length) c _ (fun a ha => List.mem_range.mp ha) (.inl rfl)
  have hS2 : ∀ a ∈ (0 :: (ts.length - 1) :: SP), a < ts.length := fun a ha => by
    rcases List.mem_cons.mp ha with rfl | ha
    · exact h0
    · rcases List.mem_cons.mp ha with rfl | ha
      · omega
      · exact hS a ha
  have f2 := fin (0 :: (ts.length - 1) :: SP) c' _ hS2 (.inr rfl)
  have hcat : dCat (.lst [.int 0, .int ((ts.length : Int) - 1)]) (.lst (iN SP)) = some (.lst (iN (0 :: (ts.length - 1) :: SP))) := by
    refine (q_cat (xs := [.int 0, .int ((ts.length : Int) - 1)]) (ys := iN SP) (by rw [hSi]; simp)).trans ?_
    have : ((ts.length - 1 : Nat) : Int) = (ts.length : Int) - 1 := by omega
    simp [iN, this]
  have st2e : st2 = mSeq (mAsgO 14 (mLc [11] (mRng1 (mCons (mCall1 dLen (mCons (mRd 4) mNil)) mNil)) (mtN 11) mYes (mRd 11))) (mSeq (mIfS (mB (m2 (dCI ciGt) (mCall1 dLen (mCons (mMv 14) mNil)) (mC (.int 61)))) (mAsgO 14 (m2 dCat (mLst (mCons (mC (.int 0)) (mCons (m2 (dI2 cSub) (mCall1 dLen (mCons (mRd 4) mNil)) (mC (.int 1))) mNil))) (mLc [10] (mRng1 (mCons (mC (.int 25)) mNil)) (mtN 10) mYes (mCallI 3 F__law_pick 1 [] (miCons (mRd 5) (miHere 2 (mCons (mCall1 dLen (mCons (mRd 4) mNil)) mNil))))))) mSkip) (mSeq f_law_5 (mSeq f_law_7 st3))) := rfl
  rw [st2e]
  generalize mSeq f_law_5 (mSeq f_law_7 st3) = rest at *
  clear fin hS hS2 hSl p po st2e
  generalize iN (0 :: (ts.length - 1) :: SP) = L2 at *
  generalize iN SP = L3 at *
  generalize iN (List.range ts.length) = L1 at *
  walk_at "ev"
  by_cases hbig : 61 < (ts.length : Int)
  · rw [decide_eq_true hbig]
    walk_at "ev"
  · rw [decide_eq_false hbig]
    walk_at "ev"
def isN : Tok → Bool
  | .num _ => true
  | _ => false
theorem st1_ok {es : List Int} (he : 0 < es.length) (hel : es.length ≤ 1000) {ts o : List Tok} (p : Pr ts 602 big) (po : Pr o 602 big) (c : Int) (x0 x1 x3 : Sl) :
    Wp (st1 [x0, x1, .ow (.lst [.int c]), x3, .pl (tsd ts), .pl (.lst (es.map .int)), .pl (tsd o), .un, .un, .un, .un, .un, .un, .un, .un, .un, .un]) (RtQ false (fun e => e = .bl true) fun _ => False) := by
  have hlen : (ts.map Tok.d).length = ts.length := List.length_map _
  have hl := p.l
  have h0 := p.hd
  have hlw : ∀ t : Tok, F__law_whole [t.d] = .ok (.bl (isN t)) none := fun t => by rw [lwhole_ok]; cases t <;> rfl
  let f : Nat → Bool := fun k => (ts[k]?.map isN).getD false
  have hlc : mLc [11] (mRng1 (mCons (mCall1 dLen (mCons (mRd 4) mNil)) mNil)) (mtN 11) (mB (mCall 1 F__law_whole [] (mCons (m2 dIx (mRd 4) (mRd 11)) mNil))) (mRd 11) [x0, x1, .ow (.lst [.int c]), x3, .pl (tsd ts), .pl (.lst (es.map .int)), .pl (tsd o), .ow (.lst ([ts, o].map tsd)), .un, .un, .un, .un, .un, .un, .un, .un, .un] = .ok (.lst (iN ((List.range ts.length).filter f))) [x0, x1, .ow (.lst [.int c]), x3, .pl (tsd ts), .pl (.lst (es.map .int)), .pl (tsd o), .ow (.lst ([ts, o].map tsd)), .un, .un, .un, .un, .un, .un, .un, .un, .un] := by
    have := lc_of (own := [11]) (mi := mRng1 (mCons (mCall1 dLen (mCons (mRd 4) mNil)) mNil)) (t := mtN 11) (mc := mB (mCall 1 F__law_whole [] (mCons (m2 dIx (mRd 4) (mRd 11)) mNil))) (me := mRd 11) (s := [x0, x1, .ow (.lst [.int c]), x3, .pl (tsd ts), .pl (.lst (es.map .int)), .pl (tsd o), .ow (.lst ([ts, o].map tsd)), .un, .un, .un, .un, .un, .un, .un, .un, .un]) (List.range ts.length) (fun k => D.int (k : Int)) (fun k => D.int (k : Int)) f (by
        have : (List.range ts.length).map (fun k : Nat => D.int (k : Int)) = rngs 0 ts.length := by simp [rngs]
        rw [this]
        clear p po
        walk_at "ev") rfl (by simp; omega) (fun k hk => by
      have hk := List.mem_range.mp hk
      obtain ⟨t, ht, _⟩ := dr hk
      have e0 : Option.map Tok.d ts[k]? = some t.d := by rw [ht]; rfl
      have hf : f k = isN t := by simp only [f, ht]; rfl
      refine ⟨[x0, x1, .ow (.lst [.int c]), x3, .pl (tsd ts), .pl (.lst (es.map .int)), .pl (tsd o), .ow (.lst ([ts, o].map tsd)), .un, .un, .un, .pl (.int (k : Int)), .un, .un, .un, .un, .un], rfl, ?_, fun _ => rfl, rfl⟩
      rw [hf]
      have hw := hlw t
      clear p po ht hlw hf
      generalize isN t = bb at *
      walk_at "ev")
    rw [this]
  have hI : ∀ a ∈ (List.range ts.length).filter f, ∃ m, ts[a]? = some (.num m) := fun a ha => by
    obtain ⟨h1, h2⟩ := List.mem_filter.mp ha
    obtain ⟨t, ht, _⟩ := dr (List.mem_range.mp h1)
    simp only [f, ht, Option.map_some, Option.getD_some] at h2
    cases t with
    | num m => exact ⟨m, ht⟩
    | _ => cases h2
  have hIl : ((List.range ts.length).filter f).length ≤ 602 := Nat.le_trans (List.length_filter_le _ _) (by simp; omega)
  have hw := walked_ok p.r p.h (by omega)
  have L1 := fun (Q : O → Prop) (k : MS) => loop1_ok (Q := Q) (k := k) he hel p hI hIl (PS := [ts, o]) (fun x hx => by rcases List.mem_cons.mp hx with rfl | hx; exact p; simp at hx; subst hx; exact po) (by simp) c x0 x1 x3 (.pl (tsd o)) .un .un .un .un .un
  have L3 := fun (Q : O → Prop) (k : MS) => fun PS a b => loop3_ok (Q := Q) (k := k) p (PS := PS) a b x0 x1
  have L2 := st2_ok he hel p po
  generalize (List.range ts.length).filter f = II at *
  have hmm : [ts, o].map tsd = [tsd ts, tsd o] := rfl
  unfold st1
  clear p po hI hIl hlw
  have hfz : fz (wkD ts) = wkD ts := rfl
  generalize wkD ts = wd at *
  generalize [ts, o].map tsd = MM at *
  subst hmm
  clear_value f
  walk_at "ev"
  refine L1 _ _ fun PS c y10 y11 a1 a2 q10 q11 => ?_
  clear L1
  walk_at "ev"
  refine L3 _ _ PS a1 a2 _ _ _ _ _ _ _ _ _ _ _ fun y12 y13 q12 q13 => ?_
  exact L2 _ _ _ _ _ _ _ _ _ _ q10 q11
theorem law_true : ∀ ns : List Int, ns.length ≤ 63 → F_law [.fl (ns.map .int)] = .ok (.bl true) none := fun ns _ => Cmp.eq <| cmp_of <| by
  rw [law_eq]
  obtain ⟨ds, r1, hdl⟩ := row_ok ns 0 6 (by decide) (by decide)
  obtain ⟨es, r2, hel⟩ := row_ok ns 6 4 (by decide) (by decide)
  have hd : 0 < ds.length := by omega
  have he : 0 < es.length := by omega
  have hl : ds.length ≤ 1000 := by omega
  have hel : es.length ≤ 1000 := by omega
  have r1 : F__law_row [.fl (ns.map .int), .int 0, .int 6] = .ok (.lst (ds.map .int)) none := r1
  have r2 : F__law_row [.fl (ns.map .int), .int 6, .int 4] = .ok (.lst (es.map .int)) none := r2
  obtain ⟨n0, ln0, pn0⟩ := pickE hd hl 0 (many := 8) (by decide) (by decide)
  have pn0 : F__law_pick [.lst (ds.map .int), .lst [.int 0], .int 8] = .ok (.int (n0 : Int)) (some (.lst [.int 1])) := pn0
  obtain ⟨n1, ln1, pn1⟩ := pickE hd hl 1 (many := 40) (by decide) (by decide)
  have pn1 : F__law_pick [.lst (ds.map .int), .lst [.int 1], .int 40] = .ok (.int (n1 : Int)) (some (.lst [.int 2])) := pn1
  obtain ⟨n2, ln2, pn2⟩ := pickE hd hl 2 (many := 50) (by decide) (by decide)
  have pn2 : F__law_pick [.lst (ds.map .int), .lst [.int 2], .int 50] = .ok (.int (n2 : Int)) (some (.lst [.int 3])) := pn2
  obtain ⟨n3, ln3, pn3⟩ := pickE hd hl 3 (many := 300) (by decide) (by decide)
  have pn3 : F__law_pick [.lst (ds.map .int), .lst [.int 3], .int 300] = .ok (.int (n3 : Int)) (some (.lst [.int 4])) := pn3
  obtain ⟨n4, ln4, pn4⟩ := pickE hd hl 4 (many := 12) (by decide) (by decide)
  have pn4 : F__law_pick [.lst (ds.map .int), .lst [.int 4], .int 12] = .ok (.int (n4 : Int)) (some (.lst [.int 5])) := pn4
  obtain ⟨n5, ln5, pn5⟩ := pickE hd hl 5 (many := 3) (by decide) (by decide)
  have pn5 : F__law_pick [.lst (ds.map .int), .lst [.int 5], .int 3] = .ok (.int (n5 : Int)) (some (.lst [.int 6])) := pn5
  obtain ⟨i4, hi4, ei4⟩ : ∃ m : Nat, m ≤ 3 ∧ [D.int 0, D.int 1, D.int 1, D.int 2, D.int 1, D.int 2, D.int 1, D.int 2, D.int 1, D.int 2, D.int 1, D.int 3][n4]? = some (.int (m : Int)) := by
    match n4, ln4 with
    | 0, _ => exact ⟨0, by decide, rfl⟩
    | 1, _ => exact ⟨1, by decide, rfl⟩
    | 2, _ => exact ⟨1, by decide, rfl⟩
    | 3, _ => exact ⟨2, by decide, rfl⟩
    | 4, _ => exact ⟨1, by decide, rfl⟩
    | 5, _ => exact ⟨2, by decide, rfl⟩
    | 6, _ => exact ⟨1, by decide, rfl⟩
    | 7, _ => exact ⟨2, by decide, rfl⟩
    | 8, _ => exact ⟨1, by decide, rfl⟩
    | 9, _ => exact ⟨2, by decide, rfl⟩
    | 10, _ => exact ⟨1, by decide, rfl⟩
    | 11, _ => exact ⟨3, by decide, rfl⟩
  obtain ⟨size, hs1, hs2, es4⟩ : ∃ s : Nat, 1 ≤ s ∧ s ≤ 600 ∧ [D.int (1 + (n0 : Int)), D.int (2 + (n1 : Int)), D.int (10 + (n2 : Int)), D.int (600 - (n3 : Int))][i4]? = some (.int (s : Int)) := by
    match i4, hi4 with
    | 0, _ => exact ⟨1 + n0, by omega, by omega, by simp⟩
    | 1, _ => exact ⟨2 + n1, by omega, by omega, by simp⟩
    | 2, _ => exact ⟨10 + n2, by omega, by omega, by simp⟩
    | 3, _ => exact ⟨600 - n3, by omega, by omega, by simp; omega⟩
  obtain ⟨ts, c1, a1, a2, a3, a4, a5⟩ := any_ok hd hl 6 (size := size) hs1 (by omega) (decide (0 < (n5 : Int)))
  obtain ⟨m8, lm8, pm8⟩ := pickE he hel c1 (many := 20) (by decide) (by decide)
  have pm8 : F__law_pick [.lst (es.map .int), .lst [.int c1], .int 20] = .ok (.int (m8 : Int)) (some (.lst [.int (c1 + 1)])) := pm8
  obtain ⟨m9, lm9, pm9⟩ := pickE he hel (c1 + 1) (many := 3) (by decide) (by decide)
  have pm9 : F__law_pick [.lst (es.map .int), .lst [.int (c1 + 1)], .int 3] = .ok (.int (m9 : Int)) (some (.lst [.int (c1 + 1 + 1)])) := pm9
  obtain ⟨o, c2, b1, b2, b3, b4, b5⟩ := any_ok he hel (c1 + 1 + 1) (size := 1 + m8) (by omega) (by omega) (decide ((m9 : Int) = 0))
  have b1 : F__law_any [.lst (es.map .int), .lst [.int (c1 + 1 + 1)], .int (1 + (m8 : Int)), .bl (decide ((m9 : Int) = 0))] = .ok (tsd o) (some (.lst [.int c2])) := by
    rw [show (1 + (m8 : Int)) = ((1 + m8 : Nat) : Int) by omega]; exact b1
  have p : Pr ts 602 big := ⟨a2, a4, by omega, fun m hm => Nat.le_trans (a5 m hm) (by decide)⟩
  have po : Pr o 602 big := ⟨b2, b4, by omega, fun m hm => Nat.le_trans (b5 m hm) (by decide)⟩
  have fin := st1_ok he hel p po
  clear p po a2 a4 a5 b2 b4 b5
  obtain ⟨b5, hb5⟩ : ∃ b, decide (0 < (n5 : Int)) = b := ⟨_, rfl⟩
  rw [hb5] at a1
  obtain ⟨b9, hb9⟩ : ∃ b, decide ((m9 : Int) = 0) = b := ⟨_, rfl⟩
  rw [hb9] at b1
  generalize tsd ts = td at *
  generalize tsd o = od at *
  walk_at "ev"
end VM.K15

set_option Elab.async false
set_option linter.all false
set_option autoImplicit false
set_option maxRecDepth 100000
set_option maxHeartbeats 400000
namespace VM.K15
open PySem PySem.Spec PyProof.Rows L2 VM
theorem all_mk {P : Program} {w : World} {K : PySem.W.Frag} {h : Heap} {mg : Str → Option Value} {fa : Addr} (X : K.In h) (G : h.Ns mainGlobals mg) (hfa : mg "law" = some (.ref fa))
    {f0 : Addr} {od0 an0 : Option Addr} {sl0 : Array (Option Value)} {oc0 kV0 dc0 pm0 cd0 ct0 : Value}
    {f1 : Addr} {od1 an1 : Option Addr} {sl1 : Array (Option Value)} {oc1 kV1 dc1 pm1 cd1 ct1 : Value}
    {f2 : Addr} {od2 an2 : Option Addr} {sl2 : Array (Option Value)} {oc2 kV2 dc2 pm2 cd2 ct2 : Value}
    {f3 : Addr} {od3 an3 : Option Addr} {sl3 : Array (Option Value)} {oc3 kV3 dc3 pm3 cd3 ct3 : Value}
    {f4 : Addr} {od4 an4 : Option Addr} {sl4 : Array (Option Value)} {oc4 kV4 dc4 pm4 cd4 ct4 : Value}
    {f5 : Addr} {od5 an5 : Option Addr} {sl5 : Array (Option Value)} {oc5 kV5 dc5 pm5 cd5 ct5 : Value}
    {f6 : Addr} {od6 an6 : Option Addr} {sl6 : Array (Option Value)} {oc6 kV6 dc6 pm6 cd6 ct6 : Value}
    {f7 : Addr} {od7 an7 : Option Addr} {sl7 : Array (Option Value)} {oc7 kV7 dc7 pm7 cd7 ct7 : Value}
    {f8 : Addr} {od8 an8 : Option Addr} {sl8 : Array (Option Value)} {oc8 kV8 dc8 pm8 cd8 ct8 : Value}
    {f9 : Addr} {od9 an9 : Option Addr} {sl9 : Array (Option Value)} {oc9 kV9 dc9 pm9 cd9 ct9 : Value}
    {f10 : Addr} {od10 an10 : Option Addr} {sl10 : Array (Option Value)} {oc10 kV10 dc10 pm10 cd10 ct10 : Value}
    {f11 : Addr} {od11 an11 : Option Addr} {sl11 : Array (Option Value)} {oc11 kV11 dc11 pm11 cd11 ct11 : Value}
    {f12 : Addr} {od12 an12 : Option Addr} {sl12 : Array (Option Value)} {oc12 kV12 dc12 pm12 cd12 ct12 : Value}
    {f13 : Addr} {od13 an13 : Option Addr} {sl13 : Array (Option Value)} {oc13 kV13 dc13 pm13 cd13 ct13 : Value}
    {f14 : Addr} {od14 an14 : Option Addr} {sl14 : Array (Option Value)} {oc14 kV14 dc14 pm14 cd14 ct14 : Value}
    {f15 : Addr} {od15 an15 : Option Addr} {sl15 : Array (Option Value)} {oc15 kV15 dc15 pm15 cd15 ct15 : Value}
    {f16 : Addr} {od16 an16 : Option Addr} {sl16 : Array (Option Value)} {oc16 kV16 dc16 pm16 cd16 ct16 : Value}
    {f17 : Addr} {od17 an17 : Option Addr} {sl17 : Array (Option Value)} {oc17 kV17 dc17 pm17 cd17 ct17 : Value}
    {f18 : Addr} {od18 an18 : Option Addr} {sl18 : Array (Option Value)} {oc18 kV18 dc18 pm18 cd18 ct18 : Value}
    {f19 : Addr} {od19 an19 : Option Addr} {sl19 : Array (Option Value)} {oc19 kV19 dc19 pm19 cd19 ct19 : Value}
    {f20 : Addr} {od20 an20 : Option Addr} {sl20 : Array (Option Value)} {oc20 kV20 dc20 pm20 cd20 ct20 : Value}
    {f21 : Addr} {od21 an21 : Option Addr} {sl21 : Array (Option Value)} {oc21 kV21 dc21 pm21 cd21 ct21 : Value}
    {f22 : Addr} {od22 an22 : Option Addr} {sl22 : Array (Option Value)} {oc22 kV22 dc22 pm22 cd22 ct22 : Value}
    {f23 : Addr} {od23 an23 : Option Addr} {sl23 : Array (Option Value)} {oc23 kV23 dc23 pm23 cd23 ct23 : Value}
    (a0 : PySem.W.nsIn K mainGlobals "is_whole" = some (some (.ref f0))) (l0 : K.lookup f0 = some ⟨oc0, od0, .func (PySem.W.fnOf "is_whole" "is_whole" (defArgs s_is_whole) (defBody s_is_whole) (defScope s_is_whole) .none kV0 dc0 pm0 an0 cd0 ct0), sl0⟩) (c0 : PySem.W.codeIn K cd0 "is_whole" = true) (k0 : PySem.W.keepIn K (.ref f0) = true)
    (a1 : PySem.W.nsIn K mainGlobals "arity_of" = some (some (.ref f1))) (l1 : K.lookup f1 = some ⟨oc1, od1, .func (PySem.W.fnOf "arity_of" "arity_of" (defArgs s_arity_of) (defBody s_arity_of) (defScope s_arity_of) .none kV1 dc1 pm1 an1 cd1 ct1), sl1⟩) (c1 : PySem.W.codeIn K cd1 "arity_of" = true) (k1 : PySem.W.keepIn K (.ref f1) = true)
    (a2 : PySem.W.nsIn K mainGlobals "program_ends" = some (some (.ref f2))) (l2 : K.lookup f2 = some ⟨oc2, od2, .func (PySem.W.fnOf "program_ends" "program_ends" (defArgs s_program_ends) (defBody s_program_ends) (defScope s_program_ends) .none kV2 dc2 pm2 an2 cd2 ct2), sl2⟩) (c2 : PySem.W.codeIn K cd2 "program_ends" = true) (k2 : PySem.W.keepIn K (.ref f2) = true)
    (a3 : PySem.W.nsIn K mainGlobals "starts_of" = some (some (.ref f3))) (l3 : K.lookup f3 = some ⟨oc3, od3, .func (PySem.W.fnOf "starts_of" "starts_of" (defArgs s_starts_of) (defBody s_starts_of) (defScope s_starts_of) .none kV3 dc3 pm3 an3 cd3 ct3), sl3⟩) (c3 : PySem.W.codeIn K cd3 "starts_of" = true) (k3 : PySem.W.keepIn K (.ref f3) = true)
    (a4 : PySem.W.nsIn K mainGlobals "check_index" = some (some (.ref f4))) (l4 : K.lookup f4 = some ⟨oc4, od4, .func (PySem.W.fnOf "check_index" "check_index" (defArgs s_check_index) (defBody s_check_index) (defScope s_check_index) .none kV4 dc4 pm4 an4 cd4 ct4), sl4⟩) (c4 : PySem.W.codeIn K cd4 "check_index" = true) (k4 : PySem.W.keepIn K (.ref f4) = true)
    (a5 : PySem.W.nsIn K mainGlobals "children_of" = some (some (.ref f5))) (l5 : K.lookup f5 = some ⟨oc5, od5, .func (PySem.W.fnOf "children_of" "children_of" (defArgs s_children_of) (defBody s_children_of) (defScope s_children_of) .none kV5 dc5 pm5 an5 cd5 ct5), sl5⟩) (c5 : PySem.W.codeIn K cd5 "children_of" = true) (k5 : PySem.W.keepIn K (.ref f5) = true)
    (a6 : PySem.W.nsIn K mainGlobals "bound_in" = some (some (.ref f6))) (l6 : K.lookup f6 = some ⟨oc6, od6, .func (PySem.W.fnOf "bound_in" "bound_in" (defArgs s_bound_in) (defBody s_bound_in) (defScope s_bound_in) .none kV6 dc6 pm6 an6 cd6 ct6), sl6⟩) (c6 : PySem.W.codeIn K cd6 "bound_in" = true) (k6 : PySem.W.keepIn K (.ref f6) = true)
    (a7 : PySem.W.nsIn K mainGlobals "levels_of" = some (some (.ref f7))) (l7 : K.lookup f7 = some ⟨oc7, od7, .func (PySem.W.fnOf "levels_of" "levels_of" (defArgs s_levels_of) (defBody s_levels_of) (defScope s_levels_of) .none kV7 dc7 pm7 an7 cd7 ct7), sl7⟩) (c7 : PySem.W.codeIn K cd7 "levels_of" = true) (k7 : PySem.W.keepIn K (.ref f7) = true)
    (a8 : PySem.W.nsIn K mainGlobals "part_of" = some (some (.ref f8))) (l8 : K.lookup f8 = some ⟨oc8, od8, .func (PySem.W.fnOf "part_of" "part_of" (defArgs s_part_of) (defBody s_part_of) (defScope s_part_of) .none kV8 dc8 pm8 an8 cd8 ct8), sl8⟩) (c8 : PySem.W.codeIn K cd8 "part_of" = true) (k8 : PySem.W.keepIn K (.ref f8) = true)
    (a9 : PySem.W.nsIn K mainGlobals "put_part" = some (some (.ref f9))) (l9 : K.lookup f9 = some ⟨oc9, od9, .func (PySem.W.fnOf "put_part" "put_part" (defArgs s_put_part) (defBody s_put_part) (defScope s_put_part) .none kV9 dc9 pm9 an9 cd9 ct9), sl9⟩) (c9 : PySem.W.codeIn K cd9 "put_part" = true) (k9 : PySem.W.keepIn K (.ref f9) = true)
    (a10 : PySem.W.nsIn K mainGlobals "is_closed" = some (some (.ref f10))) (l10 : K.lookup f10 = some ⟨oc10, od10, .func (PySem.W.fnOf "is_closed" "is_closed" (defArgs s_is_closed) (defBody s_is_closed) (defScope s_is_closed) .none kV10 dc10 pm10 an10 cd10 ct10), sl10⟩) (c10 : PySem.W.codeIn K cd10 "is_closed" = true) (k10 : PySem.W.keepIn K (.ref f10) = true)
    (a11 : PySem.W.nsIn K mainGlobals "_law_whole" = some (some (.ref f11))) (l11 : K.lookup f11 = some ⟨oc11, od11, .func (PySem.W.fnOf "_law_whole" "_law_whole" (defArgs s__law_whole) (defBody s__law_whole) (defScope s__law_whole) .none kV11 dc11 pm11 an11 cd11 ct11), sl11⟩) (c11 : PySem.W.codeIn K cd11 "_law_whole" = true) (k11 : PySem.W.keepIn K (.ref f11) = true)
    (a12 : PySem.W.nsIn K mainGlobals "_law_cell" = some (some (.ref f12))) (l12 : K.lookup f12 = some ⟨oc12, od12, .func (PySem.W.fnOf "_law_cell" "_law_cell" (defArgs s__law_cell) (defBody s__law_cell) (defScope s__law_cell) .none kV12 dc12 pm12 an12 cd12 ct12), sl12⟩) (c12 : PySem.W.codeIn K cd12 "_law_cell" = true) (k12 : PySem.W.keepIn K (.ref f12) = true)
    (a13 : PySem.W.nsIn K mainGlobals "_law_row" = some (some (.ref f13))) (l13 : K.lookup f13 = some ⟨oc13, od13, .func (PySem.W.fnOf "_law_row" "_law_row" (defArgs s__law_row) (defBody s__law_row) (defScope s__law_row) .none kV13 dc13 pm13 an13 cd13 ct13), sl13⟩) (c13 : PySem.W.codeIn K cd13 "_law_row" = true) (k13 : PySem.W.keepIn K (.ref f13) = true)
    (a14 : PySem.W.nsIn K mainGlobals "_law_pick" = some (some (.ref f14))) (l14 : K.lookup f14 = some ⟨oc14, od14, .func (PySem.W.fnOf "_law_pick" "_law_pick" (defArgs s__law_pick) (defBody s__law_pick) (defScope s__law_pick) .none kV14 dc14 pm14 an14 cd14 ct14), sl14⟩) (c14 : PySem.W.codeIn K cd14 "_law_pick" = true) (k14 : PySem.W.keepIn K (.ref f14) = true)
    (a15 : PySem.W.nsIn K mainGlobals "_law_arity" = some (some (.ref f15))) (l15 : K.lookup f15 = some ⟨oc15, od15, .func (PySem.W.fnOf "_law_arity" "_law_arity" (defArgs s__law_arity) (defBody s__law_arity) (defScope s__law_arity) .none kV15 dc15 pm15 an15 cd15 ct15), sl15⟩) (c15 : PySem.W.codeIn K cd15 "_law_arity" = true) (k15 : PySem.W.keepIn K (.ref f15) = true)
    (a16 : PySem.W.nsIn K mainGlobals "_law_binds" = some (some (.ref f16))) (l16 : K.lookup f16 = some ⟨oc16, od16, .func (PySem.W.fnOf "_law_binds" "_law_binds" (defArgs s__law_binds) (defBody s__law_binds) (defScope s__law_binds) .none kV16 dc16 pm16 an16 cd16 ct16), sl16⟩) (c16 : PySem.W.codeIn K cd16 "_law_binds" = true) (k16 : PySem.W.keepIn K (.ref f16) = true)
    (a17 : PySem.W.nsIn K mainGlobals "_law_token" = some (some (.ref f17))) (l17 : K.lookup f17 = some ⟨oc17, od17, .func (PySem.W.fnOf "_law_token" "_law_token" (defArgs s__law_token) (defBody s__law_token) (defScope s__law_token) .none kV17 dc17 pm17 an17 cd17 ct17), sl17⟩) (c17 : PySem.W.codeIn K cd17 "_law_token" = true) (k17 : PySem.W.keepIn K (.ref f17) = true)
    (a18 : PySem.W.nsIn K mainGlobals "_law_any" = some (some (.ref f18))) (l18 : K.lookup f18 = some ⟨oc18, od18, .func (PySem.W.fnOf "_law_any" "_law_any" (defArgs s__law_any) (defBody s__law_any) (defScope s__law_any) .none kV18 dc18 pm18 an18 cd18 ct18), sl18⟩) (c18 : PySem.W.codeIn K cd18 "_law_any" = true) (k18 : PySem.W.keepIn K (.ref f18) = true)
    (a19 : PySem.W.nsIn K mainGlobals "_law_walked" = some (some (.ref f19))) (l19 : K.lookup f19 = some ⟨oc19, od19, .func (PySem.W.fnOf "_law_walked" "_law_walked" (defArgs s__law_walked) (defBody s__law_walked) (defScope s__law_walked) .none kV19 dc19 pm19 an19 cd19 ct19), sl19⟩) (c19 : PySem.W.codeIn K cd19 "_law_walked" = true) (k19 : PySem.W.keepIn K (.ref f19) = true)
    (a20 : PySem.W.nsIn K mainGlobals "_law_is_shut" = some (some (.ref f20))) (l20 : K.lookup f20 = some ⟨oc20, od20, .func (PySem.W.fnOf "_law_is_shut" "_law_is_shut" (defArgs s__law_is_shut) (defBody s__law_is_shut) (defScope s__law_is_shut) .none kV20 dc20 pm20 an20 cd20 ct20), sl20⟩) (c20 : PySem.W.codeIn K cd20 "_law_is_shut" = true) (k20 : PySem.W.keepIn K (.ref f20) = true)
    (a21 : PySem.W.nsIn K mainGlobals "_law_refused" = some (some (.ref f21))) (l21 : K.lookup f21 = some ⟨oc21, od21, .func (PySem.W.fnOf "_law_refused" "_law_refused" (defArgs s__law_refused) (defBody s__law_refused) (defScope s__law_refused) .none kV21 dc21 pm21 an21 cd21 ct21), sl21⟩) (c21 : PySem.W.codeIn K cd21 "_law_refused" = true) (k21 : PySem.W.keepIn K (.ref f21) = true)
    (a22 : PySem.W.nsIn K mainGlobals "_law_place_right" = some (some (.ref f22))) (l22 : K.lookup f22 = some ⟨oc22, od22, .func (PySem.W.fnOf "_law_place_right" "_law_place_right" (defArgs s__law_place_right) (defBody s__law_place_right) (defScope s__law_place_right) .none kV22 dc22 pm22 an22 cd22 ct22), sl22⟩) (c22 : PySem.W.codeIn K cd22 "_law_place_right" = true) (k22 : PySem.W.keepIn K (.ref f22) = true)
    (a23 : PySem.W.nsIn K mainGlobals "law" = some (some (.ref f23))) (l23 : K.lookup f23 = some ⟨oc23, od23, .func (PySem.W.fnOf "law" "law" (defArgs s_law) (defBody s_law) (defScope s_law) .none kV23 dc23 pm23 an23 cd23 ct23), sl23⟩) (c23 : PySem.W.codeIn K cd23 "law" = true) (k23 : PySem.W.keepIn K (.ref f23) = true)
    (n_bool : PySem.W.nsIn K mainGlobals "bool" = some none)
    (n_enumerate : PySem.W.nsIn K mainGlobals "enumerate" = some none)
    (n_int : PySem.W.nsIn K mainGlobals "int" = some none)
    (n_isinstance : PySem.W.nsIn K mainGlobals "isinstance" = some none)
    (n_len : PySem.W.nsIn K mainGlobals "len" = some none)
    (n_max : PySem.W.nsIn K mainGlobals "max" = some none)
    (n_min : PySem.W.nsIn K mainGlobals "min" = some none)
    (n_range : PySem.W.nsIn K mainGlobals "range" = some none)
    (n_repr : PySem.W.nsIn K mainGlobals "repr" = some none)
    (n_tuple : PySem.W.nsIn K mainGlobals "tuple" = some none)
    {C_BadPlace i_BadPlace : Addr} {iod_BadPlace ian_BadPlace : Option Addr} {isl_BadPlace : Array (Option Value)} {ioc_BadPlace ikV_BadPlace idc_BadPlace ipm_BadPlace icd_BadPlace ict_BadPlace : Value}
    (eA_BadPlace : PySem.W.nsIn K mainGlobals "BadPlace" = some (some (.ref C_BadPlace))) (eF_BadPlace : PySem.W.findIn K (.ref C_BadPlace) "__init__" = some (some (.ref i_BadPlace))) (eT_BadPlace : PySem.W.typeIn K (.ref i_BadPlace) = some (.type "function")) (eL_BadPlace : K.lookup i_BadPlace = some ⟨ioc_BadPlace, iod_BadPlace, .func (PySem.W.fnOf "__init__" "BadPlace.__init__" (defArgs sI_BadPlace) (defBody sI_BadPlace) (defScope sI_BadPlace) .none ikV_BadPlace idc_BadPlace ipm_BadPlace ian_BadPlace icd_BadPlace ict_BadPlace), isl_BadPlace⟩) (eC_BadPlace : PySem.W.codeIn K icd_BadPlace "BadPlace.__init__" = true) (eK_BadPlace : PySem.W.keepIn K (.ref i_BadPlace) = true)
    (eB : errB K errTop errNs errFs = true) :
    ∃ fd : FuncData, (∀ (s : Shared) (v : Value), BindsTo s fd ⟨[v], []⟩ [("script", v)]) ∧ ∀ base : Heap, K.In base → base.Ns mainGlobals mg → FnG P w K mg base 7 fa fd ["script"] (spLaw K) := by
  have e := hfa.symm.trans (PySem.W.mg_of X G a23)
  cases e
  let T : Txt K mg := {
    i_BadPlace := i_BadPlace, di_BadPlace := _, I_BadPlace := fun_mk (st := sI_BadPlace) eL_BadPlace eC_BadPlace eK_BadPlace, iC_BadPlace := by rw [adIn_of eA_BadPlace]; exact eF_BadPlace, tI_BadPlace := eT_BadPlace, bI_BadPlace := (fun_mk (st := sI_BadPlace) eL_BadPlace eC_BadPlace eK_BadPlace).binds (ps := ["self", "place"]) fun _ _ _ _ _ _ us hl => match us, hl with | [_, _], _ => rfl,
    err := errB_ok X G eB,
    a_is_whole := f0, d_is_whole := _, F_is_whole := fun_mk (st := s_is_whole) l0 c0 k0, g_is_whole := PySem.W.mg_of X G a0, b_is_whole := (fun_mk (st := s_is_whole) l0 c0 k0).binds (ps := ["value"]) fun _ _ _ _ _ _ us hl => match us, hl with | [_], _ => rfl,
    a_arity_of := f1, d_arity_of := _, F_arity_of := fun_mk (st := s_arity_of) l1 c1 k1, g_arity_of := PySem.W.mg_of X G a1, b_arity_of := (fun_mk (st := s_arity_of) l1 c1 k1).binds (ps := ["token"]) fun _ _ _ _ _ _ us hl => match us, hl with | [_], _ => rfl,
    a_program_ends := f2, d_program_ends := _, F_program_ends := fun_mk (st := s_program_ends) l2 c2 k2, g_program_ends := PySem.W.mg_of X G a2, b_program_ends := (fun_mk (st := s_program_ends) l2 c2 k2).binds (ps := ["program"]) fun _ _ _ _ _ _ us hl => match us, hl with | [_], _ => rfl,
    a_starts_of := f3, d_starts_of := _, F_starts_of := fun_mk (st := s_starts_of) l3 c3 k3, g_starts_of := PySem.W.mg_of X G a3, b_starts_of := (fun_mk (st := s_starts_of) l3 c3 k3).binds (ps := ["program", "ends", "place"]) fun _ _ _ _ _ _ us hl => match us, hl with | [_, _, _], _ => rfl,
    a_check_index := f4, d_check_index := _, F_check_index := fun_mk (st := s_check_index) l4 c4 k4, g_check_index := PySem.W.mg_of X G a4, b_check_index := (fun_mk (st := s_check_index) l4 c4 k4).binds (ps := ["program", "place"]) fun _ _ _ _ _ _ us hl => match us, hl with | [_, _], _ => rfl,
    a_children_of := f5, d_children_of := _, F_children_of := fun_mk (st := s_children_of) l5 c5 k5, g_children_of := PySem.W.mg_of X G a5, b_children_of := (fun_mk (st := s_children_of) l5 c5 k5).binds (ps := ["program", "place"]) fun _ _ _ _ _ _ us hl => match us, hl with | [_, _], _ => rfl,
    a_bound_in := f6, d_bound_in := _, F_bound_in := fun_mk (st := s_bound_in) l6 c6 k6, g_bound_in := PySem.W.mg_of X G a6, b_bound_in := (fun_mk (st := s_bound_in) l6 c6 k6).binds (ps := ["token", "number"]) fun _ _ _ _ _ _ us hl => match us, hl with | [_, _], _ => rfl,
    a_levels_of := f7, d_levels_of := _, F_levels_of := fun_mk (st := s_levels_of) l7 c7 k7, g_levels_of := PySem.W.mg_of X G a7, b_levels_of := (fun_mk (st := s_levels_of) l7 c7 k7).binds (ps := ["program"]) fun _ _ _ _ _ _ us hl => match us, hl with | [_], _ => rfl,
    a_part_of := f8, d_part_of := _, F_part_of := fun_mk (st := s_part_of) l8 c8 k8, g_part_of := PySem.W.mg_of X G a8, b_part_of := (fun_mk (st := s_part_of) l8 c8 k8).binds (ps := ["program", "place"]) fun _ _ _ _ _ _ us hl => match us, hl with | [_, _], _ => rfl,
    a_put_part := f9, d_put_part := _, F_put_part := fun_mk (st := s_put_part) l9 c9 k9, g_put_part := PySem.W.mg_of X G a9, b_put_part := (fun_mk (st := s_put_part) l9 c9 k9).binds (ps := ["program", "place", "new"]) fun _ _ _ _ _ _ us hl => match us, hl with | [_, _, _], _ => rfl,
    a_is_closed := f10, d_is_closed := _, F_is_closed := fun_mk (st := s_is_closed) l10 c10 k10, g_is_closed := PySem.W.mg_of X G a10, b_is_closed := (fun_mk (st := s_is_closed) l10 c10 k10).binds (ps := ["program"]) fun _ _ _ _ _ _ us hl => match us, hl with | [_], _ => rfl,
    a__law_whole := f11, d__law_whole := _, F__law_whole := fun_mk (st := s__law_whole) l11 c11 k11, g__law_whole := PySem.W.mg_of X G a11, b__law_whole := (fun_mk (st := s__law_whole) l11 c11 k11).binds (ps := ["value"]) fun _ _ _ _ _ _ us hl => match us, hl with | [_], _ => rfl,
    a__law_cell := f12, d__law_cell := _, F__law_cell := fun_mk (st := s__law_cell) l12 c12 k12, g__law_cell := PySem.W.mg_of X G a12, b__law_cell := (fun_mk (st := s__law_cell) l12 c12 k12).binds (ps := ["script", "k"]) fun _ _ _ _ _ _ us hl => match us, hl with | [_, _], _ => rfl,
    a__law_row := f13, d__law_row := _, F__law_row := fun_mk (st := s__law_row) l13 c13 k13, g__law_row := PySem.W.mg_of X G a13, b__law_row := (fun_mk (st := s__law_row) l13 c13 k13).binds (ps := ["script", "at", "many"]) fun _ _ _ _ _ _ us hl => match us, hl with | [_, _, _], _ => rfl,
    a__law_pick := f14, d__law_pick := _, F__law_pick := fun_mk (st := s__law_pick) l14 c14 k14, g__law_pick := PySem.W.mg_of X G a14, b__law_pick := (fun_mk (st := s__law_pick) l14 c14 k14).binds (ps := ["ds", "p", "many"]) fun _ _ _ _ _ _ us hl => match us, hl with | [_, _, _], _ => rfl,
    a__law_arity := f15, d__law_arity := _, F__law_arity := fun_mk (st := s__law_arity) l15 c15 k15, g__law_arity := PySem.W.mg_of X G a15, b__law_arity := (fun_mk (st := s__law_arity) l15 c15 k15).binds (ps := ["token"]) fun _ _ _ _ _ _ us hl => match us, hl with | [_], _ => rfl,
    a__law_binds := f16, d__law_binds := _, F__law_binds := fun_mk (st := s__law_binds) l16 c16 k16, g__law_binds := PySem.W.mg_of X G a16, b__law_binds := (fun_mk (st := s__law_binds) l16 c16 k16).binds (ps := ["token", "k"]) fun _ _ _ _ _ _ us hl => match us, hl with | [_, _], _ => rfl,
    a__law_token := f17, d__law_token := _, F__law_token := fun_mk (st := s__law_token) l17 c17 k17, g__law_token := PySem.W.mg_of X G a17, b__law_token := (fun_mk (st := s__law_token) l17 c17 k17).binds (ps := ["ds", "p", "level", "room", "closed", "last"]) fun _ _ _ _ _ _ us hl => match us, hl with | [_, _, _, _, _, _], _ => rfl,
    a__law_any := f18, d__law_any := _, F__law_any := fun_mk (st := s__law_any) l18 c18 k18, g__law_any := PySem.W.mg_of X G a18, b__law_any := (fun_mk (st := s__law_any) l18 c18 k18).binds (ps := ["ds", "p", "size", "closed"]) fun _ _ _ _ _ _ us hl => match us, hl with | [_, _, _, _], _ => rfl,
    a__law_walked := f19, d__law_walked := _, F__law_walked := fun_mk (st := s__law_walked) l19 c19 k19, g__law_walked := PySem.W.mg_of X G a19, b__law_walked := (fun_mk (st := s__law_walked) l19 c19 k19).binds (ps := ["paper"]) fun _ _ _ _ _ _ us hl => match us, hl with | [_], _ => rfl,
    a__law_is_shut := f20, d__law_is_shut := _, F__law_is_shut := fun_mk (st := s__law_is_shut) l20 c20 k20, g__law_is_shut := PySem.W.mg_of X G a20, b__law_is_shut := (fun_mk (st := s__law_is_shut) l20 c20 k20).binds (ps := ["paper", "walked", "at"]) fun _ _ _ _ _ _ us hl => match us, hl with | [_, _, _], _ => rfl,
    a__law_refused := f21, d__law_refused := _, F__law_refused := fun_mk (st := s__law_refused) l21 c21 k21, g__law_refused := PySem.W.mg_of X G a21, b__law_refused := (fun_mk (st := s__law_refused) l21 c21 k21).binds (ps := ["paper", "spot", "other", "turn"]) fun _ _ _ _ _ _ us hl => match us, hl with | [_, _, _, _], _ => rfl,
    a__law_place_right := f22, d__law_place_right := _, F__law_place_right := fun_mk (st := s__law_place_right) l22 c22 k22, g__law_place_right := PySem.W.mg_of X G a22, b__law_place_right := (fun_mk (st := s__law_place_right) l22 c22 k22).binds (ps := ["paper", "walked", "at"]) fun _ _ _ _ _ _ us hl => match us, hl with | [_, _, _], _ => rfl,
    a_law := fa, d_law := _, F_law := fun_mk (st := s_law) l23 c23 k23, g_law := PySem.W.mg_of X G a23, b_law := (fun_mk (st := s_law) l23 c23 k23).binds (ps := ["script"]) fun _ _ _ _ _ _ us hl => match us, hl with | [_], _ => rfl,
    n_bool := PySem.W.mg_none_of X G n_bool,
    n_enumerate := PySem.W.mg_none_of X G n_enumerate,
    n_int := PySem.W.mg_none_of X G n_int,
    n_isinstance := PySem.W.mg_none_of X G n_isinstance,
    n_len := PySem.W.mg_none_of X G n_len,
    n_max := PySem.W.mg_none_of X G n_max,
    n_min := PySem.W.mg_none_of X G n_min,
    n_range := PySem.W.mg_none_of X G n_range,
    n_repr := PySem.W.mg_none_of X G n_repr,
    n_tuple := PySem.W.mg_none_of X G n_tuple }
  exact ⟨T.d_law, fun s v => .of_eq rfl, fun base _ _ => law_of rfl (ok_law T) law_true⟩
end VM.K15
open PySem PySem.W PyProof.Rows
set_option maxHeartbeats 0 in
theorem PySem.Challenge.cw_ownleft_k15_places_and_levels_holds : PySem.Challenge.rw_ownleft_k15_places_and_levels.Holds := by
  w_on; o_law; k_head; (case hw => w_witness2)
  k_fill
  refine VM.walk_ofG (l := PySem.Challenge.rw_ownleft_k15_places_and_levels) (k := 7) (x := "script") rfl rfl ⟨rfl, by decide, by decide⟩ (fun w h Y => PySem.W.kIn_of Y) ?F
  case F =>
    intro w mg fa h KX G hmg
    refine' VM.K15.all_mk KX G hmg ?a0 ?l0 ?c0 ?k0 ?a1 ?l1 ?c1 ?k1 ?a2 ?l2 ?c2 ?k2 ?a3 ?l3 ?c3 ?k3 ?a4 ?l4 ?c4 ?k4 ?a5 ?l5 ?c5 ?k5 ?a6 ?l6 ?c6 ?k6 ?a7 ?l7 ?c7 ?k7 ?a8 ?l8 ?c8 ?k8 ?a9 ?l9 ?c9 ?k9 ?a10 ?l10 ?c10 ?k10 ?a11 ?l11 ?c11 ?k11 ?a12 ?l12 ?c12 ?k12 ?a13 ?l13 ?c13 ?k13 ?a14 ?l14 ?c14 ?k14 ?a15 ?l15 ?c15 ?k15 ?a16 ?l16 ?c16 ?k16 ?a17 ?l17 ?c17 ?k17 ?a18 ?l18 ?c18 ?k18 ?a19 ?l19 ?c19 ?k19 ?a20 ?l20 ?c20 ?k20 ?a21 ?l21 ?c21 ?k21 ?a22 ?l22 ?c22 ?k22 ?a23 ?l23 ?c23 ?k23 ?n_bool ?n_enumerate ?n_int ?n_isinstance ?n_len ?n_max ?n_min ?n_range ?n_repr ?n_tuple ?eA_BadPlace ?eF_BadPlace ?eT_BadPlace ?eL_BadPlace ?eC_BadPlace ?eK_BadPlace ?eB
    (case a0 => k_is); (case l0 => k_is); (case c0 => k_is); (case k0 => k_is); (case a1 => k_is); (case l1 => k_is); (case c1 => k_is); (case k1 => k_is); (case a2 => k_is); (case l2 => k_is); (case c2 => k_is); (case k2 => k_is); (case a3 => k_is); (case l3 => k_is); (case c3 => k_is); (case k3 => k_is); (case a4 => k_is); (case l4 => k_is); (case c4 => k_is); (case k4 => k_is); (case a5 => k_is); (case l5 => k_is); (case c5 => k_is); (case k5 => k_is); (case a6 => k_is); (case l6 => k_is); (case c6 => k_is); (case k6 => k_is); (case a7 => k_is); (case l7 => k_is); (case c7 => k_is); (case k7 => k_is); (case a8 => k_is); (case l8 => k_is); (case c8 => k_is); (case k8 => k_is); (case a9 => k_is); (case l9 => k_is); (case c9 => k_is); (case k9 => k_is); (case a10 => k_is); (case l10 => k_is); (case c10 => k_is); (case k10 => k_is); (case a11 => k_is); (case l11 => k_is); (case c11 => k_is); (case k11 => k_is); (case a12 => k_is); (case l12 => k_is); (case c12 => k_is); (case k12 => k_is); (case a13 => k_is); (case l13 => k_is); (case c13 => k_is); (case k13 => k_is); (case a14 => k_is); (case l14 => k_is); (case c14 => k_is); (case k14 => k_is); (case a15 => k_is); (case l15 => k_is); (case c15 => k_is); (case k15 => k_is); (case a16 => k_is); (case l16 => k_is); (case c16 => k_is); (case k16 => k_is); (case a17 => k_is); (case l17 => k_is); (case c17 => k_is); (case k17 => k_is); (case a18 => k_is); (case l18 => k_is); (case c18 => k_is); (case k18 => k_is); (case a19 => k_is); (case l19 => k_is); (case c19 => k_is); (case k19 => k_is); (case a20 => k_is); (case l20 => k_is); (case c20 => k_is); (case k20 => k_is); (case a21 => k_is); (case l21 => k_is); (case c21 => k_is); (case k21 => k_is); (case a22 => k_is); (case l22 => k_is); (case c22 => k_is); (case k22 => k_is); (case a23 => k_is); (case l23 => k_is); (case c23 => k_is); (case k23 => k_is); (case n_bool => k_is); (case n_enumerate => k_is); (case n_int => k_is); (case n_isinstance => k_is); (case n_len => k_is); (case n_max => k_is); (case n_min => k_is); (case n_range => k_is); (case n_repr => k_is); (case n_tuple => k_is); (case eA_BadPlace => k_is); (case eF_BadPlace => k_is); (case eT_BadPlace => k_is); (case eL_BadPlace => k_is); (case eC_BadPlace => k_is); (case eK_BadPlace => k_is)
    case eB => kernel_rfl

