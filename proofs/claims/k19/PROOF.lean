import PyProof.Rows.All
import Wide.All
import OpenK.AllK
import Wide.FinOn
import HandS.ForMost
import HandS.AnyAll
import HandS.ForExc
import KE.KRevSl
import PyProof.Draws
import HandS.IsInst
import HandS.Conv
import HandS.Style
import HandS.Zip
import HandS.More
import HandS.TupLe
import HandS.Deep
import KE.LtSeq
import KE.DataCmp
import HandS.HeadHook3
import HandS.EndTab
import HandS.EndOwn
import PyProof.FString5
import PySem.Challenge.RW_saidback_k19_sorts_of_terms
set_option Elab.async false
set_option linter.all false
set_option maxRecDepth 100000
set_option maxHeartbeats 4000000
/-! TCore: typed refinement over HandS. A def's mirror is a Lean function in Option; its walk is put together from the rules below. -/
namespace T
open PySem PySem.Spec PyProof.Rows L2

/-! ### data -/
inductive D where
  | non
  | bl (b : Bool)
  | int (i : Int)
  | str (s : Str)
  | tup (xs : List D)
  | lst (xs : List D)
  | ins (C : Addr) (fs : List Str) (ds : List D)

mutual
inductive Rp (K : PySem.W.Frag) (H : Hp) : V → D → Prop
  | non : Rp K H .non .non
  | bl (b : Bool) : Rp K H (.bl b) (.bl b)
  | int (i : Int) : Rp K H (.int i) (.int i)
  | str (x : Str) : Rp K H (.str x) (.str x)
  | tup {a : Addr} {vs : List V} {ds : List D} : SqT K H a vs → RpA K H vs ds → Rp K H (.ref a) (.tup ds)
  | lst {a : Addr} {vs : List V} {ds : List D} : SqL K H a vs → RpA K H vs ds → Rp K H (.ref a) (.lst ds)
  | ins {a C dx : Addr} {vs : List (Str × V)} {fs : List Str} {ds : List D} : H a = some (.ins C dx vs) → vs.map (·.1) = fs → RpA K H (vs.map (·.2)) ds → Rp K H (.ref a) (.ins C fs ds)
inductive RpA (K : PySem.W.Frag) (H : Hp) : List V → List D → Prop
  | nil : RpA K H [] []
  | cons {v : V} {vs : List V} {d : D} {ds : List D} : Rp K H v d → RpA K H vs ds → RpA K H (v :: vs) (d :: ds)
end
theorem same_t {K : PySem.W.Frag} {H H' : Hp} {a : Addr} {xs : List V} (e : Same H H') (h : SqT K H a xs) : SqT K H' a xs := by
  rcases h with (h | ⟨o, h⟩) | h
  · exact .inl (.inl (e _ _ h))
  · exact .inl (.inr ⟨o, e _ _ h⟩)
  · exact .inr h
mutual
theorem Rp.mono {K : PySem.W.Frag} {H H' : Hp} (e : Same H H') : ∀ (d : D) (v : V), Rp K H v d → Rp K H' v d
  | .non, _, h => by cases h; exact .non
  | .bl _, _, h => by cases h; exact .bl _
  | .int _, _, h => by cases h; exact .int _
  | .str _, _, h => by cases h; exact .str _
  | .tup ds, _, h => by
    cases h with
    | tup h1 h2 => exact .tup (same_t e h1) (RpA.mono e ds _ h2)
  | .lst ds, _, h => by
    cases h with
    | lst h1 h2 => exact .lst (e.seq h1) (RpA.mono e ds _ h2)
  | .ins C fs ds, _, h => by
    cases h with
    | ins h1 h2 h3 => exact .ins (e _ _ h1) h2 (RpA.mono e ds _ h3)
theorem RpA.mono {K : PySem.W.Frag} {H H' : Hp} (e : Same H H') : ∀ (ds : List D) (vs : List V), RpA K H vs ds → RpA K H' vs ds
  | [], _, h => by cases h; exact .nil
  | d :: ds, _, h => by
    cases h with
    | cons h1 h2 => exact .cons (Rp.mono e d _ h1) (RpA.mono e ds _ h2)
end
section
variable {K : PySem.W.Frag} {H H' : Hp}
theorem RpA.length : ∀ {vs : List V} {ds : List D}, RpA K H vs ds → vs.length = ds.length
  | _, _, .nil => rfl
  | _, _, .cons _ t => by rw [List.length_cons, List.length_cons, RpA.length t]
theorem RpA.append : ∀ {vs ws : List V} {ds es : List D}, RpA K H vs ds → RpA K H ws es → RpA K H (vs ++ ws) (ds ++ es)
  | _, _, _, _, .nil, h => h
  | _, _, _, _, .cons r t, h => .cons r (RpA.append t h)
theorem RpA.get : ∀ {vs : List V} {ds : List D} {i : Nat} {d : D}, RpA K H vs ds → ds[i]? = some d → ∃ v, vs[i]? = some v ∧ Rp K H v d
  | _, _, _, _, .nil, e => by simp at e
  | _, _, 0, d, .cons r _, e => by simp at e; subst e; exact ⟨_, rfl, r⟩
  | _, _, i + 1, d, .cons _ t, e => by
    obtain ⟨v, h1, h2⟩ := RpA.get (i := i) (d := d) t (by simpa using e)
    exact ⟨v, by simpa using h1, h2⟩
theorem RpA.getV : ∀ {vs : List V} {ds : List D} {i : Nat} {v : V}, RpA K H vs ds → vs[i]? = some v → ∃ d, ds[i]? = some d ∧ Rp K H v d
  | _, _, _, _, .nil, e => by simp at e
  | _, _, 0, d, .cons r _, e => by simp at e; subst e; exact ⟨_, rfl, r⟩
  | _, _, i + 1, d, .cons _ t, e => by
    obtain ⟨v, h1, h2⟩ := RpA.getV (i := i) (v := d) t (by simpa using e)
    exact ⟨v, by simpa using h1, h2⟩
theorem RpA.set {v : V} {d : D} (r : Rp K H v d) : ∀ {vs : List V} {ds : List D} (i : Nat), RpA K H vs ds → RpA K H (vs.set i v) (ds.set i d)
  | _, _, _, .nil => .nil
  | _, _, 0, .cons _ t => .cons r t
  | _, _, i + 1, .cons q t => .cons q (RpA.set r i t)
theorem RpA.take : ∀ {vs : List V} {ds : List D} (n : Nat), RpA K H vs ds → RpA K H (vs.take n) (ds.take n)
  | _, _, 0, _ => .nil
  | _, _, _ + 1, .nil => .nil
  | _, _, n + 1, .cons r t => .cons r (RpA.take n t)
theorem RpA.drop : ∀ {vs : List V} {ds : List D} (n : Nat), RpA K H vs ds → RpA K H (vs.drop n) (ds.drop n)
  | _, _, 0, r => r
  | _, _, _ + 1, .nil => .nil
  | _, _, n + 1, .cons _ t => RpA.drop n t
theorem RpA.reverse {vs : List V} {ds : List D} (h : RpA K H vs ds) : RpA K H vs.reverse ds.reverse := by
  induction vs generalizing ds with
  | nil => cases h; exact .nil
  | cons v vs ih =>
    cases h with
    | cons r t =>
      rw [List.reverse_cons, List.reverse_cons]
      exact (ih t).append (.cons r .nil)
theorem Rp.int_iff {v : V} {i : Int} : Rp K H v (.int i) ↔ v = .int i := ⟨fun h => by cases h; rfl, fun h => h ▸ .int _⟩
theorem Rp.str_iff {v : V} {i : Str} : Rp K H v (.str i) ↔ v = .str i := ⟨fun h => by cases h; rfl, fun h => h ▸ .str _⟩
theorem Rp.bl_iff {v : V} {i : Bool} : Rp K H v (.bl i) ↔ v = .bl i := ⟨fun h => by cases h; rfl, fun h => h ▸ .bl _⟩
end

/-! ### typed data -/
class Em (τ : Type) where
  em : τ → D
abbrev em {τ : Type} [Em τ] (x : τ) : D := Em.em x

instance : Em Int := ⟨.int⟩
instance : Em Bool := ⟨.bl⟩
instance : Em Str := ⟨.str⟩
instance : Em D := ⟨id⟩
instance : Em Unit := ⟨fun _ => .non⟩
instance {α : Type} [Em α] : Em (List α) := ⟨fun xs => .lst (xs.map em)⟩
instance {α β : Type} [Em α] [Em β] : Em (α × β) := ⟨fun p => .tup [em p.1, em p.2]⟩
instance {α : Type} [Em α] : Em (Option α) := ⟨fun o => match o with | none => .non | some x => em x⟩
/-- a tuple of any length, its items of one type -/
structure Vt (α : Type) where
  l : List α
instance {α : Type} [Em α] : Em (Vt α) := ⟨fun t => .tup (t.l.map em)⟩
structure T3 (α β γ : Type) where
  a : α
  b : β
  c : γ
instance {α β γ : Type} [Em α] [Em β] [Em γ] : Em (T3 α β γ) := ⟨fun t => .tup [em t.a, em t.b, em t.c]⟩
structure T4 (α β γ δ : Type) where
  a : α
  b : β
  c : γ
  d : δ
instance {α β γ δ : Type} [Em α] [Em β] [Em γ] [Em δ] : Em (T4 α β γ δ) := ⟨fun t => .tup [em t.a, em t.b, em t.c, em t.d]⟩
structure T5 (α β γ δ ε : Type) where
  a : α
  b : β
  c : γ
  d : δ
  e : ε
instance {α β γ δ ε : Type} [Em α] [Em β] [Em γ] [Em δ] [Em ε] : Em (T5 α β γ δ ε) := ⟨fun t => .tup [em t.a, em t.b, em t.c, em t.d, em t.e]⟩

/-! ### worlds: b what is frozen for good (data leans on it alone), h all that is tracked -/
structure Wd where
  b : Hp
  h : Hp
/-- the code tables of the defs whose texts hold a generator expression: they grow -/
class Tabs where
  tab : Addr → Prop
/-- where no text holds one -/
instance (priority := low) noTabs : Tabs := ⟨fun _ => False⟩
def TabO (o : HO) : Prop := ∃ ps : Array Value, o = .tbl ps ∧ GxR.TabG (fun _ => some o) 0
/-- what stands is kept, but for tables, which may grow -/
def SameT (H H' : Hp) : Prop := ∀ a o, H a = some o → H' a = some o ∨ (TabO o ∧ ∃ o', H' a = some o' ∧ TabO o')
theorem SameT.of {H H' : Hp} (h : Same H H') : SameT H H' := fun a o e => .inl (h a o e)
theorem SameT.refl (H : Hp) : SameT H H := .of (Same.refl H)
theorem SameT.trans {H H1 H2 : Hp} (h : SameT H H1) (k : SameT H1 H2) : SameT H H2 := fun a o e => by
  rcases h a o e with e1 | ⟨t, o1, e1, t1⟩
  · exact k a o e1
  · rcases k a o1 e1 with e2 | ⟨_, o2, e2, t2⟩
    · exact .inr ⟨t, o1, e2, t1⟩
    · exact .inr ⟨t, o2, e2, t2⟩
theorem SameT.some {H H' : Hp} (h : SameT H H') {a : Addr} {o : HO} (e : H a = some o) : ∃ o', H' a = Option.some o' := by
  rcases h a o e with e1 | ⟨_, o1, e1, _⟩
  · exact ⟨o, e1⟩
  · exact ⟨o1, e1⟩
theorem SameT.free {H H' : Hp} (h : SameT H H') {a : Addr} (e : H' a = none) : H a = none := by
  cases q : H a with
  | none => rfl
  | some o =>
    obtain ⟨o', e'⟩ := h.some q
    rw [e] at e'; cases e'
theorem SameT.at {H H' : Hp} (h : SameT H H') {a : Addr} {o : HO} (e : H a = Option.some o) (n : ¬ TabO o) : H' a = Option.some o := by
  rcases h a o e with e1 | ⟨t, _⟩
  · exact e1
  · exact absurd t n
theorem SameT.lst {H H' : Hp} (h : SameT H H') {a : Addr} {vs : List V} (e : H a = Option.some (.lst vs)) : H' a = Option.some (.lst vs) := h.at e fun ⟨_, z, _⟩ => by cases z
theorem SameT.seq {K : PySem.W.Frag} {H H' : Hp} (h : SameT H H') {a : Addr} {vs : List V} (s : SqL K H a vs) : SqL K H' a vs := by
  rcases s with (s | ⟨o, s⟩) | s
  · exact .inl (.inl (h.lst s))
  · exact .inl (.inr ⟨o, h.at s fun ⟨_, z, _⟩ => by cases z⟩)
  · exact .inr s
theorem SameT.upd {H H' : Hp} (h : SameT H H') {a : Addr} {o : HO} (e : H a = none) : SameT H (L2.upd H' a o) := fun c u z => by
  have q0 : L2.upd H' a o c = H' c := upd_ne (ne_of_none z e)
  rcases h c u z with q | ⟨t, o', q, t'⟩
  · exact .inl (q0.trans q)
  · exact .inr ⟨t, o', q0.trans q, t'⟩
theorem SameT.tab {H H' : Hp} (h : SameT H H') {P : Addr} (t : GxR.TabG H P) : GxR.TabG H' P := by
  obtain ⟨ps, e, k⟩ := t
  rcases h P _ e with e1 | ⟨_, o1, e1, ps1, z, ps2, q, k2⟩
  · exact ⟨ps, e1, k⟩
  · cases q
    exact ⟨ps2, e1, k2⟩
structure Le (W W' : Wd) : Prop where
  b : Same W.b W'.b
  h : SameT W.h W'.h
  f : ∀ a o, W.h a = some o → W'.b a = W.b a
  ok : Same W'.b W'.h
theorem Le.refl {W : Wd} (ok : Same W.b W.h) : Le W W := ⟨Same.refl _, SameT.refl _, fun _ _ _ => rfl, ok⟩
theorem Le.trans {W W1 W2 : Wd} (a : Le W W1) (c : Le W1 W2) : Le W W2 := ⟨a.b.trans c.b, a.h.trans c.h, fun x o h => (let ⟨o', h'⟩ := a.h.some h; c.f x o' h').trans (a.f x o h), c.ok⟩
theorem Same.new {H : Hp} {p : Addr} {o : HO} (h : H p = none) : Same H (upd H p o) := fun a u e => by
  rw [upd_ne (ne_of_none e h)]
  exact e
/-- a new object, frozen at once -/
theorem Le.lay {W : Wd} (ok : Same W.b W.h) {p : Addr} {o : HO} (h : W.h p = none) : Le W ⟨upd W.b p o, upd W.h p o⟩ := by
  have hb : W.b p = Option.none := ok.free h
  refine ⟨Same.new hb, .of (Same.new h), fun a u e => upd_ne (ne_of_none e h), fun a u e => ?_⟩
  have e : upd W.b p o a = some u := e
  show upd W.h p o a = some u
  by_cases ha : a = p
  · subst ha; rw [upd_same] at e ⊢; exact e
  · rw [upd_ne ha] at e ⊢; exact ok a u e
/-- a new object that may still change -/
theorem Le.layM {W : Wd} (ok : Same W.b W.h) {p : Addr} {o : HO} (h : W.h p = none) : Le W ⟨W.b, upd W.h p o⟩ :=
  ⟨Same.refl _, .of (Same.new h), fun a u e => rfl, ok.trans (Same.new h)⟩
/-- what was laid so is frozen -/
theorem Le.freeze {W W' : Wd} (ok : Same W.b W.h) (l : Le W W') {p : Addr} {o : HO} (h0 : W.h p = none) (h : W'.h p = some o) (hb : W'.b p = none) : Le W ⟨upd W'.b p o, W'.h⟩ := by
  refine ⟨l.b.trans (Same.new hb), l.h, fun a u e => ?_, fun a u e => ?_⟩
  · show upd W'.b p o a = W.b a
    rw [upd_ne (ne_of_none e h0)]; exact l.f a u e
  · have e : upd W'.b p o a = some u := e
    by_cases ha : a = p
    · subst ha; rw [upd_same] at e; exact h.trans e
    · rw [upd_ne ha] at e; exact l.ok a u e

/-! ### slots -/
inductive SV where
  | any
  | dat (d : D)
  | own (ds : List D)
  | bor (ds : List D)
def SlotR (K : PySem.W.Frag) (W0 W : Wd) (o : Option V) : SV → Prop
  | .any => True
  | .dat d => ∃ v, o = some v ∧ Rp K W.b v d
  | .own ds => ∃ a vs, o = some (.ref a) ∧ W.h a = some (.lst vs) ∧ W.b a = none ∧ W0.h a = none ∧ RpA K W.b vs ds
  | .bor ds => ∃ a vs, o = some (.ref a) ∧ SqL K W0.h a vs ∧ RpA K W0.b vs ds
variable [Tabs]
/-- the tables stand, and no data leans on them -/
def TabsOk (W : Wd) : Prop := ∀ P, Tabs.tab P → GxR.TabG W.h P ∧ W.b P = none
theorem TabsOk.mono {W W' : Wd} (l : Le W W') (t : TabsOk W) : TabsOk W' := fun P h => ⟨l.h.tab (t P h).1, by obtain ⟨⟨ps, e, _⟩, b⟩ := t P h; exact (l.f _ _ e).trans b⟩
structure EnvR (K : PySem.W.Frag) (W0 W : Wd) (env : List SV) (σ : L2.St) : Prop where
  le : Le W0 W
  len : σ.length = env.length
  slot : ∀ (i : Nat) (sv : SV), env[i]? = some sv → ∃ o, σ[i]? = some o ∧ SlotR K W0 W o sv
  apart : ∀ (i j : Nat) (di dj : List D), i ≠ j → env[i]? = some (.own di) → env[j]? = some (.own dj) → σ[i]? ≠ σ[j]?
  tbl : TabsOk W
section
variable {K : PySem.W.Frag} {W0 W W' : Wd} {env : List SV} {σ : L2.St}
theorem EnvR.ok (E : EnvR K W0 W env σ) : Same W.b W.h := E.le.ok
theorem SlotR.mono {o : Option V} {sv : SV} (l : Le W W') (h : SlotR K W0 W o sv) : SlotR K W0 W' o sv := by
  cases sv with
  | any => trivial
  | dat d => obtain ⟨v, e, r⟩ := h; exact ⟨v, e, r.mono l.b⟩
  | own ds => obtain ⟨a, vs, e, h1, h2, h0, r⟩ := h; exact ⟨a, vs, e, l.h.lst h1, (l.f _ _ h1).trans h2, h0, r.mono l.b⟩
  | bor ds => exact h
theorem EnvR.mono (E : EnvR K W0 W env σ) (l : Le W W') : EnvR K W0 W' env σ :=
  ⟨E.le.trans l, E.len, fun i sv e => let ⟨o, h1, h2⟩ := E.slot i sv e; ⟨o, h1, h2.mono l⟩, E.apart, E.tbl.mono l⟩
theorem EnvR.dat {i : Nat} {d : D} (E : EnvR K W0 W env σ) (h : env[i]? = some (.dat d)) : ∃ v, σ[i]? = some (some v) ∧ Rp K W.b v d := by
  obtain ⟨o, h1, v, e, r⟩ := E.slot i _ h
  subst e
  exact ⟨v, h1, r⟩
theorem EnvR.own {i : Nat} {ds : List D} (E : EnvR K W0 W env σ) (h : env[i]? = some (.own ds)) : ∃ a vs, σ[i]? = some (some (.ref a)) ∧ W.h a = some (.lst vs) ∧ W.b a = none ∧ W0.h a = none ∧ RpA K W.b vs ds := by
  obtain ⟨o, h1, a, vs, e, r⟩ := E.slot i _ h
  subst e
  exact ⟨a, vs, h1, r⟩
theorem EnvR.bor {i : Nat} {ds : List D} (E : EnvR K W0 W env σ) (h : env[i]? = some (.bor ds)) : ∃ a vs, σ[i]? = some (some (.ref a)) ∧ SqL K W.h a vs ∧ RpA K W.b vs ds := by
  obtain ⟨o, h1, a, vs, e, r1, r2⟩ := E.slot i _ h
  subst e
  exact ⟨a, vs, h1, E.le.h.seq r1, r2.mono E.le.b⟩
theorem set_get {α : Type} {l : List α} {i j : Nat} {x y : α} (h : (l.set i x)[j]? = some y) : (j = i ∧ i < l.length ∧ y = x) ∨ (j ≠ i ∧ l[j]? = some y) := by
  by_cases e : j = i
  · subst e
    have hl : j < l.length := by have := (List.getElem?_eq_some_iff.mp h).1; rwa [List.length_set] at this
    rw [List.getElem?_set_self hl] at h
    exact .inl ⟨rfl, hl, (Option.some.inj h).symm⟩
  · rw [List.getElem?_set_ne (Ne.symm e)] at h
    exact .inr ⟨e, h⟩
/-- a slot gets a value that no owned slot has, or data -/
theorem EnvR.put {i : Nat} {v : V} {sv : SV} (E : EnvR K W0 W env σ) (r : SlotR K W0 W (some v) sv) (ap : ∀ ds, sv = .own ds → ∀ j dj, j ≠ i → env[j]? = some (.own dj) → σ[j]? ≠ some (some v)) :
    EnvR K W0 W (env.set i sv) (σ.set i (some v)) := by
  refine ⟨E.le, by rw [List.length_set, List.length_set]; exact E.len, fun j sj e => ?_, fun j k dj dk n e1 e2 => ?_, E.tbl⟩
  · rcases set_get e with ⟨rfl, hl, rfl⟩ | ⟨n, e⟩
    · exact ⟨_, List.getElem?_set_self (by rw [E.len]; exact hl), r⟩
    · rw [List.getElem?_set_ne (Ne.symm n)]; exact E.slot j sj e
  · rcases set_get e1 with ⟨rfl, hl, e1'⟩ | ⟨n1, e1'⟩
    · rcases set_get e2 with ⟨e', _, _⟩ | ⟨n2, e2'⟩
      · exact absurd e'.symm n
      · rw [List.getElem?_set_self (by rw [E.len]; exact hl), List.getElem?_set_ne (Ne.symm n2)]
        exact fun z => ap dj e1'.symm k dk n2 e2' z.symm
    · rcases set_get e2 with ⟨rfl, hl, e2'⟩ | ⟨n2, e2'⟩
      · rw [List.getElem?_set_self (by rw [E.len]; exact hl), List.getElem?_set_ne (Ne.symm n1)]
        exact fun z => ap dk e2'.symm j dj n1 e1' z
      · rw [List.getElem?_set_ne (Ne.symm n1), List.getElem?_set_ne (Ne.symm n2)]
        exact E.apart j k dj dk n e1' e2'
theorem EnvR.putD {i : Nat} {v : V} {d : D} (E : EnvR K W0 W env σ) (r : Rp K W.b v d) : EnvR K W0 W (env.set i (.dat d)) (σ.set i (some v)) :=
  E.put ⟨v, rfl, r⟩ fun _ e => by cases e
/-- a new list -/
theorem EnvR.putL {i : Nat} {a : Addr} {vs : List V} {ds : List D} (E : EnvR K W0 W env σ) (l : Le W W') (h0 : W.h a = none) (h1 : W'.h a = some (.lst vs)) (h2 : W'.b a = none) (r : RpA K W'.b vs ds) :
    EnvR K W0 W' (env.set i (.own ds)) (σ.set i (some (.ref a))) := by
  refine (E.mono l).put ⟨a, vs, rfl, h1, h2, E.le.h.free h0, r⟩ fun es _ j dj _ ej z => ?_
  obtain ⟨c, ws, e1, e2, _⟩ := E.own ej
  rw [e1] at z
  injection z with z; injection z with z; injection z with z
  subst z
  rw [h0] at e2; cases e2
/-- an owned list changes -/
theorem EnvR.write {i : Nat} {a : Addr} {vs : List V} {ds es : List D} (E : EnvR K W0 W env σ) (hi : env[i]? = some (.own ds)) (hs : σ[i]? = some (some (.ref a))) (r : RpA K W.b vs es) :
    EnvR K W0 ⟨W.b, upd W.h a (.lst vs)⟩ (env.set i (.own es)) σ := by
  obtain ⟨a', ws, e1, e2, e3, e0, e4⟩ := E.own hi
  rw [hs] at e1
  injection e1 with e1; injection e1 with e1; injection e1 with e1
  subst e1
  have hl : i < env.length := (List.getElem?_eq_some_iff.mp hi).1
  refine ⟨⟨E.le.b, fun c u z => ?_, E.le.f, fun c u z => ?_⟩, by rw [List.length_set]; exact E.len, fun j sj e => ?_, fun j k dj dk n h1 h2 => ?_, fun P hP => ?_⟩
  · exact E.le.h.upd e0 c u z
  · show upd W.h a _ c = some u
    rw [upd_ne (ne_of_none z e3)]; exact E.le.ok c u z
  · rcases set_get e with ⟨rfl, _, rfl⟩ | ⟨n, e⟩
    · exact ⟨_, hs, a, vs, rfl, upd_same, e3, e0, r⟩
    · obtain ⟨o, h1, h2⟩ := E.slot j sj e
      refine ⟨o, h1, ?_⟩
      cases sj with
      | any => trivial
      | dat d => exact h2
      | bor d => exact h2
      | own d =>
        obtain ⟨c, us, q1, q2, q3⟩ := h2
        subst q1
        have nc : c ≠ a := fun z => by
          subst z
          exact E.apart j i d ds n e hi (h1.trans hs.symm)
        exact ⟨c, us, rfl, by show upd W.h a _ c = _; rw [upd_ne nc]; exact q2, q3⟩
  · have h1' : ∃ d, env[j]? = some (.own d) := by
      rcases set_get h1 with ⟨rfl, _, _⟩ | ⟨_, q⟩
      · exact ⟨_, hi⟩
      · exact ⟨_, q⟩
    have h2' : ∃ d, env[k]? = some (.own d) := by
      rcases set_get h2 with ⟨rfl, _, _⟩ | ⟨_, q⟩
      · exact ⟨_, hi⟩
      · exact ⟨_, q⟩
    obtain ⟨_, h1'⟩ := h1'
    obtain ⟨_, h2'⟩ := h2'
    exact E.apart j k _ _ n h1' h2'
  · obtain ⟨⟨ps, e, k⟩, b⟩ := E.tbl P hP
    refine ⟨⟨ps, ?_, k⟩, b⟩
    have nP : P ≠ a := fun z => by subst z; rw [e2] at e; cases e
    show upd W.h a _ P = _
    rw [upd_ne nP]; exact e
end
/-- what may be forgotten -/
inductive EnvLe : List SV → List SV → Prop
  | nil : EnvLe [] []
  | same {x : SV} {a b : List SV} : EnvLe a b → EnvLe (x :: a) (x :: b)
  | drop {x : SV} {a b : List SV} : EnvLe a b → EnvLe (x :: a) (.any :: b)
theorem EnvLe.len : ∀ {a b : List SV}, EnvLe a b → a.length = b.length
  | _, _, .nil => rfl
  | _, _, .same h => by rw [List.length_cons, List.length_cons, EnvLe.len h]
  | _, _, .drop h => by rw [List.length_cons, List.length_cons, EnvLe.len h]
theorem EnvLe.get : ∀ {a b : List SV} {i : Nat} {sv : SV}, EnvLe a b → b[i]? = some sv → ∃ sw, a[i]? = some sw ∧ (sw = sv ∨ sv = .any)
  | _, _, _, _, .nil, e => by simp at e
  | _, _, 0, sv, .same h, e => ⟨_, rfl, .inl (by simpa using e)⟩
  | _, _, 0, sv, .drop h, e => ⟨_, rfl, .inr (by simpa using e.symm)⟩
  | _, _, i + 1, sv, .same h, e => by
    obtain ⟨sw, h1, h2⟩ := EnvLe.get (i := i) (sv := sv) h (by simpa using e)
    exact ⟨sw, by simpa using h1, h2⟩
  | _, _, i + 1, sv, .drop h, e => by
    obtain ⟨sw, h1, h2⟩ := EnvLe.get (i := i) (sv := sv) h (by simpa using e)
    exact ⟨sw, by simpa using h1, h2⟩
theorem EnvR.weak {K : PySem.W.Frag} {W0 W : Wd} {env env' : List SV} {σ : L2.St} (E : EnvR K W0 W env σ) (l : EnvLe env env') : EnvR K W0 W env' σ := by
  refine ⟨E.le, E.len.trans l.len, fun i sv e => ?_, fun i j di dj n e1 e2 => ?_, E.tbl⟩
  · obtain ⟨sw, h1, h2⟩ := l.get e
    obtain ⟨o, q1, q2⟩ := E.slot i sw h1
    rcases h2 with rfl | rfl
    · exact ⟨o, q1, q2⟩
    · exact ⟨o, q1, trivial⟩
  · obtain ⟨sw, h1, h2⟩ := l.get e1
    obtain ⟨sw', h1', h2'⟩ := l.get e2
    rcases h2 with rfl | h2
    · rcases h2' with rfl | h2'
      · exact E.apart i j di dj n h1 h1'
      · cases h2'
    · cases h2
end T

set_option Elab.async false
set_option linter.all false
set_option maxRecDepth 100000
set_option maxHeartbeats 4000000
namespace T
open PySem PySem.Spec PyProof.Rows L2
abbrev St := L2.St

/-! ### what is known of the place where code runs -/
def visB (sc : Scope) (x : Str) : Bool := match sc.names.lookup x with
  | some .local => true
  | some .cell => true
  | some .free => true
  | _ => false
def glbB (sc : Scope) (x : Str) : Bool := match sc.names.lookup x with
  | some .globalImplicit => true
  | _ => false
def locB (sc : Scope) (fb : Str → Bool) (x : Str) : Bool := match sc.names.lookup x with
  | some .local => true
  | some .cell => fb x
  | _ => false
theorem visB_ok {sc : Scope} {x : Str} (h : visB sc x = true) : Vis sc x := by
  unfold visB at h
  split at h <;> first | exact .inl (by assumption) | exact .inr (.inl (by assumption)) | exact .inr (.inr (by assumption)) | cases h
theorem glbB_ok {sc : Scope} {x : Str} (h : glbB sc x = true) : sc.names.lookup x = some .globalImplicit := by
  unfold glbB at h
  split at h <;> first | assumption | cases h
theorem locB_ok {sc : Scope} {fb : Str → Bool} {x : Str} (h : locB sc fb x = true) : Loc sc x := by
  unfold locB at h
  split at h <;> first | exact .inl (by assumption) | exact .inr (by assumption) | cases h
theorem locB_fn {sc : Scope} {fb : Str → Bool} {x : Str} (h : locB sc fb x = true) : fb x = true ∨ sc.names.lookup x = some .local := by
  unfold locB at h
  split at h <;> first | exact .inr (by assumption) | exact .inl h | cases h
inductive Cf (X : Cx) : List Str → Scope → (Str → Bool) → PySem.W.Frag → (Str → Option Value) → Program → World → Heap → Nat → Prop
  | mk {k : Nat} (nd : X.N.Nodup) (calm : X.calm = true) (po : PassesOwn (model X.prog X.w) X.A X.env X.xe) (rm : Room k X.A) :
    Cf X X.N X.env.scope X.fn X.K X.mg X.prog X.w X.base k

/-! ### readings, weakened -/
section
variable {X : Cx}
theorem peImp {e : Expr} {t t' : TE} (h : PE X e t) (k : ∀ σ H Q, t' σ H Q → t σ H Q) : PE X e t' := ⟨fun pins s σ H Q I q => h.run pins s σ H Q I (k σ H Q q)⟩
theorem ptImp {e : Expr} {t t' : TT} (h : PT X e t) (k : ∀ σ H Q, t' σ H Q → t σ H Q) : PT X e t' := ⟨fun pins s σ H Q I q => h.run pins s σ H Q I (k σ H Q q)⟩
theorem pwImp {e : Expr} {t t' : TT} (h : PW X e t) (k : ∀ σ H Q, t' σ H Q → t σ H Q) : PW X e t' := ⟨fun wh pins s σ H Q I q => h.run wh pins s σ H Q I (k σ H Q q)⟩
theorem paImp {es : List Expr} {t t' : TA} (h : PA X es t) (k : ∀ σ H Q, t' σ H Q → t σ H Q) : PA X es t' := ⟨fun p pins s σ H Q I q => h.run p pins s σ H Q I (k σ H Q q)⟩
theorem psImp {st : Stmt} {t t' : TS} (h : PS X st t) (k : ∀ D σ H, t' D σ H → t D σ H) : PS X st t' := ⟨fun pins s σ H D I q => h.run pins s σ H D I (k D σ H q)⟩
theorem pssImp {st : List Stmt} {t t' : TS} (h : PSs X st t) (k : ∀ D σ H, t' D σ H → t D σ H) : PSs X st t' := ⟨fun pins s σ H D I q => h.run pins s σ H D I (k D σ H q)⟩
theorem piImp {tg it : Expr} {t t' : TI} (h : PI X tg it t) (k : ∀ σ H R, t' σ H R → t σ H R) : PI X tg it t' := ⟨fun pins s σ H R I q => h.run pins s σ H R I (k σ H R q)⟩
theorem pgImp {tg : Expr} {t t' : TG} (h : PG X tg t) (k : ∀ v σ H Q, t' v σ H Q → t v σ H Q) : PG X tg t' := ⟨fun pins s σ H v u Q I r q => h.run pins s σ H v u Q I r (k v σ H Q q)⟩
theorem peEx {ι : Type} {e : Expr} {t : ι → TE} (h : ∀ i, PE X e (t i)) : PE X e (fun σ H Q => ∃ i, t i σ H Q) := ⟨fun pins s σ H Q I ⟨i, q⟩ => (h i).run pins s σ H Q I q⟩
theorem ptEx {ι : Type} {e : Expr} {t : ι → TT} (h : ∀ i, PT X e (t i)) : PT X e (fun σ H Q => ∃ i, t i σ H Q) := ⟨fun pins s σ H Q I ⟨i, q⟩ => (h i).run pins s σ H Q I q⟩
theorem ptsEx {ι : Type} {e : List Expr} {t : ι → TT} (h : ∀ i, PTs X e (t i)) : PTs X e (fun σ H Q => ∃ i, t i σ H Q) := ⟨fun pins s σ H Q I ⟨i, q⟩ => (h i).run pins s σ H Q I q⟩
theorem pssEx {ι : Type} {e : List Stmt} {t : ι → TS} (h : ∀ i, PSs X e (t i)) : PSs X e (fun D σ H => ∃ i, t i D σ H) := ⟨fun pins s σ H D I ⟨i, q⟩ => (h i).run pins s σ H D I q⟩
end

/-! ### the canonical readings -/
variable {τ α β γ δ : Type}
variable [Tabs]
theorem bind_some {m : Option α} {f : α → Option β} {y : β} (h : m.bind f = some y) : ∃ x, m = some x ∧ f x = some y := by
  cases m with
  | none => cases h
  | some x => exact ⟨x, rfl, h⟩
def tX [Em τ] (K : PySem.W.Frag) (env : List SV) (m : Option τ) : TE := fun σ H Q =>
  ∃ W0 W : Wd, W.h = H ∧ EnvR K W0 W env σ ∧ ∃ x, m = some x ∧ ∀ v W', Le W W' → Rp K W'.b v (em x) → Q v W'.h
/-- a list that may be read -/
def tQ [Em τ] (K : PySem.W.Frag) (env : List SV) (m : Option (List τ)) : TE := fun σ H Q =>
  ∃ W0 W : Wd, W.h = H ∧ EnvR K W0 W env σ ∧ ∃ x, m = some x ∧ ∀ a vs W', Le W W' → SqL K W'.h a vs → RpA K W'.b vs (x.map em) → Q (.ref a) W'.h
/-- a new list -/
def tL [Em τ] (K : PySem.W.Frag) (env : List SV) (m : Option (List τ)) : TE := fun σ H Q =>
  ∃ W0 W : Wd, W.h = H ∧ EnvR K W0 W env σ ∧ ∃ x, m = some x ∧ ∀ a vs W', Le W W' → W.h a = none → W'.h a = some (.lst vs) → W'.b a = none → RpA K W'.b vs (x.map em) → Q (.ref a) W'.h
def tC' (K : PySem.W.Frag) (env : List SV) (m : Option Bool) : TT := fun σ H Q =>
  ∃ W0 W : Wd, W.h = H ∧ EnvR K W0 W env σ ∧ ∃ x, m = some x ∧ ∀ W', Le W W' → Q x W'.h
inductive Args (K : PySem.W.Frag) (W : Wd) : List V → List SV → Prop
  | nil : Args K W [] []
  | dat {v : V} {d : D} {vs : List V} {svs : List SV} : Rp K W.b v d → Args K W vs svs → Args K W (v :: vs) (.dat d :: svs)
  | bor {a : Addr} {ws : List V} {ds : List D} {vs : List V} {svs : List SV} : SqL K W.h a ws → RpA K W.b ws ds → Args K W vs svs → Args K W (.ref a :: vs) (.bor ds :: svs)
theorem Args.mono {K : PySem.W.Frag} {W W' : Wd} (l : Le W W') : ∀ {vs : List V} {svs : List SV}, Args K W vs svs → Args K W' vs svs
  | _, _, .nil => .nil
  | _, _, .dat r t => .dat (r.mono l.b) (Args.mono l t)
  | _, _, .bor s r t => .bor (l.h.seq s) (r.mono l.b) (Args.mono l t)
def tA (K : PySem.W.Frag) (env : List SV) (m : Option α) (svs : α → List SV) : TA := fun σ H Q =>
  ∃ W0 W : Wd, W.h = H ∧ EnvR K W0 W env σ ∧ ∃ x, m = some x ∧ ∀ vs W', Le W W' → Args K W' vs (svs x) → Q vs W'.h
abbrev XE [Em τ] (X : Cx) (env : List SV) (e : Expr) (m : Option τ) : Prop := PE X e (tX X.K env m)
abbrev XQ [Em τ] (X : Cx) (env : List SV) (e : Expr) (m : Option (List τ)) : Prop := PE X e (tQ X.K env m)
abbrev XL [Em τ] (X : Cx) (env : List SV) (e : Expr) (m : Option (List τ)) : Prop := PE X e (tL X.K env m)
abbrev XT (X : Cx) (env : List SV) (e : Expr) (m : Option Bool) : Prop := PT X e (tC' X.K env m)
abbrev XA (X : Cx) (env : List SV) (es : List Expr) (m : Option α) (svs : α → List SV) : Prop := PA X es (tA X.K env m svs)

section
variable {X : Cx} {env : List SV} {e a b c : Expr} {pos : Pos} [Em τ] [Em α] [Em β] [Em γ]
/-- the shape of most rules -/
theorem x_of {t : TE} {m : Option τ} (h : PE X e t)
    (k : ∀ (W0 W : Wd) (σ : St), EnvR X.K W0 W env σ → ∀ x, m = some x → ∀ Q : VK, (∀ v W', Le W W' → Rp X.K W'.b v (em x) → Q v W'.h) → t σ W.h Q) : XE X env e m :=
  peImp h fun σ H Q ⟨W0, W, hH, E, x, hx, q⟩ => by subst hH; exact k W0 W σ E x hx Q q
theorem q_of {t : TE} {m : Option (List τ)} (h : PE X e t)
    (k : ∀ (W0 W : Wd) (σ : St), EnvR X.K W0 W env σ → ∀ x, m = some x → ∀ Q : VK, (∀ a vs W', Le W W' → SqL X.K W'.h a vs → RpA X.K W'.b vs (x.map em) → Q (.ref a) W'.h) → t σ W.h Q) : XQ X env e m :=
  peImp h fun σ H Q ⟨W0, W, hH, E, x, hx, q⟩ => by subst hH; exact k W0 W σ E x hx Q q
theorem l_of {t : TE} {m : Option (List τ)} (h : PE X e t)
    (k : ∀ (W0 W : Wd) (σ : St), EnvR X.K W0 W env σ → ∀ x, m = some x → ∀ Q : VK, (∀ a vs W', Le W W' → W.h a = none → W'.h a = some (.lst vs) → W'.b a = none → RpA X.K W'.b vs (x.map em) → Q (.ref a) W'.h) → t σ W.h Q) : XL X env e m :=
  peImp h fun σ H Q ⟨W0, W, hH, E, x, hx, q⟩ => by subst hH; exact k W0 W σ E x hx Q q
theorem t_of {t : TT} {m : Option Bool} (h : PT X e t)
    (k : ∀ (W0 W : Wd) (σ : St), EnvR X.K W0 W env σ → ∀ x, m = some x → ∀ Q : Bool → Hp → Prop, (∀ W', Le W W' → Q x W'.h) → t σ W.h Q) : XT X env e m :=
  ptImp h fun σ H Q ⟨W0, W, hH, E, x, hx, q⟩ => by subst hH; exact k W0 W σ E x hx Q q
variable {K : PySem.W.Frag} {W0 W : Wd} {σ : St}
theorem use_x {m : Option τ} {x : τ} {Q : VK} (E : EnvR K W0 W env σ) (h : m = some x) (q : ∀ v W', Le W W' → Rp K W'.b v (em x) → Q v W'.h) : tX K env m σ W.h Q := ⟨W0, W, rfl, E, x, h, q⟩
theorem use_q {m : Option (List τ)} {x : List τ} {Q : VK} (E : EnvR K W0 W env σ) (h : m = some x) (q : ∀ a vs W', Le W W' → SqL K W'.h a vs → RpA K W'.b vs (x.map em) → Q (.ref a) W'.h) : tQ K env m σ W.h Q := ⟨W0, W, rfl, E, x, h, q⟩
theorem use_l {m : Option (List τ)} {x : List τ} {Q : VK} (E : EnvR K W0 W env σ) (h : m = some x) (q : ∀ a vs W', Le W W' → W.h a = none → W'.h a = some (.lst vs) → W'.b a = none → RpA K W'.b vs (x.map em) → Q (.ref a) W'.h) : tL K env m σ W.h Q := ⟨W0, W, rfl, E, x, h, q⟩
theorem use_t {m : Option Bool} {x : Bool} {Q : Bool → Hp → Prop} (E : EnvR K W0 W env σ) (h : m = some x) (q : ∀ W', Le W W' → Q x W'.h) : tC' K env m σ W.h Q := ⟨W0, W, rfl, E, x, h, q⟩
theorem use_a {m : Option δ} {svs : δ → List SV} {x : δ} {Q : List V → Hp → Prop} (E : EnvR K W0 W env σ) (h : m = some x) (q : ∀ vs W', Le W W' → Args K W' vs (svs x) → Q vs W'.h) : tA K env m svs σ W.h Q := ⟨W0, W, rfl, E, x, h, q⟩
theorem XE.is {m m' : Option τ} (h : XE X env e m) (q : m = m') : XE X env e m' := q ▸ h
theorem XT.is {m m' : Option Bool} (h : XT X env e m) (q : m = m') : XT X env e m' := q ▸ h

/-! ### constants, names -/
theorem x_int {i : Int} {j : Nat} : XE X env (.Constant (.int i) j pos) (some i) := x_of pe_int fun W0 W σ E x hx Q q => by cases hx; exact q _ W (Le.refl E.ok) (.int _)
theorem x_bl {i : Bool} {j : Nat} : XE X env (.Constant (.bool i) j pos) (some i) := x_of pe_bl fun W0 W σ E x hx Q q => by cases hx; exact q _ W (Le.refl E.ok) (.bl _)
theorem x_str {i : Str} {j : Nat} : XE X env (.Constant (.str i) j pos) (some i) := x_of pe_str fun W0 W σ E x hx Q q => by cases hx; exact q _ W (Le.refl E.ok) (.str _)
theorem x_non {j : Nat} : XE X env (.Constant .none j pos) (some ()) := x_of pe_non fun W0 W σ E x hx Q q => by cases hx; exact q _ W (Le.refl E.ok) .non
theorem x_nonO {j : Nat} : XE X env (.Constant .none j pos) (some (none : Option τ)) := x_of pe_non fun W0 W σ E x hx Q q => by cases hx; exact q _ W (Le.refl E.ok) .non
theorem x_some {m : Option τ} (h : XE X env e m) : XE X env e (m.bind fun x => some (some x)) := x_of h fun W0 W σ E x hx Q q => by
  obtain ⟨y, rfl, hy⟩ := bind_some hx
  cases hy
  exact use_x E rfl q
theorem x_D {m : Option τ} (h : XE X env e m) : XE X env e (m.bind fun x => some (em x)) := x_of h fun W0 W σ E x hx Q q => by
  obtain ⟨y, rfl, hy⟩ := bind_some hx
  cases hy
  exact use_x E rfl q
variable {N : List Str} {sc : Scope} {fb : Str → Bool} {mg : Str → Option Value} {P : Program} {w : World} {base : Heap} {k : Nat}
theorem Cf.n (C : Cf X N sc fb K mg P w base k) : X.N = N := by cases C; rfl
theorem x_var (C : Cf X N sc fb K mg P w base k) (i : Nat) {n : Str} {x : τ} (he : env[i]? = some (.dat (em x)) := by rfl) (hi : N[i]? = some n := by rfl) (hv : visB sc n = true := by decide +kernel)
    (hd : (n == ("__debug__" : Str)) = false := by decide) (hc : (n == ("__classdict__" : Str)) = false := by decide) : XE X env (.Name n pos) (some x) := by
  cases C
  refine x_of (pe_var hi (visB_ok hv) hd hc) fun W0 W σ E y hy Q q => ?_
  cases hy
  obtain ⟨v, h1, r⟩ := E.dat he
  exact ⟨v, h1, q v W (Le.refl E.ok) r⟩
theorem q_own (C : Cf X N sc fb K mg P w base k) (i : Nat) {n : Str} {x : List τ} (he : env[i]? = some (.own (x.map em)) := by rfl) (hi : N[i]? = some n := by rfl) (hv : visB sc n = true := by decide +kernel)
    (hd : (n == ("__debug__" : Str)) = false := by decide) (hc : (n == ("__classdict__" : Str)) = false := by decide) : XQ X env (.Name n pos) (some x) := by
  cases C
  refine q_of (pe_var hi (visB_ok hv) hd hc) fun W0 W σ E y hy Q q => ?_
  cases hy
  obtain ⟨a, vs, h1, h2, h3, h0, r⟩ := E.own he
  exact ⟨_, h1, q a vs W (Le.refl E.ok) (SqL.of h2) r⟩
theorem q_bor (C : Cf X N sc fb K mg P w base k) (i : Nat) {n : Str} {x : List τ} (he : env[i]? = some (.bor (x.map em)) := by rfl) (hi : N[i]? = some n := by rfl) (hv : visB sc n = true := by decide +kernel)
    (hd : (n == ("__debug__" : Str)) = false := by decide) (hc : (n == ("__classdict__" : Str)) = false := by decide) : XQ X env (.Name n pos) (some x) := by
  cases C
  refine q_of (pe_var hi (visB_ok hv) hd hc) fun W0 W σ E y hy Q q => ?_
  cases hy
  obtain ⟨a, vs, h1, h2, r⟩ := E.bor he
  exact ⟨_, h1, q a vs W (Le.refl E.ok) h2 r⟩
/-- from one kind of list to another -/
theorem q_x {m : Option (List τ)} (h : XE X env e m) : XQ X env e m := q_of h fun W0 W σ E x hx Q q => use_x E hx fun v W' l r => by
  have r : Rp X.K W'.b v (.lst (x.map em)) := r
  cases r with
  | lst h1 h2 => exact q _ _ W' l (l.ok.seq h1) h2
theorem q_l {m : Option (List τ)} (h : XL X env e m) : XQ X env e m := q_of h fun W0 W σ E x hx Q q => use_l E hx fun a vs W' l h0 h1 hb r => q a vs W' l (SqL.of h1) r
theorem x_l {m : Option (List τ)} (h : XL X env e m) : XE X env e m := x_of h fun W0 W σ E x hx Q q => use_l E hx fun a vs W' l h0 h1 hb r => by
  refine q (.ref a) ⟨upd W'.b a (.lst vs), W'.h⟩ (Le.freeze E.ok l h0 h1 hb) ?_
  exact .lst (SqL.of (show upd W'.b a (.lst vs) a = some (.lst vs) from upd_same)) (r.mono (Same.new hb))

/-! ### operators -/
theorem x_bin {op : Operator} {r : R2} {ma : Option α} {mb : Option β} {f : α → β → Option γ} (ho : OpR X (binaryOp op) r) (ha : XE X env a ma) (hb : XE X env b mb)
    (hr : ∀ x y z, f x y = some z → ∀ (W : Wd) (u v : V), Same W.b W.h → Rp X.K W.b u (em x) → Rp X.K W.b v (em y) → ∀ Q : VK, (∀ v W', Le W W' → Rp X.K W'.b v (em z) → Q v W'.h) → r u v W.h Q) :
    XE X env (.BinOp a op b pos) (ma.bind fun x => mb.bind fun y => f x y) := by
  refine x_of (pe_op ho ha hb) fun W0 W σ E z hz Q q => ?_
  obtain ⟨x, hx, hz⟩ := bind_some hz
  obtain ⟨y, hy, hz⟩ := bind_some hz
  refine use_x E hx fun u W1 l1 r1 => ?_
  refine use_x (E.mono l1) hy fun v W2 l2 r2 => ?_
  exact hr x y z hz W2 u v l2.ok (r1.mono l2.b) r2 Q fun v' W3 l3 r3 => q v' W3 (l1.trans (l2.trans l3)) r3
theorem x_cmp {op : CmpOp} {r : R2} {ma : Option α} {mb : Option β} {f : α → β → Option γ} (ho : OpR X (compareOp op) r) (ha : XE X env a ma) (hb : XE X env b mb) (hm : behindInMarks op b = false)
    (hr : ∀ x y z, f x y = some z → ∀ (W : Wd) (u v : V), Same W.b W.h → Rp X.K W.b u (em x) → Rp X.K W.b v (em y) → ∀ Q : VK, (∀ v W', Le W W' → Rp X.K W'.b v (em z) → Q v W'.h) → r u v W.h Q) :
    XE X env (.Compare a [op] [b] pos) (ma.bind fun x => mb.bind fun y => f x y) := by
  refine x_of (pe_cmpR ho ha hb hm) fun W0 W σ E z hz Q q => ?_
  obtain ⟨x, hx, hz⟩ := bind_some hz
  obtain ⟨y, hy, hz⟩ := bind_some hz
  refine use_x E hx fun u W1 l1 r1 => ?_
  refine use_x (E.mono l1) hy fun v W2 l2 r2 => ?_
  exact hr x y z hz W2 u v l2.ok (r1.mono l2.b) r2 Q fun v' W3 l3 r3 => q v' W3 (l1.trans (l2.trans l3)) r3
/-- ints, without a condition -/
theorem x_binI {op : Operator} {g : Int → Int → Int} {ma mb : Option Int} (ho : OpR X (binaryOp op) (rI0 fun i j => .int (g i j))) (ha : XE X env a ma) (hb : XE X env b mb) :
    XE X env (.BinOp a op b pos) (ma.bind fun x => mb.bind fun y => some (g x y)) :=
  x_bin ho ha hb fun x y z hz W u v ok ru rv Q q => by
    cases hz
    cases ru; cases rv
    exact ⟨x, y, rfl, rfl, q _ W (Le.refl ok) (.int _)⟩
theorem x_binIc {op : Operator} {Cn : Int → Int → Prop} {g : Int → Int → Int} {f : Int → Int → Option Int} {ma mb : Option Int} (ho : OpR X (binaryOp op) (rI Cn fun i j => .int (g i j)))
    (hf : ∀ x y z, f x y = some z → Cn x y ∧ g x y = z) (ha : XE X env a ma) (hb : XE X env b mb) :
    XE X env (.BinOp a op b pos) (ma.bind fun x => mb.bind fun y => f x y) :=
  x_bin ho ha hb fun x y z hz W u v ok ru rv Q q => by
    obtain ⟨h1, h2⟩ := hf x y z hz
    subst h2
    cases ru; cases rv
    exact ⟨x, y, rfl, rfl, h1, q _ W (Le.refl ok) (.int _)⟩
theorem x_cmpI {op : CmpOp} {g : Int → Int → Bool} {ma mb : Option Int} (ho : OpR X (compareOp op) (rI0 fun i j => .bl (g i j))) (ha : XE X env a ma) (hb : XE X env b mb) (hm : behindInMarks op b = false) :
    XE X env (.Compare a [op] [b] pos) (ma.bind fun x => mb.bind fun y => some (g x y)) :=
  x_cmp ho ha hb hm fun x y z hz W u v ok ru rv Q q => by
    cases hz
    cases ru; cases rv
    exact ⟨x, y, rfl, rfl, q _ W (Le.refl ok) (.bl _)⟩
end
/-- what the arithmetic of the model carries -/
def mulP (x y : Int) : Option Int := if (-18446744073709551616 < x ∧ x < 18446744073709551616) ∨ (-18446744073709551616 < y ∧ y < 18446744073709551616) then some (x * y) else none
def modP (x y : Int) : Option Int := if y = 0 then none else some (x.fmod y)
def divP (x y : Int) : Option Int := if y = 0 then none else if y.natAbs < 1073741824 then some (x.fdiv y) else none
def powP (x y : Int) : Option Int := if 0 ≤ y ∧ y ≤ 1000000 ∧ x.natAbs < 18446744073709551616 then some (x ^ y.toNat) else none
section
variable {X : Cx} {env : List SV} {e a b c : Expr} {pos : Pos} [Em τ] [Em α] [Em β] [Em γ]
theorem x_add {ma mb : Option Int} (ha : XE X env a ma) (hb : XE X env b mb) : XE X env (.BinOp a .Add b pos) (ma.bind fun x => mb.bind fun y => some (x + y)) := x_binI op_add ha hb
theorem x_sub {ma mb : Option Int} (ha : XE X env a ma) (hb : XE X env b mb) : XE X env (.BinOp a .Sub b pos) (ma.bind fun x => mb.bind fun y => some (x - y)) := x_binI op_sub ha hb
theorem x_mul {ma mb : Option Int} (ha : XE X env a ma) (hb : XE X env b mb) : XE X env (.BinOp a .Mult b pos) (ma.bind fun x => mb.bind fun y => mulP x y) :=
  x_binIc op_mul (fun x y z h => by
    unfold mulP at h
    split at h
    · exact ⟨by unfold CMul; omega, Option.some.inj h⟩
    · cases h) ha hb
theorem x_mod {ma mb : Option Int} (ha : XE X env a ma) (hb : XE X env b mb) : XE X env (.BinOp a .Mod b pos) (ma.bind fun x => mb.bind fun y => modP x y) :=
  x_binIc op_modN (fun x y z h => by
    unfold modP at h
    split at h
    · cases h
    · exact ⟨by assumption, Option.some.inj h⟩) ha hb
theorem x_div {ma mb : Option Int} (ha : XE X env a ma) (hb : XE X env b mb) : XE X env (.BinOp a .FloorDiv b pos) (ma.bind fun x => mb.bind fun y => divP x y) :=
  x_binIc op_fdivN (fun x y z h => by
    unfold divP at h
    split at h
    · cases h
    · split at h
      · exact ⟨⟨by assumption, by assumption⟩, Option.some.inj h⟩
      · cases h) ha hb
theorem x_pow {ma mb : Option Int} (ha : XE X env a ma) (hb : XE X env b mb) : XE X env (.BinOp a .Pow b pos) (ma.bind fun x => mb.bind fun y => powP x y) :=
  x_binIc op_pow (fun x y z h => by
    unfold powP at h
    split at h
    · rename_i q
      exact ⟨⟨q.1, q.2.1, by simpa using q.2.2⟩, Option.some.inj h⟩
    · cases h) ha hb
theorem x_lt {ma mb : Option Int} (ha : XE X env a ma) (hb : XE X env b mb) : XE X env (.Compare a [.Lt] [b] pos) (ma.bind fun x => mb.bind fun y => some (decide (x < y))) := x_cmpI op_lt ha hb (nomark _)
theorem x_le {ma mb : Option Int} (ha : XE X env a ma) (hb : XE X env b mb) : XE X env (.Compare a [.LtE] [b] pos) (ma.bind fun x => mb.bind fun y => some (decide (x ≤ y))) := x_cmpI op_le ha hb (nomark _)
theorem x_gt {ma mb : Option Int} (ha : XE X env a ma) (hb : XE X env b mb) : XE X env (.Compare a [.Gt] [b] pos) (ma.bind fun x => mb.bind fun y => some (decide (y < x))) := x_cmpI op_gt ha hb (nomark _)
theorem x_ge {ma mb : Option Int} (ha : XE X env a ma) (hb : XE X env b mb) : XE X env (.Compare a [.GtE] [b] pos) (ma.bind fun x => mb.bind fun y => some (decide (y ≤ x))) := x_cmpI op_ge ha hb (nomark _)
/-- ==, != of two of one plain kind -/
class Pl (τ : Type) extends Em τ where
  dec : DecidableEq τ
  eq : ∀ {K : PySem.W.Frag} {H : Hp} {x y : τ} {u v : V}, Rp K H u (em x) → Rp K H v (em y) → scal u v = true ∧ (u = v ↔ x = y)
instance : Pl Int := { dec := inferInstance, eq := fun r q => by cases r; cases q; exact ⟨rfl, by simp⟩ }
instance : Pl Bool := { dec := inferInstance, eq := fun r q => by cases r; cases q; exact ⟨rfl, by simp⟩ }
instance : Pl Str := { dec := inferInstance, eq := fun r q => by cases r; cases q; exact ⟨rfl, by simp⟩ }
instance {τ : Type} [Pl τ] : DecidableEq τ := Pl.dec
theorem x_eq {τ : Type} [Pl τ] {ma mb : Option τ} (ha : XE X env a ma) (hb : XE X env b mb) : XE X env (.Compare a [.Eq] [b] pos) (ma.bind fun x => mb.bind fun y => some (decide (x = y))) :=
  x_cmp op_eq ha hb (nomark _) fun x y z hz W u v ok ru rv Q q => by
    cases hz
    obtain ⟨h1, h2⟩ := Pl.eq ru rv
    refine ⟨h1, ?_⟩
    rw [show decide (u = v) = decide (x = y) from decide_eq_decide.mpr h2]
    exact q _ W (Le.refl ok) (.bl _)
theorem x_ne {τ : Type} [Pl τ] {ma mb : Option τ} (ha : XE X env a ma) (hb : XE X env b mb) : XE X env (.Compare a [.NotEq] [b] pos) (ma.bind fun x => mb.bind fun y => some (!decide (x = y))) :=
  x_cmp op_ne ha hb (nomark _) fun x y z hz W u v ok ru rv Q q => by
    cases hz
    obtain ⟨h1, h2⟩ := Pl.eq ru rv
    refine ⟨h1, ?_⟩
    rw [show decide (u = v) = decide (x = y) from decide_eq_decide.mpr h2]
    exact q _ W (Le.refl ok) (.bl _)
/-! ### tests -/
theorem t_x {m : Option Bool} (h : XE X env e m) (he : ∀ whole, isTrue e X.env whole = (do let v ← whole; standAt e.pos; holding [v] (truthy v)) := by intro _; rfl) : XT X env e m :=
  t_of (pt_val h he) fun W0 W σ E x hx Q q => use_x E hx fun v W' l r => by
    cases r
    exact ⟨x, rfl, q W' l⟩
end
end T

set_option Elab.async false
set_option linter.all false
set_option maxRecDepth 100000
set_option maxHeartbeats 4000000
namespace T
open PySem PySem.Spec PyProof.Rows L2
variable {τ α β γ δ : Type}
variable [Tabs]
section
variable {X : Cx} {env : List SV} {e a b c : Expr} {pos : Pos} [Em τ] [Em α] [Em β] [Em γ]
/-! ### and, or, not, if else -/
theorem t_not {m : Option Bool} (h : XT X env a m) : XT X env (.UnaryOp .Not a pos) (m.bind fun x => some (!x)) :=
  t_of (pt_not h) fun W0 W σ E x hx Q q => by
    obtain ⟨y, hy, hx⟩ := bind_some hx
    cases hx
    exact use_t E hy fun W' l => q W' l
theorem x_not {m : Option Bool} (h : XE X env a m) : XE X env (.UnaryOp .Not a pos) (m.bind fun x => some (!x)) :=
  x_of (pe_not h) fun W0 W σ E x hx Q q => by
    obtain ⟨y, hy, hx⟩ := bind_some hx
    cases hx
    exact use_x E hy fun v W' l r => by
      cases r
      exact ⟨y, rfl, q _ W' l (.bl _)⟩
/-- a and b, lazily -/
def andO (x y : Option Bool) : Option Bool := x.bind fun b => if b = true then y else some false
def orO (x y : Option Bool) : Option Bool := x.bind fun b => if b = true then some true else y
abbrev XW (X : Cx) (env : List SV) (e : Expr) (m : Option Bool) : Prop := PW X e (tC' X.K env m)
theorem w_and1 {m : Option Bool} (h : XT X env a m) : XW X env (.BoolOp .And [a] pos) m := pw_and1 h
theorem w_or1 {m : Option Bool} (h : XT X env a m) : XW X env (.BoolOp .Or [a] pos) m := pw_or1 h
theorem w_and {ma mb : Option Bool} {rest : List Expr} (ha : XT X env a ma) (hb : XW X env (.BoolOp .And (b :: rest) pos) mb) : XW X env (.BoolOp .And (a :: b :: rest) pos) (andO ma mb) := by
  refine pwImp (pw_and ha hb) fun σ H Q ⟨W0, W, hH, E, x, hx, q⟩ => ?_
  subst hH
  obtain ⟨y, hy, hx⟩ := bind_some hx
  refine use_t E hy fun W1 l1 => ?_
  cases y with
  | true => exact use_t (E.mono l1) (by simpa using hx) fun W2 l2 => q W2 (l1.trans l2)
  | false =>
    have e : false = x := Option.some.inj (by simpa using hx)
    subst e
    exact q W1 l1
theorem w_or {ma mb : Option Bool} {rest : List Expr} (ha : XT X env a ma) (hb : XW X env (.BoolOp .Or (b :: rest) pos) mb) : XW X env (.BoolOp .Or (a :: b :: rest) pos) (orO ma mb) := by
  refine pwImp (pw_or ha hb) fun σ H Q ⟨W0, W, hH, E, x, hx, q⟩ => ?_
  subst hH
  obtain ⟨y, hy, hx⟩ := bind_some hx
  refine use_t E hy fun W1 l1 => ?_
  cases y with
  | false => exact use_t (E.mono l1) (by simpa using hx) fun W2 l2 => q W2 (l1.trans l2)
  | true =>
    have e : true = x := Option.some.inj (by simpa using hx)
    subst e
    exact q W1 l1
theorem t_w {m : Option Bool} (h : XW X env e m) : XT X env e m := h.pt
theorem x_one {op : BoolOp} {m : Option Bool} (h : XE X env a m) : XE X env (.BoolOp op [a] pos) m := pe_one h
theorem x_and {ma mb : Option Bool} {rest : List Expr} (ha : XE X env a ma) (hb : XE X env (.BoolOp .And (b :: rest) pos) mb) : XE X env (.BoolOp .And (a :: b :: rest) pos) (andO ma mb) := by
  refine x_of (pe_and ha hb) fun W0 W σ E x hx Q q => ?_
  obtain ⟨y, hy, hx⟩ := bind_some hx
  refine use_x E hy fun v W1 l1 r => ?_
  cases r
  refine ⟨y, rfl, ?_⟩
  cases y with
  | true => exact use_x (E.mono l1) (by simpa using hx) fun v W2 l2 r2 => q v W2 (l1.trans l2) r2
  | false =>
    have e : false = x := Option.some.inj (by simpa using hx)
    subst e
    exact q _ W1 l1 (.bl _)
theorem x_or {ma mb : Option Bool} {rest : List Expr} (ha : XE X env a ma) (hb : XE X env (.BoolOp .Or (b :: rest) pos) mb) : XE X env (.BoolOp .Or (a :: b :: rest) pos) (orO ma mb) := by
  refine x_of (pe_or ha hb) fun W0 W σ E x hx Q q => ?_
  obtain ⟨y, hy, hx⟩ := bind_some hx
  refine use_x E hy fun v W1 l1 r => ?_
  cases r
  refine ⟨y, rfl, ?_⟩
  cases y with
  | false => exact use_x (E.mono l1) (by simpa using hx) fun v W2 l2 r2 => q v W2 (l1.trans l2) r2
  | true =>
    have e : true = x := Option.some.inj (by simpa using hx)
    subst e
    exact q _ W1 l1 (.bl _)
theorem x_if {mc : Option Bool} {ma mb : Option τ} (hc : XT X env c mc) (ha : XE X env a ma) (hb : XE X env b mb) : XE X env (.IfExp c a b pos) (mc.bind fun x => if x = true then ma else mb) := by
  refine x_of (pe_ifExp hc ha hb) fun W0 W σ E x hx Q q => ?_
  obtain ⟨y, hy, hx⟩ := bind_some hx
  refine use_t E hy fun W1 l1 => ?_
  cases y with
  | true => exact use_x (E.mono l1) (by simpa using hx) fun v W2 l2 r2 => q v W2 (l1.trans l2) r2
  | false => exact use_x (E.mono l1) (by simpa using hx) fun v W2 l2 r2 => q v W2 (l1.trans l2) r2
/-! ### arguments, displays -/
theorem a_nil : XA X env [] (some ()) (fun _ => []) := paImp pa_nil fun σ H Q ⟨W0, W, hH, E, x, hx, q⟩ => by
  subst hH
  exact q [] W (Le.refl E.ok) .nil
theorem a_dat {es : List Expr} {m : Option τ} {ms : Option δ} {svs : δ → List SV} (h : XE X env e m) (hs : XA X env es ms svs) (hst : starEach (e :: es) X.env = (false, eval e X.env) :: starEach es X.env := by rfl) :
    XA X env (e :: es) (m.bind fun x => ms.bind fun y => some (x, y)) (fun p => .dat (em p.1) :: svs p.2) := by
  refine paImp (pa_cons h hs hst) fun σ H Q ⟨W0, W, hH, E, z, hz, q⟩ => ?_
  subst hH
  obtain ⟨x, hx, hz⟩ := bind_some hz
  obtain ⟨y, hy, hz⟩ := bind_some hz
  cases hz
  refine use_x E hx fun v W1 l1 r1 => ?_
  refine use_a (E.mono l1) hy fun vs W2 l2 r2 => ?_
  exact q _ W2 (l1.trans l2) (.dat (r1.mono l2.b) r2)
theorem a_bor {es : List Expr} {m : Option (List τ)} {ms : Option δ} {svs : δ → List SV} (h : XQ X env e m) (hs : XA X env es ms svs) (hst : starEach (e :: es) X.env = (false, eval e X.env) :: starEach es X.env := by rfl) :
    XA X env (e :: es) (m.bind fun x => ms.bind fun y => some (x, y)) (fun p => .bor (p.1.map em) :: svs p.2) := by
  refine paImp (pa_cons h hs hst) fun σ H Q ⟨W0, W, hH, E, z, hz, q⟩ => ?_
  subst hH
  obtain ⟨x, hx, hz⟩ := bind_some hz
  obtain ⟨y, hy, hz⟩ := bind_some hz
  cases hz
  refine use_q E hx fun a vs W1 l1 s1 r1 => ?_
  refine use_a (E.mono l1) hy fun us W2 l2 r2 => ?_
  exact q _ W2 (l1.trans l2) (.bor (l2.h.seq s1) (r1.mono l2.b) r2)
/-- items of one type, as data -/
abbrev XI [Em τ] (X : Cx) (env : List SV) (es : List Expr) (m : Option (List τ)) : Prop := PA X es (tA X.K env m fun xs => xs.map fun x => SV.dat (em x))
theorem i_nil : XI (τ := τ) X env [] (some []) := paImp pa_nil fun σ H Q ⟨W0, W, hH, E, x, hx, q⟩ => by
  subst hH
  cases hx
  exact q [] W (Le.refl E.ok) .nil
theorem i_cons {es : List Expr} {m : Option τ} {ms : Option (List τ)} (h : XE X env e m) (hs : XI X env es ms) (hst : starEach (e :: es) X.env = (false, eval e X.env) :: starEach es X.env := by rfl) :
    XI X env (e :: es) (m.bind fun x => ms.bind fun y => some (x :: y)) := by
  refine paImp (pa_cons h hs hst) fun σ H Q ⟨W0, W, hH, E, z, hz, q⟩ => ?_
  subst hH
  obtain ⟨x, hx, hz⟩ := bind_some hz
  obtain ⟨y, hy, hz⟩ := bind_some hz
  cases hz
  refine use_x E hx fun v W1 l1 r1 => ?_
  refine use_a (E.mono l1) hy fun vs W2 l2 r2 => ?_
  exact q _ W2 (l1.trans l2) (.dat (r1.mono l2.b) r2)
theorem Args.items {K : PySem.W.Frag} {W : Wd} : ∀ {vs : List V} {xs : List τ}, Args K W vs (xs.map fun x => SV.dat (em x)) → RpA K W.b vs (xs.map em)
  | _, [], .nil => .nil
  | _, _ :: _, .dat r t => .cons r (Args.items t)
theorem Args.dats {K : PySem.W.Frag} {W : Wd} : ∀ {vs : List V} {ds : List D}, Args K W vs (ds.map SV.dat) → RpA K W.b vs ds
  | _, [], .nil => .nil
  | _, _ :: _, .dat r t => .cons r (Args.dats t)
theorem Args.length {K : PySem.W.Frag} {W : Wd} : ∀ {vs : List V} {svs : List SV}, Args K W vs svs → vs.length = svs.length
  | _, _, .nil => rfl
  | _, _, .dat _ t => by rw [List.length_cons, List.length_cons, Args.length t]
  | _, _, .bor _ _ t => by rw [List.length_cons, List.length_cons, Args.length t]
def sz (n : Nat) : Prop := n < 16777216
instance (n : Nat) : Decidable (sz n) := inferInstanceAs (Decidable (n < 16777216))
theorem sz_line {n : Nat} (h : sz n) : n < sizeLine := by rw [sizeLine_eq]; exact h
def lstP (xs : List τ) : Option (List τ) := if sz xs.length then some xs else none
theorem lstP_some {xs ys : List τ} (h : lstP xs = some ys) : ys = xs ∧ sz xs.length := by
  unfold lstP at h
  split at h
  · exact ⟨(Option.some.inj h).symm, by assumption⟩
  · cases h
/-- [a, b, ..] -/
theorem l_lst {es : List Expr} {m : Option (List τ)} (h : XI X env es m) (hl : es.length < 16777216 := by decide) : XL X env (.List es pos) (m.bind lstP) := by
  refine l_of (pe_lst h) fun W0 W σ E x hx Q q => ?_
  obtain ⟨y, hy, hx⟩ := bind_some hx
  obtain ⟨rfl, hz⟩ := lstP_some hx
  refine use_a E hy fun vs W1 l1 r1 => ?_
  have r := r1.items
  refine ⟨by have := r.length; rw [List.length_map] at this; exact Nat.le_of_lt (by rw [this]; exact sz_line hz), fun p hp => ?_⟩
  exact q p vs ⟨W1.b, upd W1.h p (.lst vs)⟩ (l1.trans (Le.layM l1.ok hp)) (l1.h.free hp) upd_same (l1.ok.free hp) r
theorem l_nil : XL (τ := τ) X env (.List [] pos) (some []) := by
  refine l_of (pe_lst pa_nil) fun W0 W σ E x hx Q q => ?_
  cases hx
  refine ⟨by rw [sizeLine_eq]; decide, fun p hp => ?_⟩
  exact q p [] ⟨W.b, upd W.h p (.lst [])⟩ (Le.layM E.ok hp) hp upd_same (E.ok.free hp) .nil
/-- a written display of at least one item -/
theorem l_lst1 {es : List Expr} {m : Option (List τ)} (h : XI X env es m) (hm : ∀ x, m = some x → x.length < 16777216) : XL X env (.List es pos) m := by
  refine l_of (pe_lst h) fun W0 W σ E x hx Q q => ?_
  refine use_a E hx fun vs W1 l1 r1 => ?_
  have r := r1.items
  refine ⟨by have := r.length; rw [List.length_map] at this; exact Nat.le_of_lt (by rw [this]; exact sz_line (hm x hx)), fun p hp => ?_⟩
  exact q p vs ⟨W1.b, upd W1.h p (.lst vs)⟩ (l1.trans (Le.layM l1.ok hp)) (l1.h.free hp) upd_same (l1.ok.free hp) r
/-- (a, b, ..): items by their own types -/
theorem x_tupA {es : List Expr} {x1 : Nat} {m : Option δ} {ds : δ → List D} {f : δ → τ} (h : XA X env es m (fun d => (ds d).map SV.dat)) (hf : ∀ d, em (f d) = .tup (ds d)) (hl : ∀ d, (ds d).length < 16777216) :
    XE X env (.Tuple es x1 pos) (m.bind fun d => some (f d)) := by
  refine x_of (pe_tup h) fun W0 W σ E x hx Q q => ?_
  obtain ⟨y, hy, hx⟩ := bind_some hx
  cases hx
  refine use_a E hy fun vs W1 l1 r1 => ?_
  have r : RpA X.K W1.b vs (ds y) := by
    exact Args.dats r1
  refine ⟨by rw [r.length]; exact Nat.le_of_lt (sz_line (hl y)), fun p hp => ?_⟩
  refine q (.ref p) _ (l1.trans (Le.lay l1.ok (o := .tup vs) hp)) ?_
  rw [hf]
  exact .tup (SqT.of upd_same) (r.mono (Same.new (l1.ok.free hp)))
theorem x_tup2 {x1 : Nat} {ma : Option α} {mb : Option β} (ha : XE X env a ma) (hb : XE X env b mb) (h1 : starEach [a, b] X.env = (false, eval a X.env) :: starEach [b] X.env := by rfl) (h2 : starEach [b] X.env = (false, eval b X.env) :: starEach [] X.env := by rfl) :
    XE X env (.Tuple [a, b] x1 pos) (ma.bind fun x => mb.bind fun y => some (x, y)) := by
  refine (x_tupA (f := fun p : α × β × Unit => (p.1, p.2.1)) (ds := fun p => [em p.1, em p.2.1]) (a_dat ha (a_dat hb a_nil h2) h1) (fun _ => rfl) (fun _ => (by decide : 2 < 16777216))).is ?_
  cases ma with
  | none => rfl
  | some x => cases mb <;> rfl
theorem x_tup3 {x1 : Nat} {ma : Option α} {mb : Option β} {mc : Option γ} (ha : XE X env a ma) (hb : XE X env b mb) (hc : XE X env c mc) (h1 : starEach [a, b, c] X.env = (false, eval a X.env) :: starEach [b, c] X.env := by rfl) (h2 : starEach [b, c] X.env = (false, eval b X.env) :: starEach [c] X.env := by rfl)
    (h3 : starEach [c] X.env = (false, eval c X.env) :: starEach [] X.env := by rfl) :
    XE X env (.Tuple [a, b, c] x1 pos) (ma.bind fun x => mb.bind fun y => mc.bind fun z => some (⟨x, y, z⟩ : T3 α β γ)) := by
  refine (x_tupA (f := fun p : α × β × γ × Unit => (⟨p.1, p.2.1, p.2.2.1⟩ : T3 α β γ)) (ds := fun p => [em p.1, em p.2.1, em p.2.2.1]) (a_dat ha (a_dat hb (a_dat hc a_nil h3) h2) h1) (fun _ => rfl) (fun _ => (by decide : 3 < 16777216))).is ?_
  cases ma with
  | none => rfl
  | some x =>
    cases mb with
    | none => rfl
    | some y => cases mc <;> rfl
/-- a tuple of items of one type -/
theorem x_tupV {es : List Expr} {x1 : Nat} {m : Option (List τ)} (h : XI X env es m) (hm : ∀ x, m = some x → x.length < 16777216) : XE X env (.Tuple es x1 pos) (m.bind fun d => some (⟨d⟩ : Vt τ)) := by
  refine x_of (pe_tup h) fun W0 W σ E x hx Q q => ?_
  obtain ⟨y, hy, hx⟩ := bind_some hx
  cases hx
  refine use_a E hy fun vs W1 l1 r1 => ?_
  have r := r1.items
  refine ⟨by have := r.length; rw [List.length_map] at this; exact Nat.le_of_lt (by rw [this]; exact sz_line (hm y hy)), fun p hp => ?_⟩
  refine q (.ref p) _ (l1.trans (Le.lay l1.ok (o := .tup vs) hp)) ?_
  exact .tup (SqT.of upd_same) (r.mono (Same.new (l1.ok.free hp)))

/-! ### items, lengths -/
theorem atI_rp {K : PySem.W.Frag} {H : Hp} {vs : List V} {ds : List D} {i : Int} {d : D} (r : RpA K H vs ds) (h : atI ds i = some d) : ∃ v, atI vs i = some v ∧ Rp K H v d := by
  unfold atI at h ⊢
  rw [r.length]
  obtain ⟨j, h1, h2⟩ := bind_some h
  obtain ⟨v, h3, h4⟩ := r.get h2
  exact ⟨v, by rw [h1]; exact h3, h4⟩
theorem atI_map {f : α → β} {xs : List α} {i : Int} {x : α} (h : atI xs i = some x) : atI (xs.map f) i = some (f x) := by
  unfold atI at h ⊢
  rw [List.length_map]
  obtain ⟨j, h1, h2⟩ := bind_some h
  rw [h1]
  show (xs.map f)[j]? = some (f x)
  rw [List.getElem?_map, h2]
  rfl
theorem x_ixQ {ma : Option (List τ)} {mi : Option Int} (ha : XQ X env a ma) (hi : XE X env b mi) (hs : PlainIx b := by exact fun _ _ => rfl) : XE X env (.Subscript a b pos) (ma.bind fun xs => mi.bind fun i => atI xs i) := by
  refine x_of (pe_ix ix_list ha hi hs) fun W0 W σ E z hz Q q => ?_
  obtain ⟨x, hx, hz⟩ := bind_some hz
  obtain ⟨y, hy, hz⟩ := bind_some hz
  refine use_q E hx fun p vs W1 l1 s1 r1 => ?_
  refine use_x (E.mono l1) hy fun v W2 l2 r2 => ?_
  cases r2
  obtain ⟨u, h1, h2⟩ := atI_rp r1 (atI_map (f := em) hz)
  exact ⟨p, vs, y, u, rfl, rfl, l2.h.seq s1, h1, q u W2 (l1.trans l2) (h2.mono l2.b)⟩
theorem x_ixV {ma : Option (Vt τ)} {mi : Option Int} (ha : XE X env a ma) (hi : XE X env b mi) (hs : PlainIx b := by exact fun _ _ => rfl) : XE X env (.Subscript a b pos) (ma.bind fun xs => mi.bind fun i => atI xs.l i) := by
  refine x_of (pe_ix ix_tup ha hi hs) fun W0 W σ E z hz Q q => ?_
  obtain ⟨x, hx, hz⟩ := bind_some hz
  obtain ⟨y, hy, hz⟩ := bind_some hz
  refine use_x E hx fun p W1 l1 r1 => ?_
  refine use_x (E.mono l1) hy fun v W2 l2 r2 => ?_
  cases r2
  have r1 : Rp X.K W1.b p (.tup (x.l.map em)) := r1
  cases r1 with
  | tup s1 r1 =>
    obtain ⟨u, h1, h2⟩ := atI_rp r1 (atI_map (f := em) hz)
    exact ⟨_, _, y, u, rfl, rfl, same_t (l2.b.trans l2.ok) s1, h1, q u W2 (l1.trans l2) (h2.mono l2.b)⟩
/-- an item of a tuple of known length: i its place, g what it is -/
theorem x_ixT {ma : Option α} {i : Int} {j : Nat} {p : Pos} {g : α → γ} (ha : XE X env a ma) (hd : ∀ x : α, ∃ ds, em x = .tup ds ∧ atI ds i = some (em (g x))) :
    XE X env (.Subscript a (.Constant (.int i) j p) pos) (ma.bind fun x => some (g x)) := by
  refine x_of (pe_ix ix_tup ha (x_int (env := env)) (fun _ _ => rfl)) fun W0 W σ E z hz Q q => ?_
  obtain ⟨x, hx, hz⟩ := bind_some hz
  cases hz
  refine use_x E hx fun p W1 l1 r1 => ?_
  refine use_x (E.mono l1) rfl fun v W2 l2 r2 => ?_
  cases r2
  obtain ⟨ds, e1, e2⟩ := hd x
  rw [e1] at r1
  cases r1 with
  | tup s1 r1 =>
    obtain ⟨u, h1, h2⟩ := atI_rp r1 e2
    exact ⟨_, _, i, u, rfl, rfl, same_t (l2.b.trans l2.ok) s1, h1, q u W2 (l1.trans l2) (h2.mono l2.b)⟩
def strAt (s : Str) (i : Int) : Option Str := if sz s.length then (atI s.cps.toList i).map fun c => ⟨#[c]⟩ else none
theorem x_ixS {ma : Option Str} {mi : Option Int} (ha : XE X env a ma) (hi : XE X env b mi) (hs : PlainIx b := by exact fun _ _ => rfl) : XE X env (.Subscript a b pos) (ma.bind fun xs => mi.bind fun i => strAt xs i) := by
  refine x_of (pe_ix ix_str ha hi hs) fun W0 W σ E z hz Q q => ?_
  obtain ⟨x, hx, hz⟩ := bind_some hz
  obtain ⟨y, hy, hz⟩ := bind_some hz
  refine use_x E hx fun p W1 l1 r1 => ?_
  refine use_x (E.mono l1) hy fun v W2 l2 r2 => ?_
  cases r1; cases r2
  unfold strAt at hz
  split at hz
  · rename_i hl
    cases hc : atI x.cps.toList y with
    | none => rw [hc] at hz; cases hz
    | some cc =>
      rw [hc] at hz
      cases hz
      exact ⟨x, y, cc, rfl, rfl, Nat.le_of_lt (sz_line hl), hc, q _ W2 (l1.trans l2) (.str _)⟩
  · cases hz
end
section
variable {X : Cx} {env : List SV} {e a b c : Expr} {es : List Expr} {pos p : Pos} [Em τ] [Em α] [Em β] [Em γ] {N : List Str} {sc : Scope} {fb : Str → Bool} {K : PySem.W.Frag} {mg : Str → Option Value} {P : Program} {w : World} {base : Heap} {k : Nat}
/-! ### built-ins by name -/
theorem x_cB {x : Str} {id : String} {r : List V → Hp → VK → Prop} {m : Option δ} {svs : δ → List SV} {f : δ → Option τ} (C : Cf X N sc fb K mg P w base k) (hc : CallR X (.builtin id) r) (ha : XA X env (e :: es) m svs)
    (hr : ∀ d y, f d = some y → ∀ (W : Wd) (vs : List V), Same W.b W.h → Args X.K W vs (svs d) → ∀ Q : VK, (∀ v W', Le W W' → Rp X.K W'.b v (em y) → Q v W'.h) → r vs W.h Q)
    (hm : mg x = none) (hv : bootBuiltins x = some (.builtin id) := by decide +kernel) (hg : glbB sc x = true := by decide +kernel) (hn : x ≠ "__name__" := by decide) (hdb : (x == ("__debug__" : Str)) = false := by decide)
    (he : starEach (e :: es) X.env = (false, eval e X.env) :: starEach es X.env := by rfl) (hpl : (backTo pos (starEach es X.env)).any (·.1) = false := by rfl) : XE X env (.Call (.Name x p) (e :: es) [] pos) (m.bind f) := by
  cases C
  refine x_of (pe_callB hc (glbB_ok hg) hm hv ha hn hdb he hpl) fun W0 W σ E z hz Q q => ?_
  obtain ⟨d, hd, hz⟩ := bind_some hz
  refine use_a E hd fun vs W1 l1 r1 => ?_
  exact hr d z hz W1 vs l1.ok r1 Q fun v W2 l2 r2 => q v W2 (l1.trans l2) r2
theorem x_cT {x : Str} {id : String} {r : List V → Hp → VK → Prop} {m : Option δ} {svs : δ → List SV} {f : δ → Option τ} (C : Cf X N sc fb K mg P w base k) (hc : CallR X (.type id) r) (ha : XA X env (e :: es) m svs)
    (hr : ∀ d y, f d = some y → ∀ (W : Wd) (vs : List V), Same W.b W.h → Args X.K W vs (svs d) → ∀ Q : VK, (∀ v W', Le W W' → Rp X.K W'.b v (em y) → Q v W'.h) → r vs W.h Q)
    (hm : mg x = none) (hv : bootBuiltins x = some (.type id) := by decide +kernel) (hg : glbB sc x = true := by decide +kernel) (hn : x ≠ "__name__" := by decide) (hdb : (x == ("__debug__" : Str)) = false := by decide)
    (he : starEach (e :: es) X.env = (false, eval e X.env) :: starEach es X.env := by rfl) (hpl : (backTo pos (starEach es X.env)).any (·.1) = false := by rfl) : XE X env (.Call (.Name x p) (e :: es) [] pos) (m.bind f) := by
  cases C
  refine x_of (pe_callTy hc (glbB_ok hg) hm hv ha hn hdb he hpl) fun W0 W σ E z hz Q q => ?_
  obtain ⟨d, hd, hz⟩ := bind_some hz
  refine use_a E hd fun vs W1 l1 r1 => ?_
  exact hr d z hz W1 vs l1.ok r1 Q fun v W2 l2 r2 => q v W2 (l1.trans l2) r2
end
end T

set_option Elab.async false
set_option linter.all false
set_option maxRecDepth 100000
set_option maxHeartbeats 4000000
namespace T
open PySem PySem.Spec PyProof.Rows L2
variable {τ α β γ δ ρ B S ι : Type}
variable [Tabs]
/-! ### results, ends of a block -/
inductive RV where
  | dat (d : D)
  | own (ds : List D)
def ResR (K : PySem.W.Frag) (W0 W : Wd) (v : V) : RV → Prop
  | .dat d => Rp K W.b v d
  | .own ds => ∃ a vs, v = .ref a ∧ W.h a = some (.lst vs) ∧ W.b a = none ∧ W0.h a = none ∧ RpA K W.b vs ds
inductive Fl (ρ B S : Type) where
  | nx (s : S)
  | rt (r : ρ)
  | bk (b : B)
  | ct (b : B)
def tG (K : PySem.W.Frag) (env : List SV) (m : Option α) (Z : α → Wd → Hp → Ends → Prop) : TS := fun D σ H =>
  ∃ (W0 W : Wd) (B : Hp), W.h = H ∧ EnvR K W0 W env σ ∧ Same B W.b ∧ ∃ r, m = some r ∧ Z r W0 B D
/-- what must follow: the block's end with the state s | a return | .. -/
def ZN (K : PySem.W.Frag) (envJ : S → List SV) : S → Wd → Hp → Ends → Prop := fun s W0 B D => ∀ W' σ', Same B W'.b → EnvR K W0 W' (envJ s) σ' → D.nx σ' W'.h
def ZR (K : PySem.W.Frag) (res : ρ → RV) : ρ → Wd → Hp → Ends → Prop := fun r W0 _ D => ∀ v W', Le W0 W' → ResR K W0 W' v (res r) → D.rt v W'.h
/-- a def's whole body: the end without a return hands back None -/
def ZRn (K : PySem.W.Frag) (res : ρ → RV) : ρ → Wd → Hp → Ends → Prop := fun r W0 _ D => (∀ v W', Le W0 W' → ResR K W0 W' v (res r) → D.rt v W'.h) ∧ ∀ σ W', Le W0 W' → ResR K W0 W' .non (res r) → D.nx σ W'.h
def ZF (K : PySem.W.Frag) (res : ρ → RV) (envB : B → List SV) (envJ : S → List SV) : Fl ρ B S → Wd → Hp → Ends → Prop := fun f W0 B' D => match f with
  | .nx s => ∀ W' σ', Same B' W'.b → EnvR K W0 W' (envJ s) σ' → D.nx σ' W'.h
  | .rt r => ∀ v W', Le W0 W' → ResR K W0 W' v (res r) → D.rt v W'.h
  | .bk b => ∀ W' σ', Same B' W'.b → EnvR K W0 W' (envB b) σ' → D.bk σ' W'.h
  | .ct b => ∀ W' σ', Same B' W'.b → EnvR K W0 W' (envB b) σ' → D.ct σ' W'.h
/-- an early end: φ r is an end for Z where r is one for Z', whatever follows the block -/
def Early (φ : α → β) (Z' : α → Wd → Hp → Ends → Prop) (Z : β → Wd → Hp → Ends → Prop) : Prop := ∀ r W0 B D u, Z (φ r) W0 B D → Z' r W0 B { D with nx := u }
theorem early_r {K : PySem.W.Frag} {res : ρ → RV} : Early id (ZR K res) (ZR K res) := fun _ _ _ _ _ h => h
theorem early_rn {K : PySem.W.Frag} {res : ρ → RV} : Early id (ZR K res) (ZRn K res) := fun _ _ _ _ _ h => h.1
theorem early_rf {K : PySem.W.Frag} {res : ρ → RV} {envB : B → List SV} {envJ : S → List SV} : Early Fl.rt (ZR K res) (ZF K res envB envJ) := fun _ _ _ _ _ h => h
/-- break, continue -/
def ZB (K : PySem.W.Frag) (envB : B → List SV) : B → Wd → Hp → Ends → Prop := fun b W0 B' D => ∀ W' σ', Same B' W'.b → EnvR K W0 W' (envB b) σ' → D.bk σ' W'.h
def ZC (K : PySem.W.Frag) (envB : B → List SV) : B → Wd → Hp → Ends → Prop := fun b W0 B' D => ∀ W' σ', Same B' W'.b → EnvR K W0 W' (envB b) σ' → D.ct σ' W'.h
theorem early_bf {K : PySem.W.Frag} {res : ρ → RV} {envB : B → List SV} {envJ : S → List SV} : Early Fl.bk (ZB K envB) (ZF K res envB envJ) := fun _ _ _ _ _ h => h
theorem early_cf {K : PySem.W.Frag} {res : ρ → RV} {envB : B → List SV} {envJ : S → List SV} : Early Fl.ct (ZC K envB) (ZF K res envB envJ) := fun _ _ _ _ _ h => h
section
variable {X : Cx} {env env' : List SV} {e a b c : Expr} {st : Stmt} {rest : List Stmt} {pos p : Pos} [Em τ] [Em α] [Em β] [Em γ] {N : List Str} {sc : Scope} {fb : Str → Bool} {K : PySem.W.Frag} {mg : Str → Option Value} {P : Program} {w : World} {base : Heap} {k : Nat}
variable {Z : ρ → Wd → Hp → Ends → Prop}
abbrev GS (X : Cx) (env : List SV) (sts : List Stmt) (m : Option ρ) (Z : ρ → Wd → Hp → Ends → Prop) : Prop := PSs X sts (tG X.K env m Z)
theorem g_is {sts : List Stmt} {m m' : Option ρ} (h : GS X env sts m Z) (q : m = m' := by rfl) : GS X env sts m' Z := q ▸ h
theorem g_env {sts : List Stmt} {m : Option ρ} (h : GS X env' sts m Z) (q : EnvLe env env') : GS X env sts m Z := pssImp h fun D σ H ⟨W0, W, B, hH, E, sb, r, hr, z⟩ => ⟨W0, W, B, hH, E.weak q, sb, r, hr, z⟩
/-- a statement, then the rest -/
theorem g_of {t : TS} {u : ι → TS} {m : Option ρ} (h1 : PS X st t) (h2 : ∀ i, PSs X rest (u i))
    (kk : ∀ (W0 W : Wd) (B : Hp) (σ : St) (D : Ends) (r : ρ), EnvR X.K W0 W env σ → Same B W.b → m = some r → Z r W0 B D → t { D with nx := fun σ' H' => ∃ i, u i D σ' H' } σ W.h) : GS X env (st :: rest) m Z := by
  refine pssImp (pss_cons h1 (pssEx h2)) fun D σ H ⟨W0, W, B, hH, E, sb, r, hr, z⟩ => ?_
  subst hH
  exact kk W0 W B σ D r E sb hr z
theorem use_g {W0 W : Wd} {B : Hp} {σ : St} {m : Option ρ} {r : ρ} {D : Ends} (E : EnvR K W0 W env σ) (sb : Same B W.b) (h : m = some r) (z : Z r W0 B D) : tG K env m Z D σ W.h := ⟨W0, W, B, rfl, E, sb, r, h, z⟩

/-! ### assignments -/
theorem g_set (C : Cf X N sc fb K mg P w base k) (i : Nat) {n : Str} {p' : Pos} {me : Option τ} {f : τ → Option ρ} (he : XE X env e me) (hr : ∀ x, GS X (env.set i (.dat (em x))) rest (f x) Z)
    (hi : N[i]? = some n := by rfl) (hl : locB sc fb n = true := by decide +kernel) (hs : ∀ E : Env, swapsWith e (some (.Name n p')) pos.line E = pure false := by intro _; rfl) :
    GS X env (.Assign [.Name n p'] e pos :: rest) (me.bind f) Z := by
  cases C with
  | mk nd calm po rm =>
    refine g_of (ps_set nd hi (locB_ok hl) he (hs _) (locB_fn hl)) hr fun W0 W B σ D r E sb hm z => ?_
    · obtain ⟨x, hx, hm⟩ := bind_some hm
      exact use_x E hx fun v W1 l1 r1 => ⟨x, use_g ((E.mono l1).putD r1) (sb.trans l1.b) hm z⟩
theorem g_setL (C : Cf X N sc fb K mg P w base k) (i : Nat) {n : Str} {p' : Pos} {me : Option (List τ)} {f : List τ → Option ρ} (he : XL X env e me) (hr : ∀ x, GS X (env.set i (.own (x.map em))) rest (f x) Z)
    (hi : N[i]? = some n := by rfl) (hl : locB sc fb n = true := by decide +kernel) (hs : ∀ E : Env, swapsWith e (some (.Name n p')) pos.line E = pure false := by intro _; rfl) :
    GS X env (.Assign [.Name n p'] e pos :: rest) (me.bind f) Z := by
  cases C with
  | mk nd calm po rm =>
    refine g_of (ps_set nd hi (locB_ok hl) he (hs _) (locB_fn hl)) hr fun W0 W B σ D r E sb hm z => ?_
    · obtain ⟨x, hx, hm⟩ := bind_some hm
      exact use_l E hx fun a vs W1 l1 h0 h1 hb r1 => ⟨x, use_g (E.putL l1 h0 h1 hb r1) (sb.trans l1.b) hm z⟩
/-- y = x, x an owned list that is not asked any more -/
theorem g_move (C : Cf X N sc fb K mg P w base k) (i j : Nat) {n n' : Str} {p' p2 : Pos} {ds : List D} {m : Option ρ} (hj : env[j]? = some (.own ds) := by rfl) (hr : GS X ((env.set j .any).set i (.own ds)) rest m Z)
    (hi : N[i]? = some n := by rfl) (hl : locB sc fb n = true := by decide +kernel) (hi' : N[j]? = some n' := by rfl) (hv : visB sc n' = true := by decide +kernel)
    (hd : (n' == ("__debug__" : Str)) = false := by decide) (hc : (n' == ("__classdict__" : Str)) = false := by decide) :
    GS X env (.Assign [.Name n p'] (.Name n' p2) pos :: rest) m Z := by
  cases C with
  | mk nd calm po rm =>
    refine g_of (ι := Unit) (ps_set nd hi (locB_ok hl) (pe_var hi' (visB_ok hv) hd hc) rfl (locB_fn hl)) (fun _ => hr) fun W0 W B σ D r E sb hm z => ?_
    · obtain ⟨a, vs, h1, h2, h3, h0, r1⟩ := E.own hj
      refine ⟨_, h1, (), ?_⟩
      have E1 : EnvR X.K W0 W (env.set j .any) σ := by
        refine ⟨E.le, by rw [List.length_set]; exact E.len, fun x sv ex => ?_, fun x y dx dy n ex ey => ?_, E.tbl⟩
        · rcases set_get ex with ⟨rfl, hlt, rfl⟩ | ⟨_, ex⟩
          · exact ⟨_, h1, trivial⟩
          · exact E.slot x sv ex
        · rcases set_get ex with ⟨_, _, q⟩ | ⟨_, ex⟩
          · cases q
          · rcases set_get ey with ⟨_, _, q⟩ | ⟨_, ey⟩
            · cases q
            · exact E.apart x y dx dy n ex ey
      refine use_g (E1.put (sv := .own ds) ⟨a, vs, rfl, h2, h3, h0, r1⟩ fun es _ x dx nx ex zz => ?_) sb hm z
      rcases set_get ex with ⟨_, _, q⟩ | ⟨nj, ex⟩
      · cases q
      · exact E.apart x j dx ds nj ex hj (zz.trans h1.symm)
/-- an expression as a statement -/
theorem g_drop {me : Option τ} {f : τ → Option ρ} (he : XE X env e me) (hr : ∀ x, GS X env rest (f x) Z) (hs : ∀ E : Env, swapsWith e none pos.line E = pure false := by intro _; rfl) : GS X env (.Expr e pos :: rest) (me.bind f) Z :=
  g_of (ps_expr he (hs _)) hr fun W0 W B σ D r E sb hm z => by
    obtain ⟨x, hx, hm⟩ := bind_some hm
    exact use_x E hx fun v W1 l1 r1 => ⟨x, use_g (E.mono l1) (sb.trans l1.b) hm z⟩
theorem g_pass {m : Option ρ} (hr : GS X env rest m Z) : GS X env (.Pass pos :: rest) m Z :=
  g_of (ι := Unit) ps_pass (fun _ => hr) fun W0 W B σ D r E sb hm z => ⟨(), use_g E sb hm z⟩
/-! ### lists that change -/
def appP (xs : List τ) (x : τ) : Option (List τ) := if sz xs.length then some (xs ++ [x]) else none
theorem appP_some {xs ys : List τ} {x : τ} (h : appP xs x = some ys) : ys = xs ++ [x] ∧ sz xs.length := by
  unfold appP at h
  split at h
  · exact ⟨(Option.some.inj h).symm, by assumption⟩
  · cases h

/-- xs.append(e) -/
theorem g_append (C : Cf X N sc fb K mg P w base k) (i : Nat) {n : Str} {p1 apos p3 : Pos} {xs : List τ} {me : Option τ} {f : List τ → Option ρ} (he : XE X env e me) (hr : ∀ ys : List τ, GS X (env.set i (.own (ys.map em))) rest (f ys) Z)
    (hx : env[i]? = some (.own (xs.map em)) := by rfl) (hi : N[i]? = some n := by rfl) (hv : visB sc n = true := by decide +kernel)
    (hd : (n == ("__debug__" : Str)) = false := by decide) (hcd : (n == ("__classdict__" : Str)) = false := by decide)
    (hbase : ∀ E : Env, attributeBase (.Name n p1) "append" E (eval (.Name n p1) E) = eval (.Name n p1) E := by intro _; rfl)
    (hfew : ∀ E : Env, ((backTo p3 (starEach [e] E)).all (fun x => !x.1) && (backToKw p3 (keywordEach [] E)).all (fun x => x.1.isSome)
      && decide ([e].length + ([] : List Keyword).length + (if ([] : List Keyword).isEmpty then 0 else 1) < 30)) = true := by intro _; rfl)
    (hline : (apos.endLine == p3.line) = true := by rfl) (hs : ∀ E : Env, starEach [e] E = (false, eval e E) :: starEach [] E := by intro _; rfl) (hplain : ∀ E : Env, (backTo p3 (starEach ([] : List Expr) E)).any (·.1) = false := by intro _; rfl) :
    GS X env (.Expr (.Call (.Attribute (.Name n p1) "append" apos) [e] [] p3) pos :: rest) (me.bind fun x => (appP xs x).bind f) Z := by
  cases C
  refine g_of (ps_expr (pe_bm PySem.F.plainAttrs_list PySem.F.slot_list_append PySem.F.type_list_append mt_append (pe_var hi (visB_ok hv) hd hcd) (pa_cons he pa_nil (hs _)) (hbase _) (hfew _) hline (hs _) (hplain _)) rfl) hr fun W0 W B σ D r E sb hm z => ?_
  obtain ⟨x, hme, hm⟩ := bind_some hm
  obtain ⟨ys, hy, hm⟩ := bind_some hm
  obtain ⟨rfl, hz⟩ := appP_some hy
  obtain ⟨a, vs, h1, h2, h3, h0, r1⟩ := E.own hx
  refine ⟨_, h1, Or.inl ⟨rfl, _, SqL.of h2⟩, ?_⟩
  refine use_x E hme fun v W1 l1 rv => ?_
  have E1 := E.mono l1
  have hl : vs.length = xs.length := by have := r1.length; rwa [List.length_map] at this
  refine ⟨a, vs, v, rfl, rfl, l1.h.lst h2, by rw [hl]; exact sz_line hz, xs ++ [x], ?_⟩
  refine use_g (E1.write (es := (xs ++ [x]).map em) hx h1 ?_) (sb.trans l1.b) hm z
  rw [List.map_append]
  exact (r1.mono l1.b).append (.cons rv .nil)
def setP (xs : List τ) (i : Int) (x : τ) : Option (List τ) := (ixN xs.length i).map fun j => xs.set j x
/-- xs[j] = e -/
theorem g_setItem (C : Cf X N sc fb K mg P w base k) (i : Nat) {n : Str} {p1 p2 : Pos} {xs : List τ} {me : Option τ} {mi : Option Int} {f : List τ → Option ρ} (he : XE X env e me) (hj : XE X env b mi)
    (hr : ∀ ys : List τ, GS X (env.set i (.own (ys.map em))) rest (f ys) Z)
    (hx : env[i]? = some (.own (xs.map em)) := by rfl) (hi : N[i]? = some n := by rfl) (hv : visB sc n = true := by decide +kernel)
    (hd : (n == ("__debug__" : Str)) = false := by decide) (hcd : (n == ("__classdict__" : Str)) = false := by decide)
    (ha : ∀ E : Env, ∀ v, assign (.Subscript (.Name n p1) b p2) E v = (do
      let ov ← holding [v] (eval (.Name n p1) E)
      let iv ← holding [v, ov] (eval b E)
      standAt p2
      holding [v, ov, iv] (setItem ov iv v)
      release [v, ov, iv] []) := by intro _ _; rfl)
    (hs : ∀ E : Env, swapsWithSole [.Subscript (.Name n p1) b p2] e pos.line E = pure false := by intro _; rfl) (hw : ∀ E : Env, swappedStores [.Subscript (.Name n p1) b p2] e E = pure none := by intro _; rfl)
    (h1 : ∀ E : Env, (assignEach [.Subscript (.Name n p1) b p2] E).map (·.2) = [assign (.Subscript (.Name n p1) b p2) E] := by intro _; rfl) :
    GS X env (.Assign [.Subscript (.Name n p1) b p2] e pos :: rest) (me.bind fun x => mi.bind fun j => (setP xs j x).bind f) Z := by
  cases C
  refine g_of (ps_asg he (pg_sub (pe_var hi (visB_ok hv) hd hcd) hj set_list (ha _)) (hs _) (hw _) (h1 _)) hr fun W0 W B σ D r E sb hm z => ?_
  obtain ⟨x, hme, hm⟩ := bind_some hm
  obtain ⟨j, hmj, hm⟩ := bind_some hm
  obtain ⟨ys, hy, hm⟩ := bind_some hm
  unfold setP at hy
  cases q : ixN xs.length j with
  | none => rw [q] at hy; cases hy
  | some t =>
    rw [q] at hy
    have hy : xs.set t x = ys := Option.some.inj hy
    subst hy
    refine use_x E hme fun v W1 l1 rv => ?_
    have E1 := E.mono l1
    obtain ⟨a, vs, h1, h2, h3, h0, r1⟩ := E1.own hx
    refine ⟨_, h1, ?_⟩
    refine use_x E1 hmj fun u W2 l2 ru => ?_
    cases ru
    have hl : vs.length = xs.length := by have := r1.length; rwa [List.length_map] at this
    refine ⟨a, vs, j, t, rfl, rfl, l2.h.lst h2, by rw [hl]; exact q, xs.set t x, ?_⟩
    refine use_g ((E1.mono l2).write (es := (xs.set t x).map em) hx h1 ?_) ((sb.trans l1.b).trans l2.b) hm z
    rw [List.map_set]
    exact (r1.mono l2.b).set (rv.mono l2.b) t
/-- an owned list becomes data for good -/
theorem EnvR.freeze {W0 W : Wd} {σ : St} {i : Nat} {ds : List D} (E : EnvR K W0 W env σ) (hi : env[i]? = some (.own ds)) : ∃ W', W'.h = W.h ∧ Same W.b W'.b ∧ EnvR K W0 W' (env.set i (.dat (.lst ds))) σ := by
  obtain ⟨a, vs, h1, h2, h3, h0, r1⟩ := E.own hi
  have sb : Same W.b (upd W.b a (.lst vs)) := Same.new h3
  refine ⟨⟨upd W.b a (.lst vs), W.h⟩, rfl, sb, ⟨E.le.b.trans sb, E.le.h, fun c o q => ?_, fun c u q => ?_⟩, by rw [List.length_set]; exact E.len, fun j sj e => ?_, fun x y dx dy nn ex ey => ?_, fun P hP => ?_⟩
  · show upd W.b a _ c = _
    rw [upd_ne (ne_of_none q h0)]; exact E.le.f c o q
  · have q : upd W.b a (.lst vs) c = some u := q
    show W.h c = some u
    by_cases hc : c = a
    · subst hc; rw [upd_same] at q; exact h2.trans q
    · rw [upd_ne hc] at q; exact E.le.ok c u q
  · rcases set_get e with ⟨rfl, _, rfl⟩ | ⟨nj, e⟩
    · exact ⟨_, h1, _, rfl, .lst (SqL.of (show upd W.b a (.lst vs) a = _ from upd_same)) (r1.mono sb)⟩
    · obtain ⟨o, q1, q2⟩ := E.slot j sj e
      refine ⟨o, q1, ?_⟩
      cases sj with
      | any => trivial
      | dat d => obtain ⟨v, e1, r⟩ := q2; exact ⟨v, e1, r.mono sb⟩
      | bor d => exact q2
      | own d =>
        obtain ⟨c, us, e1, e2, e3, e0, r⟩ := q2
        subst e1
        have nc : c ≠ a := fun z => by
          subst z
          exact E.apart j i d ds nj e hi (q1.trans h1.symm)
        exact ⟨c, us, rfl, e2, by show upd W.b a _ c = _; rw [upd_ne nc]; exact e3, e0, r.mono sb⟩
  · rcases set_get ex with ⟨_, _, q⟩ | ⟨_, ex⟩
    · cases q
    · rcases set_get ey with ⟨_, _, q⟩ | ⟨_, ey⟩
      · cases q
      · exact E.apart x y dx dy nn ex ey
  · obtain ⟨t, b⟩ := E.tbl P hP
    refine ⟨t, ?_⟩
    have nP : P ≠ a := fun z => by obtain ⟨ps, e, _⟩ := t; subst z; rw [h2] at e; cases e
    show upd W.b a _ P = none
    rw [upd_ne nP]; exact b
theorem g_freeze (i : Nat) {sts : List Stmt} {ds : List D} {m : Option ρ} (hi : env[i]? = some (.own ds)) (h : GS X (env.set i (.dat (.lst ds))) sts m Z) : GS X env sts m Z :=
  pssImp h fun D σ H ⟨W0, W, B, hH, E, sb, r, hr, z⟩ => by
    subst hH
    obtain ⟨W', e, sb', E'⟩ := E.freeze hi
    exact ⟨W0, W', B, e, E', sb.trans sb', r, hr, z⟩
/-! ### the end of a block, returns -/
theorem g_nil {envJ : ρ → List SV} {s : ρ} (h : EnvLe env (envJ s)) : GS X env [] (some s) (ZN X.K envJ) := pssImp pss_nil fun D σ H ⟨W0, W, B, hH, E, sb, r, hr, z⟩ => by
  subst hH
  cases hr
  exact z W σ sb (E.weak h)
theorem g_nilF {res : α → RV} {envB : B → List SV} {envJ : S → List SV} {s : S} (h : EnvLe env (envJ s)) : GS X env [] (some (Fl.nx s : Fl α B S)) (ZF X.K res envB envJ) := pssImp pss_nil fun D σ H ⟨W0, W, B, hH, E, sb, r, hr, z⟩ => by
  subst hH
  cases hr
  exact z W σ sb (E.weak h)
theorem g_nilR {res : ρ → RV} {r : ρ} (h : res r = .dat .non) : GS X env [] (some r) (ZRn X.K res) := pssImp pss_nil fun D σ H ⟨W0, W, B, hH, E, sb, r', hr, z⟩ => by
  subst hH
  cases hr
  exact z.2 σ W E.le (by rw [h]; exact .non)
theorem g_ret {φ : τ → ρ} {me : Option τ} (he : XE X env e me) (hz : ∀ x W0 B D, Z (φ x) W0 B D → ZR X.K (fun x : τ => RV.dat (em x)) x W0 B D) : GS X env (.Return (some e) pos :: rest) (me.bind fun x => some (φ x)) Z :=
  g_of (ι := Empty) (u := fun _ => tNever) (ps_ret he) (fun i => i.elim) fun W0 W B σ D r E sb hm z => by
    obtain ⟨x, hx, hm⟩ := bind_some hm
    cases hm
    exact use_x E hx fun v W1 l1 r1 => hz x W0 B D z v W1 (E.le.trans l1) r1
theorem g_retL {φ : List τ → ρ} {me : Option (List τ)} (he : XL X env e me) (hz : ∀ x W0 B D, Z (φ x) W0 B D → ZR X.K (fun x : List τ => RV.own (x.map em)) x W0 B D) : GS X env (.Return (some e) pos :: rest) (me.bind fun x => some (φ x)) Z :=
  g_of (ι := Empty) (u := fun _ => tNever) (ps_ret he) (fun i => i.elim) fun W0 W B σ D r E sb hm z => by
    obtain ⟨x, hx, hm⟩ := bind_some hm
    cases hm
    exact use_l E hx fun a vs W1 l1 h0 h1 hb r1 => hz x W0 B D z _ W1 (E.le.trans l1) ⟨a, vs, rfl, h1, hb, E.le.h.free h0, r1⟩
theorem g_retO (C : Cf X N sc fb K mg P w base k) (i : Nat) {n : Str} {p' : Pos} {x : List τ} {r : ρ} (hz : ∀ W0 B D, Z r W0 B D → ZR X.K (fun x : List τ => RV.own (x.map em)) x W0 B D)
    (hx : env[i]? = some (.own (x.map em)) := by rfl) (hi : N[i]? = some n := by rfl) (hv : visB sc n = true := by decide +kernel)
    (hd : (n == ("__debug__" : Str)) = false := by decide) (hcd : (n == ("__classdict__" : Str)) = false := by decide) : GS X env (.Return (some (.Name n p')) pos :: rest) (some r) Z := by
  cases C
  refine g_of (ι := Empty) (u := fun _ => tNever) (ps_ret (pe_var hi (visB_ok hv) hd hcd)) (fun i => i.elim) fun W0 W B σ D r E sb hm z => ?_
  cases hm
  obtain ⟨a, vs, h1, h2, h3, h0, r1⟩ := E.own hx
  exact ⟨_, h1, hz W0 B D z _ W E.le ⟨a, vs, rfl, h2, h3, h0, r1⟩⟩
theorem g_retN {r : ρ} (hz : ∀ W0 B D, Z r W0 B D → ZR X.K (fun _ : Unit => RV.dat .non) () W0 B D) : GS X env (.Return none pos :: rest) (some r) Z :=
  g_of (ι := Empty) (u := fun _ => tNever) ps_retN (fun i => i.elim) fun W0 W B σ D r E sb hm z => by
    cases hm
    exact hz W0 B D z _ W E.le .non
theorem g_break {b : B} {φ : B → ρ} {envB : B → List SV} (hz : ∀ b W0 B' D, Z (φ b) W0 B' D → ZB X.K envB b W0 B' D) (h : EnvLe env (envB b)) : GS X env (.Break pos :: rest) (some (φ b)) Z :=
  g_of (ι := Empty) (u := fun _ => tNever) ps_break (fun i => i.elim) fun W0 W B σ D r E sb hm z => by
    cases hm
    exact hz b W0 _ D z W σ sb (E.weak h)
theorem g_continue {b : B} {φ : B → ρ} {envB : B → List SV} (hz : ∀ b W0 B' D, Z (φ b) W0 B' D → ZC X.K envB b W0 B' D) (h : EnvLe env (envB b)) : GS X env (.Continue pos :: rest) (some (φ b)) Z :=
  g_of (ι := Empty) (u := fun _ => tNever) ps_continue (fun i => i.elim) fun W0 W B σ D r E sb hm z => by
    cases hm
    exact hz b W0 _ D z W σ sb (E.weak h)
/-! ### if -/
/-- the first way leaves -/
theorem g_ifX {Z' : α → Wd → Hp → Ends → Prop} {φ : α → ρ} {mc : Option Bool} {m1 : Option α} {m2 : Option ρ} {thn : List Stmt} (hc : XT X env c mc) (h1 : GS X env thn m1 Z') (hz : Early φ Z' Z) (h2 : GS X env rest m2 Z) :
    GS X env (.If c thn [] pos :: rest) (mc.bind fun x => if x = true then m1.bind fun r => some (φ r) else m2) Z :=
  g_of (ι := Unit) (ps_if hc h1 pss_nil) (fun _ => h2) fun W0 W B σ D r E sb hm z => by
    obtain ⟨x, hx, hm⟩ := bind_some hm
    refine use_t E hx fun W1 l1 => ?_
    cases x with
    | true =>
      obtain ⟨y, hy, hm⟩ := bind_some (show m1.bind (fun r => some (φ r)) = some r by simpa using hm)
      cases hm
      exact use_g (E.mono l1) (sb.trans l1.b) hy (hz y W0 _ D _ z)
    | false => exact ⟨(), use_g (E.mono l1) (sb.trans l1.b) (by simpa using hm) z⟩
/-- both ways leave -/
theorem g_ifXX {mc : Option Bool} {m1 m2 : Option ρ} {thn els : List Stmt} (hc : XT X env c mc) (h1 : GS X env thn m1 Z) (h2 : GS X env els m2 Z) (hz : ∀ r W0 B D u, Z r W0 B D → Z r W0 B { D with nx := u }) :
    GS X env (.If c thn els pos :: rest) (mc.bind fun x => if x = true then m1 else m2) Z :=
  g_of (ι := Empty) (u := fun _ => tNever) (ps_if hc h1 h2) (fun i => i.elim) fun W0 W B σ D r E sb hm z => by
    obtain ⟨x, hx, hm⟩ := bind_some hm
    refine use_t E hx fun W1 l1 => ?_
    cases x with
    | true => exact use_g (E.mono l1) (sb.trans l1.b) (by simpa using hm) (hz r W0 _ D _ z)
    | false => exact use_g (E.mono l1) (sb.trans l1.b) (by simpa using hm) (hz r W0 _ D _ z)
/-- both ways meet behind -/
theorem g_ifJ {envJ : S → List SV} {mc : Option Bool} {m1 m2 : Option S} {kk : S → Option ρ} {thn els : List Stmt} (hc : XT X env c mc) (h1 : GS X env thn m1 (ZN X.K envJ)) (h2 : GS X env els m2 (ZN X.K envJ))
    (hr : ∀ s, GS X (envJ s) rest (kk s) Z) : GS X env (.If c thn els pos :: rest) ((mc.bind fun x => if x = true then m1 else m2).bind kk) Z :=
  g_of (ps_if hc h1 h2) hr fun W0 W B σ D r E sb hm z => by
    obtain ⟨s, hs, hm⟩ := bind_some hm
    obtain ⟨x, hx, hs⟩ := bind_some hs
    refine use_t E hx fun W1 l1 => ?_
    cases x with
    | true => exact use_g (E.mono l1) (sb.trans l1.b) (by simpa using hs) fun W' σ' sb' E' => ⟨s, use_g E' sb' hm z⟩
    | false => exact use_g (E.mono l1) (sb.trans l1.b) (by simpa using hs) fun W' σ' sb' E' => ⟨s, use_g E' sb' hm z⟩
/-- ways that leave or meet: in a loop's body -/
def thenF (m : Option (Fl α B S)) (f : S → Option (Fl α B δ)) : Option (Fl α B δ) := m.bind fun x => match x with
  | .nx s => f s
  | .rt r => some (.rt r)
  | .bk b => some (.bk b)
  | .ct b => some (.ct b)
theorem g_ifF {res : α → RV} {envB : B → List SV} {envJ : S → List SV} {envE : δ → List SV} {mc : Option Bool} {m1 m2 : Option (Fl α B S)} {kk : S → Option (Fl α B δ)} {thn els : List Stmt} (hc : XT X env c mc)
    (h1 : GS X env thn m1 (ZF X.K res envB envJ)) (h2 : GS X env els m2 (ZF X.K res envB envJ)) (hr : ∀ s, GS X (envJ s) rest (kk s) (ZF X.K res envB envE)) :
    GS X env (.If c thn els pos :: rest) (thenF (mc.bind fun x => if x = true then m1 else m2) kk) (ZF X.K res envB envE) :=
  g_of (ps_if hc h1 h2) hr fun W0 W B σ D r E sb hm z => by
    obtain ⟨y, hy, hm⟩ := bind_some hm
    obtain ⟨x, hx, hy⟩ := bind_some hy
    have zz : ZF X.K res envB envJ y W0 B { D with nx := fun σ' H' => ∃ i, tG X.K (envJ i) (kk i) (ZF X.K res envB envE) D σ' H' } := by
      cases y with
      | nx s => exact fun W' σ' sb' E' => ⟨s, use_g E' sb' hm z⟩
      | rt r' => cases hm; exact z
      | bk b => cases hm; exact z
      | ct b => cases hm; exact z
    refine use_t E hx fun W1 l1 => ?_
    cases x with
    | true => exact use_g (E.mono l1) (sb.trans l1.b) (by simpa using hy) zz
    | false => exact use_g (E.mono l1) (sb.trans l1.b) (by simpa using hy) zz
end
end T

set_option Elab.async false
set_option linter.all false
set_option maxRecDepth 100000
set_option maxHeartbeats 4000000
namespace T
open PySem PySem.Spec PyProof.Rows L2
variable {τ α β γ δ ρ B S ι : Type}
variable [Tabs]
/-! ### what is walked -/
structure Walk [Em τ] (K : PySem.W.Frag) (W0 W1 : Wd) (J : It) (xs : List τ) : Prop where
  item : ∀ (i : Nat) (x : τ) (W : Wd), xs[i]? = some x → Same W1.b W.b → Le W0 W → J.go i W.h ∧ ∀ v H', J.yld i W.h v H' → ∃ W', Le W W' ∧ W'.h = H' ∧ Rp K W'.b v (em x)
  stop : ∀ W : Wd, Same W1.b W.b → Le W0 W → J.stop xs.length W.h
def tW [Em τ] (K : PySem.W.Frag) (env : List SV) (m : Option (List τ)) : TI := fun σ H R =>
  ∃ W0 W : Wd, W.h = H ∧ EnvR K W0 W env σ ∧ ∃ x, m = some x ∧ ∀ J W', Le W W' → Walk K W0 W' J x → R J W'.h
abbrev XWk [Em τ] (X : Cx) (env : List SV) (tg e : Expr) (m : Option (List τ)) : Prop := PI X tg e (tW X.K env m)
/-- targets: is are the slots that are stored -/
def tGt [Em τ] (K : PySem.W.Frag) (env : List SV) (env' : τ → List SV) (is : List Nat) : TG := fun v σ H Q =>
  ∃ (W0 W : Wd) (x : τ), W.h = H ∧ EnvR K W0 W env σ ∧ Rp K W.b v (em x) ∧ ∀ σ', EnvR K W0 W (env' x) σ' → (∀ vs : List Nat, (∀ i ∈ is, i ∈ vs) → wipe σ' vs = wipe σ vs) → Q σ' W.h
abbrev XG [Em τ] (X : Cx) (env : List SV) (tg : Expr) (env' : τ → List SV) (is : List Nat) : Prop := PG X tg (tGt X.K env env' is)
theorem wipe_set {σ : St} {v : Option V} : ∀ {vs : List Nat} {i : Nat}, i ∈ vs → wipe (σ.set i v) vs = wipe σ vs
  | u :: vs, i, h => by
    by_cases hv : i ∈ vs
    · unfold wipe
      rw [wipe_set hv]
    · have e : i = u := by
        rcases List.mem_cons.mp h with e | e
        · exact e
        · exact absurd e hv
      subst e
      unfold wipe
      have aux : ∀ {ws : List Nat} {τ : St}, i ∉ ws → wipe (τ.set i v) ws = (wipe τ ws).set i v := by
        intro ws
        induction ws with
        | nil => intro τ _; rfl
        | cons z zs ih =>
          intro τ hz
          have h1 : i ≠ z := fun e => hz (e ▸ List.mem_cons_self)
          have h2 : i ∉ zs := fun e => hz (List.mem_cons_of_mem _ e)
          unfold wipe
          rw [ih h2, List.set_comm _ _ h1]
      rw [aux hv, List.set_set]
section
variable {X : Cx} {env env' : List SV} {e a b c tg : Expr} {st : Stmt} {body rest : List Stmt} {pos p p2 : Pos} [Em τ] [Em α] [Em β] [Em γ] {N : List Str} {sc : Scope} {fb : Str → Bool} {K : PySem.W.Frag} {mg : Str → Option Value} {P : Program} {w : World} {base : Heap} {k : Nat}
variable {Z : ρ → Wd → Hp → Ends → Prop}
theorem use_w {W0 W : Wd} {σ : St} {m : Option (List τ)} {x : List τ} {R : It → Hp → Prop} (E : EnvR K W0 W env σ) (h : m = some x) (q : ∀ J W', Le W W' → Walk K W0 W' J x → R J W'.h) : tW K env m σ W.h R := ⟨W0, W, rfl, E, x, h, q⟩
/-- a list that stands for good -/
theorem w_x {m : Option (List τ)} (h : XE X env e m) : XWk X env tg e m := by
  refine piImp (pi_list h) fun σ H R ⟨W0, W, hH, E, x, hx, q⟩ => ?_
  subst hH
  refine use_x E hx fun v W1 l1 r1 => ?_
  have r1 : Rp X.K W1.b v (.lst (x.map em)) := r1
  cases r1 with
  | @lst ad vs _ s1 r1 =>
    refine ⟨ad, rfl, ⟨_, l1.ok.seq s1⟩, q _ W1 l1 ⟨fun i y W2 hy sb l0 => ?_, fun W2 sb l0 => ?_⟩⟩
    · obtain ⟨u, h1, h2⟩ := r1.get (show (x.map em)[i]? = some (em y) by rw [List.getElem?_map, hy]; rfl)
      have s2 : SqL X.K W2.h ad vs := l0.ok.seq (sb.seq s1)
      refine ⟨⟨vs, u, s2, h1⟩, fun v' H' ⟨e1, e2⟩ => ?_⟩
      subst e1
      have := e2 _ s2
      rw [h1] at this
      cases this
      exact ⟨W2, Le.refl l0.ok, rfl, h2.mono sb⟩
    · refine ⟨vs, l0.ok.seq (sb.seq s1), ?_⟩
      have := r1.length
      rw [List.length_map] at this
      omega
theorem w_l {m : Option (List τ)} (h : XL X env e m) : XWk X env tg e m := w_x (x_l h)
/-- a list that was handed in -/
theorem w_bor (C : Cf X N sc fb K mg P w base k) (j : Nat) {n : Str} {x : List τ} (he : env[j]? = some (.bor (x.map em)) := by rfl) (hi : N[j]? = some n := by rfl) (hv : visB sc n = true := by decide +kernel)
    (hd : (n == ("__debug__" : Str)) = false := by decide) (hc : (n == ("__classdict__" : Str)) = false := by decide) : XWk X env tg (.Name n pos) (some x) := by
  cases C
  refine piImp (pi_list (pe_var hi (visB_ok hv) hd hc)) fun σ H R ⟨W0, W, hH, E, y, hy, q⟩ => ?_
  subst hH
  cases hy
  obtain ⟨o, h1, ad, vs, e1, s1, r1⟩ := E.slot j _ he
  subst e1
  refine ⟨_, h1, ad, rfl, ⟨vs, E.le.h.seq s1⟩, q _ W (Le.refl E.ok) ⟨fun i y W2 hy sb l0 => ?_, fun W2 sb l0 => ?_⟩⟩
  · obtain ⟨u, h1, h2⟩ := r1.get (show (x.map em)[i]? = some (em y) by rw [List.getElem?_map, hy]; rfl)
    have s2 : SqL X.K W2.h ad vs := l0.h.seq s1
    refine ⟨⟨vs, u, s2, h1⟩, fun v' H' ⟨e1, e2⟩ => ?_⟩
    subst e1
    have := e2 _ s2
    rw [h1] at this
    cases this
    exact ⟨W2, Le.refl l0.ok, rfl, h2.mono l0.b⟩
  · refine ⟨vs, l0.h.seq s1, ?_⟩
    have := r1.length
    rw [List.length_map] at this
    omega
theorem w_tup {m : Option (Vt τ)} (h : XE X env e m) : XWk X env tg e (m.bind fun t => some t.l) := by
  refine piImp (pi_tup h) fun σ H R ⟨W0, W, hH, E, x, hx, q⟩ => ?_
  subst hH
  obtain ⟨x', hx', hx⟩ := bind_some hx
  cases hx
  refine use_x E hx' fun v W1 l1 r1 => ?_
  have r1 : Rp X.K W1.b v (.tup (x'.l.map em)) := r1
  cases r1 with
  | @tup ad vs _ s1 r1 =>
    refine ⟨ad, rfl, ⟨_, same_t l1.ok s1⟩, q _ W1 l1 ⟨fun i y W2 hy sb l0 => ?_, fun W2 sb l0 => ?_⟩⟩
    · obtain ⟨u, h1, h2⟩ := r1.get (show (x'.l.map em)[i]? = some (em y) by rw [List.getElem?_map, hy]; rfl)
      have s2 : SqT X.K W2.h ad vs := same_t l0.ok (same_t sb s1)
      refine ⟨⟨vs, u, s2, h1⟩, fun v' H' ⟨e1, e2⟩ => ?_⟩
      subst e1
      have := e2 _ s2
      rw [h1] at this
      cases this
      exact ⟨W2, Le.refl l0.ok, rfl, h2.mono sb⟩
    · refine ⟨vs, same_t l0.ok (same_t sb s1), ?_⟩
      have := r1.length
      rw [List.length_map] at this
      omega
/-- the signs of a text -/
def signs (s : Str) : List Str := s.cps.toList.map fun c => ⟨#[c]⟩
theorem w_str {m : Option Str} (h : XE X env e m) : XWk X env tg e (m.bind fun s => some (signs s)) := by
  refine piImp (pi_str h) fun σ H R ⟨W0, W, hH, E, x, hx, q⟩ => ?_
  subst hH
  obtain ⟨s, hs, hx⟩ := bind_some hx
  cases hx
  refine use_x E hs fun v W1 l1 r1 => ?_
  cases r1
  refine ⟨s, rfl, q _ W1 l1 ⟨fun i y W2 hy sb l0 => ?_, fun W2 sb l0 => ?_⟩⟩
  · unfold signs at hy
    rw [List.getElem?_map] at hy
    cases hc : s.cps.toList[i]? with
    | none => rw [hc] at hy; cases hy
    | some cc =>
      rw [hc] at hy
      cases hy
      have hi : i < s.cps.size := by have := (List.getElem?_eq_some_iff.mp hc).1; simpa using this
      refine ⟨hi, fun v' H' ⟨e1, c', e2, e3⟩ => ?_⟩
      subst e1 e3
      have : c' = cc := by
        have h2 : s.cps.toList[i]? = some c' := by simpa using e2
        rw [hc] at h2; cases h2; rfl
      subst this
      exact ⟨W2, Le.refl l0.ok, rfl, .str _⟩
  · show s.cps.size ≤ (signs s).length
    unfold signs
    simp
/-- lo, lo + 1, .. -/
def rng (lo hi : Int) : List Int := (List.range (hi - lo).toNat).map fun (i : Nat) => lo + (i : Int)
def rngP (lo hi : Int) : Option (List Int) := if -4611686018427387904 ≤ lo ∧ lo < 4611686018427387904 ∧ -4611686018427387904 ≤ hi ∧ hi < 4611686018427387904 then some (rng lo hi) else none
theorem rng_get {lo hi : Int} {i : Nat} {y : Int} (h : (rng lo hi)[i]? = some y) : i < (hi - lo).toNat ∧ y = lo + i := by
  unfold rng at h
  rw [List.getElem?_map] at h
  cases hc : (List.range (hi - lo).toNat)[i]? with
  | none => rw [hc] at h; cases h
  | some j =>
    rw [hc] at h
    cases h
    obtain ⟨h1, h2⟩ := List.getElem?_eq_some_iff.mp hc
    rw [List.getElem_range] at h2
    subst h2
    exact ⟨by simpa using h1, rfl⟩
theorem walk_rng {W0 W1 : Wd} {lo hi : Int} : Walk (τ := Int) K W0 W1 (Itr lo (hi - lo).toNat) (rng lo hi) where
  item := fun i y W2 hy sb l0 => by
    obtain ⟨h1, rfl⟩ := rng_get hy
    exact ⟨h1, fun v H' ⟨e1, e2⟩ => ⟨W2, Le.refl l0.ok, e1.symm, e2 ▸ .int _⟩⟩
  stop := fun W2 sb l0 => by show (hi - lo).toNat ≤ (rng lo hi).length; unfold rng; simp
theorem w_rng1 (C : Cf X N sc fb K mg P w base k) {m : Option Int} (h : XE X env a m) (hm : mg "range" = none) (hg : glbB sc "range" = true := by decide +kernel)
    (hst : starEach [a] X.env = (false, eval a X.env) :: starEach [] X.env := by rfl) (hs : starEach [a] X.env = [(false, eval a X.env)] := by rfl) :
    XWk X env tg (.Call (.Name "range" p) [a] [] pos) (m.bind fun n => rngP 0 n) := by
  cases C
  refine piImp (pi_range1 (glbB_ok hg) hm (a_dat h a_nil hst) hs) fun σ H R ⟨W0, W, hH, E, x, hx, q⟩ => ?_
  subst hH
  obtain ⟨n, hn, hx⟩ := bind_some hx
  unfold rngP at hx
  split at hx
  · rename_i hr
    cases hx
    refine use_a E (x := (n, ())) (by rw [hn]; rfl) fun vs W1 l1 r1 => ?_
    cases r1 with
    | dat r1 r2 =>
      cases r2
      cases r1
      refine ⟨n, rfl, by omega, by omega, ?_⟩
      have := q (Itr 0 (n - 0).toNat) W1 l1 walk_rng
      simpa using this
  · cases hx
theorem w_rng2 (C : Cf X N sc fb K mg P w base k) {ma mb : Option Int} (h : XE X env a ma) (h' : XE X env b mb) (hm : mg "range" = none) (hg : glbB sc "range" = true := by decide +kernel)
    (hs : starEach [a, b] X.env = [(false, eval a X.env), (false, eval b X.env)] := by rfl) (hs2 : starEach [b] X.env = [(false, eval b X.env)] := by rfl)
    (h1 : starEach [a, b] X.env = (false, eval a X.env) :: starEach [b] X.env := by rfl) (h2 : starEach [b] X.env = (false, eval b X.env) :: starEach [] X.env := by rfl) :
    XWk X env tg (.Call (.Name "range" p) [a, b] [] pos) (ma.bind fun m => mb.bind fun n => rngP m n) := by
  cases C
  refine piImp (pi_range2 (glbB_ok hg) hm (a_dat h (a_dat h' a_nil h2) h1) hs hs2) fun σ H R ⟨W0, W, hH, E, x, hx, q⟩ => ?_
  subst hH
  obtain ⟨m, hm, hx⟩ := bind_some hx
  obtain ⟨n, hn, hx⟩ := bind_some hx
  unfold rngP at hx
  split at hx
  · rename_i hr
    cases hx
    refine use_a E (x := (m, n, ())) (by rw [hm, hn]; rfl) fun vs W1 l1 r1 => ?_
    cases r1 with
    | dat r1 r2 =>
      cases r2 with
      | dat r2 r3 =>
        cases r3
        cases r1
        cases r2
        exact ⟨m, n, rfl, ⟨by omega, by omega, by omega, by omega⟩, q (Itr m (n - m).toNat) W1 l1 walk_rng⟩
  · cases hx
/-- zip of two lists -/
theorem w_zip (C : Cf X N sc fb K mg P w base k) {elts : List Expr} {kk : Nat} {tpos : Pos} {ma : Option (List α)} {mb : Option (List β)} (h : XE X env a ma) (h' : XE X env b mb) (hm : mg "zip" = none) (hg : glbB sc "zip" = true := by decide +kernel)
    (h1 : starEach [a, b] X.env = (false, eval a X.env) :: starEach [b] X.env := by rfl) (h2 : starEach [b] X.env = (false, eval b X.env) :: starEach [] X.env := by rfl) (hpl : (backTo pos (starEach [b] X.env)).any (·.1) = false := by rfl) :
    XWk X env (.Tuple elts kk tpos) (.Call (.Name "zip" p) [a, b] [] pos) (ma.bind fun x => mb.bind fun y => some (x.zip y)) := by
  cases C
  refine piImp (pi_zip (glbB_ok hg) hm (a_dat h (a_dat h' a_nil h2) h1) h1 hpl) fun σ H R ⟨W0, W, hH, E, x, hx, q⟩ => ?_
  subst hH
  obtain ⟨xs, hxs, hx⟩ := bind_some hx
  obtain ⟨ys, hys, hx⟩ := bind_some hx
  cases hx
  refine use_a E (x := (xs, ys, ())) (by rw [hxs, hys]; rfl) fun vs W1 l1 r1 => ?_
  cases r1 with
  | dat r1 r2 =>
    cases r2 with
    | dat r2 r3 =>
      cases r3
      have r1 : Rp X.K W1.b _ (.lst (xs.map em)) := r1
      have r2 : Rp X.K W1.b _ (.lst (ys.map em)) := r2
      cases r1 with
      | lst s1 r1 =>
        cases r2 with
        | lst s2 r2 =>
          refine ⟨_, _, _, _, rfl, l1.ok.seq s1, l1.ok.seq s2, q _ W1 l1 ⟨fun i z W2 hz sb l0 => ?_, fun W2 sb l0 => ?_⟩⟩
          · have hz := List.getElem?_zip_eq_some.mp hz
            obtain ⟨u, g1, g2⟩ := r1.get (show (xs.map em)[i]? = some (em z.1) by rw [List.getElem?_map, hz.1]; rfl)
            obtain ⟨v, g3, g4⟩ := r2.get (show (ys.map em)[i]? = some (em z.2) by rw [List.getElem?_map, hz.2]; rfl)
            have q1 := l0.ok.seq (sb.seq s1)
            have q2 := l0.ok.seq (sb.seq s2)
            refine ⟨⟨_, _, u, v, q1, q2, g1, g3⟩, fun v' H' ⟨T, x', y', e1, e2, e3, e4, e5⟩ => ?_⟩
            have e4 := e4 _ q1
            have e5 := e5 _ q2
            rw [g1] at e4
            rw [g3] at e5
            cases e4; cases e5
            subst e1 e3
            have sbT : Same W2.b (upd W2.b T (.tup [u, v])) := Same.new (l0.ok.free e2)
            refine ⟨_, Le.lay l0.ok (o := .tup [u, v]) e2, rfl, ?_⟩
            exact .tup (SqT.of upd_same) (.cons ((g2.mono sb).mono sbT) (.cons ((g4.mono sb).mono sbT) .nil))
          · refine ⟨_, _, l0.ok.seq (sb.seq s1), l0.ok.seq (sb.seq s2), ?_⟩
            have h1 := r1.length
            have h2 := r2.length
            rw [List.length_map] at h1 h2
            rw [List.length_zip]
            omega
/-! ### targets -/
theorem gt_name (C : Cf X N sc fb K mg P w base k) (i : Nat) {n : Str} (hi : N[i]? = some n := by rfl) (hl : locB sc fb n = true := by decide +kernel) : XG (τ := τ) X env (.Name n pos) (fun x => env.set i (.dat (em x))) [i] := by
  cases C with
  | mk nd calm po rm =>
    refine pgImp (pg_name nd hi (locB_ok hl) (locB_fn hl)) fun v σ H Q ⟨W0, W, x, hH, E, r, q⟩ => ?_
    · subst hH
      exact q _ (E.putD r) fun vs h => wipe_set (h i (by simp))
/-- several names, one after another -/
def tGs (K : PySem.W.Frag) (env : List SV) (ds : δ → List D) (env' : δ → List SV) (is : List Nat) : TGs := fun vs σ H Q =>
  ∃ (W0 W : Wd) (x : δ), W.h = H ∧ EnvR K W0 W env σ ∧ RpA K W.b vs (ds x) ∧ ∀ σ', EnvR K W0 W (env' x) σ' → (∀ ws : List Nat, (∀ i ∈ is, i ∈ ws) → wipe σ' ws = wipe σ ws) → Q σ' W.h
theorem gs_nil : PGs X [] (tGs X.K env (fun _ : Unit => []) (fun _ => env) []) := ⟨fun pins s σ H vs us Q I r ⟨W0, W, x, hH, E, ra, q⟩ => by
  subst hH
  cases ra
  exact pgs_nil.run pins s σ _ [] us Q I r ⟨rfl, q σ E fun _ _ => rfl⟩⟩
theorem pgEx {ι : Type} {t : ι → TG} (h : ∀ i, PG X tg (t i)) : PG X tg (fun v σ H Q => ∃ i, t i v σ H Q) := ⟨fun pins s σ H v u Q I r ⟨i, q⟩ => (h i).run pins s σ H v u Q I r q⟩
theorem pgsEx {ι : Type} {tgs : List Expr} {t : ι → TGs} (h : ∀ i, PGs X tgs (t i)) : PGs X tgs (fun v σ H Q => ∃ i, t i v σ H Q) := ⟨fun pins s σ H v u Q I r ⟨i, q⟩ => (h i).run pins s σ H v u Q I r q⟩
theorem gs_cons {es : List Expr} {envX : τ → List SV} {is js : List Nat} {ds : δ → List D} {env' : τ → δ → List SV} (h1 : XG X env e envX is) (h2 : ∀ x, PGs X es (tGs X.K (envX x) ds (env' x) js))
    (hs : (assignEach (e :: es) X.env).map (·.2) = assign e X.env :: (assignEach es X.env).map (·.2) := by rfl) : PGs X (e :: es) (tGs X.K env (fun p : τ × δ => em p.1 :: ds p.2) (fun p => env' p.1 p.2) (is ++ js)) :=
  ⟨fun pins s σ H vs us Q I r ⟨W0, W, x, hH, E, ra, q⟩ => by
    subst hH
    cases ra with
    | cons r1 r2 =>
      refine (pgs_cons h1 (pgsEx h2) hs).run pins s σ _ _ us Q I r ⟨_, _, rfl, W0, W, x.1, rfl, E, r1, fun σ' E' hw => ⟨x.1, W0, W, x.2, rfl, E', r2, fun σ2 E2 hw2 => q σ2 E2 fun ws hws => ?_⟩⟩
      rw [hw2 ws fun i hi => hws i (List.mem_append_right _ hi), hw ws fun i hi => hws i (List.mem_append_left _ hi)]⟩
theorem gt_tup (C : Cf X N sc fb K mg P w base k) {es : List Expr} {kk n : Nat} {ds : δ → List D} {env' : δ → List SV} {is : List Nat} {f : τ → δ} (h : PGs X es (tGs X.K env ds env' is)) (hf : ∀ x : τ, em x = .tup (ds (f x))) (hl : ∀ x, (ds x).length = n)
    (hn : (assignEach es X.env).length = n := by rfl) (hst : (assignEach es X.env).findIdx? (·.1) = none := by rfl) : XG X env (.Tuple es kk pos) (fun x : τ => env' (f x)) is := by
  cases C with
  | mk nd calm po rm =>
    refine pgImp (pg_tup calm h hn hst) fun v σ H Q ⟨W0, W, x, hH, E, r, q⟩ => ?_
    subst hH
    rw [hf] at r
    cases r with
    | tup s1 r1 => exact ⟨_, _, rfl, same_t E.ok s1, by rw [r1.length, hl], W0, W, f x, rfl, E, r1, q⟩
theorem gt_pair (C : Cf X N sc fb K mg P w base k) (i j : Nat) {n m : Str} {kk : Nat} {p1 : Pos} (hi : N[i]? = some n := by rfl) (hl : locB sc fb n = true := by decide +kernel) (hj : N[j]? = some m := by rfl) (hl' : locB sc fb m = true := by decide +kernel)
    (hn : ∀ E : Env, (assignEach [.Name n p1, .Name m p2] E).length = 2 := by intro _; rfl) (hst : ∀ E : Env, (assignEach [.Name n p1, .Name m p2] E).findIdx? (·.1) = none := by intro _; rfl)
    (h1 : ∀ E : Env, (assignEach [.Name n p1, .Name m p2] E).map (·.2) = assign (.Name n p1) E :: (assignEach [.Name m p2] E).map (·.2) := by intro _; rfl)
    (h2 : ∀ E : Env, (assignEach [.Name m p2] E).map (·.2) = assign (.Name m p2) E :: (assignEach ([] : List Expr) E).map (·.2) := by intro _; rfl) :
    XG (τ := α × β) X env (.Tuple [.Name n p1, .Name m p2] kk pos) (fun x => (env.set i (.dat (em x.1))).set j (.dat (em x.2))) [i, j] :=
  gt_tup (τ := α × β) (δ := α × β × Unit) (f := fun x : α × β => (x.1, x.2, ())) C (gs_cons (gt_name C i hi hl) (fun x => gs_cons (gt_name C j hj hl') (fun y => gs_nil) (h2 _)) (h1 _)) (fun x => rfl) (fun _ => rfl) (hn _) (hst _)
/-! ### loops -/
def foldO (f : S → α → Option S) : S → List α → Option S
  | s, [] => some s
  | s, x :: xs => (f s x).bind fun s' => foldO f s' xs
inductive Lp (ρ S : Type) where
  | ret (r : ρ)
  | fin (s : S)
def Lp.go (φ : α → ρ) (kk : S → Option ρ) : Lp α S → Option ρ
  | .ret r => some (φ r)
  | .fin s => kk s
def loopO (f : S → α → Option (Fl ρ S S)) : S → List α → Option (Lp ρ S)
  | s, [] => some (.fin s)
  | s, x :: xs => (f s x).bind fun o => match o with
    | .nx s' => loopO f s' xs
    | .ct s' => loopO f s' xs
    | .bk s' => some (.fin s')
    | .rt r => some (.ret r)
theorem drop_cons {xs : List α} {i : Nat} (h : i < xs.length) : xs.drop i = xs[i] :: xs.drop (i + 1) := List.drop_eq_getElem_cons h
theorem g_for {mxs : Option (List τ)} {envL : S → List SV} {envX : S → τ → List SV} {is : List Nat} {f : S → τ → Option S} {s0 : S} {kk : S → Option ρ} (C : Cf X N sc fb K mg P w base k) (hi : XWk X env tg e mxs) (hg : ∀ s, XG X (envL s) tg (envX s) is)
    (h0 : EnvLe env (envL s0)) (hb : ∀ s x, GS X (envX s x) body (f s x) (ZN X.K envL)) (hr : ∀ s, GS X (envL s) rest (kk s) Z) (hf : ∀ E : Env, ∀ x, foldedSetIterable e E x = pure x := by intro _ _; rfl) :
    GS X env (.For tg e body [] pos :: rest) (mxs.bind fun xs => (foldO f s0 xs).bind kk) Z := by
  cases C with
  | mk nd calm po rm =>
    refine g_of (ps_for po calm hi (pgEx hg) (pssEx (ι := S × τ) fun q => hb q.1 q.2) (hf _)) hr fun W0 W B' σ D r E sb0 hm z => ?_
    obtain ⟨xs, hxs, hm⟩ := bind_some hm
    obtain ⟨sf, hsf, hm⟩ := bind_some hm
    refine use_w E hxs fun J W1 l1 wk => ?_
    have E1 := (E.mono l1).weak h0
    refine ⟨fun i n σ' H' => ∃ W2 s, W2.h = H' ∧ Same W1.b W2.b ∧ EnvR X.K W0 W2 (envL s) σ' ∧ foldO f s (xs.drop i) = some sf ∧ n = xs.length - i ∧ i ≤ xs.length, ⟨xs.length, W1, s0, rfl, Same.refl _, E1, hsf, rfl, Nat.zero_le _⟩, ?_⟩
    rintro i n σ' H' ⟨W2, s, rfl, sb, E2, hs, rfl, hle⟩
    by_cases hlt : i < xs.length
    · have hx : xs[i]? = some xs[i] := by simp [hlt]
      obtain ⟨g1, g2⟩ := wk.item i _ W2 hx sb E2.le
      rw [drop_cons hlt] at hs
      obtain ⟨s', hs1, hs2⟩ := bind_some hs
      refine .inr ⟨g1, fun σ3 H3 => ∃ W3, W3.h = H3 ∧ Same W1.b W3.b ∧ EnvR X.K W0 W3 (envL s') σ3, ?_, ?_⟩
      · rintro σ3 H3 ⟨W3, rfl, sb3, E3⟩
        exact ⟨xs.length - (i + 1), by omega, W3, s', rfl, sb3, E3, hs2, rfl, hlt⟩
      · intro v H3 hy
        obtain ⟨W3, l3, rfl, r3⟩ := g2 v H3 hy
        refine ⟨s, W0, W3, xs[i], rfl, E2.mono l3, r3, fun σ4 E4 _ => ⟨(s, xs[i]), ?_⟩⟩
        exact use_g (B := W1.b) E4 (sb.trans l3.b) hs1 fun W5 σ5 sb5 E5 => ⟨W5, rfl, sb5, E5⟩
    · have hi : i = xs.length := by omega
      subst hi
      rw [List.drop_length] at hs
      cases hs
      exact .inl ⟨wk.stop W2 sb E2.le, sf, use_g E2 ((sb0.trans l1.b).trans sb) hm z⟩
/-- .. that may be left, or return -/
theorem g_forF {mxs : Option (List τ)} {envL : S → List SV} {envX : S → τ → List SV} {is : List Nat} {res : α → RV} {f : S → τ → Option (Fl α S S)} {s0 : S} {φ : α → ρ} {kk : S → Option ρ} (C : Cf X N sc fb K mg P w base k) (hi : XWk X env tg e mxs) (hg : ∀ s, XG X (envL s) tg (envX s) is)
    (h0 : EnvLe env (envL s0)) (hb : ∀ s x, GS X (envX s x) body (f s x) (ZF X.K res envL envL)) (hz : ∀ r W0 B D, Z (φ r) W0 B D → ZR X.K res r W0 B D) (hr : ∀ s, GS X (envL s) rest (kk s) Z) (hf : ∀ E : Env, ∀ x, foldedSetIterable e E x = pure x := by intro _ _; rfl) :
    GS X env (.For tg e body [] pos :: rest) (mxs.bind fun xs => (loopO f s0 xs).bind (Lp.go φ kk)) Z := by
  cases C with
  | mk nd calm po rm =>
    refine g_of (ps_for po calm hi (pgEx hg) (pssEx (ι := S × τ) fun q => hb q.1 q.2) (hf _)) hr fun W0 W B' σ D r E sb0 hm z => ?_
    obtain ⟨xs, hxs, hm⟩ := bind_some hm
    obtain ⟨o, ho, hm⟩ := bind_some hm
    refine use_w E hxs fun J W1 l1 wk => ?_
    have E1 := (E.mono l1).weak h0
    refine ⟨fun i n σ' H' => ∃ W2 s, W2.h = H' ∧ Same W1.b W2.b ∧ EnvR X.K W0 W2 (envL s) σ' ∧ loopO f s (xs.drop i) = some o ∧ n = xs.length - i ∧ i ≤ xs.length, ⟨xs.length, W1, s0, rfl, Same.refl _, E1, ho, rfl, Nat.zero_le _⟩, ?_⟩
    rintro i n σ' H' ⟨W2, s, rfl, sb, E2, hs, rfl, hle⟩
    by_cases hlt : i < xs.length
    · have hx : xs[i]? = some xs[i] := by simp [hlt]
      obtain ⟨g1, g2⟩ := wk.item i _ W2 hx sb E2.le
      rw [drop_cons hlt] at hs
      obtain ⟨q, hs1, hs2⟩ := bind_some hs
      refine .inr ⟨g1, fun σ3 H3 => ∃ W3 s', W3.h = H3 ∧ Same W1.b W3.b ∧ EnvR X.K W0 W3 (envL s') σ3 ∧ loopO f s' (xs.drop (i + 1)) = some o, ?_, ?_⟩
      · rintro σ3 H3 ⟨W3, s', rfl, sb3, E3, h3⟩
        exact ⟨xs.length - (i + 1), by omega, W3, s', rfl, sb3, E3, h3, rfl, hlt⟩
      · intro v H3 hy
        obtain ⟨W3, l3, rfl, r3⟩ := g2 v H3 hy
        refine ⟨s, W0, W3, xs[i], rfl, E2.mono l3, r3, fun σ4 E4 _ => ⟨(s, xs[i]), ?_⟩⟩
        refine use_g (B := W1.b) E4 (sb.trans l3.b) hs1 ?_
        cases q with
        | nx s' => exact fun W5 σ5 sb5 E5 => ⟨W5, s', rfl, sb5, E5, hs2⟩
        | ct s' => exact fun W5 σ5 sb5 E5 => ⟨W5, s', rfl, sb5, E5, hs2⟩
        | bk s' =>
          cases hs2
          exact fun W5 σ5 sb5 E5 => ⟨s', use_g E5 ((sb0.trans l1.b).trans sb5) hm z⟩
        | rt r' =>
          cases hs2
          cases hm
          exact fun v W5 l5 r5 => hz r' W0 B' D z v W5 l5 r5
    · have hi : i = xs.length := by omega
      subst hi
      rw [List.drop_length] at hs
      cases hs
      exact .inl ⟨wk.stop W2 sb E2.le, s, use_g E2 ((sb0.trans l1.b).trans sb) hm z⟩
/-! ### while: n turns at most -/
def whileO (c : S → Option Bool) (f : S → Option S) : Nat → S → Option S
  | 0, _ => none
  | n + 1, s => (c s).bind fun b => if b = true then (f s).bind fun s' => whileO c f n s' else some s
def whileF (c : S → Option Bool) (f : S → Option (Fl ρ S S)) : Nat → S → Option (Lp ρ S)
  | 0, _ => none
  | n + 1, s => (c s).bind fun b => if b = true then (f s).bind fun o => match o with
      | .nx s' => whileF c f n s'
      | .ct s' => whileF c f n s'
      | .bk s' => some (.fin s')
      | .rt r => some (.ret r)
    else some (.fin s)
theorem g_while {envL : S → List SV} {c' : S → Option Bool} {f : S → Option S} {n : Nat} {s0 : S} {kk : S → Option ρ} (C : Cf X N sc fb K mg P w base k) (hc : ∀ s, XT X (envL s) c (c' s))
    (h0 : EnvLe env (envL s0)) (hb : ∀ s, GS X (envL s) body (f s) (ZN X.K envL)) (hr : ∀ s, GS X (envL s) rest (kk s) Z) :
    GS X env (.While c body [] pos :: rest) ((whileO c' f n s0).bind kk) Z := by
  cases C with
  | mk nd calm po rm =>
    refine g_of (ps_while po (ptEx hc) (pssEx hb)) hr fun W0 W B' σ D r E sb0 hm z => ?_
    obtain ⟨sf, hsf, hm⟩ := bind_some hm
    refine ⟨fun i σ' H' => ∃ W2 s, W2.h = H' ∧ Same B' W2.b ∧ EnvR X.K W0 W2 (envL s) σ' ∧ whileO c' f i s = some sf, ⟨n, W, s0, rfl, sb0, E.weak h0, hsf⟩, ?_⟩
    rintro i σ' H' ⟨W2, s, rfl, sb, E2, hs⟩
    cases i with
    | zero => cases hs
    | succ i =>
      obtain ⟨b, hb1, hs⟩ := bind_some hs
      refine ⟨s, use_t E2 hb1 fun W3 l3 => ?_⟩
      cases b with
      | true =>
        obtain ⟨s', h1, h2⟩ := bind_some (show (f s).bind (fun s' => whileO c' f i s') = some sf by simpa using hs)
        rw [if_pos rfl]
        refine ⟨fun σ3 H3 => ∃ W4, W4.h = H3 ∧ Same B' W4.b ∧ EnvR X.K W0 W4 (envL s') σ3, ?_, s, ?_⟩
        · rintro σ3 H3 ⟨W4, rfl, sb4, E4⟩
          exact ⟨i, Nat.lt_succ_self _, W4, s', rfl, sb4, E4, h2⟩
        · exact use_g (E2.mono l3) (sb.trans l3.b) h1 fun W5 σ5 sb5 E5 => ⟨W5, rfl, sb5, E5⟩
      | false =>
        rw [if_neg Bool.false_ne_true]
        have e : s = sf := Option.some.inj (by simpa using hs)
        subst e
        exact ⟨s, use_g (E2.mono l3) (sb.trans l3.b) hm z⟩
theorem g_whileF {envL : S → List SV} {c' : S → Option Bool} {res : α → RV} {f : S → Option (Fl α S S)} {n : Nat} {s0 : S} {φ : α → ρ} {kk : S → Option ρ} (C : Cf X N sc fb K mg P w base k) (hc : ∀ s, XT X (envL s) c (c' s))
    (h0 : EnvLe env (envL s0)) (hb : ∀ s, GS X (envL s) body (f s) (ZF X.K res envL envL)) (hz : ∀ r W0 B D, Z (φ r) W0 B D → ZR X.K res r W0 B D) (hr : ∀ s, GS X (envL s) rest (kk s) Z) :
    GS X env (.While c body [] pos :: rest) ((whileF c' f n s0).bind (Lp.go φ kk)) Z := by
  cases C with
  | mk nd calm po rm =>
    refine g_of (ps_while po (ptEx hc) (pssEx hb)) hr fun W0 W B' σ D r E sb0 hm z => ?_
    obtain ⟨o, ho, hm⟩ := bind_some hm
    refine ⟨fun i σ' H' => ∃ W2 s, W2.h = H' ∧ Same B' W2.b ∧ EnvR X.K W0 W2 (envL s) σ' ∧ whileF c' f i s = some o, ⟨n, W, s0, rfl, sb0, E.weak h0, ho⟩, ?_⟩
    rintro i σ' H' ⟨W2, s, rfl, sb, E2, hs⟩
    cases i with
    | zero => cases hs
    | succ i =>
      obtain ⟨b, hb1, hs⟩ := bind_some hs
      refine ⟨s, use_t E2 hb1 fun W3 l3 => ?_⟩
      cases b with
      | true =>
        rw [if_pos rfl] at hs
        obtain ⟨q, h1, h2⟩ := bind_some hs
        rw [if_pos rfl]
        refine ⟨fun σ3 H3 => ∃ W4 s', W4.h = H3 ∧ Same B' W4.b ∧ EnvR X.K W0 W4 (envL s') σ3 ∧ whileF c' f i s' = some o, ?_, s, ?_⟩
        · rintro σ3 H3 ⟨W4, s', rfl, sb4, E4, h4⟩
          exact ⟨i, Nat.lt_succ_self _, W4, s', rfl, sb4, E4, h4⟩
        · refine use_g (E2.mono l3) (sb.trans l3.b) h1 ?_
          cases q with
          | nx s' => exact fun W5 σ5 sb5 E5 => ⟨W5, s', rfl, sb5, E5, h2⟩
          | ct s' => exact fun W5 σ5 sb5 E5 => ⟨W5, s', rfl, sb5, E5, h2⟩
          | bk s' =>
            cases h2
            exact fun W5 σ5 sb5 E5 => ⟨s', use_g E5 sb5 hm z⟩
          | rt r' =>
            cases h2
            cases hm
            exact fun v W5 l5 r5 => hz r' W0 B' D z v W5 l5 r5
      | false =>
        rw [if_neg Bool.false_ne_true] at hs
        rw [if_neg Bool.false_ne_true]
        cases hs
        exact ⟨s, use_g (E2.mono l3) (sb.trans l3.b) hm z⟩
/-! ### list comprehensions -/
def lcO (c : α → Option Bool) (f : α → Option β) : List α → Option (List β)
  | [] => some []
  | x :: xs => (c x).bind fun b => if b = true then (f x).bind fun y => (lcO c f xs).bind fun ys => some (y :: ys) else lcO c f xs
def mapO (f : α → Option β) : List α → Option (List β)
  | [] => some []
  | x :: xs => (f x).bind fun y => (mapO f xs).bind fun ys => some (y :: ys)
def lcC (c : α → Option Bool) (f : α → Option β) (xs : List α) : Option (List β) := if sz xs.length then lcO c f xs else none
def mapC (f : α → Option β) (xs : List α) : Option (List β) := if sz xs.length then mapO f xs else none
theorem lcO_true {f : α → Option β} : ∀ xs : List α, lcO (fun _ => some true) f xs = mapO f xs
  | [] => rfl
  | x :: xs => by
    show (some true).bind _ = _
    rw [Option.bind_some, if_pos rfl]
    show (f x).bind _ = (f x).bind _
    rw [lcO_true xs]
theorem EnvR.wipe {W0 W : Wd} {σ : St} (E : EnvR K W0 W env σ) {vs : List Nat} (h : ∀ i ∈ vs, env[i]? = some .any) : EnvR K W0 W env (wipe σ vs) := by
  refine ⟨E.le, by rw [wipe_length]; exact E.len, fun i sv e => ?_, fun i j di dj n e1 e2 => ?_, E.tbl⟩
  · by_cases hi : i ∈ vs
    · rw [h i hi] at e
      cases e
      have hlt : i < (L2.wipe σ vs).length := by rw [wipe_length, E.len]; exact (List.getElem?_eq_some_iff.mp (h i hi)).1
      exact ⟨_, List.getElem?_eq_some_iff.mpr ⟨hlt, rfl⟩, trivial⟩
    · rw [wipe_out hi]
      exact E.slot i sv e
  · have hi : i ∉ vs := fun z => by rw [h i z] at e1; cases e1
    have hj : j ∉ vs := fun z => by rw [h j z] at e2; cases e2
    rw [wipe_out hi, wipe_out hj]
    exact E.apart i j di dj n e1 e2
/-- the place of a comprehension's block -/
theorem Cf.blk (C : Cf X N sc fb K mg P w base k) (s : Shared) (H : Hp) (scope : Scope) (cl : List (Str × Addr)) (C' : Addr) (fp : List Addr) :
    Cf (X.blk s H scope (compEnvC scope cl C' X.env) fp) N (relS scope sc) (fun x => scope.names.lookup x == some .cell) K mg P w base k := by
  cases C with
  | mk nd calm po rm =>
    exact Cf.mk (X := X.blk s H scope (compEnvC scope cl C' X.env) fp) nd calm PassesOwn.never rm
end
end T

set_option Elab.async false
set_option linter.all false
set_option maxRecDepth 100000
set_option maxHeartbeats 4000000
namespace T
open PySem PySem.Spec PyProof.Rows L2
variable {τ α β γ δ ρ B S ι : Type}
variable [Tabs]
section
variable {X : Cx} {env env' : List SV} {e a b c tg iter elt : Expr} {st : Stmt} {es : List Expr} {body rest : List Stmt} {pos p p2 : Pos} [Em τ] [Em α] [Em β] [Em γ] {N : List Str} {sc : Scope} {fb : Str → Bool} {K : PySem.W.Frag} {mg : Str → Option Value} {P : Program} {w : World} {base : Heap} {k : Nat}
/-! ### list comprehensions -/
theorem lc_read {own : List (Str × Nat)} {mxs : Option (List α)} {envC : List SV} {envX : α → List SV} {is : List Nat} {c' : α → Option Bool} {f : α → Option β} (hw : ∀ i ∈ own.map (·.2), envC[i]? = some .any) (h0 : EnvLe env envC) (his : ∀ i ∈ is, i ∈ own.map (·.2)) :
    ∀ (σ : St) (H : Hp) (Q : VK), tL K env (mxs.bind fun xs => lcC c' f xs) σ H Q →
      tLc (tW K env mxs) (tGt K envC envX is) (fun σ H Q => ∃ x, tC' K (envX x) (c' x) σ H Q) (fun σ H Q => ∃ x, tX K (envX x) (f x) σ H Q) (own.map (·.2)) σ H Q := by
  intro σ H Q ⟨W0, W, hH, E, ys, hy, q⟩
  subst hH
  obtain ⟨xs, hxs, hy⟩ := bind_some hy
  unfold lcC at hy
  split at hy
  · rename_i hsz
    refine use_w E hxs fun J W1 l1 wk D0 hD => ?_
    have E1 := (E.mono l1).weak h0
    refine ⟨fun i m H => ∃ (W2 : Wd) (acc : List V) (dn rs : List β), W2.h = H ∧ Le W1 W2 ∧ W2.h D0 = some (.lst acc) ∧ W2.b D0 = none ∧ RpA K W2.b acc (dn.map em) ∧ lcO c' f (xs.drop i) = some rs ∧ ys = dn ++ rs ∧ dn.length ≤ i ∧ i ≤ xs.length ∧ m = xs.length - i,
      ⟨xs.length, ⟨W1.b, upd W1.h D0 (.lst [])⟩, [], [], ys, rfl, Le.layM l1.ok hD, upd_same, l1.ok.free hD, .nil, hy, rfl, Nat.le_refl _, Nat.zero_le _, rfl⟩, ?_⟩
    rintro i m H ⟨W2, acc, dn, rs, rfl, l2, d1, d2, ra, hl, hys, hdl, hle, rfl⟩
    by_cases hlt : i < xs.length
    · have hx : xs[i]? = some xs[i] := by simp [hlt]
      obtain ⟨g1, g2⟩ := wk.item i _ W2 hx l2.b (E1.le.trans l2)
      rw [drop_cons hlt] at hl
      obtain ⟨bb, hb1, hl⟩ := bind_some hl
      refine .inr ⟨g1, fun H' => ∃ (W3 : Wd) (acc' : List V) (dn' rs' : List β), W3.h = H' ∧ Le W1 W3 ∧ W3.h D0 = some (.lst acc') ∧ W3.b D0 = none ∧ RpA K W3.b acc' (dn'.map em) ∧ lcO c' f (xs.drop (i + 1)) = some rs' ∧ ys = dn' ++ rs' ∧ dn'.length ≤ i + 1, ?_, ?_⟩
      · rintro H' ⟨W3, acc', dn', rs', e1, e2, e3, e4, e5, e6, e7, e8⟩
        exact ⟨xs.length - (i + 1), by omega, W3, acc', dn', rs', e1, e2, e3, e4, e5, e6, e7, e8, hlt, rfl⟩
      · intro v H3 hyl
        obtain ⟨W3, l3, rfl, r3⟩ := g2 v H3 hyl
        have E3 := ((E1.mono l2).mono l3).wipe hw
        refine ⟨W0, W3, xs[i], rfl, E3, r3, fun σ4 E4 hwp => ⟨?_, ?_⟩⟩
        · rw [hwp _ his]
          have aux : ∀ {vs : List Nat} {τ : St}, L2.wipe (L2.wipe τ vs) vs = L2.wipe τ vs := by
            intro vs τ
            refine List.ext_getElem? fun j => ?_
            by_cases hj : j ∈ vs
            · have key : ∀ (ws : List Nat) (υ : St), j ∈ ws → (L2.wipe υ ws)[j]? = if j < υ.length then some none else none := by
                intro ws
                induction ws with
                | nil => intro υ h; simp at h
                | cons z zs ih =>
                  intro υ h
                  unfold L2.wipe
                  by_cases e : z = j
                  · subst e
                    by_cases hl : z < υ.length
                    · rw [List.getElem?_set_self (by rw [wipe_length]; exact hl), if_pos hl]
                    · rw [List.getElem?_eq_none (by rw [List.length_set, wipe_length]; omega), if_neg hl]
                  · rw [List.getElem?_set_ne e]
                    exact ih υ (by rcases List.mem_cons.mp h with q | q; exact absurd q.symm e; exact q)
              rw [key vs _ hj, key vs _ hj, wipe_length]
            · rw [wipe_out hj]
          exact aux
        · refine ⟨xs[i], use_t E4 hb1 fun W4 l4 => ?_⟩
          have l14 := (l2.trans l3).trans l4
          have d14 : W4.h D0 = some (.lst acc) := (l3.trans l4).h.lst d1
          have b14 : W4.b D0 = none := ((l3.trans l4).f _ _ d1).trans d2
          cases bb with
          | false =>
            rw [if_neg Bool.false_ne_true] at hl ⊢
            exact ⟨W4, acc, dn, rs, rfl, l14, d14, b14, ra.mono (l3.trans l4).b, hl, hys, by omega⟩
          | true =>
            rw [if_pos rfl] at hl ⊢
            obtain ⟨y, hy1, hl⟩ := bind_some hl
            obtain ⟨rs', hl1, hl⟩ := bind_some hl
            cases hl
            refine ⟨xs[i], use_x (E4.mono l4) hy1 fun u W5 l5 r5 => ?_⟩
            have d15 : W5.h D0 = some (.lst acc) := l5.h.lst d14
            have b15 : W5.b D0 = none := (l5.f _ _ d14).trans b14
            have l15 := l14.trans l5
            have hal : acc.length = dn.length := by have := ra.length; rwa [List.length_map] at this
            refine ⟨acc, d15, ?_, ⟨W5.b, upd W5.h D0 (.lst (acc ++ [u]))⟩, acc ++ [u], dn ++ [y], rs', rfl, ⟨l15.b, fun x o z => ?_, l15.f, fun x o z => ?_⟩, upd_same, b15, ?_, hl1, by rw [hys, List.append_assoc] <;> rfl, by rw [List.length_append, List.length_singleton]; omega⟩
            · exact Nat.lt_of_le_of_lt (by omega : acc.length ≤ xs.length) (sz_line hsz)
            · exact l15.h.upd hD x o z
            · show upd W5.h D0 _ x = some o
              rw [upd_ne (ne_of_none z b15)]; exact l15.ok x o z
            · rw [List.map_append]
              exact (ra.mono ((l3.trans l4).trans l5).b).append (.cons r5 .nil)
    · have hi' : i = xs.length := by omega
      subst hi'
      rw [List.drop_length] at hl
      cases hl
      rw [List.append_nil] at hys
      subst hys
      exact .inl ⟨wk.stop W2 l2.b (E1.le.trans l2), q D0 acc W2 (l1.trans l2) (l1.h.free hD) d1 d2 ra⟩
  · cases hy
/-- what a comprehension's parts are at any state that its block starts from -/
structure LcP (K : PySem.W.Frag) (tg elt : Expr) (ifs : List Expr) (scope : Scope) (envC : List SV) (envX : α → List SV) (is : List Nat) (c' : α → Option Bool) (f : α → Option β) (N : List Str) (sc : Scope) (mg : Str → Option Value) (P : Program) (w : World) (base : Heap) (k : Nat) : Prop where
  tgt : ∀ X', Cf X' N (relS scope sc) (fun x => scope.names.lookup x == some .cell) K mg P w base k → XG X' envC tg envX is
  tst : ∀ X', Cf X' N (relS scope sc) (fun x => scope.names.lookup x == some .cell) K mg P w base k → ∀ x, PTs X' ifs (tC' X'.K (envX x) (c' x))
  itm : ∀ X', Cf X' N (relS scope sc) (fun x => scope.names.lookup x == some .cell) K mg P w base k → ∀ x, XE X' (envX x) elt (f x)
theorem lc_gen {scope : Scope} {ifs : List Expr} {own : List (Str × Nat)} {mxs : Option (List α)} {envC : List SV} {envX : α → List SV} {is : List Nat} {c' : α → Option Bool} {f : α → Option β} (C : Cf X N sc fb K mg P w base k) (hi : XWk X env tg iter mxs)
    (L : LcP K tg elt ifs scope envC envX is c' f N sc mg P w base k) (ok : blkC N sc scope own = true) (hw : ∀ i ∈ own.map (·.2), envC[i]? = some .any) (h0 : EnvLe env envC) (his : ∀ i ∈ is, i ∈ own.map (·.2))
    (hf : ∀ E : Env, ∀ x, foldedSetIterable iter E x = pure x := by intro _ _; rfl) :
    XL X env (.ListComp elt [⟨tg, iter, ifs, 0⟩] scope pos) (mxs.bind fun xs => lcC c' f xs) := by
  have CC := C
  cases C with
  | mk nd calm po rm =>
    exact peImp (pe_lc (g := tGt X.K envC envX is) (tt := fun σ H Q => ∃ x, tC' X.K (envX x) (c' x) σ H Q) (te := fun σ H Q => ∃ x, tX X.K (envX x) (f x) σ H Q) calm nd hi (blkOk_by ok) (fun s H C' cl fp => L.tgt _ (CC.blk s H scope cl C' fp))
      (fun s H C' cl fp => ptsEx (t := fun x => tC' X.K (envX x) (c' x)) fun x => L.tst _ (CC.blk s H scope cl C' fp) x) (fun s H C' cl fp => peEx (t := fun x => tX X.K (envX x) (f x)) fun x => L.itm _ (CC.blk s H scope cl C' fp) x) (hf _)) (lc_read hw h0 his)
/-- y = [..], the name a local that no block captures, on one line -/
theorem g_setLc {ρ : Type} {Z : ρ → Wd → Hp → Ends → Prop} {scope : Scope} {ifs : List Expr} {own : List (Str × Nat)} {mxs : Option (List α)} {envC : List SV} {envX : α → List SV} {is : List Nat} {c' : α → Option Bool} {f : α → Option β} {kk : List β → Option ρ} {n : Str} {p' cp : Pos}
    (C : Cf X N sc fb K mg P w base k) (i : Nat) (hi : XWk X env tg iter mxs)
    (L : LcP K tg elt ifs scope envC envX is c' f N sc mg P w base k) (ok : blkC N sc scope own = true) (hw : ∀ i ∈ own.map (·.2), envC[i]? = some .any) (h0 : EnvLe env envC) (his : ∀ i ∈ is, i ∈ own.map (·.2))
    (hr : ∀ x, GS X (env.set i (.own (x.map em))) rest (kk x) Z)
    (hin : N[i]? = some n := by rfl) (hkd : sc.kind = .function := by rfl) (hl : sc.names.lookup n = some .local := by decide +kernel) (hln : (p'.line == cp.line) = true := by rfl) (hcl : (scope.names.any fun (m, k) => m == n && (k == .local || k == .cell)) = false := by decide +kernel)
    (hf : ∀ E : Env, ∀ x, foldedSetIterable iter E x = pure x := by intro _ _; rfl) :
    GS X env (.Assign [.Name n p'] (.ListComp elt [⟨tg, iter, ifs, 0⟩] scope cp) pos :: rest) ((mxs.bind fun xs => lcC c' f xs).bind kk) Z := by
  have CC := C
  cases C with
  | mk nd calm po rm =>
    refine g_of (ps_setLc (g := tGt X.K envC envX is) (tt := fun σ H Q => ∃ x, tC' X.K (envX x) (c' x) σ H Q) (te := fun σ H Q => ∃ x, tX X.K (envX x) (f x) σ H Q) calm nd hin hl (sw_true hkd hl hln hcl) hi (blkOk_by ok) (fun s H C' cl fp => L.tgt _ (CC.blk s H scope cl C' fp))
      (fun s H C' cl fp => ptsEx (t := fun x => tC' X.K (envX x) (c' x)) fun x => L.tst _ (CC.blk s H scope cl C' fp) x) (fun s H C' cl fp => peEx (t := fun x => tX X.K (envX x) (f x)) fun x => L.itm _ (CC.blk s H scope cl C' fp) x) (hf _)) hr fun W0 W B σ D r E sb hm z => ?_
    obtain ⟨x, hx, hm⟩ := bind_some hm
    exact lc_read hw h0 his σ W.h _ (use_l E hx fun a vs W1 l1 h0 h1 hb r1 => ⟨x, use_g (E.putL l1 h0 h1 hb r1) (sb.trans l1.b) hm z⟩)
theorem lcP_no {scope : Scope} {envC : List SV} {envX : α → List SV} {is : List Nat} {f : α → Option β}
    (hg : ∀ X', Cf X' N (relS scope sc) (fun x => scope.names.lookup x == some .cell) K mg P w base k → XG X' envC tg envX is)
    (he : ∀ X', Cf X' N (relS scope sc) (fun x => scope.names.lookup x == some .cell) K mg P w base k → ∀ x, XE X' (envX x) elt (f x)) : LcP K tg elt [] scope envC envX is (fun _ => some true) f N sc mg P w base k :=
  ⟨hg, fun X' C' x => ⟨fun pins s σ H Q I ⟨W0, W, hH, E, y, hy, q⟩ => by
    subst hH
    cases hy
    exact pts_nil.run pins s σ _ Q I (q W (Le.refl E.ok))⟩, he⟩
theorem lcP_if {scope : Scope} {envC : List SV} {envX : α → List SV} {is : List Nat} {c' : α → Option Bool} {f : α → Option β}
    (hg : ∀ X', Cf X' N (relS scope sc) (fun x => scope.names.lookup x == some .cell) K mg P w base k → XG X' envC tg envX is)
    (ht : ∀ X', Cf X' N (relS scope sc) (fun x => scope.names.lookup x == some .cell) K mg P w base k → ∀ x, XT X' (envX x) c (c' x))
    (he : ∀ X', Cf X' N (relS scope sc) (fun x => scope.names.lookup x == some .cell) K mg P w base k → ∀ x, XE X' (envX x) elt (f x)) : LcP K tg elt [c] scope envC envX is c' f N sc mg P w base k :=
  ⟨hg, fun X' C' x => pts_one (ht X' C' x), he⟩
theorem lcC_true {f : α → Option β} {xs : List α} : lcC (fun _ => some true) f xs = mapC f xs := by unfold lcC mapC; rw [lcO_true]
/-! ### defs -/
def spF {A : Type} (K : PySem.W.Frag) (svs : A → List SV) (m : A → Option ρ) (res : ρ → RV) : Sp := fun vs H Q _ =>
  ∃ (W : Wd) (a : A) (x : ρ), W.h = H ∧ Same W.b W.h ∧ TabsOk W ∧ Args K W vs (svs a) ∧ m a = some x ∧ ∀ v W', Le W W' → ResR K W W' v (res x) → Q v W'.h
/-- a call -/
theorem x_call {A : Type} {svs : A → List SV} {m : A → Option τ} {ma : Option A} {x : Str} {f : Addr} {fd : FuncData} {ps : List Str} {j : Nat} (C : Cf X N sc fb K mg P w base k) (G : FnOk P w K mg base CX0 j f fd ps (spF K svs m fun x => .dat (em x)))
    (hm : mg x = some (.ref f)) (hk : PySem.W.keepIn K (.ref f) = true) (hb : Binds K fd ps []) (ha : XA X env (e :: es) ma svs) (hj : j ≤ k := by decide) (hg : glbB sc x = true := by decide +kernel)
    (hdb : (x == ("__debug__" : Str)) = false := by decide) (he : starEach (e :: es) X.env = (false, eval e X.env) :: starEach es X.env := by rfl) (hpl : (backTo pos (starEach es X.env)).any (·.1) = false := by rfl) :
    XE X env (.Call (.Name x p) (e :: es) [] pos) (ma.bind m) := by
  cases C with
  | mk nd calm po rm =>
    refine x_of (pe_call G (rm.mono hj) (glbB_ok hg) hm hk hb .nil pass0 ha hdb he hpl) fun W0 W σ E z hz Q q => ?_
    obtain ⟨y, hy, hz⟩ := bind_some hz
    refine use_a E hy fun vs W1 l1 r1 => ?_
    rw [List.append_nil]
    exact ⟨W1, y, z, rfl, l1.ok, (E.mono l1).tbl, r1, hz, fun v W2 l2 r2 => q v W2 (l1.trans l2) r2⟩
theorem l_call {A : Type} {svs : A → List SV} {m : A → Option (List τ)} {ma : Option A} {x : Str} {f : Addr} {fd : FuncData} {ps : List Str} {j : Nat} (C : Cf X N sc fb K mg P w base k) (G : FnOk P w K mg base CX0 j f fd ps (spF K svs m fun x => .own (x.map em)))
    (hm : mg x = some (.ref f)) (hk : PySem.W.keepIn K (.ref f) = true) (hb : Binds K fd ps []) (ha : XA X env (e :: es) ma svs) (hj : j ≤ k := by decide) (hg : glbB sc x = true := by decide +kernel)
    (hdb : (x == ("__debug__" : Str)) = false := by decide) (he : starEach (e :: es) X.env = (false, eval e X.env) :: starEach es X.env := by rfl) (hpl : (backTo pos (starEach es X.env)).any (·.1) = false := by rfl) :
    XL X env (.Call (.Name x p) (e :: es) [] pos) (ma.bind m) := by
  cases C with
  | mk nd calm po rm =>
    refine l_of (pe_call G (rm.mono hj) (glbB_ok hg) hm hk hb .nil pass0 ha hdb he hpl) fun W0 W σ E z hz Q q => ?_
    obtain ⟨y, hy, hz⟩ := bind_some hz
    refine use_a E hy fun vs W1 l1 r1 => ?_
    rw [List.append_nil]
    refine ⟨W1, y, z, rfl, l1.ok, (E.mono l1).tbl, r1, hz, fun v W2 l2 r2 => ?_⟩
    obtain ⟨ad, us, e1, e2, e3, e4, e5⟩ := r2
    subst e1
    exact q ad us W2 (l1.trans l2) (l1.h.free e4) e2 e3 e5
def NoOwn (svs : List SV) : Prop := ∀ sv ∈ svs, ∀ ds, sv ≠ .own ds
theorem Args.slots {W : Wd} : ∀ {vs : List V} {svs : List SV}, Args K W vs svs → ∀ (i : Nat) (sv : SV), svs[i]? = some sv → ∃ v, vs[i]? = some v ∧ SlotR K W W (some v) sv
  | _, _, .nil, i, sv, e => by simp at e
  | _, _, .dat r t, 0, sv, e => by
    simp at e
    subst e
    exact ⟨_, rfl, _, rfl, r⟩
  | _, _, .bor s r t, 0, sv, e => by
    simp at e
    subst e
    exact ⟨_, rfl, _, _, rfl, s, r⟩
  | _, _, .dat r t, i + 1, sv, e => by
    obtain ⟨v, h1, h2⟩ := Args.slots t i sv (by simpa using e)
    exact ⟨v, by simpa using h1, h2⟩
  | _, _, .bor s r t, i + 1, sv, e => by
    obtain ⟨v, h1, h2⟩ := Args.slots t i sv (by simpa using e)
    exact ⟨v, by simpa using h1, h2⟩
theorem Args.noOwn {W : Wd} : ∀ {vs : List V} {svs : List SV}, Args K W vs svs → ∀ (i : Nat) (ds : List D), svs[i]? ≠ some (.own ds)
  | _, _, .nil, i, ds, e => by simp at e
  | _, _, .dat r t, 0, ds, e => by simp at e
  | _, _, .bor s r t, 0, ds, e => by simp at e
  | _, _, .dat r t, i + 1, ds, e => Args.noOwn t i ds (by simpa using e)
  | _, _, .bor s r t, i + 1, ds, e => Args.noOwn t i ds (by simpa using e)
/-- at a def's entry -/
theorem EnvR.start {W : Wd} (ok : Same W.b W.h) (tb : TabsOk W) {vs : List V} {svs : List SV} (h : Args K W vs svs) {n : Nat} (hn : N.length - vs.length = n) : EnvR K W W (svs ++ List.replicate n .any) (start N vs) := by
  have hl := h.length
  refine ⟨Le.refl ok, ?_, fun i sv e => ?_, fun i j di dj _ e _ => ?_, tb⟩
  · unfold L2.start
    rw [List.length_append, List.length_append, List.length_map, List.length_replicate, List.length_replicate, hl, ← hn, hl]
  · unfold L2.start
    by_cases hi : i < svs.length
    · rw [List.getElem?_append_left hi] at e
      obtain ⟨v, h1, h2⟩ := h.slots i sv e
      refine ⟨some v, ?_, h2⟩
      rw [List.getElem?_append_left (by rw [List.length_map, hl]; exact hi), List.getElem?_map, h1]
      rfl
    · rw [List.getElem?_append_right (by omega)] at e
      obtain ⟨h1, h2⟩ := List.getElem?_eq_some_iff.mp e
      rw [List.getElem_replicate] at h2
      subst h2
      rw [List.length_replicate] at h1
      refine ⟨none, ?_, trivial⟩
      rw [List.getElem?_append_right (by rw [List.length_map, hl]; omega), List.length_map, hl, List.getElem?_replicate]
      rw [if_pos (by rw [← hl, hn]; rw [← hl] at h1; exact h1)]
  · exfalso
    by_cases hi : i < svs.length
    · rw [List.getElem?_append_left hi] at e
      exact h.noOwn i di e
    · rw [List.getElem?_append_right (by omega)] at e
      obtain ⟨h1, h2⟩ := List.getElem?_eq_some_iff.mp e
      rw [List.getElem_replicate] at h2
      cases h2
/-- THE RULE of a def -/
theorem fn_mk {A : Type} {svs : A → List SV} {m : A → Option ρ} {res : ρ → RV} {x qual : Str} {st : Stmt} {f : Addr} {fd : FuncData} {ps : List Str} (F : Fun K x qual st f fd) (S : FnScope N ps (defScope st)) (n : Nat) (hn : N.length - ps.length = n) (hl : ∀ a, (svs a).length = ps.length)
    (body : ∀ X, Cf X N (defScope st) (fun _ => true) K mg P w base k → ∀ a, GS X (svs a ++ List.replicate n .any) (defBody st) (m a) (ZRn X.K res)) : FnOk P w K mg base CX0 (k + 1) f fd ps (spF K svs m res) := by
  refine F.ok S (fun vs H Q E h => ?_) (fun cdv A' outer s H vs Q E hr h => ?_)
  · obtain ⟨W, a, y, _, _, _, r, _⟩ := h
    rw [r.length, hl]
  · obtain ⟨W, a, y, hH, ok, tb, r, hy, q⟩ := h
    subst hH
    refine ⟨_, body _ (Cf.mk S.nd rfl PassesOwn.never hr) a, W, W, W.b, rfl, EnvR.start ok tb r (by rw [r.length, hl]; exact hn), Same.refl _, y, hy, fun v W' l r' => q v W' l r', fun σ W' l r' => q _ W' l r'⟩
end
end T

set_option Elab.async false
set_option linter.all false
set_option maxRecDepth 100000
set_option maxHeartbeats 4000000
/-! rules at the layer's own level that HandS lacks -/
namespace T
open PySem PySem.Spec PyProof.Rows L2
section
variable {X : Cx}
/-! ### a text times a number -/
theorem op_mulS : OpR X (binaryOp .Mult) (fun x y H Q => ∃ (z : Str) (n : Int), x = .str z ∧ y = .int n ∧ MulOk z n ∧ Q (.str (Txt.mul z n)) H) := by
  intro pins s σ H x y v u Q I rx ry h
  obtain ⟨z, n, rfl, rfl, hk, q⟩ := h
  obtain ⟨t, rfl⟩ := rx
  obtain ⟨t', rfl⟩ := ry
  exact SB.mul hk fun t2 k => ⟨.str _, H, I.tok _, ⟨_, rfl⟩, q⟩
/-! ### list + list, whatever lists they are -/
def rCatQ (K : PySem.W.Frag) : R2 := fun x y H Q => ∃ l b xs zs, x = .ref l ∧ y = .ref b ∧ SqL K H l xs ∧ SqL K H b zs ∧ xs.length + zs.length ≤ sizeLine ∧ ∀ p, H p = none → Q (.ref p) (upd H p (.lst (xs ++ zs)))
theorem op_catQ : OpR X (binaryOp .Add) (rCatQ X.K) := by
  intro pins s σ H x y v u Q I rx ry h
  obtain ⟨l, b, xs, zs, rfl, rfl, hH, hB, hz, q⟩ := h
  cases rx
  cases ry
  obtain ⟨its, r, p1, hl⟩ := I.list hH
  obtain ⟨its2, r2, p2, hl2⟩ := I.list hB
  obtain ⟨⟨cls, dd, data, sl⟩, ho, hc, n, hd⟩ := p1.isList
  obtain ⟨⟨cls2, dd2, data2, sl2⟩, ho2, hc2, n2, hd2⟩ := p2.isList
  simp only at hc hd hc2 hd2
  subst hc hd hc2 hd2
  have e : its.toArray ++ its2.toArray = (its ++ its2).toArray := by simp
  refine concat_meets ⟨_, ho, rfl⟩ ⟨_, ho2, rfl⟩ noFill_list_add seq_list_add PySem.F.slot_list_add PySem.F.entry_list_add (PySem.F.args_list_add_2 _ _) (list_addW l b its.toArray its2.toArray n n2 dd dd2 sl sl2 (by rw [List.size_toArray, List.size_toArray, ← r.length, ← r2.length]; exact hz)) ⟨ho, ho2, ?_⟩
  rw [e]
  exact ⟨.ref _, _, I.lnew (t' := s.toks) (r.append r2) (by rw [List.length_append]; omega), rfl, q _ I.fresh⟩
/-! ### the least of three -/
theorem vals3 {x y z : V} {us : List Value} (r : Vals [x, y, z] us) : ∃ u v w', us = [u, v, w'] ∧ RelV x u ∧ RelV y v ∧ RelV z w' := by
  cases r with
  | cons r1 r =>
    cases r with
    | cons r2 r =>
      cases r with
      | cons r3 r =>
        cases r
        exact ⟨_, _, _, rfl, r1, r2, r3⟩
def min3 (a b c : Int) : Int := if b < a then (if c < b then c else b) else (if c < a then c else a)
theorem call_min3 (hc : X.calm = true) : CallR X (.builtin "min") (fun xs H Q => ∃ i j k, xs = [.int i, .int j, .int k] ∧ Q (.int (min3 i j k)) H) := by
  intro pins s σ H xs us Q I r h
  obtain ⟨i, j, k, rfl, q⟩ := h
  obtain ⟨u, v, w', rfl, ⟨t, rfl⟩, ⟨t', rfl⟩, ⟨t'', rfl⟩⟩ := vals3 r
  refine min_three_ints (I.ok.hd hc) fun h' tk hk => ⟨_, H, I.kept hk, ?_, q⟩
  unfold min3
  by_cases h1 : j < i
  · rw [if_pos h1, if_pos h1]
    by_cases h2 : k < j
    · rw [if_pos h2, if_pos h2]; exact ⟨_, rfl⟩
    · rw [if_neg h2, if_neg h2]; exact ⟨_, rfl⟩
  · rw [if_neg h1, if_neg h1]
    by_cases h2 : k < i
    · rw [if_pos h2, if_pos h2]; exact ⟨_, rfl⟩
    · rw [if_neg h2, if_neg h2]; exact ⟨_, rfl⟩
/-! ### s[::-1] -/
def revS (z : Str) : Str := ⟨z.cps.toList.reverse.toArray⟩
theorem picked_rev (z : Str) : ((Builtin.Str.strSliceIndices none none (-1) z.length).filterMap (z.cps[·]?)) = z.cps.toList.reverse := by
  have h1 : Builtin.Str.strSliceIndices none none (-1) z.length = sliceRange ((z.length : Int) - 1) (-1) (-1) := by
    first
    | rfl
    | simp [Builtin.Str.strSliceIndices]
  rw [h1, PySem.W.krv_sliceRange, PySem.W.krv_range, List.filterMap_reverse]
  have h2 := PySem.W.krv_all z.cps
  show ((List.range z.cps.size).filterMap (z.cps[·]?)).reverse = _
  rw [h2]
def tRevS (te : TE) : TE := fun σ H Q => te σ H fun x H1 => ∃ z, x = .str z ∧ z.length ≤ sizeLine ∧ Q (.str (revS z)) H1
theorem pe_revS {e : Expr} {te : TE} {k : Nat} {p1 p2 p3 pos : Pos} (he : PE X e te) : PE X (.Subscript e (.Slice none none (some (.UnaryOp .USub (.Constant (.int 1) k p1) p2)) p3) pos) (tRevS te) := by
  refine ⟨fun pins s σ H Q I h => ?_⟩
  refine Subscript_ (thn (he.run pins s σ H _ I h) fun v s1 ⟨x, H1, I1, r1, q1⟩ => ?_)
  obtain ⟨z, ex, hz, q⟩ := q1
  subst ex
  obtain ⟨t, rfl⟩ := r1
  have hst : PO X (some (.UnaryOp .USub (.Constant (.int 1) k p1) p2)) (tPart (tUn (rU fun i => .int (-i)) (tC (.int 1)))) := po_some (pe_un un_neg pe_int)
  refine wpAny_Slice (thn (po_none.run pins s1 σ H1 (fun o H2 => o = none ∧ H2 = H1) I1 ⟨rfl, rfl⟩) fun vl s2 ⟨l, H2, I2, pl, el, e2⟩ => ?_)
  subst el e2
  refine thn (po_none.run pins s2 σ H2 (fun o H3 => o = none ∧ H3 = H2) I2 ⟨rfl, rfl⟩) fun vu s3 ⟨u, H3, I3, pu, eu, e3⟩ => ?_
  subst eu e3
  refine thn (hst.run pins s3 σ H3 (fun o H4 => o = some (-1) ∧ H4 = H3) I3 ⟨1, rfl, -1, rfl, rfl, rfl⟩) fun vs s4 ⟨o, H4, I4, ps, eo, e4⟩ => ?_
  subst eo e4
  have I5 : Inv X pins σ H4 { s4 with heap := s4.heap.push { cls := .type "slice", data := .fields #[vl, vu, vs] } } := I4.kept (t' := s4.toks) fun b ob q => Heap.get?_push_of_some _ q
  obtain ⟨l, rfl, hl⟩ := IsPart.raw pl
  obtain ⟨u, rfl, hu⟩ := IsPart.raw pu
  obtain ⟨st, rfl, hst⟩ := IsPart.raw ps
  show wpAny (model X.prog X.w) X.A (subscriptTail e (.Slice none none (some (.UnaryOp .USub (.Constant (.int 1) k p1) p2)) p3) (.str z t) (.ref s4.heap.objs.size)) (EP X pins σ Q) X.xe { s4 with heap := s4.heap.push { cls := .type "slice", data := .fields #[partValue l, partValue u, partValue st] } }
  refine tail_any (T := "str") (ops := [.str z t, .ref s4.heap.objs.size]) (typeIs_str _ _ _) F.slot_str_getitem.lookup ?_ (by with_unfolding_all rfl)
  refine wpAny_getItem_str_slice (l := l) (u := u) (st := st) ⟨_, Heap.get?_push_size _ rfl, rfl, rfl⟩ (by rw [hst]; decide) ?_
  have e : sliceMade z t l u st = Made.str (revS z) := by
    unfold sliceMade slicePicked
    rw [hst, hl, hu]
    show (if ((-1 : Int) == 1 && _) = true then _ else Made.str ⟨((Builtin.Str.strSliceIndices none none (-1) z.length).filterMap (z.cps[·]?)).toArray⟩) = _
    rw [picked_rev]
    rfl
  rw [e]
  refine ⟨?_, .str _, H4, I5.tok _, ⟨_, rfl⟩, q⟩
  show z.cps.toList.reverse.toArray.size ≤ sizeLine
  rw [List.size_toArray, List.length_reverse, Array.length_toList]
  exact hz
/-! ### enumerate of a text -/
def Ites (x : Str) : It :=
  ⟨fun i _ => i < x.cps.size, fun i H v H' => ∃ T c, v = .ref T ∧ H T = none ∧ H' = upd H T (.tup [.int (i : Nat), .str ⟨#[c]⟩]) ∧ x.cps[i]? = some c, fun i _ => i = x.cps.size⟩
theorem turn_enumS {P : Program} {w : World} {K : PySem.W.Frag} {elts : List Expr} {kk : Nat} {tpos : Pos} (x : Str) (t : Tok) (e it : Addr) (hei : e ≠ it) (ty : String) (hty : ty = "str_ascii_iterator" ∨ ty = "str_iterator") :
    Turn P w K (.Tuple elts kk tpos) (Ites x) [e, it] e (fun i h => (∃ old, IsEnum h e it ((i : Nat) : Int) old) ∧ h.IsStrIter it ty x t i) where
  mem := by simp
  obj := fun i h st b hb => by
    obtain ⟨⟨old, he⟩, ⟨o, ho, hc, hd⟩⟩ := st
    have e' : b = e ∨ b = it := by simpa using hb
    rcases e' with z | z
    · rw [z]; exact ⟨_, he, fun v q => nomatch q⟩
    · rw [z]; exact ⟨o, ho, fun v q => by rw [hd] at q; cases q⟩
  keep := fun i h h' st k => let ⟨⟨old, he⟩, ⟨o, ho, hr⟩⟩ := st; ⟨⟨old, k e (by simp) _ he⟩, ⟨o, k it (by simp) _ ho, hr⟩⟩
  item := by
    intro X hP hw hK hc i pins s σ H E I hf st hg
    subst hP hw hK
    have D : Draws X.prog X.w X.A.in1 it [it] x.cps.size (SignAt x) (fun i h => h.IsStrIter it ty x t i) := by
      rcases hty with q | q
      · rw [q]; exact Draws.strAscii (A := X.A.in1) (I.ok.hd hc) it x t
      · rw [q]; exact Draws.strWide (A := X.A.in1) (I.ok.hd hc) it x t
    have W := WalksT.enumerateD D e hei (by simpa using hei) (by simp)
    have hel : e < s.heap.objs.size := by obtain ⟨⟨_, he⟩, _⟩ := st; exact Heap.lt_size he
    have hil : it < s.heap.objs.size := by obtain ⟨_, ⟨_, ho, _⟩⟩ := st; exact Heap.lt_size ho
    refine W.item i s _ _ hg st fun T vals h' tk hP hT hI hM hk => ?_
    obtain ⟨t', u, hS, rfl⟩ := hP
    obtain ⟨c, t2, hcx, rfl⟩ := hS
    refine ⟨_, rfl, W.go elts kk tpos i T { s with heap := h', toks := tk } _ _ hM fun h'' st' hk2 => ?_⟩
    have hTe : T ∉ [e, it] := W.apart _ _ _ hM
    have hT2 : h''.IsTuple T #[.int i t', .str ⟨#[c]⟩ t2] := by
      obtain ⟨o, h1, h2⟩ := hI
      exact ⟨o, hk2 T o hTe h1, h2⟩
    have new : ObjOk X.prog X.w (upd H T (.tup [.int (i : Nat), .str ⟨#[c]⟩])) h'' T (.tup [.int (i : Nat), .str ⟨#[c]⟩]) :=
      ⟨by show 2 ≤ sizeLine; decide, [.int i t', .str ⟨#[c]⟩ t2], .cons ⟨_, rfl⟩ (.cons ⟨_, rfl⟩ .nil), hT2⟩
    have I1 : Inv X pins σ (upd H T (.tup [.int (i : Nat), .str ⟨#[c]⟩])) { s with heap := h'', toks := tk } :=
      I.turnedNew (ch := [e, it]) (fun b ob hb q => hk2 b ob hb (hk b ob hb q)) hf hT new
    refine ⟨.ref T, _, I1, rfl, ⟨T, c, rfl, I.hok.fresh hT, rfl, hcx⟩, st', fun b hb => ?_⟩
    have hb' : b < s.heap.objs.size := by
      have e' : b = e ∨ b = it := by simpa using hb
      rcases e' with z | z
      · rw [z]; exact hel
      · rw [z]; exact hil
    rw [upd_ne (Nat.ne_of_lt (Nat.lt_of_lt_of_le hb' hT))]
    exact (hf b hb).1
  done := by
    intro X hP hw hK hc i pins s σ H E I hf st hg
    subst hP hw hK
    have hg : i = x.cps.size := hg
    subst hg
    have D : Draws X.prog X.w X.A.in1 it [it] x.cps.size (SignAt x) (fun i h => h.IsStrIter it ty x t i) := by
      rcases hty with q | q
      · rw [q]; exact Draws.strAscii (A := X.A.in1) (I.ok.hd hc) it x t
      · rw [q]; exact Draws.strWide (A := X.A.in1) (I.ok.hd hc) it x t
    have W := WalksT.enumerateD D e hei (by simpa using hei) (by simp)
    refine W.done s _ _ st fun h' tk hk => ⟨rfl, ?_⟩
    exact I.turnedL hk hf
  self := fun A i s Q E st h => let ⟨⟨_, he⟩, _⟩ := st; wpAny_pyIter_enum he h
def iEnumS (ta : TA) : TI := fun σ H R => ta σ H fun vs H1 => ∃ x, vs = [.str x] ∧ R (Ites x) H1
theorem pi_enumS {e : Expr} {ta : TA} {p pos tpos : Pos} {elts : List Expr} {kk : Nat} (hg : Gl X "enumerate") (hm : X.mg "enumerate" = none) (ha : PA X [e] ta) (hs : starEach [e] X.env = [(false, eval e X.env)] := by rfl) :
    PI X (.Tuple elts kk tpos) (.Call (.Name "enumerate" p) [e] [] pos) (iEnumS ta) := by
  refine ⟨fun pins s σ H R I h => ?_⟩
  refine Call_ (ld_blt I hg hm boot_enumerate (PyProof.Rows.callWith_type1 (thn (ha.run pos pins s σ H _ I h) fun us s1 ⟨vs, H1, I1, r1, q1⟩ => ?_) hs rfl))
  obtain ⟨x, ex, q⟩ := q1
  subst ex
  obtain ⟨u, rfl, t, rfl⟩ := vals1 r1
  refine call_enumerate_str fun h' he hit hsz hk => wpAny_pyIter_enum he ?_
  have I2 : Inv X pins σ H1 { s1 with heap := h' } := I1.kept (t' := s1.toks) hk
  have hty : strIterType x = "str_ascii_iterator" ∨ strIterType x = "str_iterator" := by
    unfold strIterType
    split
    · exact .inl rfl
    · exact .inr rfl
  refine ⟨s1.heap.objs.size + 1, [s1.heap.objs.size + 1, s1.heap.objs.size], _, _, H1, rfl, I2, turn_enumS x t (s1.heap.objs.size + 1) s1.heap.objs.size (Nat.succ_ne_self _) (strIterType x) hty, ⟨⟨.none, he⟩, hit⟩, fun b hb => ?_, q⟩
  have e' : b = s1.heap.objs.size + 1 ∨ b = s1.heap.objs.size := by simpa using hb
  have hle : s1.heap.objs.size ≤ b := by
    rcases e' with z | z
    · rw [z]; exact Nat.le_add_right _ _
    · rw [z]; exact Nat.le_refl _
  exact I1.fpOk hle (I1.hok.fresh hle)
end
end T

set_option Elab.async false
set_option linter.all false
set_option maxRecDepth 100000
set_option maxHeartbeats 4000000
namespace T
open PySem PySem.Spec PyProof.Rows L2
variable {τ α β γ δ ρ B S ι : Type}
variable [Tabs]
section
variable {X : Cx} {env env' : List SV} {e a b c tg iter elt o : Expr} {st : Stmt} {es : List Expr} {body rest : List Stmt} {pos p p2 apos : Pos} [Em τ] [Em α] [Em β] [Em γ] {N : List Str} {sc : Scope} {fb : Str → Bool} {K : PySem.W.Frag} {mg : Str → Option Value} {P : Program} {w : World} {base : Heap} {k : Nat}
theorem use_ax {W0 W : Wd} {σ : St} {m : Option τ} {x : τ} {Q : List V → Hp → Prop} (E : EnvR K W0 W env σ) (hx : m = some x) (q : ∀ v W', Le W W' → Rp K W'.b v (em x) → Q [v] W'.h) : tA K env (m.bind fun x => (some ()).bind fun y => some (x, y)) (fun p => .dat (em p.1) :: (fun _ => []) p.2) σ W.h Q := by
  refine use_a E (x := (x, ())) (by rw [hx]; rfl) fun vs W1 l1 r1 => ?_
  cases r1 with
  | dat r1 r2 =>
    cases r2
    exact q _ W1 l1 r1
/-- one data argument -/
theorem x_cB1 {x : Str} {id : String} {r : List V → Hp → VK → Prop} {m : Option α} {f : α → Option τ} (C : Cf X N sc fb K mg P w base k) (hc : CallR X (.builtin id) r) (ha : XE X env e m)
    (hr : ∀ d y, f d = some y → ∀ (W : Wd) (v : V), Same W.b W.h → Rp X.K W.b v (em d) → ∀ Q : VK, (∀ v W', Le W W' → Rp X.K W'.b v (em y) → Q v W'.h) → r [v] W.h Q)
    (hm : mg x = none) (hv : bootBuiltins x = some (.builtin id) := by decide +kernel) (hg : glbB sc x = true := by decide +kernel) (hn : x ≠ "__name__" := by decide) (hdb : (x == ("__debug__" : Str)) = false := by decide)
    (he : ∀ E : Env, starEach [e] E = (false, eval e E) :: starEach [] E := by intro _; rfl) (hpl : ∀ E : Env, (backTo pos (starEach ([] : List Expr) E)).any (·.1) = false := by intro _; rfl) : XE X env (.Call (.Name x p) [e] [] pos) (m.bind f) := by
  cases C
  refine x_of (pe_callB hc (glbB_ok hg) hm hv (a_dat ha a_nil (he _)) hn hdb (he _) (hpl _)) fun W0 W σ E z hz Q q => ?_
  obtain ⟨d, hd, hz⟩ := bind_some hz
  exact use_ax E hd fun v W1 l1 r1 => hr d z hz W1 v l1.ok r1 Q fun v W2 l2 r2 => q v W2 (l1.trans l2) r2
theorem x_cT1 {x : Str} {id : String} {r : List V → Hp → VK → Prop} {m : Option α} {f : α → Option τ} (C : Cf X N sc fb K mg P w base k) (hc : CallR X (.type id) r) (ha : XE X env e m)
    (hr : ∀ d y, f d = some y → ∀ (W : Wd) (v : V), Same W.b W.h → Rp X.K W.b v (em d) → ∀ Q : VK, (∀ v W', Le W W' → Rp X.K W'.b v (em y) → Q v W'.h) → r [v] W.h Q)
    (hm : mg x = none) (hv : bootBuiltins x = some (.type id) := by decide +kernel) (hg : glbB sc x = true := by decide +kernel) (hn : x ≠ "__name__" := by decide) (hdb : (x == ("__debug__" : Str)) = false := by decide)
    (he : ∀ E : Env, starEach [e] E = (false, eval e E) :: starEach [] E := by intro _; rfl) (hpl : ∀ E : Env, (backTo pos (starEach ([] : List Expr) E)).any (·.1) = false := by intro _; rfl) : XE X env (.Call (.Name x p) [e] [] pos) (m.bind f) := by
  cases C
  refine x_of (pe_callTy hc (glbB_ok hg) hm hv (a_dat ha a_nil (he _)) hn hdb (he _) (hpl _)) fun W0 W σ E z hz Q q => ?_
  obtain ⟨d, hd, hz⟩ := bind_some hz
  exact use_ax E hd fun v W1 l1 r1 => hr d z hz W1 v l1.ok r1 Q fun v W2 l2 r2 => q v W2 (l1.trans l2) r2
/-- one list that is read -/
theorem paQ {m : Option (List τ)} (h : XQ X env e m) (hst : starEach [e] X.env = (false, eval e X.env) :: starEach [] X.env) : PA X [e] (fun σ H Q => ∃ W0 W : Wd, W.h = H ∧ EnvR X.K W0 W env σ ∧ ∃ x, m = some x ∧ ∀ a vs W', Le W W' → SqL X.K W'.h a vs → RpA X.K W'.b vs (x.map em) → Q [.ref a] W'.h) :=
  paImp (pa_cons h pa_nil hst) fun σ H Q ⟨W0, W, hH, E, x, hx, q⟩ => ⟨W0, W, hH, E, x, hx, fun a vs W' l s r => q a vs W' l s r⟩
theorem x_cBQ {x : Str} {id : String} {r : List V → Hp → VK → Prop} {m : Option (List α)} {f : List α → Option τ} (C : Cf X N sc fb K mg P w base k) (hc : CallR X (.builtin id) r) (ha : XQ X env e m)
    (hr : ∀ d y, f d = some y → ∀ (W : Wd) (a : Addr) (vs : List V), Same W.b W.h → SqL X.K W.h a vs → RpA X.K W.b vs (d.map em) → ∀ Q : VK, (∀ v W', Le W W' → Rp X.K W'.b v (em y) → Q v W'.h) → r [.ref a] W.h Q)
    (hm : mg x = none) (hv : bootBuiltins x = some (.builtin id) := by decide +kernel) (hg : glbB sc x = true := by decide +kernel) (hn : x ≠ "__name__" := by decide) (hdb : (x == ("__debug__" : Str)) = false := by decide)
    (he : ∀ E : Env, starEach [e] E = (false, eval e E) :: starEach [] E := by intro _; rfl) (hpl : ∀ E : Env, (backTo pos (starEach ([] : List Expr) E)).any (·.1) = false := by intro _; rfl) : XE X env (.Call (.Name x p) [e] [] pos) (m.bind f) := by
  cases C
  refine x_of (pe_callB hc (glbB_ok hg) hm hv (paQ ha (he _)) hn hdb (he _) (hpl _)) fun W0 W σ E z hz Q q => ?_
  obtain ⟨d, hd, hz⟩ := bind_some hz
  exact ⟨W0, W, rfl, E, d, hd, fun a vs W1 l1 s1 r1 => hr d z hz W1 a vs l1.ok s1 r1 Q fun v W2 l2 r2 => q v W2 (l1.trans l2) r2⟩
theorem x_cTQ {x : Str} {id : String} {r : List V → Hp → VK → Prop} {m : Option (List α)} {f : List α → Option τ} (C : Cf X N sc fb K mg P w base k) (hc : CallR X (.type id) r) (ha : XQ X env e m)
    (hr : ∀ d y, f d = some y → ∀ (W : Wd) (a : Addr) (vs : List V), Same W.b W.h → SqL X.K W.h a vs → RpA X.K W.b vs (d.map em) → ∀ Q : VK, (∀ v W', Le W W' → Rp X.K W'.b v (em y) → Q v W'.h) → r [.ref a] W.h Q)
    (hm : mg x = none) (hv : bootBuiltins x = some (.type id) := by decide +kernel) (hg : glbB sc x = true := by decide +kernel) (hn : x ≠ "__name__" := by decide) (hdb : (x == ("__debug__" : Str)) = false := by decide)
    (he : ∀ E : Env, starEach [e] E = (false, eval e E) :: starEach [] E := by intro _; rfl) (hpl : ∀ E : Env, (backTo pos (starEach ([] : List Expr) E)).any (·.1) = false := by intro _; rfl) : XE X env (.Call (.Name x p) [e] [] pos) (m.bind f) := by
  cases C
  refine x_of (pe_callTy hc (glbB_ok hg) hm hv (paQ ha (he _)) hn hdb (he _) (hpl _)) fun W0 W σ E z hz Q q => ?_
  obtain ⟨d, hd, hz⟩ := bind_some hz
  exact ⟨W0, W, rfl, E, d, hd, fun a vs W1 l1 s1 r1 => hr d z hz W1 a vs l1.ok s1 r1 Q fun v W2 l2 r2 => q v W2 (l1.trans l2) r2⟩
/-! ### len -/
def lenS (s : Str) : Option Int := if sz s.length then some (s.length : Int) else none
theorem x_lenS {m : Option Str} (C : Cf X N sc fb K mg P w base k) (h : XE X env e m) (hm : mg "len" = none) (hg : glbB sc "len" = true := by decide +kernel)
    (he : ∀ E : Env, starEach [e] E = (false, eval e E) :: starEach [] E := by intro _; rfl) : XE X env (.Call (.Name "len" p) [e] [] pos) (m.bind lenS) :=
  x_cB1 C call_len_str h (fun d y hy W v ok r Q q => by
    cases r
    unfold lenS at hy
    split at hy
    · rename_i hz
      cases hy
      exact ⟨d, rfl, Nat.le_of_lt (sz_line hz), q _ W (Le.refl ok) (.int _)⟩
    · cases hy) hm PySem.boot_len hg (by decide) (by decide) he
theorem x_lenQ {m : Option (List τ)} (C : Cf X N sc fb K mg P w base k) (h : XQ X env e m) (hm : mg "len" = none) (hg : glbB sc "len" = true := by decide +kernel)
    (he : ∀ E : Env, starEach [e] E = (false, eval e E) :: starEach [] E := by intro _; rfl) : XE X env (.Call (.Name "len" p) [e] [] pos) (m.bind fun xs => some (xs.length : Int)) :=
  x_cBQ C call_len_seq h (fun d y hy W a vs ok s r Q q => by
    cases hy
    have hl := r.length
    rw [List.length_map] at hl
    refine ⟨a, vs, rfl, .inl s, ?_⟩
    rw [hl]
    exact q _ W (Le.refl ok) (.int _)) hm PySem.boot_len hg (by decide) (by decide) he
theorem x_lenV {m : Option (Vt τ)} (C : Cf X N sc fb K mg P w base k) (h : XE X env e m) (hm : mg "len" = none) (hg : glbB sc "len" = true := by decide +kernel)
    (he : ∀ E : Env, starEach [e] E = (false, eval e E) :: starEach [] E := by intro _; rfl) : XE X env (.Call (.Name "len" p) [e] [] pos) (m.bind fun t => some (t.l.length : Int)) :=
  x_cB1 C call_len_seq h (fun d y hy W v ok r Q q => by
    cases hy
    have r : Rp X.K W.b v (.tup (d.l.map em)) := r
    cases r with
    | tup s r =>
      have hl := r.length
      rw [List.length_map] at hl
      refine ⟨_, _, rfl, .inr (same_t ok s), ?_⟩
      rw [hl]
      exact q _ W (Le.refl ok) (.int _)) hm PySem.boot_len hg (by decide) (by decide) he
/-! ### numbers -/
def absI (i : Int) : Int := if i < 0 then -i else i
theorem x_abs {m : Option Int} (C : Cf X N sc fb K mg P w base k) (h : XE X env e m) (hm : mg "abs" = none) (hg : glbB sc "abs" = true := by decide +kernel)
    (he : ∀ E : Env, starEach [e] E = (false, eval e E) :: starEach [] E := by intro _; rfl) : XE X env (.Call (.Name "abs" p) [e] [] pos) (m.bind fun i => some (absI i)) :=
  x_cB1 C call_abs h (fun d y hy W v ok r Q q => by
    cases hy
    cases r
    exact ⟨d, rfl, q _ W (Le.refl ok) (.int _)⟩) hm (by decide +kernel) hg (by decide) (by decide) he
theorem x_intI {m : Option Int} (C : Cf X N sc fb K mg P w base k) (h : XE X env e m) (hm : mg "int" = none) (hg : glbB sc "int" = true := by decide +kernel)
    (he : ∀ E : Env, starEach [e] E = (false, eval e E) :: starEach [] E := by intro _; rfl) : XE X env (.Call (.Name "int" p) [e] [] pos) (m.bind fun i => some i) :=
  x_cT1 C call_int1 h (fun d y hy W v ok r Q q => by
    cases hy
    cases r
    exact .inl ⟨d, rfl, q _ W (Le.refl ok) (.int _)⟩) hm (by decide +kernel) hg (by decide) (by decide) he
theorem x_intB {m : Option Bool} (C : Cf X N sc fb K mg P w base k) (h : XE X env e m) (hm : mg "int" = none) (hg : glbB sc "int" = true := by decide +kernel)
    (he : ∀ E : Env, starEach [e] E = (false, eval e E) :: starEach [] E := by intro _; rfl) : XE X env (.Call (.Name "int" p) [e] [] pos) (m.bind fun b => some (if b = true then (1 : Int) else 0)) :=
  x_cT1 C call_int1 h (fun d y hy W v ok r Q q => by
    cases hy
    cases r
    exact .inr ⟨d, rfl, q _ W (Le.refl ok) (.int _)⟩) hm (by decide +kernel) hg (by decide) (by decide) he
theorem Cf.calm (C : Cf X N sc fb K mg P w base k) : X.calm = true := by cases C; assumption
theorem x_min2 {ma mb : Option Int} (C : Cf X N sc fb K mg P w base k) (ha : XE X env a ma) (hb : XE X env b mb) (hm : mg "min" = none) (hg : glbB sc "min" = true := by decide +kernel)
    (h1 : starEach [a, b] X.env = (false, eval a X.env) :: starEach [b] X.env := by rfl) (h2 : starEach [b] X.env = (false, eval b X.env) :: starEach [] X.env := by rfl) (hpl : (backTo pos (starEach [b] X.env)).any (·.1) = false := by rfl) :
    XE X env (.Call (.Name "min" p) [a, b] [] pos) (ma.bind fun x => mb.bind fun y => some (if y < x then y else x)) :=
  (x_cB (f := fun p : Int × Int × Unit => some (if p.2.1 < p.1 then p.2.1 else p.1)) C (call_min2 C.calm) (a_dat ha (a_dat hb a_nil h2) h1) (fun d y hy W vs ok r Q q => by
    cases hy
    cases r with
    | dat r1 r => cases r with
      | dat r2 r =>
        cases r
        cases r1
        cases r2
        exact ⟨_, _, rfl, q _ W (Le.refl ok) (.int _)⟩) hm (by decide +kernel) hg (by decide) (by decide) h1 hpl).is (by cases ma with | none => rfl | some x => cases mb <;> rfl)
theorem x_max2 {ma mb : Option Int} (C : Cf X N sc fb K mg P w base k) (ha : XE X env a ma) (hb : XE X env b mb) (hm : mg "max" = none) (hg : glbB sc "max" = true := by decide +kernel)
    (h1 : starEach [a, b] X.env = (false, eval a X.env) :: starEach [b] X.env := by rfl) (h2 : starEach [b] X.env = (false, eval b X.env) :: starEach [] X.env := by rfl) (hpl : (backTo pos (starEach [b] X.env)).any (·.1) = false := by rfl) :
    XE X env (.Call (.Name "max" p) [a, b] [] pos) (ma.bind fun x => mb.bind fun y => some (if y > x then y else x)) :=
  (x_cB (f := fun p : Int × Int × Unit => some (if p.2.1 > p.1 then p.2.1 else p.1)) C (call_max2 C.calm) (a_dat ha (a_dat hb a_nil h2) h1) (fun d y hy W vs ok r Q q => by
    cases hy
    cases r with
    | dat r1 r => cases r with
      | dat r2 r =>
        cases r
        cases r1
        cases r2
        exact ⟨_, _, rfl, q _ W (Le.refl ok) (.int _)⟩) hm (by decide +kernel) hg (by decide) (by decide) h1 hpl).is (by cases ma with | none => rfl | some x => cases mb <;> rfl)
theorem x_min3 {ma mb mc : Option Int} (C : Cf X N sc fb K mg P w base k) (ha : XE X env a ma) (hb : XE X env b mb) (hcc : XE X env c mc) (hm : mg "min" = none) (hg : glbB sc "min" = true := by decide +kernel)
    (h1 : starEach [a, b, c] X.env = (false, eval a X.env) :: starEach [b, c] X.env := by rfl) (h2 : starEach [b, c] X.env = (false, eval b X.env) :: starEach [c] X.env := by rfl) (h3 : starEach [c] X.env = (false, eval c X.env) :: starEach [] X.env := by rfl)
    (hpl : (backTo pos (starEach [b, c] X.env)).any (·.1) = false := by rfl) :
    XE X env (.Call (.Name "min" p) [a, b, c] [] pos) (ma.bind fun x => mb.bind fun y => mc.bind fun z => some (min3 x y z)) :=
  (x_cB (f := fun p : Int × Int × Int × Unit => some (min3 p.1 p.2.1 p.2.2.1)) C (call_min3 C.calm) (a_dat ha (a_dat hb (a_dat hcc a_nil h3) h2) h1) (fun d y hy W vs ok r Q q => by
    cases hy
    cases r with
    | dat r1 r => cases r with
      | dat r2 r => cases r with
        | dat r3 r =>
          cases r
          cases r1
          cases r2
          cases r3
          exact ⟨_, _, _, rfl, q _ W (Le.refl ok) (.int _)⟩) hm (by decide +kernel) hg (by decide) (by decide) h1 hpl).is (by cases ma with
    | none => rfl
    | some x => cases mb with
      | none => rfl
      | some y => cases mc <;> rfl)
/-! ### texts -/
def catS (x y : Str) : Option Str := if x.length + y.length < 16777216 then some (x ++ y) else none
theorem x_addS {ma mb : Option Str} (ha : XE X env a ma) (hb : XE X env b mb) : XE X env (.BinOp a .Add b pos) (ma.bind fun x => mb.bind fun y => catS x y) :=
  x_bin op_add_str ha hb fun x y z hz W u v ok ru rv Q q => by
    unfold catS at hz
    split at hz
    · rename_i hs
      cases hz
      cases ru; cases rv
      exact ⟨x, y, rfl, rfl, Nat.le_of_lt (sz_line hs), q _ W (Le.refl ok) (.str _)⟩
    · cases hz
instance (z : Str) (n : Int) : Decidable (MulOk z n) := by unfold MulOk; infer_instance
def mulS (x : Str) (n : Int) : Option Str := if MulOk x n then some (Txt.mul x n) else none
theorem x_mulS {ma : Option Str} {mb : Option Int} (ha : XE X env a ma) (hb : XE X env b mb) : XE X env (.BinOp a .Mult b pos) (ma.bind fun x => mb.bind fun y => mulS x y) :=
  x_bin op_mulS ha hb fun x y z hz W u v ok ru rv Q q => by
    unfold mulS at hz
    split at hz
    · rename_i hs
      cases hz
      cases ru; cases rv
      exact ⟨x, y, rfl, rfl, hs, q _ W (Le.refl ok) (.str _)⟩
    · cases hz
def revP (z : Str) : Option Str := if sz z.length then some (revS z) else none
theorem x_revS {m : Option Str} {kk : Nat} {p1 p2 p3 : Pos} (h : XE X env e m) : XE X env (.Subscript e (.Slice none none (some (.UnaryOp .USub (.Constant (.int 1) kk p1) p2)) p3) pos) (m.bind revP) :=
  x_of (pe_revS h) fun W0 W σ E z hz Q q => by
    obtain ⟨d, hd, hz⟩ := bind_some hz
    unfold revP at hz
    split at hz
    · rename_i hs
      cases hz
      refine use_x E hd fun v W1 l1 r1 => ?_
      cases r1
      exact ⟨d, rfl, Nat.le_of_lt (sz_line hs), q _ W1 l1 (.str _)⟩
    · cases hz
/-- a part of a slice -/
def tOp (K : PySem.W.Frag) (env : List SV) (m : Option (Option Int)) : TO := fun σ H Q =>
  ∃ W0 W : Wd, W.h = H ∧ EnvR K W0 W env σ ∧ ∃ x, m = some x ∧ ∀ W', Le W W' → Q x W'.h
abbrev XO (X : Cx) (env : List SV) (e : Option Expr) (m : Option (Option Int)) : Prop := PO X e (tOp X.K env m)
theorem poImp {e : Option Expr} {t t' : TO} (h : PO X e t) (kk : ∀ σ H Q, t' σ H Q → t σ H Q) : PO X e t' := ⟨fun pins s σ H Q I q => h.run pins s σ H Q I (kk σ H Q q)⟩
theorem o_none : XO X env none (some none) := poImp po_none fun σ H Q ⟨W0, W, hH, E, x, hx, q⟩ => by
  subst hH
  cases hx
  exact q W (Le.refl E.ok)
theorem o_some {m : Option Int} (h : XE X env e m) : XO X env (some e) (m.bind fun i => some (some i)) := poImp (po_some h) fun σ H Q ⟨W0, W, hH, E, x, hx, q⟩ => by
  subst hH
  obtain ⟨i, hi, hx⟩ := bind_some hx
  cases hx
  refine use_x E hi fun v W1 l1 r1 => ?_
  cases r1
  exact ⟨i, rfl, q W1 l1⟩
theorem use_o {W0 W : Wd} {σ : St} {m : Option (Option Int)} {x : Option Int} {Q : Option Int → Hp → Prop} (E : EnvR K W0 W env σ) (h : m = some x) (q : ∀ W', Le W W' → Q x W'.h) : tOp K env m σ W.h Q := ⟨W0, W, rfl, E, x, h, q⟩
def cutP (z : Str) (lo hi : Option Int) : Option Str := if sz z.length then some (cutS z lo hi) else none
theorem x_cutS {lo hi : Option Expr} {m : Option Str} {ml mh : Option (Option Int)} (h : XE X env e m) (hl : XO X env lo ml) (hh : XO X env hi mh) : XE X env (.Subscript e (.Slice lo hi none p2) pos) (m.bind fun z => ml.bind fun l => mh.bind fun u => cutP z l u) :=
  x_of (pe_slice sl_str h hl hh) fun W0 W σ E z hz Q q => by
    obtain ⟨d, hd, hz⟩ := bind_some hz
    obtain ⟨l, hl, hz⟩ := bind_some hz
    obtain ⟨u, hu, hz⟩ := bind_some hz
    unfold cutP at hz
    split at hz
    · rename_i hs
      cases hz
      refine use_x E hd fun v W1 l1 r1 => ?_
      refine use_o (E.mono l1) hl fun W2 l2 => ?_
      refine use_o ((E.mono l1).mono l2) hu fun W3 l3 => ?_
      cases r1
      exact ⟨d, rfl, Nat.le_of_lt (sz_line hs), q _ W3 (l1.trans (l2.trans l3)) (.str _)⟩
    · cases hz
/-- the items of a slice -/
def cut (xs : List τ) (lo hi : Option Int) : List τ := (xs.drop (HT.sIx xs.length 0 lo)).take (HT.sIx xs.length xs.length hi - HT.sIx xs.length 0 lo)
theorem RpA.cut {H : Hp} {vs : List V} {ds : List D} (r : RpA K H vs ds) (lo hi : Option Int) : RpA K H (cutV vs lo hi) (T.cut ds lo hi) := by
  unfold cutV T.cut
  rw [r.length]
  exact (r.drop _).take _
theorem cut_map {f : α → β} {xs : List α} {lo hi : Option Int} : T.cut (xs.map f) lo hi = (T.cut xs lo hi).map f := by
  unfold T.cut
  rw [List.length_map, List.map_take, List.map_drop]
theorem l_cutQ {lo hi : Option Expr} {m : Option (List τ)} {ml mh : Option (Option Int)} (h : XQ X env e m) (hl : XO X env lo ml) (hh : XO X env hi mh) : XL X env (.Subscript e (.Slice lo hi none p2) pos) (m.bind fun z => ml.bind fun l => mh.bind fun u => some (T.cut z l u)) :=
  l_of (pe_slice sl_list h hl hh) fun W0 W σ E z hz Q q => by
    obtain ⟨d, hd, hz⟩ := bind_some hz
    obtain ⟨l, hl, hz⟩ := bind_some hz
    obtain ⟨u, hu, hz⟩ := bind_some hz
    cases hz
    refine use_q E hd fun a vs W1 l1 s1 r1 => ?_
    refine use_o (E.mono l1) hl fun W2 l2 => ?_
    refine use_o ((E.mono l1).mono l2) hu fun W3 l3 => ?_
    have l13 := l1.trans (l2.trans l3)
    refine ⟨a, vs, rfl, (l2.trans l3).h.seq s1, fun p hp => ?_⟩
    refine q p _ ⟨W3.b, upd W3.h p (.lst (cutV vs l u))⟩ (l13.trans (Le.layM l13.ok hp)) (l13.h.free hp) upd_same (l13.ok.free hp) ?_
    rw [← cut_map]
    exact (r1.mono (l2.trans l3).b).cut l u
/-! ### lists -/
def catL (x y : List τ) : Option (List τ) := if x.length + y.length < 16777216 then some (x ++ y) else none
theorem l_cat {ma mb : Option (List τ)} (ha : XQ X env a ma) (hb : XQ X env b mb) : XL X env (.BinOp a .Add b pos) (ma.bind fun x => mb.bind fun y => catL x y) :=
  l_of (pe_op op_catQ ha hb) fun W0 W σ E z hz Q q => by
    obtain ⟨x, hx, hz⟩ := bind_some hz
    obtain ⟨y, hy, hz⟩ := bind_some hz
    unfold catL at hz
    split at hz
    · rename_i hs
      cases hz
      refine use_q E hx fun a vs W1 l1 s1 r1 => ?_
      refine use_q (E.mono l1) hy fun b us W2 l2 s2 r2 => ?_
      have h1 := r1.length
      have h2 := r2.length
      rw [List.length_map] at h1 h2
      have l12 := l1.trans l2
      refine ⟨a, b, vs, us, rfl, rfl, l2.h.seq s1, s2, by rw [h1, h2]; exact Nat.le_of_lt (sz_line hs), fun p hp => ?_⟩
      refine q p _ ⟨W2.b, upd W2.h p (.lst (vs ++ us))⟩ (l12.trans (Le.layM l12.ok hp)) (l12.h.free hp) upd_same (l12.ok.free hp) ?_
      rw [List.map_append]
      exact (r1.mono l2.b).append r2
    · cases hz
/-- list(xs) -/
theorem l_copy {m : Option (List τ)} (C : Cf X N sc fb K mg P w base k) (h : XQ X env e m) (hm : mg "list" = none) (hg : glbB sc "list" = true := by decide +kernel)
    (he : ∀ E : Env, starEach [e] E = (false, eval e E) :: starEach [] E := by intro _; rfl) (hpl : ∀ E : Env, (backTo pos (starEach ([] : List Expr) E)).any (·.1) = false := by intro _; rfl) : XL X env (.Call (.Name "list" p) [e] [] pos) m := by
  cases C
  refine l_of (pe_callTy call_list_of (glbB_ok hg) hm (by decide +kernel) (paQ h (he _)) (by decide) (by decide) (he _) (hpl _)) fun W0 W σ E z hz Q q => ?_
  refine ⟨W0, W, rfl, E, z, hz, fun a vs W1 l1 s1 r1 => ⟨a, vs, rfl, .inl s1, fun p hp => ?_⟩⟩
  exact q p vs ⟨W1.b, upd W1.h p (.lst vs)⟩ (l1.trans (Le.layM l1.ok hp)) (l1.h.free hp) upd_same (l1.ok.free hp) r1
/-- tuple(xs) -/
theorem x_tupleQ {m : Option (List τ)} (C : Cf X N sc fb K mg P w base k) (h : XQ X env e m) (hm : mg "tuple" = none) (hg : glbB sc "tuple" = true := by decide +kernel)
    (he : ∀ E : Env, starEach [e] E = (false, eval e E) :: starEach [] E := by intro _; rfl) : XE X env (.Call (.Name "tuple" p) [e] [] pos) (m.bind fun xs => some (⟨xs⟩ : Vt τ)) :=
  x_cTQ C call_tuple_of h (fun d y hy W a vs ok s r Q q => by
    cases hy
    refine ⟨a, vs, rfl, .inl ⟨s, fun l hl => ?_⟩⟩
    exact q (.ref l) _ (Le.lay ok (o := .tup vs) hl) (.tup (SqT.of upd_same) (r.mono (Same.new (ok.free hl))))) hm (by decide +kernel) hg (by decide) (by decide) he
/-- list(range(..)) -/
def rngL (lo hi : Int) : Option (List Int) := if -4611686018427387904 ≤ lo ∧ lo < 4611686018427387904 ∧ -4611686018427387904 ≤ hi ∧ hi < 4611686018427387904 ∧ (hi - lo).toNat ≤ 16777216 then some (rng lo hi) else none
theorem rgV_eq (lo hi : Int) : RpA K H (rgV lo hi) ((rng lo hi).map em) := by
  unfold rgV rng
  generalize (List.range (hi - lo).toNat) = l
  induction l with
  | nil => exact .nil
  | cons i l ih => exact .cons (.int _) ih
theorem l_listRng1 {m : Option Int} {q1 : Pos} (C : Cf X N sc fb K mg P w base k) (h : XE X env a m) (hm : mg "list" = none) (hm2 : mg "range" = none) (hg : glbB sc "list" = true := by decide +kernel) (hg2 : glbB sc "range" = true := by decide +kernel)
    (na : starEach [a] X.env = (false, eval a X.env) :: starEach [] X.env := by rfl) (na2 : starEach [.Call (.Name "range" q1) [a] [] p2] X.env = (false, eval (.Call (.Name "range" q1) [a] [] p2) X.env) :: starEach [] X.env := by rfl) :
    XL X env (.Call (.Name "list" p) [.Call (.Name "range" q1) [a] [] p2] [] pos) (m.bind fun n => rngL 0 n) := by
  cases C with
  | mk nd calm po rm =>
    refine l_of (pe_listRg calm (glbB_ok hg) hm (prg_1 (glbB_ok hg2) hm2 h na) na2) fun W0 W σ E z hz Q q => ?_
    obtain ⟨n, hn, hz⟩ := bind_some hz
    unfold rngL at hz
    split at hz
    · rename_i hr
      cases hz
      unfold tLstRg tRg1
      refine use_x E hn fun v W1 l1 r1 => ?_
      cases r1
      refine ⟨n, rfl, ⟨by omega, by omega, by omega, by omega, by omega⟩, fun p hp => ?_⟩
      exact q p _ ⟨W1.b, upd W1.h p (.lst (rgV 0 n))⟩ (l1.trans (Le.layM l1.ok hp)) (l1.h.free hp) upd_same (l1.ok.free hp) (rgV_eq 0 n)
    · cases hz
/-- sep.join(xs) -/
def joinP (a : Str) (ys : List Str) : Option Str := if (ys.map (·.length)).sum + ys.length * a.length ≤ 16777216 then some (Txt.join a ys) else none
theorem vs_str : ∀ {H : Hp} {vs : List V} {ys : List Str}, RpA K H vs (ys.map em) → vs = ys.map V.str
  | _, _, [], .nil => rfl
  | _, _, _ :: _, .cons r t => by
    cases r
    rw [List.map_cons, vs_str t]
theorem x_join {ma : Option Str} {m : Option (List Str)} (ha : XE X env o ma) (h : XQ X env e m) (hs : ∀ E : Env, starEach [e] E = [(false, eval e E)] := by intro _; rfl)
    (hbase : ∀ E : Env, attributeBase o "join" E (eval o E) = eval o E := by intro _; rfl) (hline : (apos.endLine == pos.line) = true := by rfl) : XE X env (.Call (.Attribute o "join" apos) [e] [] pos) (ma.bind fun x => m.bind fun y => joinP x y) :=
  x_of (pe_join ha h (hs _) (hbase _) hline) fun W0 W σ E z hz Q q => by
    obtain ⟨x, hx, hz⟩ := bind_some hz
    obtain ⟨y, hy, hz⟩ := bind_some hz
    unfold joinP at hz
    split at hz
    · rename_i hl
      cases hz
      refine use_x E hx fun v W1 l1 r1 => ?_
      cases r1
      refine ⟨⟨x, rfl⟩, ?_⟩
      refine use_q (E.mono l1) hy fun a vs W2 l2 s2 r2 => ?_
      have e2 := vs_str r2
      subst e2
      exact ⟨x, a, y, rfl, rfl, .inl s2, hl, q _ W2 (l1.trans l2) (.str _)⟩
    · cases hz
/-- enumerate(text) -/
def enumS (s : Str) : List (Int × Str) := (List.range s.cps.size).zip (signs s) |>.map fun p => ((p.1 : Int), p.2)
theorem enumS_length (s : Str) : (enumS s).length = s.cps.size := by simp [enumS, signs]
theorem w_enumS (C : Cf X N sc fb K mg P w base k) {elts : List Expr} {kk : Nat} {tpos : Pos} {m : Option Str} (h : XE X env e m) (hm : mg "enumerate" = none) (hg : glbB sc "enumerate" = true := by decide +kernel)
    (he : ∀ E : Env, starEach [e] E = (false, eval e E) :: starEach [] E := by intro _; rfl) (hs : ∀ E : Env, starEach [e] E = [(false, eval e E)] := by intro _; rfl) :
    XWk X env (.Tuple elts kk tpos) (.Call (.Name "enumerate" p) [e] [] pos) (m.bind fun s => some (enumS s)) := by
  cases C
  refine piImp (pi_enumS (glbB_ok hg) hm (a_dat h a_nil (he _)) (hs _)) fun σ H R ⟨W0, W, hH, E, x, hx, q⟩ => ?_
  subst hH
  obtain ⟨s, hs, hx⟩ := bind_some hx
  cases hx
  refine use_ax E hs fun v W1 l1 r1 => ?_
  cases r1
  refine ⟨s, rfl, q _ W1 l1 ⟨fun i y W2 hy sb l0 => ?_, fun W2 sb l0 => ?_⟩⟩
  · have hi : i < s.cps.size := by have := (List.getElem?_eq_some_iff.mp hy).1; rwa [enumS_length] at this
    refine ⟨hi, fun v' H' ⟨T, c, e1, hT, e3, e2⟩ => ?_⟩
    subst e1 e3
    have hc : s.cps.toList[i]? = some c := by simpa using e2
    have : y = ((i : Int), (⟨#[c]⟩ : Str)) := by
      have h2 : (enumS s)[i]? = some ((i : Int), (⟨#[c]⟩ : Str)) := by
        unfold enumS signs
        rw [List.getElem?_map, List.zip_eq_zipWith, List.getElem?_zipWith, List.getElem?_range hi, List.getElem?_map, hc]
        rfl
      rw [h2] at hy
      exact (Option.some.inj hy).symm
    subst this
    exact ⟨_, Le.lay l0.ok (o := .tup [.int (i : Nat), .str ⟨#[c]⟩]) hT, rfl, .tup (SqT.of upd_same) (.cons (.int _) (.cons (.str _) .nil))⟩
  · exact enumS_length s
/-! ### isinstance -/
def isD (tn : String) : D → Bool
  | .non => tn == "NoneType"
  | .bl _ => tn == "bool" || tn == "int"
  | .int _ => tn == "int"
  | .str _ => tn == "str"
  | .tup _ => tn == "tuple"
  | .lst _ => tn == "list"
  | .ins _ _ _ => false
def tyD : D → Option String
  | .non => some "NoneType"
  | .bl _ => some "bool"
  | .int _ => some "int"
  | .str _ => some "str"
  | .tup _ => some "tuple"
  | .lst _ => some "list"
  | .ins _ _ _ => none
def isiP (tn : String) (d : D) : Option Bool := (tyD d).map fun _ => isD tn d
theorem tyx_of {H : Hp} {W : Wd} (ok : Same W.b W.h) {v : V} {d : D} {t : String} (r : Rp K W.b v d) (h : tyD d = some t) : TyX K W.h v (.type t) := by
  cases r with
  | non => cases h; exact .base .non
  | bl b => cases h; exact .base (.bl b)
  | int i => cases h; exact .base (.int i)
  | str s => cases h; exact .base (.str s)
  | tup s _ =>
    cases h
    rcases s with (s | ⟨o, s⟩) | ⟨o, its, n, s, hc, _⟩
    · exact .base (.tup (ok _ _ s))
    · exact .fTuple (ok _ _ s)
    · exact .kTuple s hc
  | lst s _ =>
    cases h
    rcases s with (s | ⟨o, s⟩) | ⟨o, its, n, s, hc, _⟩
    · exact .base (.lst (ok _ _ s))
    · exact .base (.frz (ok _ _ s))
    · exact .kList s hc
  | ins _ _ _ => cases h
/-- a built-in type's name as an argument -/
theorem x_isi {m : Option τ} {q1 : Pos} {t : Str} {tn : String} (C : Cf X N sc fb K mg P w base k) (h : XE X env a m) (hk : ∀ U : String, U ∈ ["NoneType", "bool", "int", "str", "tuple", "list"] → kitB U tn = some (match U with
      | "bool" => tn == "bool" || tn == "int"
      | U => tn == U))
    (hm : mg "isinstance" = none) (hm2 : mg t = none) (hv2 : bootBuiltins t = some (.type tn) := by decide +kernel) (hg : glbB sc "isinstance" = true := by decide +kernel) (hg2 : glbB sc t = true := by decide +kernel) (hn2 : t ≠ "__name__" := by decide) (hdb2 : (t == ("__debug__" : Str)) = false := by decide)
    (h1 : ∀ E : Env, starEach [a, .Name t q1] E = (false, eval a E) :: starEach [.Name t q1] E := by intro _; rfl) (h2 : ∀ E : Env, starEach [.Name t q1] E = (false, eval (.Name t q1) E) :: starEach [] E := by intro _; rfl)
    (hpl : ∀ E : Env, (backTo pos (starEach [.Name t q1] E)).any (·.1) = false := by intro _; rfl) :
    XE X env (.Call (.Name "isinstance" p) [a, .Name t q1] [] pos) (m.bind fun x => isiP tn (em x)) := by
  cases C
  refine x_of (pe_callB call_isi (glbB_ok hg) hm (by decide +kernel) (pa_cons h (pa_cons (pe_bltn (v := .ty tn) (glbB_ok hg2) hm2 hv2 rfl hn2 hdb2) pa_nil (h2 _)) (h1 _)) (by decide) (by decide) (h1 _) (hpl _)) fun W0 W σ E z hz Q q => ?_
  obtain ⟨x, hx, hz⟩ := bind_some hz
  refine use_x E hx fun v W1 l1 r1 => ?_
  unfold isiP at hz
  cases ht : tyD (em x) with
  | none => rw [ht] at hz; cases hz
  | some U =>
    rw [ht] at hz
    have hz : isD tn (em x) = z := Option.some.inj hz
    subst hz
    refine ⟨v, .ty tn, .type U, .type tn, isD tn (em x), rfl, .ty tn, tyx_of (H := W1.h) l1.ok r1 ht, kit_ty ?_, q _ W1 l1 (.bl _)⟩
    have mem : U ∈ ["NoneType", "bool", "int", "str", "tuple", "list"] := by
      revert ht
      cases em x <;> intro ht <;> cases ht <;> decide
    rw [hk U mem]
    revert ht
    cases em x <;> intro ht <;> cases ht <;> rfl
end
theorem kit_int : ∀ U : String, U ∈ ["NoneType", "bool", "int", "str", "tuple", "list"] → kitB U "int" = some (match U with
      | "bool" => "int" == "bool" || "int" == "int"
      | U => "int" == U) := by decide +kernel
theorem kit_bool : ∀ U : String, U ∈ ["NoneType", "bool", "int", "str", "tuple", "list"] → kitB U "bool" = some (match U with
      | "bool" => "bool" == "bool" || "bool" == "int"
      | U => "bool" == U) := by decide +kernel
theorem kit_str : ∀ U : String, U ∈ ["NoneType", "bool", "int", "str", "tuple", "list"] → kitB U "str" = some (match U with
      | "bool" => "str" == "bool" || "str" == "int"
      | U => "str" == U) := by decide +kernel
theorem kit_tuple : ∀ U : String, U ∈ ["NoneType", "bool", "int", "str", "tuple", "list"] → kitB U "tuple" = some (match U with
      | "bool" => "tuple" == "bool" || "tuple" == "int"
      | U => "tuple" == U) := by decide +kernel
theorem kit_list : ∀ U : String, U ∈ ["NoneType", "bool", "int", "str", "tuple", "list"] → kitB U "list" = some (match U with
      | "bool" => "list" == "bool" || "list" == "int"
      | U => "list" == U) := by decide +kernel
end T

set_option Elab.async false
set_option linter.all false
set_option maxRecDepth 100000
set_option maxHeartbeats 4000000
namespace T
open PySem PySem.Spec PyProof.Rows L2
variable {τ α β γ δ ρ B S ι : Type}
variable [Tabs]
section
variable {X : Cx} {env env' : List SV} {e a b c tg iter elt o : Expr} {st : Stmt} {es : List Expr} {body rest : List Stmt} {pos p p2 p3 apos : Pos} [Em τ] [Em α] [Em β] [Em γ] {N : List Str} {sc : Scope} {fb : Str → Bool} {K : PySem.W.Frag} {mg : Str → Option Value} {P : Program} {w : World} {base : Heap} {k : Nat}
/-! ### written numbers -/
theorem x_mulCr {ma : Option Int} {c : Int} {j : Nat} (ha : XE X env a ma) (hc : c.natAbs < 18446744073709551616 := by decide) : XE X env (.BinOp a .Mult (.Constant (.int c) j p) pos) (ma.bind fun x => some (x * c)) :=
  (x_mul ha (x_int (i := c))).is (by
    cases ma with
    | none => rfl
    | some x =>
      show mulP x c = some (x * c)
      unfold mulP
      rw [if_pos (Or.inr (by omega))])
theorem x_mulCl {mb : Option Int} {c : Int} {j : Nat} (hb : XE X env b mb) (hc : c.natAbs < 18446744073709551616 := by decide) : XE X env (.BinOp (.Constant (.int c) j p) .Mult b pos) (mb.bind fun x => some (c * x)) :=
  (x_mul (x_int (i := c)) hb).is (by
    cases mb with
    | none => rfl
    | some x =>
      show mulP c x = some (c * x)
      unfold mulP
      rw [if_pos (Or.inl (by omega))])
theorem x_modC {ma : Option Int} {c : Int} {j : Nat} (ha : XE X env a ma) (hc : c ≠ 0 := by decide) : XE X env (.BinOp a .Mod (.Constant (.int c) j p) pos) (ma.bind fun x => some (x.fmod c)) :=
  (x_mod ha (x_int (i := c))).is (by
    cases ma with
    | none => rfl
    | some x =>
      show modP x c = some (x.fmod c)
      unfold modP
      rw [if_neg hc])
theorem x_divC {ma : Option Int} {c : Int} {j : Nat} (ha : XE X env a ma) (hc : c ≠ 0 ∧ c.natAbs < 1073741824 := by decide) : XE X env (.BinOp a .FloorDiv (.Constant (.int c) j p) pos) (ma.bind fun x => some (x.fdiv c)) :=
  (x_div ha (x_int (i := c))).is (by
    cases ma with
    | none => rfl
    | some x =>
      show divP x c = some (x.fdiv c)
      unfold divP
      rw [if_neg hc.1, if_pos hc.2])
theorem x_powC {c d r : Int} {i j : Nat} (hr : powP c d = some r := by decide +kernel) : XE X env (.BinOp (.Constant (.int c) i p) .Pow (.Constant (.int d) j p2) pos) (some r) :=
  (x_pow (x_int (i := c)) (x_int (i := d))).is hr
/-! ### comparisons as tests -/
theorem t_cmp {op : CmpOp} {r : R2} {ma : Option α} {mb : Option β} {f : α → β → Option Bool} (ho : OpR X (compareOp op) r) (ha : XE X env a ma) (hb : XE X env b mb) (hm : behindInMarks op b = false)
    (hr : ∀ x y z, f x y = some z → ∀ (W : Wd) (u v : V), Same W.b W.h → Rp X.K W.b u (em x) → Rp X.K W.b v (em y) → ∀ Q : VK, (∀ v W', Le W W' → Rp X.K W'.b v (em z) → Q v W'.h) → r u v W.h Q) :
    XT X env (.Compare a [op] [b] pos) (ma.bind fun x => mb.bind fun y => f x y) := by
  refine t_of (pt_cmpR ho ha hb hm) fun W0 W σ E z hz Q q => ?_
  obtain ⟨x, hx, hz⟩ := bind_some hz
  obtain ⟨y, hy, hz⟩ := bind_some hz
  unfold tTest L2.tOp
  refine use_x E hx fun u W1 l1 r1 => ?_
  refine use_x (E.mono l1) hy fun v W2 l2 r2 => ?_
  refine hr x y z hz W2 u v l2.ok (r1.mono l2.b) r2 _ fun v' W3 l3 r3 => ?_
  cases r3
  exact ⟨z, rfl, q W3 (l1.trans (l2.trans l3))⟩
theorem t_cmpI {op : CmpOp} {g : Int → Int → Bool} {ma mb : Option Int} (ho : OpR X (compareOp op) (rI0 fun i j => .bl (g i j))) (ha : XE X env a ma) (hb : XE X env b mb) (hm : behindInMarks op b = false) :
    XT X env (.Compare a [op] [b] pos) (ma.bind fun x => mb.bind fun y => some (g x y)) :=
  t_cmp ho ha hb hm fun x y z hz W u v ok ru rv Q q => by
    cases hz
    cases ru; cases rv
    exact ⟨x, y, rfl, rfl, q _ W (Le.refl ok) (.bl _)⟩
theorem t_lt {ma mb : Option Int} (ha : XE X env a ma) (hb : XE X env b mb) : XT X env (.Compare a [.Lt] [b] pos) (ma.bind fun x => mb.bind fun y => some (decide (x < y))) := t_cmpI op_lt ha hb (nomark _)
theorem t_le {ma mb : Option Int} (ha : XE X env a ma) (hb : XE X env b mb) : XT X env (.Compare a [.LtE] [b] pos) (ma.bind fun x => mb.bind fun y => some (decide (x ≤ y))) := t_cmpI op_le ha hb (nomark _)
theorem t_gt {ma mb : Option Int} (ha : XE X env a ma) (hb : XE X env b mb) : XT X env (.Compare a [.Gt] [b] pos) (ma.bind fun x => mb.bind fun y => some (decide (y < x))) := t_cmpI op_gt ha hb (nomark _)
theorem t_ge {ma mb : Option Int} (ha : XE X env a ma) (hb : XE X env b mb) : XT X env (.Compare a [.GtE] [b] pos) (ma.bind fun x => mb.bind fun y => some (decide (y ≤ x))) := t_cmpI op_ge ha hb (nomark _)
theorem t_eq {τ : Type} [Pl τ] {ma mb : Option τ} (ha : XE X env a ma) (hb : XE X env b mb) : XT X env (.Compare a [.Eq] [b] pos) (ma.bind fun x => mb.bind fun y => some (decide (x = y))) :=
  t_cmp op_eq ha hb (nomark _) fun x y z hz W u v ok ru rv Q q => by
    cases hz
    obtain ⟨h1, h2⟩ := Pl.eq ru rv
    refine ⟨h1, ?_⟩
    rw [show decide (u = v) = decide (x = y) from decide_eq_decide.mpr h2]
    exact q _ W (Le.refl ok) (.bl _)
theorem t_ne {τ : Type} [Pl τ] {ma mb : Option τ} (ha : XE X env a ma) (hb : XE X env b mb) : XT X env (.Compare a [.NotEq] [b] pos) (ma.bind fun x => mb.bind fun y => some (!decide (x = y))) :=
  t_cmp op_ne ha hb (nomark _) fun x y z hz W u v ok ru rv Q q => by
    cases hz
    obtain ⟨h1, h2⟩ := Pl.eq ru rv
    refine ⟨h1, ?_⟩
    rw [show decide (u = v) = decide (x = y) from decide_eq_decide.mpr h2]
    exact q _ W (Le.refl ok) (.bl _)
/-- a op b op' c over ints -/
def chI (g g' : Int → Int → Bool) (ma mb mc : Option Int) : Option Bool := ma.bind fun x => mb.bind fun y => if g x y = true then mc.bind fun z => some (g' y z) else some false
theorem x_chI {op op' : CmpOp} {g g' : Int → Int → Bool} {ma mb mc : Option Int} (ho : OpR X (compareOp op) (rI0 fun i j => .bl (g i j))) (ho' : OpR X (compareOp op') (rI0 fun i j => .bl (g' i j))) (ha : XE X env a ma) (hb : XE X env b mb) (hc : XE X env c mc)
    (hm : lastMarks [op, op'] [b, c] = false := by with_unfolding_all rfl) : XE X env (.Compare a [op, op'] [b, c] pos) (chI g g' ma mb mc) := by
  refine x_of (pe_chain ho ho' ha hb hc hm) fun W0 W σ E z hz Q q => ?_
  unfold chI at hz
  obtain ⟨x, hx, hz⟩ := bind_some hz
  obtain ⟨y, hy, hz⟩ := bind_some hz
  unfold tChain
  refine use_x E hx fun u W1 l1 r1 => ?_
  refine use_x (E.mono l1) hy fun v W2 l2 r2 => ?_
  cases r1; cases r2
  refine ⟨x, y, rfl, rfl, g x y, rfl, ?_⟩
  by_cases hg : g x y = true
  · rw [if_pos hg] at hz ⊢
    obtain ⟨t, ht, hz⟩ := bind_some hz
    cases hz
    refine use_x ((E.mono l1).mono l2) ht fun v W3 l3 r3 => ?_
    cases r3
    exact ⟨y, t, rfl, rfl, q _ W3 (l1.trans (l2.trans l3)) (.bl _)⟩
  · rw [if_neg hg] at hz ⊢
    cases hz
    exact q _ W2 (l1.trans l2) (.bl _)
theorem t_chI {op op' : CmpOp} {g g' : Int → Int → Bool} {ma mb mc : Option Int} (ho : OpR X (compareOp op) (rI0 fun i j => .bl (g i j))) (ho' : OpR X (compareOp op') (rI0 fun i j => .bl (g' i j))) (ha : XE X env a ma) (hb : XE X env b mb) (hc : XE X env c mc)
    (hm : lastMarks [op, op'] [b, c] = false := by with_unfolding_all rfl) : XT X env (.Compare a [op, op'] [b, c] pos) (chI g g' ma mb mc) := by
  refine t_of (pt_chain ho ho' ha hb hc hm) fun W0 W σ E z hz Q q => ?_
  unfold chI at hz
  obtain ⟨x, hx, hz⟩ := bind_some hz
  obtain ⟨y, hy, hz⟩ := bind_some hz
  unfold tTest tChain
  refine use_x E hx fun u W1 l1 r1 => ?_
  refine use_x (E.mono l1) hy fun v W2 l2 r2 => ?_
  cases r1; cases r2
  refine ⟨x, y, rfl, rfl, g x y, rfl, ?_⟩
  by_cases hg : g x y = true
  · rw [if_pos hg] at hz ⊢
    obtain ⟨t, ht, hz⟩ := bind_some hz
    cases hz
    refine use_x ((E.mono l1).mono l2) ht fun v W3 l3 r3 => ?_
    cases r3
    exact ⟨y, t, rfl, rfl, _, rfl, q W3 (l1.trans (l2.trans l3))⟩
  · rw [if_neg hg] at hz ⊢
    cases hz
    exact ⟨_, rfl, q W2 (l1.trans l2)⟩
theorem x_neg {m : Option Int} (h : XE X env a m) : XE X env (.UnaryOp .USub a pos) (m.bind fun i => some (-i)) :=
  x_of (pe_un un_neg h) fun W0 W σ E z hz Q q => by
    obtain ⟨x, hx, hz⟩ := bind_some hz
    cases hz
    refine use_x E hx fun u W1 l1 r1 => ?_
    cases r1
    exact ⟨x, rfl, q _ W1 l1 (.int _)⟩
/-- -3, written -/
theorem x_negL {i r : Int} {j : Nat} (h : -i = r := by rfl) : XE X env (.UnaryOp .USub (.Constant (.int i) j p) pos) (some r) := (x_neg x_int).is (by subst h; rfl)
/-! ### the slots of a block's own names -/
theorem own0 {Q : Nat → Prop} : ∀ i ∈ ([] : List (Str × Nat)).map (·.2), Q i := fun i h => by cases h
theorem ownS {Q : Nat → Prop} {n : Str} {j : Nat} {l : List (Str × Nat)} (h : Q j) (t : ∀ i ∈ l.map (·.2), Q i) : ∀ i ∈ ((n, j) :: l).map (·.2), Q i := fun i q => by
  rw [List.map_cons] at q
  rcases List.mem_cons.mp q with e | e
  · rw [e]; exact h
  · exact t i e
theorem is0 {Q : Nat → Prop} : ∀ i ∈ ([] : List Nat), Q i := fun i h => by cases h
theorem isS {Q : Nat → Prop} {j : Nat} {l : List Nat} (h : Q j) (t : ∀ i ∈ l, Q i) : ∀ i ∈ j :: l, Q i := fun i q => by
  rcases List.mem_cons.mp q with e | e
  · rw [e]; exact h
  · exact t i e
/-! ### a def as it stands at the top -/
structure Df (P : Program) (w : World) (K : PySem.W.Frag) (mg : Str → Option Value) (base : Heap) (j : Nat) (x : Str) (f : Addr) (fd : FuncData) (ps : List Str) (sp : Sp) : Prop where
  ok : FnOk P w K mg base CX0 j f fd ps sp
  mg : mg x = some (.ref f)
  kp : PySem.W.keepIn K (.ref f) = true
  bd : Binds K fd ps []
theorem x_callD {A : Type} {svs : A → List SV} {m : A → Option τ} {ma : Option A} {x : Str} {f : Addr} {fd : FuncData} {ps : List Str} {j : Nat} (C : Cf X N sc fb K mg P w base k) (G : Df P w K mg base j x f fd ps (spF K svs m fun x => .dat (em x)))
    (ha : XA X env (e :: es) ma svs) (hj : j ≤ k := by decide) (hg : glbB sc x = true := by decide +kernel)
    (hdb : (x == ("__debug__" : Str)) = false := by decide) (he : starEach (e :: es) X.env = (false, eval e X.env) :: starEach es X.env := by rfl) (hpl : (backTo pos (starEach es X.env)).any (·.1) = false := by rfl) :
    XE X env (.Call (.Name x p) (e :: es) [] pos) (ma.bind m) := x_call C G.ok G.mg G.kp G.bd ha hj hg hdb he hpl
theorem l_callD {A : Type} {svs : A → List SV} {m : A → Option (List τ)} {ma : Option A} {x : Str} {f : Addr} {fd : FuncData} {ps : List Str} {j : Nat} (C : Cf X N sc fb K mg P w base k) (G : Df P w K mg base j x f fd ps (spF K svs m fun x => .own (x.map em)))
    (ha : XA X env (e :: es) ma svs) (hj : j ≤ k := by decide) (hg : glbB sc x = true := by decide +kernel)
    (hdb : (x == ("__debug__" : Str)) = false := by decide) (he : starEach (e :: es) X.env = (false, eval e X.env) :: starEach es X.env := by rfl) (hpl : (backTo pos (starEach es X.env)).any (·.1) = false := by rfl) :
    XL X env (.Call (.Name x p) (e :: es) [] pos) (ma.bind m) := l_call C G.ok G.mg G.kp G.bd ha hj hg hdb he hpl
end
theorem hzD {K : PySem.W.Frag} {res : ρ → RV} : ∀ r W0 B D, ZRn K res r W0 B D → ZR K res r W0 B D := fun _ _ _ _ z => z.1
theorem hzO {K : PySem.W.Frag} {res : ρ → RV} {r : ρ} : ∀ W0 B D, ZRn K res r W0 B D → ZR K res r W0 B D := fun _ _ _ z => z.1
theorem hzI {K : PySem.W.Frag} {res : ρ → RV} : ∀ r W0 B D, ZR K res r W0 B D → ZR K res r W0 B D := fun _ _ _ _ z => z
/-! ### the law's own end -/
def spLaw (K : PySem.W.Frag) : Sp := fun vs H Q _ => ∃ (a : Addr) (ns : List Int), vs = [.ref a] ∧ SqL K H a (ns.map V.int) ∧ ns.length ≤ 63 ∧ (∀ P, Tabs.tab P → GxR.TabG H P) ∧ ∀ H', Q (.bl true) H'
theorem ints_rp {K : PySem.W.Frag} {H : Hp} : ∀ ns : List Int, RpA K H (ns.map V.int) (ns.map em)
  | [] => .nil
  | n :: ns => .cons (.int n) (ints_rp ns)
theorem law_ok {P : Program} {w : World} {K : PySem.W.Frag} {mg : Str → Option Value} {base : Heap} {k : Nat} {f : Addr} {fd : FuncData} {m : List Int × Unit → Option Bool}
    (G : FnOk P w K mg base CX0 k f fd ["script"] (spF K (fun a : List Int × Unit => [.bor (a.1.map em)]) m fun x => .dat (em x))) (hm : ∀ ns : List Int, ns.length ≤ 63 → m (ns, ()) = some true) : FnOk P w K mg base CX0 k f fd ["script"] (spLaw K) := by
  refine G.imp fun vs H Q E h => ?_
  obtain ⟨a, ns, rfl, hS, hl, ht, q⟩ := h
  exact ⟨⟨fun _ => none, H⟩, (ns, ()), true, rfl, (fun _ _ h => by cases h), (fun P hP => ⟨ht P hP, rfl⟩), .bor hS (ints_rp ns) .nil, hm ns hl, fun v W' l r => by cases r; exact q _⟩
theorem law_walk {l : PySem.W.OpenLaw} {k : Nat} {q : Program} {loose : List Str} {XP : (Str → Option Value) → Heap → Prop} {YP : World → Heap → Prop} {d : DefRec} {K : Params → PySem.W.Frag} (hn : l.most = some 63) (hdf : d.params.defaults = [])
    (hY : ∀ (w : World) (h : Heap), YP w h → (K w.params).In h) (hk : Room k callerA) (no : ∀ P, ¬ Tabs.tab P)
    (F : ∀ (w : World) (mg : Str → Option Value) (fa : Addr) (h : Heap), (K w.params).In h → h.Ns mainGlobals mg → mg d.name = some (.ref fa) →
      ∃ fd : FuncData, (∀ (s : Shared) (u : Value), BindsTo s fd ⟨[u], []⟩ [("script", u)]) ∧ ∀ base : Heap, (K w.params).In base → base.Ns mainGlobals mg → FnOk l.prog w (K w.params) mg base CX0 k fa fd ["script"] (spLaw (K w.params))) :
    PySem.W.WalkO q loose XP YP l.row.toRowW d [] (fun f vs => PySem.call f vs) :=
  L2.walk_of (n := 63) (k := k) (x := "script") (CX := fun _ => CX0) (sp := fun w => spLaw (K w.params)) hn (by decide) hdf hk hY F (fun _ _ a ns hl _ hS => ⟨a, ns, rfl, hS, hl, fun P hP => absurd hP (no P), fun _ => rfl⟩) fun _ _ _ _ _ z => z
end T

set_option Elab.async false
set_option linter.all false
set_option maxRecDepth 100000
set_option maxHeartbeats 4000000
/-! TData: values of any kind (D), sequences, membership, lists that are multiplied or grow within, defs that call themselves. -/
namespace T
open PySem PySem.Spec PyProof.Rows L2
variable {τ α β γ δ ρ B S ι : Type}
variable [Tabs]
section
variable {X : Cx} {env env' : List SV} {e a b c tg iter elt o : Expr} {st : Stmt} {es : List Expr} {body rest : List Stmt} {pos p p2 p3 apos : Pos} [Em τ] [Em α] [Em β] [Em γ] {N : List Str} {sc : Scope} {fb : Str → Bool} {K : PySem.W.Frag} {mg : Str → Option Value} {P : Program} {w : World} {base : Heap} {k : Nat}
variable {Z : ρ → Wd → Hp → Ends → Prop}
/-! ### data of any kind -/
def isN : D → Bool
  | .non => true
  | _ => false
def lenD : D → Option Int
  | .tup l => some l.length
  | .lst l => some l.length
  | .str s => if sz s.length then some (s.length : Int) else none
  | _ => none
/-- == of two plain values of one kind -/
def eqD : D → D → Option Bool
  | .bl x, .bl y => some (decide (x = y))
  | .int x, .int y => some (decide (x = y))
  | .str x, .str y => some (decide (x = y))
  | _, _ => none
def itsD : D → Option (List D)
  | .tup l => some l
  | .lst l => some l
  | _ => none
def zipD : D → D → Option (List (D × D))
  | .tup l, .tup m => some (l.zip m)
  | .lst l, .lst m => some (l.zip m)
  | _, _ => none
theorem map_em (l : List D) : l.map em = l := by induction l with
  | nil => rfl
  | cons x l ih => rw [List.map_cons, ih]; rfl
theorem isN_rp {K : PySem.W.Frag} {H : Hp} {v : V} {d : D} (r : Rp K H v d) : decide (v = .non) = isN d := by
  cases r <;> rfl
theorem x_isN {m : Option τ} {j : Nat} (h : XE X env a m) : XE X env (.Compare a [.Is] [.Constant .none j p] pos) (m.bind fun x => some (isN (em x))) :=
  (x_cmp (b := .Constant .none j p) (ma := m) (mb := some ()) (f := fun x _ => some (isN (em x))) op_isN h x_non (nomark _) fun x y z hz W u v ok ru rv Q q => by
    cases hz
    cases rv
    refine ⟨rfl, ?_⟩
    rw [isN_rp ru]
    exact q _ W (Le.refl ok) (.bl _)).is (by cases m <;> rfl)
theorem t_isN {m : Option τ} {j : Nat} (h : XE X env a m) : XT X env (.Compare a [.Is] [.Constant .none j p] pos) (m.bind fun x => some (isN (em x))) :=
  (t_cmp (b := .Constant .none j p) (ma := m) (mb := some ()) (f := fun x _ => some (isN (em x))) op_isN h x_non (nomark _) fun x y z hz W u v ok ru rv Q q => by
    cases hz
    cases rv
    refine ⟨rfl, ?_⟩
    rw [isN_rp ru]
    exact q _ W (Le.refl ok) (.bl _)).is (by cases m <;> rfl)
theorem x_notN {m : Option τ} {j : Nat} (h : XE X env a m) : XE X env (.Compare a [.IsNot] [.Constant .none j p] pos) (m.bind fun x => some (!isN (em x))) :=
  (x_cmp (b := .Constant .none j p) (ma := m) (mb := some ()) (f := fun x _ => some (!isN (em x))) op_notN h x_non (nomark _) fun x y z hz W u v ok ru rv Q q => by
    cases hz
    cases rv
    refine ⟨rfl, ?_⟩
    rw [isN_rp ru]
    exact q _ W (Le.refl ok) (.bl _)).is (by cases m <;> rfl)
theorem t_notN {m : Option τ} {j : Nat} (h : XE X env a m) : XT X env (.Compare a [.IsNot] [.Constant .none j p] pos) (m.bind fun x => some (!isN (em x))) :=
  (t_cmp (b := .Constant .none j p) (ma := m) (mb := some ()) (f := fun x _ => some (!isN (em x))) op_notN h x_non (nomark _) fun x y z hz W u v ok ru rv Q q => by
    cases hz
    cases rv
    refine ⟨rfl, ?_⟩
    rw [isN_rp ru]
    exact q _ W (Le.refl ok) (.bl _)).is (by cases m <;> rfl)
theorem eqD_rp {K : PySem.W.Frag} {H : Hp} {u v : V} {d e : D} {z : Bool} (r : Rp K H u d) (q : Rp K H v e) (h : eqD d e = some z) : scal u v = true ∧ decide (u = v) = z := by
  cases r <;> cases q <;> first
    | (cases h; done)
    | (cases h; exact ⟨rfl, by simp⟩)
theorem x_eqD {ma mb : Option D} (ha : XE X env a ma) (hb : XE X env b mb) : XE X env (.Compare a [.Eq] [b] pos) (ma.bind fun x => mb.bind fun y => eqD x y) :=
  x_cmp op_eq ha hb (nomark _) fun x y z hz W u v ok ru rv Q q => by
    obtain ⟨h1, h2⟩ := eqD_rp ru rv hz
    refine ⟨h1, ?_⟩
    rw [h2]
    exact q _ W (Le.refl ok) (.bl _)
theorem t_eqD {ma mb : Option D} (ha : XE X env a ma) (hb : XE X env b mb) : XT X env (.Compare a [.Eq] [b] pos) (ma.bind fun x => mb.bind fun y => eqD x y) :=
  t_cmp op_eq ha hb (nomark _) fun x y z hz W u v ok ru rv Q q => by
    obtain ⟨h1, h2⟩ := eqD_rp ru rv hz
    refine ⟨h1, ?_⟩
    rw [h2]
    exact q _ W (Le.refl ok) (.bl _)
theorem x_lenD {m : Option D} (C : Cf X N sc fb K mg P w base k) (h : XE X env e m) (hm : mg "len" = none) (hg : glbB sc "len" = true := by decide +kernel)
    (he : ∀ E : Env, starEach [e] E = (false, eval e E) :: starEach [] E := by intro _; rfl) : XE X env (.Call (.Name "len" p) [e] [] pos) (m.bind lenD) :=
  x_cB1 C call_len h (fun d y hy W v ok r Q q => by
    have r : Rp X.K W.b v d := r
    cases r with
    | @tup a vs _ s t =>
      cases hy
      refine ⟨_, vs.length, rfl, .inr ⟨vs, same_t ok s, rfl⟩, ?_⟩
      rw [t.length]
      exact q _ W (Le.refl ok) (.int _)
    | @lst a vs _ s t =>
      cases hy
      refine ⟨_, vs.length, rfl, .inl ⟨vs, ok.seq s, rfl⟩, ?_⟩
      rw [t.length]
      exact q _ W (Le.refl ok) (.int _)
    | str s =>
      have hy : (if sz s.length then some (s.length : Int) else none) = some y := hy
      split at hy
      · rename_i hz
        cases hy
        exact ⟨_, s.length, rfl, ⟨Nat.le_of_lt (sz_line hz), rfl⟩, q _ W (Le.refl ok) (.int _)⟩
      · cases hy
    | _ => cases hy) hm PySem.boot_len hg (by decide) (by decide) he
/-! ### zip of tuples, of data -/
theorem walk_zipL {W0 W1 : Wd} {u v : Addr} {xs : List α} {ys : List β} {vs us : List V} (s1 : ∀ W : Wd, Same W1.b W.b → Le W0 W → SqL K W.h u vs) (s2 : ∀ W : Wd, Same W1.b W.b → Le W0 W → SqL K W.h v us) (r1 : RpA K W1.b vs (xs.map em)) (r2 : RpA K W1.b us (ys.map em)) : Walk K W0 W1 (Itz K u v) (xs.zip ys) where
  item := fun i y W2 hy sb l0 => by
    obtain ⟨x1, x2⟩ := y
    rw [List.zip_eq_zipWith, List.getElem?_zipWith] at hy
    cases h1 : xs[i]? with
    | none => rw [h1] at hy; simp at hy
    | some z1 =>
      cases h2 : ys[i]? with
      | none => rw [h1, h2] at hy; simp at hy
      | some z2 =>
        rw [h1, h2] at hy
        obtain ⟨rfl, rfl⟩ : z1 = x1 ∧ z2 = x2 := by simpa using hy
        obtain ⟨v1, e1, q1⟩ := r1.get (show (xs.map em)[i]? = some (em z1) by rw [List.getElem?_map, h1]; rfl)
        obtain ⟨v2, e2, q2⟩ := r2.get (show (ys.map em)[i]? = some (em z2) by rw [List.getElem?_map, h2]; rfl)
        have t1 := s1 W2 sb l0
        have t2 := s2 W2 sb l0
        refine ⟨⟨vs, us, v1, v2, t1, t2, e1, e2⟩, fun v' H' ⟨T', x, y, e3, hT, e4, h5, h6⟩ => ?_⟩
        subst e3 e4
        have g1 := h5 _ t1
        have g2 := h6 _ t2
        rw [e1] at g1
        rw [e2] at g2
        cases g1; cases g2
        exact ⟨_, Le.lay l0.ok (o := .tup [v1, v2]) hT, rfl, .tup (SqT.of upd_same) (.cons ((q1.mono sb).mono (Same.new (l0.ok.free hT))) (.cons ((q2.mono sb).mono (Same.new (l0.ok.free hT))) .nil))⟩
  stop := fun W2 sb l0 => by
    refine ⟨vs, us, s1 W2 sb l0, s2 W2 sb l0, ?_⟩
    have h1 := r1.length
    have h2 := r2.length
    rw [List.length_map] at h1 h2
    rw [List.length_zip, h1, h2]
    omega
theorem walk_zipT {W0 W1 : Wd} {u v : Addr} {xs : List α} {ys : List β} {vs us : List V} (s1 : ∀ W : Wd, Same W1.b W.b → Le W0 W → SqT K W.h u vs) (s2 : ∀ W : Wd, Same W1.b W.b → Le W0 W → SqT K W.h v us) (r1 : RpA K W1.b vs (xs.map em)) (r2 : RpA K W1.b us (ys.map em)) : Walk K W0 W1 (RZ.ItzT K u v) (xs.zip ys) where
  item := fun i y W2 hy sb l0 => by
    obtain ⟨x1, x2⟩ := y
    rw [List.zip_eq_zipWith, List.getElem?_zipWith] at hy
    cases h1 : xs[i]? with
    | none => rw [h1] at hy; simp at hy
    | some z1 =>
      cases h2 : ys[i]? with
      | none => rw [h1, h2] at hy; simp at hy
      | some z2 =>
        rw [h1, h2] at hy
        obtain ⟨rfl, rfl⟩ : z1 = x1 ∧ z2 = x2 := by simpa using hy
        obtain ⟨v1, e1, q1⟩ := r1.get (show (xs.map em)[i]? = some (em z1) by rw [List.getElem?_map, h1]; rfl)
        obtain ⟨v2, e2, q2⟩ := r2.get (show (ys.map em)[i]? = some (em z2) by rw [List.getElem?_map, h2]; rfl)
        have t1 := s1 W2 sb l0
        have t2 := s2 W2 sb l0
        refine ⟨⟨vs, us, v1, v2, t1, t2, e1, e2⟩, fun v' H' ⟨T', x, y, e3, hT, e4, h5, h6⟩ => ?_⟩
        subst e3 e4
        have g1 := h5 _ t1
        have g2 := h6 _ t2
        rw [e1] at g1
        rw [e2] at g2
        cases g1; cases g2
        exact ⟨_, Le.lay l0.ok (o := .tup [v1, v2]) hT, rfl, .tup (SqT.of upd_same) (.cons ((q1.mono sb).mono (Same.new (l0.ok.free hT))) (.cons ((q2.mono sb).mono (Same.new (l0.ok.free hT))) .nil))⟩
  stop := fun W2 sb l0 => by
    refine ⟨vs, us, s1 W2 sb l0, s2 W2 sb l0, ?_⟩
    have h1 := r1.length
    have h2 := r2.length
    rw [List.length_map] at h1 h2
    rw [List.length_zip, h1, h2]
    omega
theorem w_zipD (C : Cf X N sc fb K mg P w base k) {elts : List Expr} {kk : Nat} {tpos : Pos} {ma mb : Option D} (h : XE X env a ma) (h' : XE X env b mb) (hm : mg "zip" = none) (hg : glbB sc "zip" = true := by decide +kernel)
    (h1 : starEach [a, b] X.env = (false, eval a X.env) :: starEach [b] X.env := by rfl) (h2 : starEach [b] X.env = (false, eval b X.env) :: starEach [] X.env := by rfl) (hpl : (backTo pos (starEach [b] X.env)).any (·.1) = false := by rfl) :
    XWk X env (.Tuple elts kk tpos) (.Call (.Name "zip" p) [a, b] [] pos) (ma.bind fun x => mb.bind fun y => zipD x y) := by
  cases C
  refine piImp (RZ.pi_zipA (glbB_ok hg) hm (a_dat h (a_dat h' a_nil h2) h1) h1 hpl) fun σ H R ⟨W0, W, hH, E, x, hx, q⟩ => ?_
  subst hH
  obtain ⟨xs, hxs, hx⟩ := bind_some hx
  obtain ⟨ys, hys, hx⟩ := bind_some hx
  refine use_a E (x := (xs, ys, ())) (by rw [hxs, hys]; rfl) fun vs W1 l1 r1 => ?_
  cases r1 with
  | dat r1 r2 =>
    cases r2 with
    | dat r2 r3 =>
      cases r3
      have r1 : Rp X.K W1.b _ xs := r1
      have r2 : Rp X.K W1.b _ ys := r2
      cases r1 with
      | tup s1 t1 =>
        cases r2 with
        | tup s2 t2 =>
          cases hx
          exact ⟨_, _, _, _, rfl, .inr ⟨same_t l1.ok s1, same_t l1.ok s2, q _ W1 l1 (walk_zipT (fun W sb l => same_t l.ok (same_t sb s1)) (fun W sb l => same_t l.ok (same_t sb s2)) (by rw [map_em]; exact t1) (by rw [map_em]; exact t2))⟩⟩
        | _ => cases hx
      | lst s1 t1 =>
        cases r2 with
        | lst s2 t2 =>
          cases hx
          exact ⟨_, _, _, _, rfl, .inl ⟨l1.ok.seq s1, l1.ok.seq s2, q _ W1 l1 (walk_zipL (fun W sb l => l.ok.seq (sb.seq s1)) (fun W sb l => l.ok.seq (sb.seq s2)) (by rw [map_em]; exact t1) (by rw [map_em]; exact t2))⟩⟩
        | _ => cases hx
      | _ => cases hx
/-- two lists that are borrowed -/
theorem w_zipB (C : Cf X N sc fb K mg P w base k) (i j : Nat) {n m : Str} {p1 p2 : Pos} {elts : List Expr} {kk : Nat} {tpos : Pos} {xs : List α} {ys : List β} (hm : mg "zip" = none) (hi : env[i]? = some (.bor (xs.map em)) := by rfl) (hj : env[j]? = some (.bor (ys.map em)) := by rfl)
    (hni : N[i]? = some n := by rfl) (hv : visB sc n = true := by decide +kernel) (hd : (n == ("__debug__" : Str)) = false := by decide) (hcd : (n == ("__classdict__" : Str)) = false := by decide)
    (hnj : N[j]? = some m := by rfl) (hv' : visB sc m = true := by decide +kernel) (hd' : (m == ("__debug__" : Str)) = false := by decide) (hcd' : (m == ("__classdict__" : Str)) = false := by decide)
    (hg : glbB sc "zip" = true := by decide +kernel)
    (h1 : ∀ E : Env, starEach [.Name n p1, .Name m p2] E = (false, eval (.Name n p1) E) :: starEach [.Name m p2] E := by intro _; rfl) (h2 : ∀ E : Env, starEach [.Name m p2] E = (false, eval (.Name m p2) E) :: starEach [] E := by intro _; rfl) (hpl : ∀ E : Env, (backTo pos (starEach [.Name m p2] E)).any (·.1) = false := by intro _; rfl) :
    XWk X env (.Tuple elts kk tpos) (.Call (.Name "zip" p) [.Name n p1, .Name m p2] [] pos) (some (xs.zip ys)) := by
  cases C
  refine piImp (RZ.pi_zipA (glbB_ok hg) hm (pa_cons (pe_var hni (visB_ok hv) hd hcd) (pa_cons (pe_var hnj (visB_ok hv') hd' hcd') pa_nil (h2 _)) (h1 _)) (h1 _) (hpl _)) fun σ H R ⟨W0, W, hH, E, x, hx, q⟩ => ?_
  subst hH
  cases hx
  obtain ⟨o1, f1, u, vs, e1, s1, t1⟩ := E.slot i _ hi
  obtain ⟨o2, f2, v, us, e2, s2, t2⟩ := E.slot j _ hj
  subst e1
  subst e2
  refine ⟨_, f1, _, f2, _, _, _, _, rfl, .inl ⟨E.le.h.seq s1, E.le.h.seq s2, q _ W (Le.refl E.ok) (walk_zipL (fun W sb l => l.h.seq s1) (fun W sb l => l.h.seq s2) (t1.mono E.le.b) (t2.mono E.le.b))⟩⟩
/-! ### in, not in: items of one plain kind -/
theorem Pl.flat [Pl τ] {K : PySem.W.Frag} {H : Hp} {v : V} {x : τ} (h : ∀ x : τ, (∃ i, em x = .int i) ∨ (∃ i, em x = .bl i) ∨ ∃ i, em x = .str i) (r : Rp K H v (em x)) : flatV v = true := by
  rcases h x with ⟨i, e⟩ | ⟨i, e⟩ | ⟨i, e⟩
  all_goals
    rw [e] at r
    cases r
    rfl
class Fl1 (τ : Type) [Pl τ] : Prop where
  fl : ∀ x : τ, (∃ i, em x = .int i) ∨ (∃ i, em x = .bl i) ∨ ∃ i, em x = .str i
  eqv : ∀ {K : PySem.W.Frag} {H : Hp} {x y : τ} {u v : V}, Rp K H u (em x) → Rp K H v (em y) → eqV u v = decide (x = y)
instance : Fl1 Int := ⟨fun x => .inl ⟨x, rfl⟩, fun r q => by cases r; cases q; rfl⟩
instance : Fl1 Bool := ⟨fun x => .inr (.inl ⟨x, rfl⟩), fun {_ _ x y _ _} r q => by cases r; cases q; revert x y; decide⟩
instance : Fl1 Str := ⟨fun x => .inr (.inr ⟨x, rfl⟩), fun {_ _ x y _ _} r q => by cases r; cases q; show (x == y) = _; rfl⟩
def memB [Pl τ] (x : τ) (ys : List τ) : Bool := ys.any fun y => decide (y = x)
theorem memB_iff [Pl τ] {x : τ} {ys : List τ} : memB x ys = true ↔ x ∈ ys := by
  unfold memB
  simp
theorem inV_rp {τ : Type} [Pl τ] [Fl1 τ] {K : PySem.W.Frag} {H : Hp} {u : V} {x : τ} (r : Rp K H u (em x)) : ∀ {vs : List V} {ys : List τ}, RpA K H vs (ys.map em) → vs.all flatV = true ∧ inV u vs = memB x ys
  | [], [], .nil => ⟨rfl, rfl⟩
  | v :: vs, y :: ys, .cons q t => by
    obtain ⟨h1, h2⟩ := inV_rp r t
    refine ⟨by rw [List.all_cons, Pl.flat Fl1.fl q, h1]; rfl, ?_⟩
    unfold inV memB at h2 ⊢
    rw [List.any_cons, List.any_cons, h2, Fl1.eqv q r]
section
variable {τ : Type} [Pl τ] [Fl1 τ]
theorem q_in {neg : Bool} {op : CmpOp} (ho : OpR X (compareOp op) (rIn X.K neg)) {ma : Option τ} {mb : Option (List τ)} (ha : XE X env a ma) (hb : XQ X env b mb) (hmk : behindInMarks op b = false) :
    PE X (.Compare a [op] [b] pos) (fun σ H Q => ∃ W0 W : Wd, W.h = H ∧ EnvR X.K W0 W env σ ∧ ∃ x ys, ma = some x ∧ mb = some ys ∧ ∀ W', Le W W' → Q (.bl (if neg then !memB x ys else memB x ys)) W'.h) ∧
    PT X (.Compare a [op] [b] pos) (fun σ H Q => ∃ W0 W : Wd, W.h = H ∧ EnvR X.K W0 W env σ ∧ ∃ x ys, ma = some x ∧ mb = some ys ∧ ∀ W', Le W W' → Q (if neg then !memB x ys else memB x ys) W'.h) := by
  refine ⟨peImp (pe_cmpR ho ha hb hmk) fun σ H Q ⟨W0, W, hH, E, x, ys, hx, hy, q⟩ => ?_, ptImp (pt_cmpR ho ha hb hmk) fun σ H Q ⟨W0, W, hH, E, x, ys, hx, hy, q⟩ => ?_⟩
  · subst hH
    refine use_x E hx fun u W1 l1 r1 => ?_
    refine use_q (E.mono l1) hy fun ad vs W2 l2 s2 r2 => ?_
    obtain ⟨h1, h2⟩ := inV_rp (r1.mono l2.b) r2
    refine ⟨ad, vs, rfl, .inl s2, Pl.flat Fl1.fl r1, h1, ?_⟩
    rw [h2]
    exact q W2 (l1.trans l2)
  · subst hH
    unfold tTest L2.tOp
    refine use_x E hx fun u W1 l1 r1 => ?_
    refine use_q (E.mono l1) hy fun ad vs W2 l2 s2 r2 => ?_
    obtain ⟨h1, h2⟩ := inV_rp (r1.mono l2.b) r2
    refine ⟨ad, vs, rfl, .inl s2, Pl.flat Fl1.fl r1, h1, ?_⟩
    rw [h2]
    exact ⟨_, rfl, q W2 (l1.trans l2)⟩
theorem v_in {neg : Bool} {op : CmpOp} (ho : OpR X (compareOp op) (rIn X.K neg)) {ma : Option τ} {mb : Option (Vt τ)} (ha : XE X env a ma) (hb : XE X env b mb) (hmk : behindInMarks op b = false) :
    PE X (.Compare a [op] [b] pos) (fun σ H Q => ∃ W0 W : Wd, W.h = H ∧ EnvR X.K W0 W env σ ∧ ∃ x ys, ma = some x ∧ mb = some ys ∧ ∀ W', Le W W' → Q (.bl (if neg then !memB x ys.l else memB x ys.l)) W'.h) ∧
    PT X (.Compare a [op] [b] pos) (fun σ H Q => ∃ W0 W : Wd, W.h = H ∧ EnvR X.K W0 W env σ ∧ ∃ x ys, ma = some x ∧ mb = some ys ∧ ∀ W', Le W W' → Q (if neg then !memB x ys.l else memB x ys.l) W'.h) := by
  refine ⟨peImp (pe_cmpR ho ha hb hmk) fun σ H Q ⟨W0, W, hH, E, x, ys, hx, hy, q⟩ => ?_, ptImp (pt_cmpR ho ha hb hmk) fun σ H Q ⟨W0, W, hH, E, x, ys, hx, hy, q⟩ => ?_⟩
  · subst hH
    refine use_x E hx fun u W1 l1 r1 => ?_
    refine use_x (E.mono l1) hy fun v W2 l2 r2 => ?_
    have r2 : Rp X.K W2.b v (.tup (ys.l.map em)) := r2
    cases r2 with
    | tup s2 r2 =>
      obtain ⟨h1, h2⟩ := inV_rp (r1.mono l2.b) r2
      refine ⟨_, _, rfl, .inr (same_t l2.ok s2), Pl.flat Fl1.fl r1, h1, ?_⟩
      rw [h2]
      exact q W2 (l1.trans l2)
  · subst hH
    unfold tTest L2.tOp
    refine use_x E hx fun u W1 l1 r1 => ?_
    refine use_x (E.mono l1) hy fun v W2 l2 r2 => ?_
    have r2 : Rp X.K W2.b v (.tup (ys.l.map em)) := r2
    cases r2 with
    | tup s2 r2 =>
      obtain ⟨h1, h2⟩ := inV_rp (r1.mono l2.b) r2
      refine ⟨_, _, rfl, .inr (same_t l2.ok s2), Pl.flat Fl1.fl r1, h1, ?_⟩
      rw [h2]
      exact ⟨_, rfl, q W2 (l1.trans l2)⟩
theorem x_inQ {ma : Option τ} {mb : Option (List τ)} (ha : XE X env a ma) (hb : XQ X env b mb) (hmk : behindInMarks .In b = false := by rfl) : XE X env (.Compare a [.In] [b] pos) (ma.bind fun x => mb.bind fun y => some (memB x y)) :=
  x_of (q_in op_in_seq ha hb hmk).1 fun W0 W σ E z hz Q q => by
    obtain ⟨x, hx, hz⟩ := bind_some hz
    obtain ⟨y, hy, hz⟩ := bind_some hz
    cases hz
    exact ⟨W0, W, rfl, E, x, y, hx, hy, fun W' l => q _ W' l (.bl _)⟩
theorem t_inQ {ma : Option τ} {mb : Option (List τ)} (ha : XE X env a ma) (hb : XQ X env b mb) (hmk : behindInMarks .In b = false := by rfl) : XT X env (.Compare a [.In] [b] pos) (ma.bind fun x => mb.bind fun y => some (memB x y)) :=
  t_of (q_in op_in_seq ha hb hmk).2 fun W0 W σ E z hz Q q => by
    obtain ⟨x, hx, hz⟩ := bind_some hz
    obtain ⟨y, hy, hz⟩ := bind_some hz
    cases hz
    exact ⟨W0, W, rfl, E, x, y, hx, hy, q⟩
theorem x_ninQ {ma : Option τ} {mb : Option (List τ)} (ha : XE X env a ma) (hb : XQ X env b mb) (hmk : behindInMarks .NotIn b = false := by rfl) : XE X env (.Compare a [.NotIn] [b] pos) (ma.bind fun x => mb.bind fun y => some (!memB x y)) :=
  x_of (q_in op_notIn_seq ha hb hmk).1 fun W0 W σ E z hz Q q => by
    obtain ⟨x, hx, hz⟩ := bind_some hz
    obtain ⟨y, hy, hz⟩ := bind_some hz
    cases hz
    exact ⟨W0, W, rfl, E, x, y, hx, hy, fun W' l => q _ W' l (.bl _)⟩
theorem t_ninQ {ma : Option τ} {mb : Option (List τ)} (ha : XE X env a ma) (hb : XQ X env b mb) (hmk : behindInMarks .NotIn b = false := by rfl) : XT X env (.Compare a [.NotIn] [b] pos) (ma.bind fun x => mb.bind fun y => some (!memB x y)) :=
  t_of (q_in op_notIn_seq ha hb hmk).2 fun W0 W σ E z hz Q q => by
    obtain ⟨x, hx, hz⟩ := bind_some hz
    obtain ⟨y, hy, hz⟩ := bind_some hz
    cases hz
    exact ⟨W0, W, rfl, E, x, y, hx, hy, q⟩
theorem x_inV {ma : Option τ} {mb : Option (Vt τ)} (ha : XE X env a ma) (hb : XE X env b mb) (hmk : behindInMarks .In b = false := by rfl) : XE X env (.Compare a [.In] [b] pos) (ma.bind fun x => mb.bind fun y => some (memB x y.l)) :=
  x_of (v_in op_in_seq ha hb hmk).1 fun W0 W σ E z hz Q q => by
    obtain ⟨x, hx, hz⟩ := bind_some hz
    obtain ⟨y, hy, hz⟩ := bind_some hz
    cases hz
    exact ⟨W0, W, rfl, E, x, y, hx, hy, fun W' l => q _ W' l (.bl _)⟩
theorem t_inV {ma : Option τ} {mb : Option (Vt τ)} (ha : XE X env a ma) (hb : XE X env b mb) (hmk : behindInMarks .In b = false := by rfl) : XT X env (.Compare a [.In] [b] pos) (ma.bind fun x => mb.bind fun y => some (memB x y.l)) :=
  t_of (v_in op_in_seq ha hb hmk).2 fun W0 W σ E z hz Q q => by
    obtain ⟨x, hx, hz⟩ := bind_some hz
    obtain ⟨y, hy, hz⟩ := bind_some hz
    cases hz
    exact ⟨W0, W, rfl, E, x, y, hx, hy, q⟩
theorem x_ninV {ma : Option τ} {mb : Option (Vt τ)} (ha : XE X env a ma) (hb : XE X env b mb) (hmk : behindInMarks .NotIn b = false := by rfl) : XE X env (.Compare a [.NotIn] [b] pos) (ma.bind fun x => mb.bind fun y => some (!memB x y.l)) :=
  x_of (v_in op_notIn_seq ha hb hmk).1 fun W0 W σ E z hz Q q => by
    obtain ⟨x, hx, hz⟩ := bind_some hz
    obtain ⟨y, hy, hz⟩ := bind_some hz
    cases hz
    exact ⟨W0, W, rfl, E, x, y, hx, hy, fun W' l => q _ W' l (.bl _)⟩
theorem t_ninV {ma : Option τ} {mb : Option (Vt τ)} (ha : XE X env a ma) (hb : XE X env b mb) (hmk : behindInMarks .NotIn b = false := by rfl) : XT X env (.Compare a [.NotIn] [b] pos) (ma.bind fun x => mb.bind fun y => some (!memB x y.l)) :=
  t_of (v_in op_notIn_seq ha hb hmk).2 fun W0 W σ E z hz Q q => by
    obtain ⟨x, hx, hz⟩ := bind_some hz
    obtain ⟨y, hy, hz⟩ := bind_some hz
    cases hz
    exact ⟨W0, W, rfl, E, x, y, hx, hy, q⟩
end
/-! ### lists: times, insert -/
def repL (xs : List τ) (n : Int) : Option (List τ) := if -4611686018427387904 ≤ n ∧ n < 4611686018427387904 ∧ xs.length * n.toNat ≤ 16777216 then some (List.replicate n.toNat xs).flatten else none
theorem RpA.rep {H : Hp} {vs : List V} {ds : List D} (r : RpA K H vs ds) : ∀ n, RpA K H (List.replicate n vs).flatten (List.replicate n ds).flatten
  | 0 => .nil
  | n + 1 => by
    rw [List.replicate_succ, List.replicate_succ, List.flatten_cons, List.flatten_cons]
    exact r.append (RpA.rep r n)
theorem l_rep {ma : Option (List τ)} {mb : Option Int} (ha : XL X env a ma) (hb : XE X env b mb) : XL X env (.BinOp a .Mult b pos) (ma.bind fun x => mb.bind fun y => repL x y) :=
  l_of (pe_op op_rep ha hb) fun W0 W σ E z hz Q q => by
    obtain ⟨x, hx, hz⟩ := bind_some hz
    obtain ⟨y, hy, hz⟩ := bind_some hz
    unfold repL at hz
    split at hz
    · rename_i hs
      cases hz
      refine use_l E hx fun a vs W1 l1 h0 h1 hb r1 => ?_
      refine use_x (E.mono l1) hy fun u W2 l2 r2 => ?_
      cases r2
      have hl := r1.length
      rw [List.length_map] at hl
      have l12 := l1.trans l2
      refine ⟨a, y, vs, rfl, rfl, l2.h.lst h1, by omega, by omega, by rw [hl]; exact hs.2.2, fun p hp => ?_⟩
      refine q p _ ⟨W2.b, upd W2.h p (.lst (List.replicate y.toNat vs).flatten)⟩ (l12.trans (Le.layM l12.ok hp)) (l12.h.free hp) upd_same (l12.ok.free hp) ?_
      rw [List.map_flatten, List.map_replicate]
      exact (r1.mono l2.b).rep _
    · cases hz
def insP (xs : List τ) (i : Int) (x : τ) : Option (List τ) := if sz xs.length ∧ 0 ≤ i ∧ i < 4611686018427387904 then some (xs.take i.toNat ++ [x] ++ xs.drop i.toNat) else none
/-- xs.insert(i, e) -/
theorem g_insert (C : Cf X N sc fb K mg P w base k) (i : Nat) {n : Str} {p1 apos p3 : Pos} {xs : List τ} {mi : Option Int} {me : Option τ} {f : List τ → Option ρ} (hj : XE X env b mi) (he : XE X env e me) (hr : ∀ ys : List τ, GS X (env.set i (.own (ys.map em))) rest (f ys) Z)
    (hx : env[i]? = some (.own (xs.map em)) := by rfl) (hi : N[i]? = some n := by rfl) (hv : visB sc n = true := by decide +kernel)
    (hd : (n == ("__debug__" : Str)) = false := by decide) (hcd : (n == ("__classdict__" : Str)) = false := by decide)
    (hbase : ∀ E : Env, attributeBase (.Name n p1) "insert" E (eval (.Name n p1) E) = eval (.Name n p1) E := by intro _; rfl)
    (hfew : ∀ E : Env, ((backTo p3 (starEach [b, e] E)).all (fun x => !x.1) && (backToKw p3 (keywordEach [] E)).all (fun x => x.1.isSome)
      && decide ([b, e].length + ([] : List Keyword).length + (if ([] : List Keyword).isEmpty then 0 else 1) < 30)) = true := by intro _; rfl)
    (hline : (apos.endLine == p3.line) = true := by rfl) (hs : ∀ E : Env, starEach [b, e] E = (false, eval b E) :: starEach [e] E := by intro _; rfl) (hs2 : ∀ E : Env, starEach [e] E = (false, eval e E) :: starEach [] E := by intro _; rfl)
    (hplain : ∀ E : Env, (backTo p3 (starEach ([e] : List Expr) E)).any (·.1) = false := by intro _; rfl) :
    GS X env (.Expr (.Call (.Attribute (.Name n p1) "insert" apos) [b, e] [] p3) pos :: rest) (mi.bind fun j => me.bind fun x => (insP xs j x).bind f) Z := by
  cases C
  refine g_of (ps_expr (pe_bm PySem.F.plainAttrs_list PySem.F.slot_list_insert PySem.F.type_list_insert mt_insert (pe_var hi (visB_ok hv) hd hcd) (pa_cons hj (pa_cons he pa_nil (hs2 _)) (hs _)) (hbase _) (hfew _) hline (hs _) (hplain _)) rfl) hr fun W0 W B σ D r E sb hm z => ?_
  obtain ⟨j, hmj, hm⟩ := bind_some hm
  obtain ⟨x, hme, hm⟩ := bind_some hm
  obtain ⟨ys, hy, hm⟩ := bind_some hm
  unfold insP at hy
  split at hy
  · rename_i hz
    cases hy
    obtain ⟨a, vs, h1, h2, h3, h0, r1⟩ := E.own hx
    refine ⟨_, h1, Or.inl ⟨rfl, _, SqL.of h2⟩, ?_⟩
    refine use_x E hmj fun vj W1 l1 rj => ?_
    cases rj
    refine use_x (E.mono l1) hme fun v W2 l2 rv => ?_
    have l12 := l1.trans l2
    have E1 := (E.mono l1).mono l2
    have hl : vs.length = xs.length := by have := r1.length; rwa [List.length_map] at this
    refine ⟨a, vs, j, v, rfl, rfl, l12.h.lst h2, by rw [hl]; exact sz_line hz.1, hz.2.1, by omega, xs.take j.toNat ++ [x] ++ xs.drop j.toNat, ?_⟩
    refine use_g (E1.write (es := (xs.take j.toNat ++ [x] ++ xs.drop j.toNat).map em) hx h1 ?_) (sb.trans l12.b) hm z
    rw [List.map_append, List.map_append, List.map_take, List.map_drop]
    exact (((r1.mono l12.b).take _).append (.cons rv .nil)).append ((r1.mono l12.b).drop _)
  · cases hy
end
/-! ### a def that calls itself: level by level -/
theorem fn_none {A : Type} {P : Program} {w : World} {K : PySem.W.Frag} {mg : Str → Option Value} {base : Heap} {svs : A → List SV} {m : A → Option ρ} {res : ρ → RV} {f : Addr} {fd : FuncData} {ps : List Str} {k : Nat} (h : ∀ a, m a = none) : FnOk P w K mg base CX0 k f fd ps (spF K svs m res) :=
  ⟨fun vs H Q E q => (by obtain ⟨W, a, x, _, _, _, _, hx, _⟩ := q; rw [h a] at hx; cases hx), fun A outer s H args us vs Q E _ _ _ _ q => (by obtain ⟨W, a, x, _, _, _, _, hx, _⟩ := q; rw [h a] at hx; cases hx)⟩
end T

set_option Elab.async false
set_option linter.all false
set_option maxRecDepth 100000
set_option maxHeartbeats 4000000
/-! TDeep: nested tuples as data: kinds taken apart, slices, +, == and < of any depth; sum, index, enumerate; constants of the module. -/
namespace T
open PySem PySem.Spec PyProof.Rows L2
variable {τ α β γ δ ρ B S ι : Type}
variable [Tabs]
section
variable {X : Cx} {env env' : List SV} {e a b c tg iter elt o : Expr} {st : Stmt} {es : List Expr} {body rest : List Stmt} {pos p p2 p3 apos : Pos} [Em τ] [Em α] [Em β] [Em γ] {N : List Str} {sc : Scope} {fb : Str → Bool} {K : PySem.W.Frag} {mg : Str → Option Value} {P : Program} {w : World} {base : Heap} {k : Nat}
variable {Z : ρ → Wd → Hp → Ends → Prop}
/-! ### data that is of one kind -/
def asS : D → Option Str
  | .str s => some s
  | _ => none
def asI : D → Option Int
  | .int s => some s
  | _ => none
def asB : D → Option Bool
  | .bl s => some s
  | _ => none
def asV : D → Option (Vt D)
  | .tup s => some ⟨s⟩
  | _ => none
def asL : D → Option (List D)
  | .lst s => some s
  | _ => none
theorem x_as {m : Option D} {f : D → Option τ} (hf : ∀ d x, f d = some x → em x = d) (h : XE X env e m) : XE X env e (m.bind f) := x_of h fun W0 W σ E x hx Q q => by
  obtain ⟨d, hd, hx⟩ := bind_some hx
  have := hf d x hx
  subst this
  exact use_x E hd q
theorem x_asS {m : Option D} (h : XE X env e m) : XE X env e (m.bind asS) := x_as (fun d x q => by cases d <;> cases q; rfl) h
theorem x_asI {m : Option D} (h : XE X env e m) : XE X env e (m.bind asI) := x_as (fun d x q => by cases d <;> cases q; rfl) h
theorem x_asB {m : Option D} (h : XE X env e m) : XE X env e (m.bind asB) := x_as (fun d x q => by cases d <;> cases q; rfl) h
theorem x_asV {m : Option D} (h : XE X env e m) : XE X env e (m.bind asV) := x_as (fun d x q => by cases d <;> cases q; exact congrArg D.tup (map_em _)) h
theorem x_asL {m : Option D} (h : XE X env e m) : XE X env e (m.bind asL) := x_as (fun d x q => by cases d <;> cases q; exact congrArg D.lst (map_em _)) h
/-! ### tuples: slices, + -/
def cutT (xs : Vt τ) (lo hi : Option Int) : Option (Vt τ) := if HT.sIx xs.l.length 0 lo = 0 ∧ HT.sIx xs.l.length xs.l.length hi = xs.l.length then none else some ⟨T.cut xs.l lo hi⟩
theorem x_cutT {lo hi : Option Expr} {m : Option (Vt τ)} {ml mh : Option (Option Int)} (h : XE X env e m) (hl : XO X env lo ml) (hh : XO X env hi mh) : XE X env (.Subscript e (.Slice lo hi none p2) pos) (m.bind fun z => ml.bind fun l => mh.bind fun u => cutT z l u) :=
  x_of (pe_slice sl_tup h hl hh) fun W0 W σ E z hz Q q => by
    obtain ⟨d, hd, hz⟩ := bind_some hz
    obtain ⟨l, hl, hz⟩ := bind_some hz
    obtain ⟨u, hu, hz⟩ := bind_some hz
    unfold cutT at hz
    split at hz
    · cases hz
    · rename_i hw
      cases hz
      refine use_x E hd fun v W1 l1 r1 => ?_
      refine use_o (E.mono l1) hl fun W2 l2 => ?_
      refine use_o ((E.mono l1).mono l2) hu fun W3 l3 => ?_
      have l13 := l1.trans (l2.trans l3)
      have r1 : Rp X.K W1.b v (.tup (d.l.map em)) := r1
      cases r1 with
      | @tup ad vs _ s1 r1 =>
        have hlen : vs.length = d.l.length := by have := r1.length; rwa [List.length_map] at this
        refine ⟨ad, vs, rfl, same_t l13.ok (same_t (l2.trans l3).b s1), by rw [hlen]; exact hw, fun p hp => ?_⟩
        refine q (.ref p) _ (l13.trans (Le.lay l13.ok (o := .tup (cutV vs l u)) hp)) ?_
        refine .tup (SqT.of upd_same) ?_
        rw [← cut_map]
        exact ((r1.mono (l2.trans l3).b).mono (Same.new (l13.ok.free hp))).cut l u
def catT (x y : Vt τ) : Option (Vt τ) := if x.l ≠ [] ∧ x.l.length + y.l.length < 16777216 then some ⟨x.l ++ y.l⟩ else none
theorem x_catT {ma mb : Option (Vt τ)} (ha : XE X env a ma) (hb : XE X env b mb) : XE X env (.BinOp a .Add b pos) (ma.bind fun x => mb.bind fun y => catT x y) :=
  x_of (pe_op op_catT ha hb) fun W0 W σ E z hz Q q => by
    obtain ⟨x, hx, hz⟩ := bind_some hz
    obtain ⟨y, hy, hz⟩ := bind_some hz
    unfold catT at hz
    split at hz
    · rename_i hs
      cases hz
      refine use_x E hx fun u W1 l1 r1 => ?_
      refine use_x (E.mono l1) hy fun v W2 l2 r2 => ?_
      have l12 := l1.trans l2
      have r1 : Rp X.K W1.b u (.tup (x.l.map em)) := r1
      have r2 : Rp X.K W2.b v (.tup (y.l.map em)) := r2
      cases r1 with
      | @tup ad vs _ s1 r1 =>
        cases r2 with
        | @tup ad2 us _ s2 r2 =>
          have h1 : vs.length = x.l.length := by have := r1.length; rwa [List.length_map] at this
          have h2 : us.length = y.l.length := by have := r2.length; rwa [List.length_map] at this
          refine ⟨ad, ad2, vs, us, rfl, rfl, same_t l12.ok (same_t l2.b s1), same_t l2.ok s2, fun z => hs.1 (List.length_eq_zero_iff.mp (by rw [← h1, z]; rfl)), by rw [h1, h2]; exact Nat.le_of_lt (sz_line hs.2), fun z => ?_, fun z p hp => ?_⟩
          · refine q _ W2 l12 ?_
            have hy0 : y.l = [] := List.length_eq_zero_iff.mp (by rw [← h2, z]; rfl)
            show Rp X.K W2.b (.ref ad) (.tup ((x.l ++ y.l).map em))
            rw [hy0, List.append_nil]
            exact .tup (same_t l2.b s1) (r1.mono l2.b)
          · refine q (.ref p) _ (l12.trans (Le.lay l12.ok (o := .tup (vs ++ us)) hp)) ?_
            show Rp X.K _ (.ref p) (.tup ((x.l ++ y.l).map em))
            rw [List.map_append]
            exact .tup (SqT.of upd_same) (((r1.mono l2.b).mono (Same.new (l12.ok.free hp))).append (r2.mono (Same.new (l12.ok.free hp))))
    · cases hz
/-- a written tuple of n items of one type -/
def vtP (n : Nat) (l : List τ) : Option (Vt τ) := if l.length = n then some ⟨l⟩ else none
theorem vtP_eq {n : Nat} {l : List τ} (h : l.length = n := by rfl) : vtP n l = some ⟨l⟩ := by unfold vtP; rw [if_pos h]
theorem x_tupP {x1 n : Nat} {m : Option (List τ)} (h : XI X env es m) (hn : n < 16777216 := by decide) : XE X env (.Tuple es x1 pos) (m.bind (vtP n)) := by
  refine x_of (pe_tup h) fun W0 W σ E x hx Q q => ?_
  obtain ⟨y, hy, hx⟩ := bind_some hx
  unfold vtP at hx
  split at hx
  · rename_i hl
    cases hx
    refine use_a E hy fun vs W1 l1 r1 => ?_
    have r := r1.items
    refine ⟨by have := r.length; rw [List.length_map] at this; exact Nat.le_of_lt (by rw [this]; exact sz_line (show sz _ by unfold sz; omega)), fun p hp => ?_⟩
    refine q (.ref p) _ (l1.trans (Le.lay l1.ok (o := .tup vs) hp)) ?_
    exact .tup (SqT.of upd_same) (r.mono (Same.new (l1.ok.free hp)))
  · cases hx
/-! ### sum, index, enumerate -/
theorem rp_ints {H : Hp} : ∀ {vs : List V} {ns : List Int}, RpA K H vs (ns.map em) → vs = ns.map V.int
  | _, [], .nil => rfl
  | _, _ :: _, .cons r t => by
    cases r
    rw [List.map_cons, rp_ints t]
theorem x_sumQ {m : Option (List Int)} (C : Cf X N sc fb K mg P w base k) (h : XQ X env e m) (hm : mg "sum" = none) (hg : glbB sc "sum" = true := by decide +kernel)
    (he : ∀ E : Env, starEach [e] E = (false, eval e E) :: starEach [] E := by intro _; rfl) : XE X env (.Call (.Name "sum" p) [e] [] pos) (m.bind fun xs => some xs.sum) :=
  x_cBQ C (cr_sum C.calm) h (fun d y hy W a vs ok s r Q q => by
    cases hy
    have := rp_ints r
    subst this
    exact ⟨a, d, rfl, s, q _ W (Le.refl ok) (.int _)⟩) hm (by decide +kernel) hg (by decide) (by decide) he
/-- enumerate(a list) -/
def enumL (xs : List τ) : List (Int × τ) := (List.range xs.length).zip xs |>.map fun p => ((p.1 : Int), p.2)
theorem enumL_length (xs : List τ) : (enumL xs).length = xs.length := by simp [enumL]
theorem enumL_get {xs : List τ} {i : Nat} {y : Int × τ} (h : (enumL xs)[i]? = some y) : ∃ x, xs[i]? = some x ∧ y = ((i : Int), x) := by
  have hi : i < xs.length := by have := (List.getElem?_eq_some_iff.mp h).1; rwa [enumL_length] at this
  refine ⟨xs[i], List.getElem?_eq_getElem hi, ?_⟩
  unfold enumL at h
  rw [List.getElem?_map, List.zip_eq_zipWith, List.getElem?_zipWith, List.getElem?_range hi, List.getElem?_eq_getElem hi] at h
  exact (Option.some.inj h).symm
theorem w_enumL (C : Cf X N sc fb K mg P w base k) {elts : List Expr} {kk : Nat} {tpos : Pos} {m : Option (List τ)} (h : XE X env e m) (hm : mg "enumerate" = none) (hg : glbB sc "enumerate" = true := by decide +kernel)
    (he : ∀ E : Env, starEach [e] E = (false, eval e E) :: starEach [] E := by intro _; rfl) (hs : ∀ E : Env, starEach [e] E = [(false, eval e E)] := by intro _; rfl) :
    XWk X env (.Tuple elts kk tpos) (.Call (.Name "enumerate" p) [e] [] pos) (m.bind fun s => some (enumL s)) := by
  cases C
  refine piImp (pi_enum (glbB_ok hg) hm (a_dat h a_nil (he _)) (hs _)) fun σ H R ⟨W0, W, hH, E, x, hx, q⟩ => ?_
  subst hH
  obtain ⟨s, hs, hx⟩ := bind_some hx
  cases hx
  refine use_ax E hs fun v W1 l1 r1 => ?_
  have r1 : Rp X.K W1.b v (.lst (s.map em)) := r1
  cases r1 with
  | @lst ad vs _ s1 r1 =>
    refine ⟨ad, vs, rfl, l1.ok.seq s1, q _ W1 l1 ⟨fun i y W2 hy sb l0 => ?_, fun W2 sb l0 => ?_⟩⟩
    · obtain ⟨x, hx, rfl⟩ := enumL_get hy
      obtain ⟨u, h1, h2⟩ := r1.get (show (s.map em)[i]? = some (em x) by rw [List.getElem?_map, hx]; rfl)
      have s2 : SqL X.K W2.h ad vs := l0.ok.seq (sb.seq s1)
      refine ⟨⟨vs, u, s2, h1⟩, fun v' H' ⟨T', x', e1, hT, e3, e2⟩ => ?_⟩
      subst e1 e3
      have := e2 _ s2
      rw [h1] at this
      cases this
      exact ⟨_, Le.lay l0.ok (o := .tup [.int (i : Nat), u]) hT, rfl, .tup (SqT.of upd_same) (.cons (.int _) (.cons ((h2.mono sb).mono (Same.new (l0.ok.free hT))) .nil))⟩
    · refine ⟨vs, l0.ok.seq (sb.seq s1), ?_⟩
      have := r1.length
      rw [List.length_map] at this
      rw [enumL_length]
      omega
/-- xs.index(x): the first place -/
def idxP [Pl τ] (xs : List τ) (x : τ) : Option Int := (xs.findIdx? fun y => decide (y = x)).map fun j => (j : Int)
/-! ### data, as the kit's data -/
mutual
def toPy : D → PyData
  | .non => .none
  | .bl b => .bool b
  | .int i => .int i
  | .str s => .str s
  | .tup l => .tuple (toPyA l)
  | .lst l => .list (toPyA l)
  | .ins _ _ _ => .none
def toPyA : List D → List PyData
  | [] => []
  | d :: l => toPy d :: toPyA l
end
mutual
/-- no object within -/
def plainD : D → Bool
  | .tup l => plainA l
  | .lst l => plainA l
  | .ins _ _ _ => false
  | _ => true
def plainA : List D → Bool
  | [] => true
  | d :: l => plainD d && plainA l
end
mutual
theorem Rp.dp {H : Hp} {W : Wd} (ok : Same W.b W.h) : ∀ {v : V} {d : D}, Rp K W.b v d → plainD d = true → Dp K W.h v (toPy d)
  | _, _, .non, _ => .non
  | _, _, .bl b, _ => .bl b
  | _, _, .int i, _ => .int i
  | _, _, .str s, _ => .str s
  | _, _, .tup s r, h => .tup (same_t ok s) (RpA.dp (H := H) ok r h)
  | _, _, .lst s r, h => .lst (ok.seq s) (RpA.dp (H := H) ok r h)
  | _, _, .ins _ _ _, h => nomatch h
theorem RpA.dp {H : Hp} {W : Wd} (ok : Same W.b W.h) : ∀ {vs : List V} {ds : List D}, RpA K W.b vs ds → plainA ds = true → DpAll K W.h vs (toPyA ds)
  | _, _, .nil, _ => .nil
  | _, _, .cons r t, h => by
    unfold plainA at h
    rw [Bool.and_eq_true] at h
    exact .cons (Rp.dp (H := H) ok r h.1) (RpA.dp (H := H) ok t h.2)
end
/-- == of any data without objects, at most 64 deep -/
def eqP (d e : D) : Option Bool := if plainD d = true ∧ plainD e = true ∧ SeqAt.shaped (toPy d) = true ∧ SeqAt.shaped (toPy e) = true then some (PyData.eqv (toPy d) (toPy e)) else none
theorem Cf.un (C : Cf X N sc fb K mg P w base k) : X.A.units + 16 * k + 200 < cLine := by
  cases C with
  | mk nd calm po rm => exact rm.un
theorem x_eqP {ma : Option α} {mb : Option β} (C : Cf X N sc fb K mg P w base k) (ha : XE X env a ma) (hb : XE X env b mb) : XE X env (.Compare a [.Eq] [b] pos) (ma.bind fun x => mb.bind fun y => eqP (em x) (em y)) :=
  x_cmp (op_eqD (by have := C.un; omega)) ha hb (nomark _) fun x y z hz W u v ok ru rv Q q => by
    unfold eqP at hz
    split at hz
    · rename_i h
      cases hz
      exact ⟨_, _, ru.dp (H := W.h) ok h.1, rv.dp (H := W.h) ok h.2.1, h.2.2.1, h.2.2.2, q _ W (Le.refl ok) (.bl _)⟩
    · cases hz
theorem t_eqP {ma : Option α} {mb : Option β} (C : Cf X N sc fb K mg P w base k) (ha : XE X env a ma) (hb : XE X env b mb) : XT X env (.Compare a [.Eq] [b] pos) (ma.bind fun x => mb.bind fun y => eqP (em x) (em y)) :=
  t_cmp (op_eqD (by have := C.un; omega)) ha hb (nomark _) fun x y z hz W u v ok ru rv Q q => by
    unfold eqP at hz
    split at hz
    · rename_i h
      cases hz
      exact ⟨_, _, ru.dp (H := W.h) ok h.1, rv.dp (H := W.h) ok h.2.1, h.2.2.1, h.2.2.2, q _ W (Le.refl ok) (.bl _)⟩
    · cases hz
theorem x_neP {ma : Option α} {mb : Option β} (C : Cf X N sc fb K mg P w base k) (ha : XE X env a ma) (hb : XE X env b mb) : XE X env (.Compare a [.NotEq] [b] pos) (ma.bind fun x => mb.bind fun y => (eqP (em x) (em y)).bind fun z => some (!z)) :=
  x_cmp (op_neD (by have := C.un; omega)) ha hb (nomark _) fun x y z hz W u v ok ru rv Q q => by
    obtain ⟨zz, hzz, hz⟩ := bind_some hz
    cases hz
    unfold eqP at hzz
    split at hzz
    · rename_i h
      cases hzz
      exact ⟨_, _, ru.dp (H := W.h) ok h.1, rv.dp (H := W.h) ok h.2.1, h.2.2.1, h.2.2.2, q _ W (Le.refl ok) (.bl _)⟩
    · cases hzz
theorem t_neP {ma : Option α} {mb : Option β} (C : Cf X N sc fb K mg P w base k) (ha : XE X env a ma) (hb : XE X env b mb) : XT X env (.Compare a [.NotEq] [b] pos) (ma.bind fun x => mb.bind fun y => (eqP (em x) (em y)).bind fun z => some (!z)) :=
  t_cmp (op_neD (by have := C.un; omega)) ha hb (nomark _) fun x y z hz W u v ok ru rv Q q => by
    obtain ⟨zz, hzz, hz⟩ := bind_some hz
    cases hz
    unfold eqP at hzz
    split at hzz
    · rename_i h
      cases hzz
      exact ⟨_, _, ru.dp (H := W.h) ok h.1, rv.dp (H := W.h) ok h.2.1, h.2.2.1, h.2.2.2, q _ W (Le.refl ok) (.bl _)⟩
    · cases hzz
/-! ### truth of data, a sign in a text -/
def truD : D → Option Bool
  | .non => some false
  | .bl b => some b
  | .int i => some (decide (i ≠ 0))
  | .str s => if sz s.length then some (decide (s.length ≠ 0)) else none
  | .tup l => some (decide (l.length ≠ 0))
  | .lst l => some (decide (l.length ≠ 0))
  | _ => none
def insP1 (c z : Str) : Option Bool := match c.cps.toList with
  | [n] => some (decide (n ∈ z.cps.toList))
  | _ => none
theorem insP1_one {c z : Str} {b : Bool} (h : insP1 c z = some b) : ∃ n, c = ⟨#[n]⟩ ∧ b = decide (n ∈ z.cps.toList) := by
  unfold insP1 at h
  split at h
  · rename_i n e
    cases h
    exact ⟨n, Str.ext' (Array.toList_inj.mp e), rfl⟩
  · cases h
theorem x_inS1 {ma mb : Option Str} (ha : XE X env a ma) (hb : XE X env b mb) (hmk : behindInMarks .In b = false := by rfl) : XE X env (.Compare a [.In] [b] pos) (ma.bind fun x => mb.bind fun y => insP1 x y) :=
  x_cmp op_in_sign ha hb hmk fun x y z hz W u v ok ru rv Q q => by
    obtain ⟨n, rfl, rfl⟩ := insP1_one hz
    cases ru; cases rv
    exact ⟨n, y, rfl, rfl, q _ W (Le.refl ok) (.bl _)⟩
theorem t_inS1 {ma mb : Option Str} (ha : XE X env a ma) (hb : XE X env b mb) (hmk : behindInMarks .In b = false := by rfl) : XT X env (.Compare a [.In] [b] pos) (ma.bind fun x => mb.bind fun y => insP1 x y) :=
  t_cmp op_in_sign ha hb hmk fun x y z hz W u v ok ru rv Q q => by
    obtain ⟨n, rfl, rfl⟩ := insP1_one hz
    cases ru; cases rv
    exact ⟨n, y, rfl, rfl, q _ W (Le.refl ok) (.bl _)⟩
theorem t_tru {m : Option D} (h : XE X env e m) (he : ∀ whole, isTrue e X.env whole = (do let v ← whole; standAt e.pos; holding [v] (truthy v)) := by intro _; rfl) : XT X env e (m.bind truD) :=
  t_of (pt_truth h he) fun W0 W σ E x hx Q q => by
    obtain ⟨d, hd, hx⟩ := bind_some hx
    refine use_x E hd fun v W' l r => ?_
    have r : Rp X.K W'.b v d := r
    cases r with
    | non => cases hx; exact ⟨false, rfl, q W' l⟩
    | bl bb => cases hx; exact ⟨_, rfl, q W' l⟩
    | int i =>
      cases hx
      exact ⟨_, rfl, by rw [show (i != 0) = decide (i ≠ 0) by by_cases z : i = 0 <;> simp [z]]; exact q W' l⟩
    | str s =>
      have hx : (if sz s.length then some (decide (s.length ≠ 0)) else none) = some x := hx
      split at hx
      · rename_i hz
        cases hx
        refine ⟨_, ⟨Nat.le_of_lt (sz_line hz), rfl⟩, ?_⟩
        rw [show ((s.length : Int) != 0) = decide (s.length ≠ 0) by by_cases z : s.length = 0 <;> simp [z]]
        exact q W' l
      · cases hx
    | @tup a vs ds s t =>
      cases hx
      have hl := t.length
      refine ⟨_, .inr (.inl ⟨vs, same_t l.ok s, rfl⟩), ?_⟩
      rw [show (!vs.isEmpty) = decide (ds.length ≠ 0) by rw [← hl]; cases vs <;> simp]
      exact q W' l
    | @lst a vs ds s t =>
      cases hx
      have hl := t.length
      refine ⟨_, .inl ⟨vs, l.ok.seq s, rfl⟩, ?_⟩
      rw [show (!vs.isEmpty) = decide (ds.length ≠ 0) by rw [← hl]; cases vs <;> simp]
      exact q W' l
    | ins _ _ _ => cases hx
end
end T

set_option Elab.async false
set_option linter.all false
set_option maxRecDepth 100000
set_option maxHeartbeats 4000000
/-! TLt: a < b of nested data where only the first difference is asked for its <. -/
namespace T
open PySem PySem.Spec PyProof.Rows L2 PySem.SeqAt
open PySem.AutoSeq1 (wpAny_loadPart')
open PySem.MeetsSeq PySem.MeetsSeq2 PySem.MeetsSeq3 PySem.SeqRoads2
mutual
def ltP : PyData → PyData → Option Bool
  | .int x, .int y => some (decide (x < y))
  | .str x, .str y => some (decide (x.cps.toList < y.cps.toList))
  | .tuple l, .tuple m => ltPA l m
  | _, _ => none
def ltPA : List PyData → List PyData → Option Bool
  | [], [] => some false
  | [], _ :: _ => some true
  | _ :: _, [] => some false
  | x :: l, y :: m => if PyData.eqv x y = true then ltPA l m else ltP x y
end
/-- what decides: all before i alike; at i the end of one, or a difference -/
def First (A : Around) (s : Shared) (us vs : List Value) (r : Bool) (i : Nat) : Prop :=
  i ≤ us.length ∧ i ≤ vs.length ∧ (∀ j (hj : j < us.length) (gj : j < vs.length), j < i → EqAt A s us[j] vs[j] true) ∧
    (((i = us.length ∨ i = vs.length) ∧ r = decide (us.length < vs.length)) ∨ ∃ (hi : i < us.length) (gi : i < vs.length), EqAt A s us[i] vs[i] false ∧ RcLt A s us[i] vs[i] r)
theorem First.cons {A : Around} {s : Shared} {us vs : List Value} {u v : Value} {r : Bool} {i : Nat} (he : EqAt A s u v true) (h : First A s us vs r i) : First A s (u :: us) (v :: vs) r (i + 1) := by
  obtain ⟨h1, h2, h3, h4⟩ := h
  refine ⟨by simpa using h1, by simpa using h2, fun j hj gj hji => ?_, ?_⟩
  · cases j with
    | zero => exact he
    | succ j => exact h3 j (by simpa using hj) (by simpa using gj) (by omega)
  · rcases h4 with ⟨h5, h6⟩ | ⟨hi, gi, h5, h6⟩
    · left
      refine ⟨h5.imp (fun z => by rw [z]; rfl) (fun z => by rw [z]; rfl), ?_⟩
      rw [h6]
      simp
    · exact .inr ⟨by simpa using hi, by simpa using gi, h5, h6⟩
theorem tup_first (a b : Addr) (us vs : Array Value) (n m : Nat) (da db : Option Addr) (sa sb : Array (Option Value)) (r : Bool) (i₀ : Nat) :
    Meets (Builtin.«tuple.__lt__» ⟨[.ref a, .ref b], []⟩)
      (fun A R s => s.heap.get? a = some { cls := .type "tuple", dict := da, data := .seq us n, slots := sa } ∧ s.heap.get? b = some { cls := .type "tuple", dict := db, data := .seq vs m, slots := sb } ∧
        First A.in1 s us.toList vs.toList r i₀ ∧ R (.ok (.ret (.bool r))) s) :=
  .of_wp fun prog w A R s h => by
    obtain ⟨hp, g, dr, tk, os⟩ := s
    obtain ⟨ga, gb, ⟨f1, f2, f3, f4⟩, hR⟩ := h
    have isT := AutoSeq1.sub_tuple_tuple
    have zl : (us.toList.zip vs.toList).length = min us.size vs.size := by simp
    have f1' : i₀ ≤ us.size := by simpa using f1
    have f2' : i₀ ≤ vs.size := by simpa using f2
    wp_walk using wpAny_loadPart' ga, wpAny_loadPart' gb, wpAny_forIn_list _ (fun todo q s' => q.1 = none ∧ s' = ⟨hp, g, dr, tk, os⟩ ∧ ∃ t, t ≤ i₀ ∧ todo = (us.toList.zip vs.toList).drop t) _
    case turn =>
      rintro ⟨p, q⟩ todo c s' ⟨hc, rfl, t, hti, ht⟩
      have tl : t < (us.toList.zip vs.toList).length := by
        by_cases q : t < (us.toList.zip vs.toList).length
        · exact q
        · rw [List.drop_of_length_le (by omega)] at ht; cases ht
      have t1 : t < us.size := by omega
      have t2 : t < vs.size := by omega
      rw [List.drop_eq_getElem_cons tl] at ht
      injection ht with hpq hrest
      obtain ⟨rfl, rfl⟩ : p = us[t] ∧ q = vs[t] := by simpa using hpq
      by_cases hlt : t < i₀
      · have e := f3 t (by simpa using t1) (by simpa using t2) hlt
        simp only [Array.getElem_toList] at e
        refine wpAny_bind (e prog w _ _ ?_)
        wp_walk
        exact ⟨rfl, rfl, t + 1, hlt, hrest⟩
      · obtain rfl : t = i₀ := by omega
        rcases f4 with ⟨h5, _⟩ | ⟨k1, k2, e, l⟩
        · exfalso
          rcases h5 with h5 | h5 <;> simp at h5 <;> omega
        · simp only [Array.getElem_toList] at e l
          refine wpAny_bind (e prog w _ _ ?_)
          have l' := l prog w
          clear l e f3
          generalize PySem.richCompare CmpOp.Lt us[t] vs[t] = rc at l' ⊢
          wp_walk
          refine l' _ _ ?_
          wp_walk
          exact ⟨_, rfl, hR⟩
    case fin =>
      rintro ⟨c1, c2⟩ s' ⟨hc, rfl, t, hti, ht⟩
      simp only at hc
      subst hc
      have tl : min us.size vs.size ≤ t := by
        by_cases q : t < (us.toList.zip vs.toList).length
        · rw [List.drop_eq_getElem_cons q] at ht; cases ht
        · omega
      rcases f4 with ⟨_, h6⟩ | ⟨k1, k2, _, _⟩
      · wp_walk
        refine ⟨_, rfl, ?_⟩
        have h6' : r = decide (us.size < vs.size) := by simpa using h6
        rw [h6'] at hR
        simpa [Builtin.Tuple.tupleCompareSizes] using hR
      · exfalso
        simp at k1 k2
        omega
    case h => exact ⟨rfl, rfl, 0, Nat.zero_le _, rfl⟩
theorem rc_tups {A : Around} {s : Shared} {a b : Addr} {us vs : Array Value} {r : Bool} {i : Nat} (ga : s.heap.IsTuple a us) (gb : s.heap.IsTuple b vs) (hu : A.units < cLine) (h : First A.in1 s us.toList vs.toList r i) : RcLt A s (.ref a) (.ref b) r := fun prog w E Q hq => by
  obtain ⟨⟨ca, da, xa, sa⟩, oa, ka, n, ea⟩ := id ga
  obtain ⟨⟨cb, db, xb, sb⟩, ob, kb, m, eb⟩ := id gb
  simp only at ka ea kb eb
  subst ka ea kb eb
  exact richCompare_meets_room (op := .Lt) ⟨_, oa, rfl⟩ ⟨_, ob, rfl⟩ F.slot_tuple_lt F.entry_tuple_lt (F.args_tuple_lt_2 _ _) (tup_first a b us vs n m da db sa sb r i) ⟨oa, ob, h, show Value.bool r ≠ Value.notImplemented ∧ Q (.bool r) s from ⟨(fun z => nomatch z), hq⟩⟩ hu
mutual
theorem rc_first : ∀ (d e : PyData) (A : Around) (s : Shared) (u v : Value) (as bs : List Addr) (r : Bool), Reads s.heap u d as → Reads s.heap v e bs → d.canLay0 = true → e.canLay0 = true → A.units + min d.depth e.depth < cLine → ltP d e = some r → RcLt A s u v r
  | .int x, e, A, s, u, v, as, bs, r, hd, he, _, _, _, h => by
    cases e with
    | int y =>
      cases hd
      cases he
      cases h
      intro prog w E Q hq
      exact P.lt_int hq
    | _ => cases h
  | .str x, e, A, s, u, v, as, bs, r, hd, he, _, _, _, h => by
    cases e with
    | str y =>
      cases hd
      cases he
      cases h
      intro prog w E Q hq
      exact P.lt_str hq
    | _ => cases h
  | .tuple l, e, A, s, u, v, as, bs, r, hd, he, c1, c2, hu, h => by
    cases e with
    | tuple m =>
      cases hd with
      | @tuple a o us n _ _ h1 h2 h3 h4 =>
        cases he with
        | @tuple a' o' vs n' _ _ k1 k2 k3 k4 =>
          obtain ⟨i, hi⟩ := rc_firsts l m A.in1 s us.toList vs.toList _ _ r h4 k4 c1 c2 (room_in hu) h
          exact rc_tups ⟨_, h1, h2, _, h3⟩ ⟨_, k1, k2, _, k3⟩ (room_here hu) hi
    | _ => cases h
  | .none, e, _, _, _, _, _, _, _, _, _, _, _, _, h => by cases e <;> cases h
  | .bool _, e, _, _, _, _, _, _, _, _, _, _, _, _, h => by cases e <;> cases h
  | .list _, e, _, _, _, _, _, _, _, _, _, _, _, _, h => by cases e <;> cases h
  | .dict _, e, _, _, _, _, _, _, _, _, _, _, _, _, h => by cases e <;> cases h
theorem rc_firsts : ∀ (l m : List PyData) (A : Around) (s : Shared) (us vs : List Value) (as bs : List Addr) (r : Bool), ReadsAll s.heap us l as → ReadsAll s.heap vs m bs → PyData.canLayAll0 l = true → PyData.canLayAll0 m = true →
    A.units + min (PyData.depthAll l) (PyData.depthAll m) < cLine → ltPA l m = some r → ∃ i, First A s us vs r i
  | [], [], A, s, us, vs, as, bs, r, hd, he, _, _, _, h => by
    cases hd; cases he; cases h
    exact ⟨0, Nat.le_refl _, Nat.le_refl _, fun j hj => absurd hj (Nat.not_lt_zero _), .inl ⟨.inl rfl, rfl⟩⟩
  | [], y :: m, A, s, us, vs, as, bs, r, hd, he, _, _, _, h => by
    cases hd; cases he; cases h
    exact ⟨0, Nat.le_refl _, Nat.zero_le _, fun j hj => absurd hj (Nat.not_lt_zero _), .inl ⟨.inl rfl, rfl⟩⟩
  | x :: l, [], A, s, us, vs, as, bs, r, hd, he, _, _, _, h => by
    cases hd; cases he; cases h
    exact ⟨0, Nat.zero_le _, Nat.le_refl _, fun j _ hj => absurd hj (Nat.not_lt_zero _), .inl ⟨.inr rfl, rfl⟩⟩
  | x :: l, y :: m, A, s, us, vs, as, bs, r, hd, he, c1, c2, hu, h => by
    cases hd with
    | @cons u us' _ _ a1 a2 r1 t1 =>
      cases he with
      | @cons v vs' _ _ b1 b2 r2 t2 =>
        simp only [PyData.canLayAll0, Bool.and_eq_true] at c1 c2
        have e := eqAt_reads x y A s u v a1 b1 r1 r2 c1.1 c2.1 (room_head hu)
        by_cases q : PyData.eqv x y = true
        · rw [q] at e
          rw [ltPA, if_pos q] at h
          obtain ⟨i, hi⟩ := rc_firsts l m A s us' vs' _ _ r t1 t2 c1.2 c2.2 (room_tail hu) h
          exact ⟨i + 1, hi.cons e⟩
        · rw [ltPA, if_neg q] at h
          rw [show PyData.eqv x y = false by simpa using q] at e
          exact ⟨0, Nat.zero_le _, Nat.zero_le _, fun j _ _ hj => absurd hj (Nat.not_lt_zero _), .inr ⟨Nat.succ_pos _, Nat.succ_pos _, e, rc_first x y A s u v a1 b1 r r1 r2 c1.1 c2.1 (room_head hu) h⟩⟩
end
variable {τ α β γ δ ρ B S ι : Type}
variable [Tabs]
section
variable {X : Cx} {env env' : List SV} {e a b c tg iter elt o : Expr} {pos p p2 p3 apos : Pos} [Em τ] [Em α] [Em β] [Em γ] {N : List Str} {sc : Scope} {fb : Str → Bool} {K : PySem.W.Frag} {mg : Str → Option Value} {P : Program} {w : World} {base : Heap} {k : Nat}
/-- d < e, by the first difference -/
def ltO (d e : D) : Option Bool := if plainD d = true ∧ plainD e = true ∧ shaped (toPy d) = true ∧ shaped (toPy e) = true then ltP (toPy d) (toPy e) else none
def rLtP (K : PySem.W.Frag) : R2 := fun x y H Q => ∃ d e r, Dp K H x d ∧ Dp K H y e ∧ shaped d = true ∧ shaped e = true ∧ ltP d e = some r ∧ Q (.bl r) H
theorem op_ltP (hu : X.A.units + 64 < cLine) : OpR X (compareOp .Lt) (rLtP X.K) := by
  intro pins s σ H x y v u Q I rx ry h
  obtain ⟨d, e, r, hd, he, sd, se, hr, q⟩ := h
  obtain ⟨as, r1⟩ := Dp.reads I d x v hd rx
  obtain ⟨bs, r2⟩ := Dp.reads I e y u he ry
  exact rc_first d e X.A s v u as bs r r1 r2 (canLay_of_shaped sd) (canLay_of_shaped se) (room_of_shaped sd hu) hr _ _ _ _ ⟨.bl _, H, I, rfl, q⟩
theorem x_ltP {ma : Option α} {mb : Option β} (C : Cf X N sc fb K mg P w base k) (ha : XE X env a ma) (hb : XE X env b mb) : XE X env (.Compare a [.Lt] [b] pos) (ma.bind fun x => mb.bind fun y => ltO (em x) (em y)) :=
  x_cmp (op_ltP (by have := C.un; omega)) ha hb (nomark _) fun x y z hz W u v ok ru rv Q q => by
    unfold ltO at hz
    split at hz
    · rename_i h
      exact ⟨_, _, z, ru.dp (H := W.h) ok h.1, rv.dp (H := W.h) ok h.2.1, h.2.2.1, h.2.2.2, hz, q _ W (Le.refl ok) (.bl _)⟩
    · cases hz
theorem t_ltP {ma : Option α} {mb : Option β} (C : Cf X N sc fb K mg P w base k) (ha : XE X env a ma) (hb : XE X env b mb) : XT X env (.Compare a [.Lt] [b] pos) (ma.bind fun x => mb.bind fun y => ltO (em x) (em y)) :=
  t_cmp (op_ltP (by have := C.un; omega)) ha hb (nomark _) fun x y z hz W u v ok ru rv Q q => by
    unfold ltO at hz
    split at hz
    · rename_i h
      exact ⟨_, _, z, ru.dp (H := W.h) ok h.1, rv.dp (H := W.h) ok h.2.1, h.2.2.1, h.2.2.2, hz, q _ W (Le.refl ok) (.bl _)⟩
    · cases hz
end
end T

set_option Elab.async false
set_option linter.all false
set_option maxRecDepth 100000
set_option maxHeartbeats 4000000
/-! TConst: what stands at the module's top: texts, numbers, tuples, dicts with text keys; the method index. -/
namespace T
open PySem PySem.Spec PyProof.Rows L2
variable {τ α β γ δ ρ B S ι : Type}
variable [Tabs]
/-- a value of the top that stands for data -/
def Cs (K : PySem.W.Frag) (u : Value) (d : D) : Prop := ∃ v, RelV v u ∧ ∀ H, Rp K H v d
inductive CsA (K : PySem.W.Frag) : List Value → List D → Prop
  | nil : CsA K [] []
  | cons {u : Value} {us : List Value} {d : D} {ds : List D} : Cs K u d → CsA K us ds → CsA K (u :: us) (d :: ds)
section
variable {K : PySem.W.Frag}
theorem cs_str {s : Str} {t : Tok} : Cs K (.str s t) (.str s) := ⟨.str s, ⟨t, rfl⟩, fun _ => .str s⟩
theorem cs_int {i : Int} {t : Tok} : Cs K (.int i t) (.int i) := ⟨.int i, ⟨t, rfl⟩, fun _ => .int i⟩
theorem cs_bl {i : Bool} : Cs K (.bool i) (.bl i) := ⟨.bl i, rfl, fun _ => .bl i⟩
theorem cs_non : Cs K .none .non := ⟨.non, rfl, fun _ => .non⟩
theorem csA_vals : ∀ {us : List Value} {ds : List D}, CsA K us ds → ∃ vs, Vals vs us ∧ ∀ H, RpA K H vs ds
  | _, _, .nil => ⟨[], .nil, fun _ => .nil⟩
  | _, _, .cons ⟨v, r, h⟩ t => by
    obtain ⟨vs, rs, hs⟩ := csA_vals t
    exact ⟨v :: vs, .cons r rs, fun H => .cons (h H) (hs H)⟩
theorem cs_tup {a : Addr} {od : Option Addr} {its : Array Value} {n : Nat} {sl : Array (Option Value)} {ds : List D} (l : K.lookup a = some ⟨.type "tuple", od, .seq its n, sl⟩) (h : CsA K its.toList ds) (hz : Nat.ble its.size 1000 = true := by rfl) : Cs K (.ref a) (.tup ds) := by
  obtain ⟨vs, rs, hs⟩ := csA_vals h
  exact ⟨.ref a, rfl, fun H => .tup (.inr ⟨_, its, n, l, rfl, rfl, by have := Nat.le_of_ble_eq_true hz; rw [sizeLine_eq]; omega, rs⟩) (hs H)⟩
end
/-- a dict of the top with text keys: ks, and what some of them hold -/
structure KD (K : PySem.W.Frag) (w : World) (mg : Str → Option Value) (x : Str) (ks : List Str) (f : List (Str × D)) : Prop where
  ex : ∃ d es n, mg x = some (.ref d) ∧ KDict K w d es n ∧ (∀ z, ∃ r, PySem.W.nsIn K d z = some r ∧ r.isSome = memB z ks) ∧ ∀ z y, f.lookup z = some y → ∃ u, PySem.W.nsIn K d z = some (some u) ∧ Cs K u y
section
variable {X : Cx} {env env' : List SV} {e a b c tg iter elt o : Expr} {pos p p2 p3 apos : Pos} [Em τ] [Em α] [Em β] [Em γ] {N : List Str} {sc : Scope} {fb : Str → Bool} {K : PySem.W.Frag} {mg : Str → Option Value} {P : Program} {w : World} {base : Heap} {k : Nat}
theorem x_glob {x : Str} {u : Value} {val : τ} (C : Cf X N sc fb K mg P w base k) (hm : mg x = some u) (h : Cs K u (em val)) (hg : glbB sc x = true := by decide +kernel) (hd : (x == ("__debug__" : Str)) = false := by decide) : XE X env (.Name x pos) (some val) := by
  cases C
  obtain ⟨v, r, rp⟩ := h
  refine x_of (pe_glob (glbB_ok hg) hm r hd) fun W0 W σ E z hz Q q => ?_
  cases hz
  exact q v W (Le.refl E.ok) (rp _)
theorem Cf.wk (C : Cf X N sc fb K mg P w base k) : X.w = w ∧ X.K = K := by cases C; exact ⟨rfl, rfl⟩
theorem q_inKd {x : Str} {ks : List Str} {f : List (Str × D)} {ma : Option Str} {neg : Bool} (C : Cf X N sc fb K mg P w base k) (G : KD K w mg x ks f) (ha : XE X env a ma) (hg : glbB sc x = true := by decide +kernel) (hd : (x == ("__debug__" : Str)) = false := by decide) :
    PE X (.Compare a [if neg then .NotIn else .In] [.Name x p] pos) (fun σ H Q => ∃ W0 W : Wd, W.h = H ∧ EnvR X.K W0 W env σ ∧ ∃ z, ma = some z ∧ ∀ W', Le W W' → Q (.bl (if neg then !memB z ks else memB z ks)) W'.h) ∧
    PT X (.Compare a [if neg then .NotIn else .In] [.Name x p] pos) (fun σ H Q => ∃ W0 W : Wd, W.h = H ∧ EnvR X.K W0 W env σ ∧ ∃ z, ma = some z ∧ ∀ W', Le W W' → Q (if neg then !memB z ks else memB z ks) W'.h) := by
  obtain ⟨d, es, n, hm, KX, hk, _⟩ := G.ex
  obtain ⟨e1, e2⟩ := C.wk
  cases C
  have rd : RelV (.ref d) (.ref d) := rfl
  have ho : OpR X (compareOp (if neg then .NotIn else .In)) (fun x y H Q => ∃ z : Str, x = .str z ∧ y = .ref d ∧ Q (.bl (if neg then !memB z ks else memB z ks)) H) := by
    cases neg with
    | false =>
      intro pins s σ H x y v u Q I rx ry ⟨z, e1, e2, q⟩
      obtain ⟨r, h1, h2⟩ := hk z
      exact op_in_kd KX pins s σ H x y v u Q I rx ry ⟨z, r, e1, e2, h1, by rw [h2]; exact q⟩
    | true =>
      intro pins s σ H x y v u Q I rx ry ⟨z, e1, e2, q⟩
      obtain ⟨r, h1, h2⟩ := hk z
      exact op_notIn_kd KX pins s σ H x y v u Q I rx ry ⟨z, r, e1, e2, h1, by rw [h2]; exact q⟩
  have hb : PE X (.Name x p) (tC (.ref d)) := pe_glob (glbB_ok hg) hm rd hd
  have nm : behindInMarks (if neg then .NotIn else .In) (.Name x p) = false := by cases neg <;> rfl
  refine ⟨peImp (pe_cmpR ho ha hb nm) fun σ H Q ⟨W0, W, hH, E, z, hz, q⟩ => ?_, ptImp (pt_cmpR ho ha hb nm) fun σ H Q ⟨W0, W, hH, E, z, hz, q⟩ => ?_⟩
  · subst hH
    refine use_x E hz fun u W1 l1 r1 => ?_
    cases r1
    exact ⟨z, rfl, rfl, q W1 l1⟩
  · subst hH
    unfold tTest L2.tOp
    refine use_x E hz fun u W1 l1 r1 => ?_
    cases r1
    exact ⟨z, rfl, rfl, _, rfl, q W1 l1⟩
theorem x_inKd {x : Str} {ks : List Str} {f : List (Str × D)} {ma : Option Str} (C : Cf X N sc fb K mg P w base k) (G : KD K w mg x ks f) (ha : XE X env a ma) (hg : glbB sc x = true := by decide +kernel) (hd : (x == ("__debug__" : Str)) = false := by decide) :
    XE X env (.Compare a [.In] [.Name x p] pos) (ma.bind fun z => some (memB z ks)) := x_of (q_inKd (neg := false) C G ha hg hd).1 fun W0 W σ E y hy Q q => by
  obtain ⟨z, hz, hy⟩ := bind_some hy
  cases hy
  exact ⟨W0, W, rfl, E, z, hz, fun W' l => q _ W' l (.bl _)⟩
theorem t_inKd {x : Str} {ks : List Str} {f : List (Str × D)} {ma : Option Str} (C : Cf X N sc fb K mg P w base k) (G : KD K w mg x ks f) (ha : XE X env a ma) (hg : glbB sc x = true := by decide +kernel) (hd : (x == ("__debug__" : Str)) = false := by decide) :
    XT X env (.Compare a [.In] [.Name x p] pos) (ma.bind fun z => some (memB z ks)) := t_of (q_inKd (neg := false) C G ha hg hd).2 fun W0 W σ E y hy Q q => by
  obtain ⟨z, hz, hy⟩ := bind_some hy
  cases hy
  exact ⟨W0, W, rfl, E, z, hz, q⟩
theorem x_ninKd {x : Str} {ks : List Str} {f : List (Str × D)} {ma : Option Str} (C : Cf X N sc fb K mg P w base k) (G : KD K w mg x ks f) (ha : XE X env a ma) (hg : glbB sc x = true := by decide +kernel) (hd : (x == ("__debug__" : Str)) = false := by decide) :
    XE X env (.Compare a [.NotIn] [.Name x p] pos) (ma.bind fun z => some (!memB z ks)) := x_of (q_inKd (neg := true) C G ha hg hd).1 fun W0 W σ E y hy Q q => by
  obtain ⟨z, hz, hy⟩ := bind_some hy
  cases hy
  exact ⟨W0, W, rfl, E, z, hz, fun W' l => q _ W' l (.bl _)⟩
theorem t_ninKd {x : Str} {ks : List Str} {f : List (Str × D)} {ma : Option Str} (C : Cf X N sc fb K mg P w base k) (G : KD K w mg x ks f) (ha : XE X env a ma) (hg : glbB sc x = true := by decide +kernel) (hd : (x == ("__debug__" : Str)) = false := by decide) :
    XT X env (.Compare a [.NotIn] [.Name x p] pos) (ma.bind fun z => some (!memB z ks)) := t_of (q_inKd (neg := true) C G ha hg hd).2 fun W0 W σ E y hy Q q => by
  obtain ⟨z, hz, hy⟩ := bind_some hy
  cases hy
  exact ⟨W0, W, rfl, E, z, hz, q⟩
/-- TABLE[key] -/
theorem x_ixKd {x : Str} {ks : List Str} {f : List (Str × D)} {mb : Option Str} (C : Cf X N sc fb K mg P w base k) (G : KD K w mg x ks f) (hb : XE X env b mb) (hs : PlainIx b := by exact fun _ _ => rfl) (hg : glbB sc x = true := by decide +kernel) (hd : (x == ("__debug__" : Str)) = false := by decide) :
    XE X env (.Subscript (.Name x p) b pos) (mb.bind fun z => f.lookup z) := by
  obtain ⟨d, es, n, hm, KX, _, hf⟩ := G.ex
  cases C
  have rd : RelV (.ref d) (.ref d) := rfl
  refine x_of (pe_ix ix_kdict (pe_glob (glbB_ok hg) hm rd hd) hb hs) fun W0 W σ E y hy Q q => ?_
  obtain ⟨z, hz, hy⟩ := bind_some hy
  obtain ⟨u, h1, v, h2, h3⟩ := hf z y hy
  unfold L2.tOp tC
  refine use_x E hz fun u1 W1 l1 r1 => ?_
  cases r1
  exact ⟨d, z, v, rfl, rfl, ⟨es, n, u, KX.at_, KX.lit, h1, h2⟩, q v W1 l1 (h3 _)⟩
/-- xs.index(x) -/
theorem x_index {τ : Type} [Pl τ] [Fl1 τ] {ma : Option (List τ)} {mb : Option τ} (ha : XQ X env o ma) (hb : XE X env e mb)
    (hbase : ∀ E : Env, attributeBase o "index" E (eval o E) = eval o E := by intro _; rfl)
    (hfew : ∀ E : Env, ((backTo p3 (starEach [e] E)).all (fun x => !x.1) && (backToKw p3 (keywordEach [] E)).all (fun x => x.1.isSome)
      && decide ([e].length + ([] : List Keyword).length + (if ([] : List Keyword).isEmpty then 0 else 1) < 30)) = true := by intro _; rfl)
    (hline : (apos.endLine == p3.line) = true := by rfl) (hs : ∀ E : Env, starEach [e] E = (false, eval e E) :: starEach [] E := by intro _; rfl) (hplain : ∀ E : Env, (backTo p3 (starEach ([] : List Expr) E)).any (·.1) = false := by intro _; rfl) :
    XE X env (.Call (.Attribute o "index" apos) [e] [] p3) (ma.bind fun xs => mb.bind fun x => idxP xs x) :=
  x_of (pe_bm PySem.F.plainAttrs_list PySem.F.slot_list_index PySem.F.type_list_index mt_index ha (pa_cons hb pa_nil (hs _)) (hbase _) (hfew _) hline (hs _) (hplain _)) fun W0 W σ E z hz Q q => by
    obtain ⟨xs, hx, hz⟩ := bind_some hz
    obtain ⟨y, hy, hz⟩ := bind_some hz
    unfold idxP at hz
    cases hj : xs.findIdx? (fun z => decide (z = y)) with
    | none => rw [hj] at hz; cases hz
    | some j =>
      rw [hj] at hz
      cases hz
      refine use_q E hx fun ad vs W1 l1 s1 r1 => ?_
      refine ⟨.inl ⟨rfl, _, s1⟩, ?_⟩
      refine use_x (E.mono l1) hy fun u W2 l2 r2 => ?_
      obtain ⟨f1, _⟩ := inV_rp r2 (r1.mono l2.b)
      obtain ⟨hj1, hj2, hj3⟩ := List.findIdx?_eq_some_iff_getElem.mp hj
      obtain ⟨v, e1, e2⟩ := (r1.mono l2.b).get (show (xs.map em)[j]? = some (em xs[j]) by rw [List.getElem?_map, List.getElem?_eq_getElem hj1]; rfl)
      refine ⟨ad, vs, u, j, v, rfl, rfl, l2.h.seq s1, Pl.flat Fl1.fl r2, f1, e1, ?_, fun m z' hm hz' => ?_, q _ W2 (l1.trans l2) (.int _)⟩
      · rw [Fl1.eqv e2 r2]; exact hj2
      · obtain ⟨v', e3, e4⟩ := (r1.mono l2.b).get (show (xs.map em)[m]? = some (em (xs[m]'(by omega))) by rw [List.getElem?_map, List.getElem?_eq_getElem (by omega)]; rfl)
        rw [hz'] at e3
        cases e3
        rw [Fl1.eqv e4 r2]
        simpa using hj3 m hm
end
structure Gc (K : PySem.W.Frag) (mg : Str → Option Value) (x : Str) (d : D) : Prop where
  ex : ∃ u, mg x = some u ∧ Cs K u d
section
variable {X : Cx} {env : List SV} {pos : Pos} [Em τ] {N : List Str} {sc : Scope} {fb : Str → Bool} {K : PySem.W.Frag} {mg : Str → Option Value} {P : Program} {w : World} {base : Heap} {k : Nat}
theorem x_gc {x : Str} {val : τ} (C : Cf X N sc fb K mg P w base k) (G : Gc K mg x (em val)) (hg : glbB sc x = true := by decide +kernel) (hd : (x == ("__debug__" : Str)) = false := by decide) : XE X env (.Name x pos) (some val) := by
  obtain ⟨u, hm, h⟩ := G.ex
  exact x_glob C hm h hg hd
end
/-! ### a dict of the top, out of what is told of it -/
theorem kd_keys {K : PySem.W.Frag} {w : World} {a : Addr} {ks : List Str} (h : He.dicW K a = some (He.keysIn w.params ks)) (z : Str) : ∃ r, PySem.W.nsIn K a z = some r ∧ r.isSome = memB z ks := by
  obtain ⟨es, n, D⟩ := He.dicW_ok h
  have hl := D.at_
  unfold He.dicW at h
  rw [hl] at h
  have h2 : (match decide (("dict" : String) = "dict") && ((#[] : Array (Option Value)).isEmpty && !(a == sysModules)) with
    | true => some (es.toList.map He.keyOf)
    | false => none) = some (He.keysIn w.params ks) := h
  have h3 : (decide (("dict" : String) = "dict") && ((#[] : Array (Option Value)).isEmpty && !(a == sysModules))) = true := by rw [D.low]; rfl
  rw [h3] at h2
  have h4 : es.toList.map He.keyOf = He.keysIn w.params ks := Option.some.inj h2
  unfold PySem.W.nsIn
  rw [hl]
  show ∃ r, (match es.toList.find? (·.key.isStr z) with
      | some e => some (some e.val)
      | none => if es.toList.any (·.refKey) then none else some none) = some r ∧ r.isSome = memB z ks
  clear h h2 h3 hl D
  revert ks
  generalize es.toList = l
  intro ks h4
  have key : ∀ (l : List DictEntry) (ks : List Str), l.map He.keyOf = He.keysIn w.params ks → l.any (·.refKey) = false ∧ ((l.find? (·.key.isStr z)).isSome = memB z ks) := by
    intro l
    induction l with
    | nil =>
      intro ks h
      cases ks with
      | nil => exact ⟨rfl, rfl⟩
      | cons _ _ => cases h
    | cons e l ih =>
      intro ks h
      cases ks with
      | nil => cases h
      | cons q ks =>
        have h1 : He.keyOf e :: l.map He.keyOf = some (q, PyData.keyHash w.params q) :: He.keysIn w.params ks := h
        injection h1 with h2 h3
        obtain ⟨i1, i2⟩ := ih ks h3
        unfold He.keyOf at h2
        split at h2
        · rename_i x t q'
          obtain ⟨h5, _⟩ := Prod.mk.inj (Option.some.inj h2)
          subst h5
          have e1 : e.refKey = false := by unfold DictEntry.refKey; rw [q']
          refine ⟨by rw [List.any_cons, e1, i1]; rfl, ?_⟩
          have e2 : e.key.isStr z = decide (x = z) := by
            rw [q']
            by_cases hz : x = z
            · subst hz; simp [Value.isStr]
            · simp [Value.isStr, hz]
          rw [List.find?_cons, e2]
          unfold memB at i2 ⊢
          rw [List.any_cons]
          by_cases hz : x = z
          · simp [hz]
          · simp [hz, i2]
        · cases h2
  obtain ⟨k1, k2⟩ := key l ks h4
  cases hf : l.find? (·.key.isStr z) with
  | some e => rw [hf] at k2; exact ⟨some e.val, rfl, k2⟩
  | none => rw [hf] at k2; rw [k1]; exact ⟨none, rfl, k2⟩
theorem dicW_of {K : PySem.W.Frag} {P : Params} {a : Addr} {es : Array DictEntry} {n : Nat} {ks : List Str} (l : K.lookup a = some ⟨.type "dict", none, .dict es n, #[]⟩) (hs : (a == sysModules) = false) (he : es.toList.map He.keyOf = He.keysIn P ks := by rfl) : He.dicW K a = some (He.keysIn P ks) := by
  unfold He.dicW
  rw [l]
  show (match decide (("dict" : String) = "dict") && ((#[] : Array (Option Value)).isEmpty && !(a == sysModules)) with
    | true => some (es.toList.map He.keyOf)
    | false => none) = _
  have h3 : (decide (("dict" : String) = "dict") && ((#[] : Array (Option Value)).isEmpty && !(a == sysModules))) = true := by rw [hs]; rfl
  rw [h3, he]
theorem kd_mk {K : PySem.W.Frag} {w : World} {mg : Str → Option Value} {x : Str} {a : Addr} {ks : List Str} {f : List (Str × D)} (hm : mg x = some (.ref a)) (h : He.dicW K a = some (He.keysIn w.params ks)) (hf : ∀ z y, f.lookup z = some y → ∃ u, PySem.W.nsIn K a z = some (some u) ∧ Cs K u y) : KD K w mg x ks f := by
  obtain ⟨es, n, D⟩ := He.dicW_ok h
  exact ⟨a, es, n, hm, D, kd_keys h, hf⟩
theorem kv_nil {K : PySem.W.Frag} {a : Addr} : ∀ z y, ([] : List (Str × D)).lookup z = some y → ∃ u, PySem.W.nsIn K a z = some (some u) ∧ Cs K u y := fun z y h => by cases h
theorem kv_cons {K : PySem.W.Frag} {a : Addr} {q : Str} {d : D} {u : Value} {f : List (Str × D)} (h : PySem.W.nsIn K a q = some (some u)) (hc : Cs K u d) (t : ∀ z y, f.lookup z = some y → ∃ u, PySem.W.nsIn K a z = some (some u) ∧ Cs K u y) : ∀ z y, ((q, d) :: f).lookup z = some y → ∃ u, PySem.W.nsIn K a z = some (some u) ∧ Cs K u y := fun z y e => by
  rw [List.lookup_cons] at e
  by_cases hz : z = q
  · subst hz
    rw [beq_self_eq_true] at e
    cases e
    exact ⟨u, h, hc⟩
  · rw [beq_false_of_ne hz] at e
    exact t z y e
end T

set_option Elab.async false
set_option linter.all false
set_option maxRecDepth 100000
set_option maxHeartbeats 4000000
/-! TAll: all(.. for sign in text), any(.. ..): the def's code table grows. -/
namespace T
open PySem PySem.Spec PyProof.Rows L2
variable {τ α β γ δ ρ B S ι : Type}
/-- 'a' <= sign <= 'z' -/
theorem elt_btw {prog : Program} {w : World} {scope : Scope} {x a b : Str} {j j' : Nat} {p1 p2 p3 p4 : Pos} (hk : scope.kind = .function) (hl : scope.names.lookup x = some .local) (hd : (x == ("__debug__" : Str)) = false := by decide) :
    GxR.EltP prog w scope x (.Compare (.Constant (.str a) j p1) [.LtE, .LtE] [.Name x p2, .Constant (.str b) j' p3] p4) (fun c => !decide ([c] < a.cps.toList) && !decide (b.cps.toList < [c])) := by
  intro cenv A' E' c t s₂ m₂ hs hn hm
  have nm : ∀ {Q : Value → Shared → Prop} (k : Nat), Q (.str ⟨#[c]⟩ t) { s₂ with toks := k } → wpAny (model prog w) A' (eval (.Name x p2) cenv) Q E' { s₂ with toks := k } := fun {Q} k q =>
    wpAny_Name (wpAny_loadName_local (by rw [hs]; exact hk) (show cenv.scope.names.lookup x = some .local by rw [hs]; exact hl) (show ({ s₂ with toks := k } : Shared).heap.Ns cenv.locals m₂ from hn) hm q) hd
  refine Compare_chain ?_
  refine Calls.Constant_str ?_
  refine chain_link (nm _ ?_)
  refine PySem.P.le_str ?_
  refine wpAny_truthy_bool ?_
  show if (!decide ([c] < a.cps.toList)) = true then _ else _
  by_cases q : (!decide ([c] < a.cps.toList)) = true
  · rw [if_pos q]
    refine chain_last (Calls.Constant_str ?_)
    refine PySem.P.le_str ⟨?_, GxR.keeps_tok _ _⟩
    show Value.bool _ = Value.bool (!decide ([c] < a.cps.toList) && !decide (b.cps.toList < [c]))
    rw [q, Bool.true_and]
  · rw [if_neg q]
    have q' : (!decide ([c] < a.cps.toList)) = false := by simpa using q
    refine ⟨?_, GxR.keeps_tok _ _⟩
    show Value.bool _ = Value.bool (!decide ([c] < a.cps.toList) && !decide (b.cps.toList < [c]))
    rw [q', Bool.false_and]
/-- a def whose code object stands at c -/
structure FunT (K : PySem.W.Frag) (x qual : Str) (st : Stmt) (f : Addr) (fd : FuncData) (c : Addr) : Prop where
  ex : ∃ (oc : Value) (od : Option Addr) (kV doc pm : Value) (an : Option Addr) (ct : Value) (osl : Array (Option Value)),
    fd = PySem.W.fnOf x qual (defArgs st) (defBody st) (defScope st) .none kV doc pm an (.ref c) ct ∧ K.lookup f = some ⟨oc, od, .func fd, osl⟩ ∧ PySem.W.codeIn K (.ref c) qual = true
theorem funT_mk {K : PySem.W.Frag} {x qual : Str} {st : Stmt} {f c : Addr} {oc : Value} {od an : Option Addr} {osl : Array (Option Value)} {kV doc pm ct : Value} (l : K.lookup f = some ⟨oc, od, .func (PySem.W.fnOf x qual (defArgs st) (defBody st) (defScope st) .none kV doc pm an (.ref c) ct), osl⟩)
    (h : PySem.W.codeIn K (.ref c) qual = true) : FunT K x qual st f (PySem.W.fnOf x qual (defArgs st) (defBody st) (defScope st) .none kV doc pm an (.ref c) ct) c := ⟨oc, od, kV, doc, pm, an, ct, osl, rfl, l, h⟩
section
variable [Tabs]
variable {X : Cx} {env env' : List SV} {e a b tg iter elt o : Expr} {pos p p2 p3 apos : Pos} [Em τ] [Em α] [Em β] [Em γ] {N : List Str} {sc : Scope} {fb : Str → Bool} {K : PySem.W.Frag} {mg : Str → Option Value} {P : Program} {w : World} {base : Heap} {k : Nat}
theorem fn_mkT {A : Type} {svs : A → List SV} {m : A → Option ρ} {res : ρ → RV} {x qual : Str} {st : Stmt} {f c : Addr} {fd : FuncData} {ps : List Str} (F : FunT K x qual st f fd c) (S : FnScope N ps (defScope st)) (n : Nat) (hn : N.length - ps.length = n) (hl : ∀ a, (svs a).length = ps.length)
    (body : ∀ X, Cf X N (defScope st) (fun _ => true) K mg P w base k → X.env.code = .ref c → X.base = base → X.mg = mg → X.prog = P → X.w = w → ∀ a, GS X (svs a ++ List.replicate n .any) (defBody st) (m a) (ZRn X.K res)) : FnOk P w K mg base CX0 (k + 1) f fd ps (spF K svs m res) := by
  obtain ⟨oc, od, kV, doc, pm, an, ct, osl, rfl, lk, hcd⟩ := F.ex
  refine fn_of lk hcd S (fun vs H Q E h => ?_) (fun A' outer s H vs Q E hr h => ?_)
  · obtain ⟨W, a, y, _, _, _, r, _⟩ := h
    rw [r.length, hl]
  · obtain ⟨W, a, y, hH, ok, tb, r, hy, q⟩ := h
    subst hH
    exact ⟨_, (body (cxOf CX0 P w K mg base N qual (defScope st) f (.ref c) A' outer s W.h E).nox (Cf.mk S.nd rfl PassesOwn.never hr) rfl rfl rfl rfl rfl a).nox, W, W, W.b, rfl, EnvR.start ok tb r (by rw [r.length, hl]; exact hn), Same.refl _, y, hy, fun v W' l r' => q v W' l r', fun σ W' l r' => q _ W' l r'⟩
theorem tabO {H : Hp} {P : Addr} {o : HO} (t : GxR.TabG H P) (e : H P = some o) : TabO o := by
  obtain ⟨ps, q, k⟩ := t
  rw [e] at q
  cases q
  exact ⟨ps, rfl, ps, rfl, k⟩
/-- the table at P has grown -/
theorem Le.tabbed {W : Wd} {P : Addr} {H2 : Hp} (ok : Same W.b W.h) (t : GxR.TabG W.h P) (nb : W.b P = none) (h : GxR.Tabbed P W.h H2) : Le W ⟨W.b, H2⟩ := by
  obtain ⟨t2, h2⟩ := h
  refine ⟨Same.refl _, fun a u z => ?_, fun _ _ _ => rfl, fun a u z => ?_⟩
  · by_cases ha : a = P
    · subst ha
      obtain ⟨ps, e, k⟩ := id t2
      exact .inr ⟨tabO t z, _, e, tabO t2 e⟩
    · exact .inl ((h2 a ha).trans z)
  · have ha : a ≠ P := fun q => by
      subst q
      have z : W.b a = some u := z
      rw [nb] at z; cases z
    exact (h2 a ha).trans (ok a u z)
theorem x_allS {c Pt : Addr} {x : Str} {px gpos : Pos} {scope : Scope} {pb : Nat → Bool} {m : Option Str} (C : Cf X N sc fb K mg P w base k) (h : XE X env iter m) (hT : Tabs.tab Pt) (TB : GxR.TabB X.base X.mg c Pt) (hcode : X.env.code = .ref c) (S : GxR.GenS X.env scope x)
    (hel : GxR.EltP X.prog X.w scope x elt pb) (hm : mg "all" = none) (hg : glbB sc "all" = true := by decide +kernel) (hs : ∀ E : Env, ∀ v, genFold iter E v = pure v := by intro _ _; rfl)
    (he : ∀ E : Env, starEach [.GeneratorExp elt [⟨.Name x px, iter, [], 0⟩] scope gpos] E = (false, eval (.GeneratorExp elt [⟨.Name x px, iter, [], 0⟩] scope gpos) E) :: starEach [] E := by intro _; rfl) :
    XE X env (.Call (.Name "all" p) [.GeneratorExp elt [⟨.Name x px, iter, [], 0⟩] scope gpos] [] pos) (m.bind fun s => some (s.cps.toList.all pb)) := by
  cases C with
  | mk nd calm po rm =>
    refine x_of (GxR.pe_allS rm (glbB_ok hg) hm (by decide +kernel) TB hcode S h hel (hs _) (he _)) fun W0 W σ E z hz Q q => ?_
    obtain ⟨s, hs, hz⟩ := bind_some hz
    cases hz
    unfold GxR.tAllS
    refine use_x E hs fun v W1 l1 r1 => ?_
    cases r1
    obtain ⟨t1, b1⟩ := (E.mono l1).tbl Pt hT
    exact ⟨s, rfl, t1, fun H2 hH => q _ ⟨W1.b, H2⟩ (l1.trans (Le.tabbed l1.ok t1 b1 hH)) (.bl _)⟩
end
theorem gens_of {env : Env} {scope : Scope} {x : Str} (hk : scope.kind = .function := by rfl) (hc : scope.isCoroutine = false := by rfl) (ha : (scope.names.all fun y => decide (y.2 ≠ .cell) && decide (y.2 ≠ .free)) = true := by decide +kernel)
    (hd : scope.names.lookup (".0" : Str) = some NameKind.local := by decide +kernel) (hl : scope.names.lookup x = some .local := by decide +kernel) : GxR.GenS env scope x := by
  rw [List.all_eq_true] at ha
  refine ⟨hk, hc, fun y hy => ?_, hd, hl, fun y hy z => ?_⟩
  · have := ha y hy
    simp only [Bool.and_eq_true, decide_eq_true_eq] at this
    exact this.1
  · have := ha y hy
    simp only [Bool.and_eq_true, decide_eq_true_eq] at this
    exact absurd z this.2
theorem codeHd_of {K : PySem.W.Frag} {h : Heap} {c Pt : Addr} {dd : Option Addr} {vs : Array Value} {sl : Array (Option Value)} {file : Str} {tf tg tt : Tok} {flags text : Int} {inF : Bool} (KX : K.In h) (lc : K.lookup c = some ⟨.type "code", dd, .fields vs, sl⟩)
    (v11 : vs[11]? = some (.ref Pt)) (v18 : vs.getD 18 .none = .str file tf) (v7 : vs.getD 7 .none = .int flags tg) (v9 : vs.getD 9 .none = .bool inF) (v10 : vs.getD 10 .none = .int text tt) (ne : c ≠ Pt) : PySem.W.CodeHd h c Pt :=
  ⟨_, vs, file, tf, flags, tg, inF, text, tt, KX _ _ lc, rfl, rfl, v11, by rw [Array.getD_eq_getD_getElem?, v11]; rfl, v18, v7, v9, v10, ne⟩
theorem tabB_of {base : Heap} {mg : Str → Option Value} {c Pt : Addr} (t : LamX.TabB base mg c Pt) : GxR.TabB base mg c Pt := ⟨t.code, t.bm, t.gP⟩
theorem tab0 {H : Hp} {Pt : Addr} (h : H Pt = some (.tbl #[])) : GxR.TabG H Pt := ⟨#[], h, trivial⟩
/-! ### the law's end with tables -/
theorem law_walkT {l : PySem.W.OpenLaw} {k : Nat} {q : Program} {loose : List Str} {XP : (Str → Option Value) → Heap → Prop} {YP : World → Heap → Prop} {d : DefRec} {K : Params → PySem.W.Frag} (hn : l.most = some 63) (hdf : d.params.defaults = [])
    (hY : ∀ (w : World) (h : Heap), YP w h → (K w.params).In h) (hk : Room k callerA) (xs : List Str) (hrec : ∀ x ∈ xs, ((recsOf q).any fun e => e.name == x) = true)
    (F : ∀ (w : World) (mg : Str → Option Value) (fa : Addr) (h : Heap), (K w.params).In h → h.Ns mainGlobals mg → mg d.name = some (.ref fa) → (∀ x ∈ xs, ∀ f, mg x = some (.ref f) → LamX.OwnTab (K w.params) f h) →
      LamX.LawAtS l w (K w.params) CX0 k 63 "script" mg fa h) :
    PySem.W.WalkO q loose XP YP l.row.toRowW d [] (fun g us => PySem.call g us) := by
  refine Att.attach_callB hn hdf fun w u₀ u₁ mg mb fa ob pmx cdx dcx ad us ks GG YY q1 q2 q3 q4 q5 q6 q7 q8 q9 => ?_
  have KX := hY w _ YY
  have own : ∀ x ∈ xs, ∀ f, mg x = some (.ref f) → LamX.OwnTab (K w.params) f u₁.heap := fun x hx f hf c Pt oo ff ee dx ws ss j1 j2 j3 j4 j5 => by
    obtain ⟨rc, rm, rn⟩ := List.any_eq_true.mp (hrec x hx)
    have rn2 : rc.name = x := beq_iff_eq.mp rn
    obtain ⟨fa', fo', ff', cc', pp', t1, t2, t3, t4, t5, t6⟩ := GG.T.tab rc rm
    rw [rn2, hf] at t1
    cases t1
    rw [KX _ _ j1] at t2
    cases t2
    rw [j2] at t3
    cases t3
    rw [j3] at t4
    cases t4
    obtain ⟨⟨ocx, vcx, i1, _, i3, i4⟩, got⟩ := t6
    rw [KX _ _ j4] at i1
    cases i1
    cases i3
    rw [j5] at i4
    cases i4
    exact got
  obtain ⟨fd, cs, sp, a1, a2, a3, a4, a5, a6⟩ := F w mg fa _ KX GG.T.g q4 own
  exact LamX.law_callTs KX GG.T.g GG.T.b GG.T.builtins GG.T.nolimit q9 a1 a2 a3 GG.T.bmain q5 q6 (Nat.le_trans q7 (by decide)) hk a6 a4 (fun H tH sH => a5 H ad ks q7 q8 tH sH) fun H e s' z => z
end T

set_option Elab.async false
set_option linter.all false
set_option maxRecDepth 100000
set_option maxHeartbeats 8000000
namespace K19
open PySem PySem.Spec PyProof.Rows L2 T
def K_PARTS : List Str := [("both" : Str), ("either" : Str), ("non" : Str), ("every" : Str), ("some" : Str), ("no" : Str), ("notevery" : Str), ("atleast" : Str), ("atmost" : Str), ("exactly" : Str), ("say" : Str), ("not" : Str), ("and" : Str), ("or" : Str), ("if" : Str), ("isle" : Str)]
def F_PARTS : List (Str × D) := [(("both" : Str), (.tup [(.str ("kind" : Str)), (.str ("kind" : Str))])), (("either" : Str), (.tup [(.str ("kind" : Str)), (.str ("kind" : Str))])), (("non" : Str), (.tup [(.str ("kind" : Str))])), (("every" : Str), (.tup [(.str ("kind" : Str))])), (("some" : Str), (.tup [(.str ("kind" : Str))])), (("no" : Str), (.tup [(.str ("kind" : Str))])), (("notevery" : Str), (.tup [(.str ("kind" : Str))])), (("atleast" : Str), (.tup [(.str ("kind" : Str))])), (("atmost" : Str), (.tup [(.str ("kind" : Str))])), (("exactly" : Str), (.tup [(.str ("kind" : Str))])), (("say" : Str), (.tup [(.str ("noun" : Str)), (.str ("kind" : Str))])), (("not" : Str), (.tup [(.str ("sentence" : Str))])), (("and" : Str), (.tup [(.str ("sentence" : Str)), (.str ("sentence" : Str))])), (("or" : Str), (.tup [(.str ("sentence" : Str)), (.str ("sentence" : Str))])), (("if" : Str), (.tup [(.str ("sentence" : Str)), (.str ("sentence" : Str))])), (("isle" : Str), (.tup [(.str ("sentence" : Str))]))]
def C_NUMBERED : (Vt Str) := ⟨[("atleast" : Str), ("atmost" : Str), ("exactly" : Str)]⟩
def C_NOUNS_MADE : (Vt Str) := ⟨[("every" : Str), ("some" : Str), ("no" : Str), ("notevery" : Str), ("atleast" : Str), ("atmost" : Str), ("exactly" : Str)]⟩
def C_KINDS_MADE : (Vt Str) := ⟨[("both" : Str), ("either" : Str), ("non" : Str)]⟩
def K_LEAVES : List Str := [("kind" : Str), ("name" : Str)]
def F_LEAVES : List (Str × D) := [(("kind" : Str), (.str ("kind" : Str))), (("name" : Str), (.str ("noun" : Str)))]
/-! ### is_name -/
def M_is_name (p_text : Str) : Option Bool := (andO (chI (fun i j => decide (i ≤ j)) (fun i j => decide (i ≤ j)) (some (1 : Int)) ((some p_text).bind fun y_1 => lenS y_1) (some (12 : Int))) ((some p_text).bind fun y_2 => some (y_2.cps.toList.all (fun c => !decide ([c] < (("a" : Str)).cps.toList) && !decide ((("z" : Str)).cps.toList < [c]))))).bind fun r_3 => some r_3
/-! ### made_sort -/
def M_made_sort (p_word : Str) : Option Str := ((some p_word).bind fun y_4 => some (memB y_4 K_LEAVES)).bind fun c_18 => if c_18 = true then ((((some p_word).bind fun y_5 => List.lookup y_5 F_LEAVES).bind fun y_6 => asS y_6).bind fun r_7 => some r_7).bind fun r_17 => some (id r_17) else ((some p_word).bind fun y_8 => (some C_KINDS_MADE).bind fun y_9 => some (memB y_8 y_9.l)).bind fun c_16 => if c_16 = true then ((some ("kind" : Str)).bind fun r_10 => some r_10).bind fun r_15 => some (id r_15) else (((some p_word).bind fun y_11 => (some C_NOUNS_MADE).bind fun y_12 => some (memB y_11 y_12.l)).bind fun c_13 => if c_13 = true then some ("noun" : Str) else some ("sentence" : Str)).bind fun r_14 => some r_14
/-! ### first_part -/
def M_first_part (p_word : Str) : Option Int := (((some p_word).bind fun y_19 => (some C_NUMBERED).bind fun y_20 => some (memB y_19 y_20.l)).bind fun c_21 => if c_21 = true then some (2 : Int) else some (1 : Int)).bind fun r_22 => some r_22
/-! ### head_is_right -/
def M_head_is_right (p_term : D) : Option Bool := (orO (((some p_term).bind fun y_23 => isiP "tuple" (em y_23)).bind fun y_24 => some (!y_24)) (orO (((some p_term).bind fun y_25 => truD y_25).bind fun y_26 => some (!y_26)) (((((some p_term).bind fun y_27 => asV y_27).bind fun y_28 => (some (0 : Int)).bind fun y_29 => atI y_28.l y_29).bind fun y_30 => isiP "str" (em y_30)).bind fun y_31 => some (!y_31)))).bind fun c_94 => if c_94 = true then ((some false).bind fun r_32 => some r_32).bind fun r_93 => some (id r_93) else (((some p_term).bind fun y_34 => asV y_34).bind fun y_35 => (some (0 : Int)).bind fun y_36 => atI y_35.l y_36).bind fun v_word_33 => (((some v_word_33).bind fun y_37 => asS y_37).bind fun y_38 => some (memB y_38 K_LEAVES)).bind fun c_92 => if c_92 = true then ((andO (((some p_term).bind fun y_39 => lenD y_39).bind fun y_40 => (some (2 : Int)).bind fun y_41 => some (decide (y_40 = y_41))) (andO ((((some p_term).bind fun y_42 => asV y_42).bind fun y_43 => (some (1 : Int)).bind fun y_44 => atI y_43.l y_44).bind fun y_45 => isiP "str" (em y_45)) ((((((some p_term).bind fun y_46 => asV y_46).bind fun y_47 => (some (1 : Int)).bind fun y_48 => atI y_47.l y_48).bind fun y_49 => asS y_49).bind fun y_50 => (some ()).bind fun y_51 => some (y_50, y_51)).bind (fun a : Str × Unit => M_is_name a.1)))).bind fun r_53 => some r_53).bind fun r_91 => some (id r_91) else (orO (((some v_word_33).bind fun y_54 => asS y_54).bind fun y_55 => some (!memB y_55 K_PARTS)) (((some p_term).bind fun y_56 => lenD y_56).bind fun y_66 => (((((some v_word_33).bind fun y_57 => asS y_57).bind fun y_58 => (some ()).bind fun y_59 => some (y_58, y_59)).bind (fun a : Str × Unit => M_first_part a.1)).bind fun y_64 => ((((some v_word_33).bind fun y_61 => asS y_61).bind fun y_62 => List.lookup y_62 F_PARTS).bind fun y_63 => lenD y_63).bind fun y_65 => some (y_64 + y_65)).bind fun y_67 => some (!decide (y_66 = y_67)))).bind fun c_90 => if c_90 = true then ((some false).bind fun r_68 => some r_68).bind fun r_89 => some (id r_89) else (((some v_word_33).bind fun y_69 => asS y_69).bind fun y_70 => (some C_NUMBERED).bind fun y_71 => some (!memB y_70 y_71.l)).bind fun c_88 => if c_88 = true then ((some true).bind fun r_72 => some r_72).bind fun r_87 => some (id r_87) else (andO ((((some p_term).bind fun y_73 => asV y_73).bind fun y_74 => (some (1 : Int)).bind fun y_75 => atI y_74.l y_75).bind fun y_76 => isiP "int" (em y_76)) (andO (((((some p_term).bind fun y_77 => asV y_77).bind fun y_78 => (some (1 : Int)).bind fun y_79 => atI y_78.l y_79).bind fun y_80 => isiP "bool" (em y_80)).bind fun y_81 => some (!y_81)) (chI (fun i j => decide (i ≤ j)) (fun i j => decide (i ≤ j)) (some (0 : Int)) ((((some p_term).bind fun y_82 => asV y_82).bind fun y_83 => (some (1 : Int)).bind fun y_84 => atI y_83.l y_84).bind fun y_85 => asI y_85) (some (9 : Int))))).bind fun r_86 => some r_86
/-! ### inner -/
def M_inner (p_term : D) : Option D := (((((some p_term).bind fun y_95 => asV y_95).bind fun y_96 => (some (0 : Int)).bind fun y_97 => atI y_96.l y_97).bind fun y_98 => asS y_98).bind fun y_99 => some (memB y_99 K_LEAVES)).bind fun c_117 => if c_117 = true then ((((some []).bind fun d => some (⟨d⟩ : Vt D)).bind fun y_100 => some (em y_100)).bind fun r_101 => some r_101).bind fun r_116 => some (id r_116) else ((((some p_term).bind fun y_102 => asV y_102).bind fun y_111 => (((((((some p_term).bind fun y_103 => asV y_103).bind fun y_104 => (some (0 : Int)).bind fun y_105 => atI y_104.l y_105).bind fun y_106 => asS y_106).bind fun y_107 => (some ()).bind fun y_108 => some (y_107, y_108)).bind (fun a : Str × Unit => M_first_part a.1)).bind fun y_110 => some (some y_110)).bind fun y_112 => (some none).bind fun y_113 => cutT y_111 y_112 y_113).bind fun y_114 => some (em y_114)).bind fun r_115 => some r_115
/-! ### sort_of -/
def R_sort_of : Nat → D → Option Str
  | 0, _ => none
  | n + 1, p_term => ((((some p_term).bind fun y_118 => (some ()).bind fun y_119 => some (y_118, y_119)).bind (fun a : D × Unit => M_head_is_right a.1)).bind fun y_121 => some (!y_121)).bind fun c_161 => if c_161 = true then ((some ("" : Str)).bind fun r_122 => some r_122).bind fun r_160 => some (id r_160) else (((some p_term).bind fun y_124 => (some ()).bind fun y_125 => some (y_124, y_125)).bind (fun a : D × Unit => M_inner a.1)).bind fun v_parts_123 => (((some v_parts_123).bind fun y_127 => lenD y_127).bind fun y_128 => rngP 0 y_128).bind fun y_131 => (loopO (fun (s_129 : Unit) (v_k_130 : Int) => (((((((some v_parts_123).bind fun y_132 => asV y_132).bind fun y_133 => (some v_k_130).bind fun y_134 => atI y_133.l y_134).bind fun y_135 => (some ()).bind fun y_136 => some (y_135, y_136)).bind (fun a : D × Unit => R_sort_of n a.1)).bind fun y_146 => (((((((some p_term).bind fun y_138 => asV y_138).bind fun y_139 => (some (0 : Int)).bind fun y_140 => atI y_139.l y_140).bind fun y_141 => asS y_141).bind fun y_142 => List.lookup y_142 F_PARTS).bind fun y_143 => asV y_143).bind fun y_144 => (some v_k_130).bind fun y_145 => atI y_144.l y_145).bind fun y_147 => (eqP (em y_146) (em y_147)).bind fun z => some (!z)).bind fun c_150 => if c_150 = true then ((some ("" : Str)).bind fun r_148 => some r_148).bind fun r_149 => some (Fl.rt r_149) else some (Fl.nx ()) : Option (Fl Str Unit Unit))) () y_131).bind (Lp.go (fun x => x) fun s_129 : Unit => ((((((some p_term).bind fun y_151 => asV y_151).bind fun y_152 => (some (0 : Int)).bind fun y_153 => atI y_152.l y_153).bind fun y_154 => asS y_154).bind fun y_155 => (some ()).bind fun y_156 => some (y_155, y_156)).bind (fun a : Str × Unit => M_made_sort a.1)).bind fun r_158 => some r_158)
/-! ### _law_draws -/
def M__law_draws (p_script : (List Int)) (p_count : Int) : Option (List Int) := ((some p_script).bind fun y_168 => lcC (fun _ : Int => some true) (fun v_cell_164 : Int => ((some v_cell_164).bind fun y_165 => some y_165).bind fun y_166 => some (absI y_166)) y_168).bind fun v_cells_162 => ((((some v_cells_162).bind fun y_169 => some (List.length y_169 : Int)).bind fun y_170 => (some (0 : Int)).bind fun y_171 => some (decide (y_170 = y_171))).bind fun c_222 => if c_222 = true then (((some (0 : Int)).bind fun y_174 => (some []).bind fun y_175 => some (y_174 :: y_175)).bind lstP).bind fun v_cells_173 => some v_cells_173 else some v_cells_162).bind fun s_172 : (List Int) => ((some s_172).bind fun y_178 => some (List.length y_178 : Int)).bind fun v_many_177 => (some ([] : (List Int))).bind fun v_draws_179 => ((some p_count).bind fun y_180 => rngP 0 y_180).bind fun y_183 => (foldO (fun (s_181 : ((List Int) × (List Int))) (v_k_182 : Int) => ((some v_k_182).bind fun y_185 => (some v_many_177).bind fun y_186 => modP y_185 y_186).bind fun v_at_184 => ((some s_181.1).bind fun y_188 => (some v_at_184).bind fun y_189 => atI y_188 y_189).bind fun v_cell_187 => (((some v_cell_187).bind fun y_190 => (some (1000000000000000000 : Int)).bind fun y_191 => some (decide (y_191 ≤ y_190))).bind fun c_221 => if c_221 = true then (((some v_cell_187).bind fun y_193 => some y_193).bind fun y_194 => some (Int.fmod y_194 (1009 : Int))).bind fun y_202 => (appP s_181.2 y_202).bind fun v_draws_195 => ((some v_cell_187).bind fun y_196 => some (Int.fdiv y_196 (1009 : Int))).bind fun y_198 => (some v_at_184).bind fun y_199 => (setP s_181.1 y_199 y_198).bind fun v_cells_197 => some (v_cells_197, v_draws_195) else (((((some v_cell_187).bind fun y_204 => some (y_204 * (48271 : Int))).bind fun y_206 => ((some v_k_182).bind fun y_205 => some (y_205 * (69621 : Int))).bind fun y_207 => some (y_206 + y_207)).bind fun y_208 => (some (40503 : Int)).bind fun y_209 => some (y_208 + y_209)).bind fun y_210 => some (Int.fmod y_210 (2147483647 : Int))).bind fun v_mixed_203 => (((((some v_mixed_203).bind fun y_211 => (some v_mixed_203).bind fun y_212 => mulP y_211 y_212).bind fun y_214 => ((some v_cell_187).bind fun y_213 => some (y_213 * (16807 : Int))).bind fun y_215 => some (y_214 + y_215)).bind fun y_216 => (some v_k_182).bind fun y_217 => some (y_216 + y_217)).bind fun y_218 => some (Int.fmod y_218 (2147483629 : Int))).bind fun y_220 => (appP s_181.2 y_220).bind fun v_draws_219 => some (s_181.1, v_draws_219)).bind fun s_192 : ((List Int) × (List Int)) => some (s_192.1, s_192.2)) (s_172, v_draws_179) y_183).bind fun s_181 => some s_181.2
def m__law_draws (p_script : (List Int)) (p_count : Int) : Option (List Int) := (lcC (fun _ : Int => some true) (fun v_cell_164 : Int => some (absI v_cell_164)) p_script).bind fun v_cells_162 => (if (decide (((List.length v_cells_162 : Int)) = ((0 : Int)))) = true then let v_cells_173 := ([((0 : Int))] : (List Int)); some v_cells_173 else some v_cells_162).bind fun s_172 : (List Int) => let v_many_177 := (List.length s_172 : Int); let v_draws_179 := ([] : (List Int)); (rngP 0 p_count).bind fun y_183 => (foldO (fun (s_181 : ((List Int) × (List Int))) (v_k_182 : Int) => (modP v_k_182 v_many_177).bind fun v_at_184 => (atI s_181.1 v_at_184).bind fun v_cell_187 => (if (decide (((1000000000000000000 : Int)) ≤ v_cell_187)) = true then (appP s_181.2 ((Int.fmod v_cell_187 (1009 : Int)))).bind fun v_draws_195 => (setP s_181.1 v_at_184 ((Int.fdiv v_cell_187 (1009 : Int)))).bind fun v_cells_197 => some (v_cells_197, v_draws_195) else let v_mixed_203 := (Int.fmod ((((((v_cell_187 * (48271 : Int))) + ((v_k_182 * (69621 : Int))))) + ((40503 : Int)))) (2147483647 : Int)); ((((mulP v_mixed_203 v_mixed_203).bind fun y_214 => some ((y_214 + ((v_cell_187 * (16807 : Int)))))).bind fun y_216 => some ((y_216 + v_k_182))).bind fun y_218 => some ((Int.fmod y_218 (2147483629 : Int)))).bind fun y_220 => (appP s_181.2 y_220).bind fun v_draws_219 => some (s_181.1, v_draws_219)).bind fun s_192 : ((List Int) × (List Int)) => some (s_192.1, s_192.2)) (s_172, v_draws_179) y_183).bind fun s_181 => some s_181.2
theorem e__law_draws : M__law_draws = m__law_draws := rfl
/-! ### _law_next -/
def M__law_next (p_seed : Int) (p_k : Int) : Option Int := (((((some p_seed).bind fun y_223 => some (y_223 * (48271 : Int))).bind fun y_225 => ((some p_k).bind fun y_224 => some (y_224 * (69621 : Int))).bind fun y_226 => some (y_225 + y_226)).bind fun y_227 => (some (12345 : Int)).bind fun y_228 => some (y_227 + y_228)).bind fun y_229 => some (Int.fmod y_229 (2147483647 : Int))).bind fun r_230 => some r_230
/-! ### _law_name -/
def M__law_name (p_seed : Int) : Option Str := (((some ("bee" : Str)).bind fun y_252 => ((some ("ant" : Str)).bind fun y_250 => ((some ("a" : Str)).bind fun y_248 => ((some ("b" : Str)).bind fun y_246 => ((some ("fish" : Str)).bind fun y_244 => ((some ("abcdefghijkl" : Str)).bind fun y_242 => ((some ("x" : Str)).bind fun y_240 => ((some ("mira" : Str)).bind fun y_238 => ((some ("ab" : Str)).bind fun y_236 => ((some ("kind" : Str)).bind fun y_234 => ((some ("some" : Str)).bind fun y_232 => (some []).bind fun y_233 => some (y_232 :: y_233)).bind fun y_235 => some (y_234 :: y_235)).bind fun y_237 => some (y_236 :: y_237)).bind fun y_239 => some (y_238 :: y_239)).bind fun y_241 => some (y_240 :: y_241)).bind fun y_243 => some (y_242 :: y_243)).bind fun y_245 => some (y_244 :: y_245)).bind fun y_247 => some (y_246 :: y_247)).bind fun y_249 => some (y_248 :: y_249)).bind fun y_251 => some (y_250 :: y_251)).bind fun y_253 => some (y_252 :: y_253)).bind lstP).bind fun v_names_231 => ((some v_names_231).bind fun y_266 => ((some p_seed).bind fun y_265 => some (Int.fmod y_265 (11 : Int))).bind fun y_267 => atI y_266 y_267).bind fun r_268 => some r_268
/-! ### _law_kind -/
def R__law_kind : Nat → Int → Int → Option D
  | 0, _, _ => none
  | n + 1, p_seed, p_many => ((some p_many).bind fun y_269 => (some (1 : Int)).bind fun y_270 => some (decide (y_269 = y_270))).bind fun c_368 => if c_368 = true then ((((((some ("kind" : Str)).bind fun y_275 => some (em y_275)).bind fun y_279 => ((((((some p_seed).bind fun y_271 => some (Int.fdiv y_271 (7 : Int))).bind fun y_272 => (some ()).bind fun y_273 => some (y_272, y_273)).bind (fun a : Int × Unit => M__law_name a.1)).bind fun y_276 => some (em y_276)).bind fun y_277 => (some []).bind fun y_278 => some (y_277 :: y_278)).bind fun y_280 => some (y_279 :: y_280)).bind (vtP 2)).bind fun y_281 => some (em y_281)).bind fun r_282 => some r_282).bind fun r_367 => some (id r_367) else (orO ((some p_many).bind fun y_283 => (some (2 : Int)).bind fun y_284 => some (decide (y_283 = y_284))) (((some p_seed).bind fun y_285 => some (Int.fmod y_285 (4 : Int))).bind fun y_286 => (some (0 : Int)).bind fun y_287 => some (decide (y_286 = y_287)))).bind fun c_366 => if c_366 = true then ((((((some ("non" : Str)).bind fun y_302 => some (em y_302)).bind fun y_305 => ((((((some p_seed).bind fun y_290 => ((some (1 : Int)).bind fun y_288 => (some ()).bind fun y_289 => some (y_288, y_289)).bind fun y_291 => some (y_290, y_291)).bind (fun a : Int × Int × Unit => M__law_next a.1 a.2.1)).bind fun y_298 => (((some p_many).bind fun y_294 => (some (1 : Int)).bind fun y_295 => some (y_294 - y_295)).bind fun y_296 => (some ()).bind fun y_297 => some (y_296, y_297)).bind fun y_299 => some (y_298, y_299)).bind (fun a : Int × Int × Unit => R__law_kind n a.1 a.2.1)).bind fun y_303 => (some []).bind fun y_304 => some (y_303 :: y_304)).bind fun y_306 => some (y_305 :: y_306)).bind (vtP 2)).bind fun y_307 => some (em y_307)).bind fun r_308 => some r_308).bind fun r_365 => some (id r_365) else ((some (1 : Int)).bind fun y_315 => (((some p_seed).bind fun y_310 => some (Int.fdiv y_310 (4 : Int))).bind fun y_313 => ((some p_many).bind fun y_311 => (some (2 : Int)).bind fun y_312 => some (y_311 - y_312)).bind fun y_314 => modP y_313 y_314).bind fun y_316 => some (y_315 + y_316)).bind fun v_left_309 => (((((some p_seed).bind fun y_320 => ((some (2 : Int)).bind fun y_318 => (some ()).bind fun y_319 => some (y_318, y_319)).bind fun y_321 => some (y_320, y_321)).bind (fun a : Int × Int × Unit => M__law_next a.1 a.2.1)).bind fun y_326 => ((some v_left_309).bind fun y_324 => (some ()).bind fun y_325 => some (y_324, y_325)).bind fun y_327 => some (y_326, y_327)).bind (fun a : Int × Int × Unit => R__law_kind n a.1 a.2.1)).bind fun v_one_317 => ((((((((some ("both" : Str)).bind fun y_332 => ((some ("either" : Str)).bind fun y_330 => (some []).bind fun y_331 => some (y_330 :: y_331)).bind fun y_333 => some (y_332 :: y_333)).bind lstP).bind fun y_338 => (((some p_seed).bind fun y_336 => some (Int.fdiv y_336 (64 : Int))).bind fun y_337 => some (Int.fmod y_337 (2 : Int))).bind fun y_339 => atI y_338 y_339).bind fun y_356 => some (em y_356)).bind fun y_361 => ((some v_one_317).bind fun y_359 => ((((((some p_seed).bind fun y_342 => ((some (3 : Int)).bind fun y_340 => (some ()).bind fun y_341 => some (y_340, y_341)).bind fun y_343 => some (y_342, y_343)).bind (fun a : Int × Int × Unit => M__law_next a.1 a.2.1)).bind fun y_352 => ((((some p_many).bind fun y_346 => (some (1 : Int)).bind fun y_347 => some (y_346 - y_347)).bind fun y_348 => (some v_left_309).bind fun y_349 => some (y_348 - y_349)).bind fun y_350 => (some ()).bind fun y_351 => some (y_350, y_351)).bind fun y_353 => some (y_352, y_353)).bind (fun a : Int × Int × Unit => R__law_kind n a.1 a.2.1)).bind fun y_357 => (some []).bind fun y_358 => some (y_357 :: y_358)).bind fun y_360 => some (y_359 :: y_360)).bind fun y_362 => some (y_361 :: y_362)).bind (vtP 3)).bind fun y_363 => some (em y_363)).bind fun r_364 => some r_364
/-! ### _law_noun -/
def M__law_noun (p_seed : Int) (p_many : Int) : Option D := ((some p_many).bind fun y_369 => (some (1 : Int)).bind fun y_370 => some (decide (y_369 = y_370))).bind fun c_448 => if c_448 = true then ((((((some ("name" : Str)).bind fun y_375 => some (em y_375)).bind fun y_379 => ((((((some p_seed).bind fun y_371 => some (Int.fdiv y_371 (5 : Int))).bind fun y_372 => (some ()).bind fun y_373 => some (y_372, y_373)).bind (fun a : Int × Unit => M__law_name a.1)).bind fun y_376 => some (em y_376)).bind fun y_377 => (some []).bind fun y_378 => some (y_377 :: y_378)).bind fun y_380 => some (y_379 :: y_380)).bind (vtP 2)).bind fun y_381 => some (em y_381)).bind fun r_382 => some r_382).bind fun r_447 => some (id r_447) else (((((some p_seed).bind fun y_386 => ((some (4 : Int)).bind fun y_384 => (some ()).bind fun y_385 => some (y_384, y_385)).bind fun y_387 => some (y_386, y_387)).bind (fun a : Int × Int × Unit => M__law_next a.1 a.2.1)).bind fun y_394 => (((some p_many).bind fun y_390 => (some (1 : Int)).bind fun y_391 => some (y_390 - y_391)).bind fun y_392 => (some ()).bind fun y_393 => some (y_392, y_393)).bind fun y_395 => some (y_394, y_395)).bind (fun a : Int × Int × Unit => R__law_kind 64 a.1 a.2.1)).bind fun v_kind_383 => ((((some ("every" : Str)).bind fun y_411 => ((some ("some" : Str)).bind fun y_409 => ((some ("no" : Str)).bind fun y_407 => ((some ("notevery" : Str)).bind fun y_405 => ((some ("atleast" : Str)).bind fun y_403 => ((some ("atmost" : Str)).bind fun y_401 => ((some ("exactly" : Str)).bind fun y_399 => (some []).bind fun y_400 => some (y_399 :: y_400)).bind fun y_402 => some (y_401 :: y_402)).bind fun y_404 => some (y_403 :: y_404)).bind fun y_406 => some (y_405 :: y_406)).bind fun y_408 => some (y_407 :: y_408)).bind fun y_410 => some (y_409 :: y_410)).bind fun y_412 => some (y_411 :: y_412)).bind lstP).bind fun y_421 => ((some p_seed).bind fun y_420 => some (Int.fmod y_420 (7 : Int))).bind fun y_422 => atI y_421 y_422).bind fun v_word_398 => (((some p_seed).bind fun y_423 => some (Int.fmod y_423 (7 : Int))).bind fun y_424 => (some (4 : Int)).bind fun y_425 => some (decide (y_424 < y_425))).bind fun c_446 => if c_446 = true then ((((((some v_word_398).bind fun y_426 => some (em y_426)).bind fun y_429 => ((some v_kind_383).bind fun y_427 => (some []).bind fun y_428 => some (y_427 :: y_428)).bind fun y_430 => some (y_429 :: y_430)).bind (vtP 2)).bind fun y_431 => some (em y_431)).bind fun r_432 => some r_432).bind fun r_445 => some (id r_445) else (((((some v_word_398).bind fun y_435 => some (em y_435)).bind fun y_441 => (((((some p_seed).bind fun y_433 => some (Int.fdiv y_433 (7 : Int))).bind fun y_434 => some (Int.fmod y_434 (10 : Int))).bind fun y_436 => some (em y_436)).bind fun y_439 => ((some v_kind_383).bind fun y_437 => (some []).bind fun y_438 => some (y_437 :: y_438)).bind fun y_440 => some (y_439 :: y_440)).bind fun y_442 => some (y_441 :: y_442)).bind (vtP 3)).bind fun y_443 => some (em y_443)).bind fun r_444 => some r_444
/-! ### _law_sentence -/
def R__law_sentence : Nat → Int → Int → Option D
  | 0, _, _ => none
  | n + 1, p_seed, p_many => (andO ((some p_many).bind fun y_449 => (some (3 : Int)).bind fun y_450 => some (decide (y_450 < y_449))) (((some p_seed).bind fun y_451 => some (Int.fmod y_451 (5 : Int))).bind fun y_452 => (some (0 : Int)).bind fun y_453 => some (decide (y_452 = y_453)))).bind fun c_597 => if c_597 = true then (((((((((some ("not" : Str)).bind fun y_456 => ((some ("isle" : Str)).bind fun y_454 => (some []).bind fun y_455 => some (y_454 :: y_455)).bind fun y_457 => some (y_456 :: y_457)).bind lstP).bind fun y_462 => (((some p_seed).bind fun y_460 => some (Int.fdiv y_460 (5 : Int))).bind fun y_461 => some (Int.fmod y_461 (2 : Int))).bind fun y_463 => atI y_462 y_463).bind fun y_478 => some (em y_478)).bind fun y_481 => ((((((some p_seed).bind fun y_466 => ((some (5 : Int)).bind fun y_464 => (some ()).bind fun y_465 => some (y_464, y_465)).bind fun y_467 => some (y_466, y_467)).bind (fun a : Int × Int × Unit => M__law_next a.1 a.2.1)).bind fun y_474 => (((some p_many).bind fun y_470 => (some (1 : Int)).bind fun y_471 => some (y_470 - y_471)).bind fun y_472 => (some ()).bind fun y_473 => some (y_472, y_473)).bind fun y_475 => some (y_474, y_475)).bind (fun a : Int × Int × Unit => R__law_sentence n a.1 a.2.1)).bind fun y_479 => (some []).bind fun y_480 => some (y_479 :: y_480)).bind fun y_482 => some (y_481 :: y_482)).bind (vtP 2)).bind fun y_483 => some (em y_483)).bind fun r_484 => some r_484).bind fun r_596 => some (id r_596) else (andO ((some p_many).bind fun y_485 => (some (6 : Int)).bind fun y_486 => some (decide (y_486 < y_485))) (((some p_seed).bind fun y_487 => some (Int.fmod y_487 (5 : Int))).bind fun y_488 => (some (4 : Int)).bind fun y_489 => some (decide (y_488 < y_489)))).bind fun c_595 => if c_595 = true then (((some (3 : Int)).bind fun y_496 => (((some p_seed).bind fun y_491 => some (Int.fdiv y_491 (5 : Int))).bind fun y_494 => ((some p_many).bind fun y_492 => (some (6 : Int)).bind fun y_493 => some (y_492 - y_493)).bind fun y_495 => modP y_494 y_495).bind fun y_497 => some (y_496 + y_497)).bind fun v_left_490 => (((((some p_seed).bind fun y_501 => ((some (6 : Int)).bind fun y_499 => (some ()).bind fun y_500 => some (y_499, y_500)).bind fun y_502 => some (y_501, y_502)).bind (fun a : Int × Int × Unit => M__law_next a.1 a.2.1)).bind fun y_507 => ((some v_left_490).bind fun y_505 => (some ()).bind fun y_506 => some (y_505, y_506)).bind fun y_508 => some (y_507, y_508)).bind (fun a : Int × Int × Unit => R__law_sentence n a.1 a.2.1)).bind fun v_one_498 => ((((((((some ("and" : Str)).bind fun y_515 => ((some ("or" : Str)).bind fun y_513 => ((some ("if" : Str)).bind fun y_511 => (some []).bind fun y_512 => some (y_511 :: y_512)).bind fun y_514 => some (y_513 :: y_514)).bind fun y_516 => some (y_515 :: y_516)).bind lstP).bind fun y_522 => (((some p_seed).bind fun y_520 => some (Int.fdiv y_520 (100 : Int))).bind fun y_521 => some (Int.fmod y_521 (3 : Int))).bind fun y_523 => atI y_522 y_523).bind fun y_540 => some (em y_540)).bind fun y_545 => ((some v_one_498).bind fun y_543 => ((((((some p_seed).bind fun y_526 => ((some (7 : Int)).bind fun y_524 => (some ()).bind fun y_525 => some (y_524, y_525)).bind fun y_527 => some (y_526, y_527)).bind (fun a : Int × Int × Unit => M__law_next a.1 a.2.1)).bind fun y_536 => ((((some p_many).bind fun y_530 => (some (1 : Int)).bind fun y_531 => some (y_530 - y_531)).bind fun y_532 => (some v_left_490).bind fun y_533 => some (y_532 - y_533)).bind fun y_534 => (some ()).bind fun y_535 => some (y_534, y_535)).bind fun y_537 => some (y_536, y_537)).bind (fun a : Int × Int × Unit => R__law_sentence n a.1 a.2.1)).bind fun y_541 => (some []).bind fun y_542 => some (y_541 :: y_542)).bind fun y_544 => some (y_543 :: y_544)).bind fun y_546 => some (y_545 :: y_546)).bind (vtP 3)).bind fun y_547 => some (em y_547)).bind fun r_548 => some r_548).bind fun r_594 => some (id r_594) else ((some (1 : Int)).bind fun y_555 => (((some p_seed).bind fun y_550 => some (Int.fdiv y_550 (5 : Int))).bind fun y_553 => ((some p_many).bind fun y_551 => (some (2 : Int)).bind fun y_552 => some (y_551 - y_552)).bind fun y_554 => modP y_553 y_554).bind fun y_556 => some (y_555 + y_556)).bind fun v_left_549 => (((((some ("say" : Str)).bind fun y_585 => some (em y_585)).bind fun y_590 => ((((((some p_seed).bind fun y_559 => ((some (8 : Int)).bind fun y_557 => (some ()).bind fun y_558 => some (y_557, y_558)).bind fun y_560 => some (y_559, y_560)).bind (fun a : Int × Int × Unit => M__law_next a.1 a.2.1)).bind fun y_565 => ((some v_left_549).bind fun y_563 => (some ()).bind fun y_564 => some (y_563, y_564)).bind fun y_566 => some (y_565, y_566)).bind (fun a : Int × Int × Unit => M__law_noun a.1 a.2.1)).bind fun y_588 => ((((((some p_seed).bind fun y_571 => ((some (9 : Int)).bind fun y_569 => (some ()).bind fun y_570 => some (y_569, y_570)).bind fun y_572 => some (y_571, y_572)).bind (fun a : Int × Int × Unit => M__law_next a.1 a.2.1)).bind fun y_581 => ((((some p_many).bind fun y_575 => (some (1 : Int)).bind fun y_576 => some (y_575 - y_576)).bind fun y_577 => (some v_left_549).bind fun y_578 => some (y_577 - y_578)).bind fun y_579 => (some ()).bind fun y_580 => some (y_579, y_580)).bind fun y_582 => some (y_581, y_582)).bind (fun a : Int × Int × Unit => R__law_kind 64 a.1 a.2.1)).bind fun y_586 => (some []).bind fun y_587 => some (y_586 :: y_587)).bind fun y_589 => some (y_588 :: y_589)).bind fun y_591 => some (y_590 :: y_591)).bind (vtP 3)).bind fun y_592 => some (em y_592)).bind fun r_593 => some r_593
/-! ### _law_is_name -/
def M__law_is_name (p_text : D) : Option Bool := (orO (((some p_text).bind fun y_598 => isiP "str" (em y_598)).bind fun y_599 => some (!y_599)) (orO (((some p_text).bind fun y_600 => lenD y_600).bind fun y_601 => (some (1 : Int)).bind fun y_602 => some (decide (y_601 < y_602))) (((some p_text).bind fun y_603 => lenD y_603).bind fun y_604 => (some (12 : Int)).bind fun y_605 => some (decide (y_605 < y_604))))).bind fun c_622 => if c_622 = true then ((some false).bind fun r_606 => some r_606).bind fun r_621 => some (id r_621) else ((((some ("" : Str)).bind fun y_615 => ((((some p_text).bind fun y_607 => asS y_607).bind fun y_608 => some (T.signs y_608)).bind fun y_614 => lcC (fun v_sign_610 : Str => (some v_sign_610).bind fun y_611 => (some ("abcdefghijklmnopqrstuvwxyz" : Str)).bind fun y_612 => insP1 y_611 y_612) (fun v_sign_610 : Str => some v_sign_610) y_614).bind fun y_616 => joinP y_615 y_616).bind fun y_617 => some (em y_617)).bind fun y_618 => (some p_text).bind fun y_619 => eqD y_618 y_619).bind fun r_620 => some r_620
/-! ### _law_sort -/
def R__law_sort : Nat → D → Option Str
  | 0, _ => none
  | n + 1, p_term => (orO (((some p_term).bind fun y_623 => isiP "tuple" (em y_623)).bind fun y_624 => some (!y_624)) (orO (((some p_term).bind fun y_625 => lenD y_625).bind fun y_626 => (some (2 : Int)).bind fun y_627 => some (decide (y_626 < y_627))) (orO (((some p_term).bind fun y_628 => lenD y_628).bind fun y_629 => (some (3 : Int)).bind fun y_630 => some (decide (y_630 < y_629))) (((((some p_term).bind fun y_631 => asV y_631).bind fun y_632 => (some (0 : Int)).bind fun y_633 => atI y_632.l y_633).bind fun y_634 => isiP "str" (em y_634)).bind fun y_635 => some (!y_635))))).bind fun c_842 => if c_842 = true then ((some ("" : Str)).bind fun r_636 => some r_636).bind fun r_841 => some (id r_841) else (((some p_term).bind fun y_638 => asV y_638).bind fun y_639 => (some (0 : Int)).bind fun y_640 => atI y_639.l y_640).bind fun v_word_637 => (((some p_term).bind fun y_641 => lenD y_641).bind fun y_642 => (some (2 : Int)).bind fun y_643 => some (decide (y_642 = y_643))).bind fun c_840 => if c_840 = true then ((orO ((some v_word_637).bind fun y_645 => ((some ("kind" : Str)).bind fun y_644 => some (em y_644)).bind fun y_646 => eqD y_645 y_646) ((some v_word_637).bind fun y_648 => ((some ("name" : Str)).bind fun y_647 => some (em y_647)).bind fun y_649 => eqD y_648 y_649)).bind fun c_722 => if c_722 = true then (((((some ("" : Str)).bind fun y_654 => ((some ("kind" : Str)).bind fun y_652 => ((some ("noun" : Str)).bind fun y_650 => (some []).bind fun y_651 => some (y_650 :: y_651)).bind fun y_653 => some (y_652 :: y_653)).bind fun y_655 => some (y_654 :: y_655)).bind lstP).bind fun y_674 => (((((((some p_term).bind fun y_659 => asV y_659).bind fun y_660 => (some (1 : Int)).bind fun y_661 => atI y_660.l y_661).bind fun y_662 => (some ()).bind fun y_663 => some (y_662, y_663)).bind (fun a : D × Unit => M__law_is_name a.1)).bind fun y_665 => some (if y_665 = true then (1 : Int) else 0)).bind fun y_672 => ((some (1 : Int)).bind fun y_670 => (((some v_word_637).bind fun y_667 => ((some ("name" : Str)).bind fun y_666 => some (em y_666)).bind fun y_668 => eqD y_667 y_668).bind fun y_669 => some (if y_669 = true then (1 : Int) else 0)).bind fun y_671 => some (y_670 + y_671)).bind fun y_673 => mulP y_672 y_673).bind fun y_675 => atI y_674 y_675).bind fun r_676 => some r_676).bind fun r_721 => some (id r_721) else (((((some p_term).bind fun y_678 => asV y_678).bind fun y_679 => (some (1 : Int)).bind fun y_680 => atI y_679.l y_680).bind fun y_681 => (some ()).bind fun y_682 => some (y_681, y_682)).bind (fun a : D × Unit => R__law_sort n a.1)).bind fun v_below_677 => (andO ((some v_word_637).bind fun y_685 => ((some ("non" : Str)).bind fun y_684 => some (em y_684)).bind fun y_686 => eqD y_685 y_686) ((some v_below_677).bind fun y_687 => (some ("kind" : Str)).bind fun y_688 => some (decide (y_687 = y_688)))).bind fun c_720 => if c_720 = true then ((some ("kind" : Str)).bind fun r_689 => some r_689).bind fun r_719 => some (id r_719) else (andO (((some v_word_637).bind fun y_698 => asS y_698).bind fun y_699 => (((some ("every" : Str)).bind fun y_696 => ((some ("some" : Str)).bind fun y_694 => ((some ("no" : Str)).bind fun y_692 => ((some ("notevery" : Str)).bind fun y_690 => (some []).bind fun y_691 => some (y_690 :: y_691)).bind fun y_693 => some (y_692 :: y_693)).bind fun y_695 => some (y_694 :: y_695)).bind fun y_697 => some (y_696 :: y_697)).bind (vtP 4)).bind fun y_700 => some (memB y_699 y_700.l)) ((some v_below_677).bind fun y_701 => (some ("kind" : Str)).bind fun y_702 => some (decide (y_701 = y_702)))).bind fun c_718 => if c_718 = true then ((some ("noun" : Str)).bind fun r_703 => some r_703).bind fun r_717 => some (id r_717) else (andO (((some v_word_637).bind fun y_708 => asS y_708).bind fun y_709 => (((some ("not" : Str)).bind fun y_706 => ((some ("isle" : Str)).bind fun y_704 => (some []).bind fun y_705 => some (y_704 :: y_705)).bind fun y_707 => some (y_706 :: y_707)).bind (vtP 2)).bind fun y_710 => some (memB y_709 y_710.l)) ((some v_below_677).bind fun y_711 => (some ("sentence" : Str)).bind fun y_712 => some (decide (y_711 = y_712)))).bind fun c_716 => if c_716 = true then ((some ("sentence" : Str)).bind fun r_713 => some r_713).bind fun r_715 => some (id r_715) else (some ("" : Str)).bind fun r_714 => some r_714).bind fun r_839 => some (id r_839) else (((some v_word_637).bind fun y_729 => asS y_729).bind fun y_730 => (((some ("atleast" : Str)).bind fun y_727 => ((some ("atmost" : Str)).bind fun y_725 => ((some ("exactly" : Str)).bind fun y_723 => (some []).bind fun y_724 => some (y_723 :: y_724)).bind fun y_726 => some (y_725 :: y_726)).bind fun y_728 => some (y_727 :: y_728)).bind (vtP 3)).bind fun y_731 => some (memB y_730 y_731.l)).bind fun c_838 => if c_838 = true then ((andO ((((some p_term).bind fun y_732 => asV y_732).bind fun y_733 => (some (1 : Int)).bind fun y_734 => atI y_733.l y_734).bind fun y_735 => isiP "int" (em y_735)) (andO (chI (fun i j => decide (i ≤ j)) (fun i j => decide (i ≤ j)) (some (0 : Int)) ((((some p_term).bind fun y_736 => asV y_736).bind fun y_737 => (some (1 : Int)).bind fun y_738 => atI y_737.l y_738).bind fun y_739 => asI y_739) (some (9 : Int))) ((((((some p_term).bind fun y_740 => asV y_740).bind fun y_741 => (some (2 : Int)).bind fun y_742 => atI y_741.l y_742).bind fun y_743 => (some ()).bind fun y_744 => some (y_743, y_744)).bind (fun a : D × Unit => R__law_sort n a.1)).bind fun y_746 => (some ("kind" : Str)).bind fun y_747 => some (decide (y_746 = y_747))))).bind fun c_751 => if c_751 = true then ((some ("noun" : Str)).bind fun r_748 => some r_748).bind fun r_750 => some (id r_750) else (some ("" : Str)).bind fun r_749 => some r_749).bind fun r_837 => some (id r_837) else (((((((some p_term).bind fun y_753 => asV y_753).bind fun y_754 => (some (1 : Int)).bind fun y_755 => atI y_754.l y_755).bind fun y_756 => (some ()).bind fun y_757 => some (y_756, y_757)).bind (fun a : D × Unit => R__law_sort n a.1)).bind fun y_767 => ((((((some p_term).bind fun y_759 => asV y_759).bind fun y_760 => (some (2 : Int)).bind fun y_761 => atI y_760.l y_761).bind fun y_762 => (some ()).bind fun y_763 => some (y_762, y_763)).bind (fun a : D × Unit => R__law_sort n a.1)).bind fun y_765 => (some []).bind fun y_766 => some (y_765 :: y_766)).bind fun y_768 => some (y_767 :: y_768)).bind lstP).bind fun v_sorts_752 => (andO (((some v_word_637).bind fun y_788 => asS y_788).bind fun y_789 => (((some ("both" : Str)).bind fun y_786 => ((some ("either" : Str)).bind fun y_784 => (some []).bind fun y_785 => some (y_784 :: y_785)).bind fun y_787 => some (y_786 :: y_787)).bind (vtP 2)).bind fun y_790 => some (memB y_789 y_790.l)) ((some v_sorts_752).bind fun y_797 => (((some ("kind" : Str)).bind fun y_793 => ((some ("kind" : Str)).bind fun y_791 => (some []).bind fun y_792 => some (y_791 :: y_792)).bind fun y_794 => some (y_793 :: y_794)).bind lstP).bind fun y_798 => eqP (em y_797) (em y_798))).bind fun c_836 => if c_836 = true then ((some ("kind" : Str)).bind fun r_799 => some r_799).bind fun r_835 => some (id r_835) else (andO ((some v_word_637).bind fun y_801 => ((some ("say" : Str)).bind fun y_800 => some (em y_800)).bind fun y_802 => eqD y_801 y_802) ((some v_sorts_752).bind fun y_809 => (((some ("noun" : Str)).bind fun y_805 => ((some ("kind" : Str)).bind fun y_803 => (some []).bind fun y_804 => some (y_803 :: y_804)).bind fun y_806 => some (y_805 :: y_806)).bind lstP).bind fun y_810 => eqP (em y_809) (em y_810))).bind fun c_834 => if c_834 = true then ((some ("sentence" : Str)).bind fun r_811 => some r_811).bind fun r_833 => some (id r_833) else (andO (((some v_word_637).bind fun y_818 => asS y_818).bind fun y_819 => (((some ("and" : Str)).bind fun y_816 => ((some ("or" : Str)).bind fun y_814 => ((some ("if" : Str)).bind fun y_812 => (some []).bind fun y_813 => some (y_812 :: y_813)).bind fun y_815 => some (y_814 :: y_815)).bind fun y_817 => some (y_816 :: y_817)).bind (vtP 3)).bind fun y_820 => some (memB y_819 y_820.l)) ((some v_sorts_752).bind fun y_827 => (((some ("sentence" : Str)).bind fun y_823 => ((some ("sentence" : Str)).bind fun y_821 => (some []).bind fun y_822 => some (y_821 :: y_822)).bind fun y_824 => some (y_823 :: y_824)).bind lstP).bind fun y_828 => eqP (em y_827) (em y_828))).bind fun c_832 => if c_832 = true then ((some ("sentence" : Str)).bind fun r_829 => some r_829).bind fun r_831 => some (id r_831) else (some ("" : Str)).bind fun r_830 => some r_830
/-! ### _law_other -/
def M__law_other (p_seed : Int) : Option Str := (((some ("kind" : Str)).bind fun y_866 => ((some ("both" : Str)).bind fun y_864 => ((some ("either" : Str)).bind fun y_862 => ((some ("non" : Str)).bind fun y_860 => ((some ("name" : Str)).bind fun y_858 => ((some ("every" : Str)).bind fun y_856 => ((some ("some" : Str)).bind fun y_854 => ((some ("no" : Str)).bind fun y_852 => ((some ("notevery" : Str)).bind fun y_850 => ((some ("atleast" : Str)).bind fun y_848 => ((some ("atmost" : Str)).bind fun y_846 => ((some ("exactly" : Str)).bind fun y_844 => (some []).bind fun y_845 => some (y_844 :: y_845)).bind fun y_847 => some (y_846 :: y_847)).bind fun y_849 => some (y_848 :: y_849)).bind fun y_851 => some (y_850 :: y_851)).bind fun y_853 => some (y_852 :: y_853)).bind fun y_855 => some (y_854 :: y_855)).bind fun y_857 => some (y_856 :: y_857)).bind fun y_859 => some (y_858 :: y_859)).bind fun y_861 => some (y_860 :: y_861)).bind fun y_863 => some (y_862 :: y_863)).bind fun y_865 => some (y_864 :: y_865)).bind fun y_867 => some (y_866 :: y_867)).bind lstP).bind fun v_words_843 => ((some v_words_843).bind fun y_917 => (((some ("say" : Str)).bind fun y_903 => ((some ("not" : Str)).bind fun y_901 => ((some ("and" : Str)).bind fun y_899 => ((some ("or" : Str)).bind fun y_897 => ((some ("if" : Str)).bind fun y_895 => ((some ("isle" : Str)).bind fun y_893 => ((some ("all" : Str)).bind fun y_891 => ((some ("" : Str)).bind fun y_889 => ((some ("most" : Str)).bind fun y_887 => ((some ("Not" : Str)).bind fun y_885 => ((some ("nots" : Str)).bind fun y_883 => ((some ("k" : Str)).bind fun y_881 => (some []).bind fun y_882 => some (y_881 :: y_882)).bind fun y_884 => some (y_883 :: y_884)).bind fun y_886 => some (y_885 :: y_886)).bind fun y_888 => some (y_887 :: y_888)).bind fun y_890 => some (y_889 :: y_890)).bind fun y_892 => some (y_891 :: y_892)).bind fun y_894 => some (y_893 :: y_894)).bind fun y_896 => some (y_895 :: y_896)).bind fun y_898 => some (y_897 :: y_898)).bind fun y_900 => some (y_899 :: y_900)).bind fun y_902 => some (y_901 :: y_902)).bind fun y_904 => some (y_903 :: y_904)).bind lstP).bind fun y_918 => catL y_917 y_918).bind fun v_words_880 => ((some v_words_880).bind fun y_920 => ((some p_seed).bind fun y_919 => some (Int.fmod y_919 (24 : Int))).bind fun y_921 => atI y_920 y_921).bind fun r_922 => some r_922
/-! ### _law_small -/
def M__law_small (p_seed : Int) : Option D := ((some ("kind" : Str)).bind fun y_924 => (some ("a" : Str)).bind fun y_925 => some (y_924, y_925)).bind fun v_kind_923 => ((some ("name" : Str)).bind fun y_927 => (some ("b" : Str)).bind fun y_928 => some (y_927, y_928)).bind fun v_name_926 => ((some ("say" : Str)).bind fun y_930 => (some v_name_926).bind fun y_931 => (some v_kind_923).bind fun y_932 => some (⟨y_930, y_931, y_932⟩ : T3 _ _ _)).bind fun v_say_929 => ((((some v_kind_923).bind fun y_970 => some (em y_970)).bind fun y_992 => (((some v_name_926).bind fun y_971 => some (em y_971)).bind fun y_990 => (((some v_say_929).bind fun y_972 => some (em y_972)).bind fun y_988 => ((((((some ("both" : Str)).bind fun y_934 => some (em y_934)).bind fun y_941 => (((some v_kind_923).bind fun y_935 => some (em y_935)).bind fun y_939 => (((some v_kind_923).bind fun y_936 => some (em y_936)).bind fun y_937 => (some []).bind fun y_938 => some (y_937 :: y_938)).bind fun y_940 => some (y_939 :: y_940)).bind fun y_942 => some (y_941 :: y_942)).bind (vtP 3)).bind fun y_973 => some (em y_973)).bind fun y_986 => ((((((some ("either" : Str)).bind fun y_943 => some (em y_943)).bind fun y_950 => (((some v_kind_923).bind fun y_944 => some (em y_944)).bind fun y_948 => (((some v_kind_923).bind fun y_945 => some (em y_945)).bind fun y_946 => (some []).bind fun y_947 => some (y_946 :: y_947)).bind fun y_949 => some (y_948 :: y_949)).bind fun y_951 => some (y_950 :: y_951)).bind (vtP 3)).bind fun y_974 => some (em y_974)).bind fun y_984 => ((((((some ("non" : Str)).bind fun y_952 => some (em y_952)).bind fun y_956 => (((some v_kind_923).bind fun y_953 => some (em y_953)).bind fun y_954 => (some []).bind fun y_955 => some (y_954 :: y_955)).bind fun y_957 => some (y_956 :: y_957)).bind (vtP 2)).bind fun y_975 => some (em y_975)).bind fun y_982 => ((((((some ("every" : Str)).bind fun y_958 => some (em y_958)).bind fun y_962 => (((some v_kind_923).bind fun y_959 => some (em y_959)).bind fun y_960 => (some []).bind fun y_961 => some (y_960 :: y_961)).bind fun y_963 => some (y_962 :: y_963)).bind (vtP 2)).bind fun y_976 => some (em y_976)).bind fun y_980 => ((((((some ("some" : Str)).bind fun y_964 => some (em y_964)).bind fun y_968 => (((some v_kind_923).bind fun y_965 => some (em y_965)).bind fun y_966 => (some []).bind fun y_967 => some (y_966 :: y_967)).bind fun y_969 => some (y_968 :: y_969)).bind (vtP 2)).bind fun y_977 => some (em y_977)).bind fun y_978 => (some []).bind fun y_979 => some (y_978 :: y_979)).bind fun y_981 => some (y_980 :: y_981)).bind fun y_983 => some (y_982 :: y_983)).bind fun y_985 => some (y_984 :: y_985)).bind fun y_987 => some (y_986 :: y_987)).bind fun y_989 => some (y_988 :: y_989)).bind fun y_991 => some (y_990 :: y_991)).bind fun y_993 => some (y_992 :: y_993)).bind lstP).bind fun v_terms_933 => ((some v_terms_933).bind fun y_1036 => (((((some ("no" : Str)).bind fun y_1003 => (some v_kind_923).bind fun y_1004 => some (y_1003, y_1004)).bind fun y_1016 => some (em y_1016)).bind fun y_1029 => ((((some ("notevery" : Str)).bind fun y_1005 => (some v_kind_923).bind fun y_1006 => some (y_1005, y_1006)).bind fun y_1017 => some (em y_1017)).bind fun y_1027 => ((((some ("atleast" : Str)).bind fun y_1007 => (some (9 : Int)).bind fun y_1008 => (some v_kind_923).bind fun y_1009 => some (⟨y_1007, y_1008, y_1009⟩ : T3 _ _ _)).bind fun y_1018 => some (em y_1018)).bind fun y_1025 => ((((some ("atmost" : Str)).bind fun y_1010 => (some (0 : Int)).bind fun y_1011 => (some v_kind_923).bind fun y_1012 => some (⟨y_1010, y_1011, y_1012⟩ : T3 _ _ _)).bind fun y_1019 => some (em y_1019)).bind fun y_1023 => ((((some ("exactly" : Str)).bind fun y_1013 => (some (5 : Int)).bind fun y_1014 => (some v_kind_923).bind fun y_1015 => some (⟨y_1013, y_1014, y_1015⟩ : T3 _ _ _)).bind fun y_1020 => some (em y_1020)).bind fun y_1021 => (some []).bind fun y_1022 => some (y_1021 :: y_1022)).bind fun y_1024 => some (y_1023 :: y_1024)).bind fun y_1026 => some (y_1025 :: y_1026)).bind fun y_1028 => some (y_1027 :: y_1028)).bind fun y_1030 => some (y_1029 :: y_1030)).bind lstP).bind fun y_1037 => catL y_1036 y_1037).bind fun v_terms_1002 => ((some v_terms_1002).bind fun y_1072 => (((((some ("not" : Str)).bind fun y_1039 => (some v_say_929).bind fun y_1040 => some (y_1039, y_1040)).bind fun y_1052 => some (em y_1052)).bind fun y_1065 => ((((some ("and" : Str)).bind fun y_1041 => (some v_say_929).bind fun y_1042 => (some v_say_929).bind fun y_1043 => some (⟨y_1041, y_1042, y_1043⟩ : T3 _ _ _)).bind fun y_1053 => some (em y_1053)).bind fun y_1063 => ((((some ("or" : Str)).bind fun y_1044 => (some v_say_929).bind fun y_1045 => (some v_say_929).bind fun y_1046 => some (⟨y_1044, y_1045, y_1046⟩ : T3 _ _ _)).bind fun y_1054 => some (em y_1054)).bind fun y_1061 => ((((some ("if" : Str)).bind fun y_1047 => (some v_say_929).bind fun y_1048 => (some v_say_929).bind fun y_1049 => some (⟨y_1047, y_1048, y_1049⟩ : T3 _ _ _)).bind fun y_1055 => some (em y_1055)).bind fun y_1059 => ((((some ("isle" : Str)).bind fun y_1050 => (some v_say_929).bind fun y_1051 => some (y_1050, y_1051)).bind fun y_1056 => some (em y_1056)).bind fun y_1057 => (some []).bind fun y_1058 => some (y_1057 :: y_1058)).bind fun y_1060 => some (y_1059 :: y_1060)).bind fun y_1062 => some (y_1061 :: y_1062)).bind fun y_1064 => some (y_1063 :: y_1064)).bind fun y_1066 => some (y_1065 :: y_1066)).bind lstP).bind fun y_1073 => catL y_1072 y_1073).bind fun v_terms_1038 => ((some v_terms_1038).bind fun y_1075 => ((some p_seed).bind fun y_1074 => some (Int.fmod y_1074 (18 : Int))).bind fun y_1076 => atI y_1075 y_1076).bind fun r_1077 => some r_1077
/-! ### _law_spoilt -/
def R__law_spoilt : Nat → D → Int → Bool → Option D
  | 0, _, _, _ => none
  | n + 1, p_term, p_seed, p_top => (((some (1 : Int)).bind fun y_1080 => ((some p_term).bind fun y_1079 => lenD y_1079).bind fun y_1081 => rngP y_1080 y_1081).bind fun y_1089 => lcC (fun v_k_1083 : Int => (((some p_term).bind fun y_1084 => asV y_1084).bind fun y_1085 => (some v_k_1083).bind fun y_1086 => atI y_1085.l y_1086).bind fun y_1087 => isiP "tuple" (em y_1087)) (fun v_k_1083 : Int => some v_k_1083) y_1089).bind fun v_places_1078 => (andO ((some v_places_1078).bind fun y_1090 => (some ([] : (List Int))).bind fun y_1091 => (eqP (em y_1090) (em y_1091)).bind fun z => some (!z)) (((some p_seed).bind fun y_1092 => some (Int.fmod y_1092 (4 : Int))).bind fun y_1093 => (some (0 : Int)).bind fun y_1094 => some (decide (y_1094 < y_1093)))).bind fun c_1464 => if c_1464 = true then (((some v_places_1078).bind fun y_1100 => (((some p_seed).bind fun y_1096 => some (Int.fdiv y_1096 (4 : Int))).bind fun y_1098 => ((some v_places_1078).bind fun y_1097 => some (List.length y_1097 : Int)).bind fun y_1099 => modP y_1098 y_1099).bind fun y_1101 => atI y_1100 y_1101).bind fun v_k_1095 => ((((((some p_term).bind fun y_1102 => asV y_1102).bind fun y_1104 => (some none).bind fun y_1105 => ((some v_k_1095).bind fun y_1103 => some (some y_1103)).bind fun y_1106 => cutT y_1104 y_1105 y_1106).bind fun y_1127 => (((((((some p_term).bind fun y_1107 => asV y_1107).bind fun y_1108 => (some v_k_1095).bind fun y_1109 => atI y_1108.l y_1109).bind fun y_1120 => ((((some p_seed).bind fun y_1112 => ((some (11 : Int)).bind fun y_1110 => (some ()).bind fun y_1111 => some (y_1110, y_1111)).bind fun y_1113 => some (y_1112, y_1113)).bind (fun a : Int × Int × Unit => M__law_next a.1 a.2.1)).bind fun y_1118 => ((some false).bind fun y_1116 => (some ()).bind fun y_1117 => some (y_1116, y_1117)).bind fun y_1119 => some (y_1118, y_1119)).bind fun y_1121 => some (y_1120, y_1121)).bind (fun a : D × Int × Bool × Unit => R__law_spoilt n a.1 a.2.1 a.2.2.1)).bind fun y_1125 => (some []).bind fun y_1126 => some (y_1125 :: y_1126)).bind (vtP 1)).bind fun y_1128 => catT y_1127 y_1128).bind fun y_1136 => (((some p_term).bind fun y_1129 => asV y_1129).bind fun y_1133 => (((some v_k_1095).bind fun y_1130 => (some (1 : Int)).bind fun y_1131 => some (y_1130 + y_1131)).bind fun y_1132 => some (some y_1132)).bind fun y_1134 => (some none).bind fun y_1135 => cutT y_1133 y_1134 y_1135).bind fun y_1137 => catT y_1136 y_1137).bind fun y_1138 => some (em y_1138)).bind fun r_1139 => some r_1139).bind fun r_1463 => some (id r_1463) else (((some p_seed).bind fun y_1141 => some (Int.fdiv y_1141 (4 : Int))).bind fun y_1142 => some (Int.fdiv y_1142 (14 : Int))).bind fun v_number_1140 => (((some p_seed).bind fun y_1144 => some (Int.fdiv y_1144 (4 : Int))).bind fun y_1145 => some (Int.fmod y_1145 (14 : Int))).bind fun v_kind_1143 => ((some v_kind_1143).bind fun y_1146 => (some (0 : Int)).bind fun y_1147 => some (decide (y_1146 = y_1147))).bind fun c_1462 => if c_1462 = true then ((((((((((some v_number_1140).bind fun y_1148 => (some ()).bind fun y_1149 => some (y_1148, y_1149)).bind (fun a : Int × Unit => M__law_other a.1)).bind fun y_1151 => (some []).bind fun y_1152 => some (y_1151 :: y_1152)).bind (vtP 1)).bind fun y_1158 => some (em y_1158)).bind fun y_1159 => asV y_1159).bind fun y_1162 => (((((some p_term).bind fun y_1153 => asV y_1153).bind fun y_1155 => ((some (1 : Int)).bind fun y_1154 => some (some y_1154)).bind fun y_1156 => (some none).bind fun y_1157 => cutT y_1155 y_1156 y_1157).bind fun y_1160 => some (em y_1160)).bind fun y_1161 => asV y_1161).bind fun y_1163 => catT y_1162 y_1163).bind fun y_1164 => some (em y_1164)).bind fun r_1165 => some r_1165).bind fun r_1461 => some (id r_1461) else ((some v_kind_1143).bind fun y_1166 => (some (1 : Int)).bind fun y_1167 => some (decide (y_1166 = y_1167))).bind fun c_1460 => if c_1460 = true then (((((some p_term).bind fun y_1168 => asV y_1168).bind fun y_1170 => (some none).bind fun y_1171 => ((some (-1 : Int)).bind fun y_1169 => some (some y_1169)).bind fun y_1172 => cutT y_1170 y_1171 y_1172).bind fun y_1173 => some (em y_1173)).bind fun r_1174 => some r_1174).bind fun r_1459 => some (id r_1459) else ((some v_kind_1143).bind fun y_1175 => (some (2 : Int)).bind fun y_1176 => some (decide (y_1175 = y_1176))).bind fun c_1458 => if c_1458 = true then (((((some p_term).bind fun y_1182 => asV y_1182).bind fun y_1183 => (((((some p_term).bind fun y_1177 => asV y_1177).bind fun y_1178 => (some (-1 : Int)).bind fun y_1179 => atI y_1178.l y_1179).bind fun y_1180 => (some []).bind fun y_1181 => some (y_1180 :: y_1181)).bind (vtP 1)).bind fun y_1184 => catT y_1183 y_1184).bind fun y_1185 => some (em y_1185)).bind fun r_1186 => some r_1186).bind fun r_1457 => some (id r_1457) else (orO ((some v_kind_1143).bind fun y_1187 => (some (3 : Int)).bind fun y_1188 => some (decide (y_1187 = y_1188))) ((some v_kind_1143).bind fun y_1189 => (some (4 : Int)).bind fun y_1190 => some (decide (y_1189 = y_1190)))).bind fun c_1456 => if c_1456 = true then ((((some ("" : Str)).bind fun y_1210 => (((some ("a" : Str)).bind fun y_1192 => (some (13 : Int)).bind fun y_1193 => mulS y_1192 y_1193).bind fun y_1208 => ((some ("Ab" : Str)).bind fun y_1206 => ((some ("a1" : Str)).bind fun y_1204 => ((some ("a b" : Str)).bind fun y_1202 => ((some ("-" : Str)).bind fun y_1200 => ((some ("~" : Str)).bind fun y_1198 => (((some ("a" : Str)).bind fun y_1194 => (some (12 : Int)).bind fun y_1195 => mulS y_1194 y_1195).bind fun y_1196 => (some []).bind fun y_1197 => some (y_1196 :: y_1197)).bind fun y_1199 => some (y_1198 :: y_1199)).bind fun y_1201 => some (y_1200 :: y_1201)).bind fun y_1203 => some (y_1202 :: y_1203)).bind fun y_1205 => some (y_1204 :: y_1205)).bind fun y_1207 => some (y_1206 :: y_1207)).bind fun y_1209 => some (y_1208 :: y_1209)).bind fun y_1211 => some (y_1210 :: y_1211)).bind lstP).bind fun v_names_1191 => ((((((((some ("kind" : Str)).bind fun y_1222 => ((some ("name" : Str)).bind fun y_1220 => (some []).bind fun y_1221 => some (y_1220 :: y_1221)).bind fun y_1223 => some (y_1222 :: y_1223)).bind lstP).bind fun y_1228 => ((some v_kind_1143).bind fun y_1226 => (some (3 : Int)).bind fun y_1227 => some (y_1226 - y_1227)).bind fun y_1229 => atI y_1228 y_1229).bind fun y_1233 => some (em y_1233)).bind fun y_1237 => ((((some v_names_1191).bind fun y_1231 => ((some v_number_1140).bind fun y_1230 => some (Int.fmod y_1230 (8 : Int))).bind fun y_1232 => atI y_1231 y_1232).bind fun y_1234 => some (em y_1234)).bind fun y_1235 => (some []).bind fun y_1236 => some (y_1235 :: y_1236)).bind fun y_1238 => some (y_1237 :: y_1238)).bind (vtP 2)).bind fun y_1239 => some (em y_1239)).bind fun r_1240 => some r_1240).bind fun r_1455 => some (id r_1455) else ((some v_kind_1143).bind fun y_1241 => (some (5 : Int)).bind fun y_1242 => some (decide (y_1241 = y_1242))).bind fun c_1454 => if c_1454 = true then (((((((((some ("atleast" : Str)).bind fun y_1247 => ((some ("atmost" : Str)).bind fun y_1245 => ((some ("exactly" : Str)).bind fun y_1243 => (some []).bind fun y_1244 => some (y_1243 :: y_1244)).bind fun y_1246 => some (y_1245 :: y_1246)).bind fun y_1248 => some (y_1247 :: y_1248)).bind lstP).bind fun y_1253 => ((some v_number_1140).bind fun y_1252 => some (Int.fmod y_1252 (3 : Int))).bind fun y_1254 => atI y_1253 y_1254).bind fun y_1279 => some (em y_1279)).bind fun y_1286 => ((((((some (-1 : Int)).bind fun y_1265 => ((some (10 : Int)).bind fun y_1263 => ((some (9 : Int)).bind fun y_1261 => ((some (0 : Int)).bind fun y_1259 => ((some (1000000000 : Int)).bind fun y_1257 => ((some (11 : Int)).bind fun y_1255 => (some []).bind fun y_1256 => some (y_1255 :: y_1256)).bind fun y_1258 => some (y_1257 :: y_1258)).bind fun y_1260 => some (y_1259 :: y_1260)).bind fun y_1262 => some (y_1261 :: y_1262)).bind fun y_1264 => some (y_1263 :: y_1264)).bind fun y_1266 => some (y_1265 :: y_1266)).bind lstP).bind fun y_1275 => (((some v_number_1140).bind fun y_1273 => some (Int.fdiv y_1273 (3 : Int))).bind fun y_1274 => some (Int.fmod y_1274 (6 : Int))).bind fun y_1276 => atI y_1275 y_1276).bind fun y_1280 => some (em y_1280)).bind fun y_1284 => ((((some ("kind" : Str)).bind fun y_1277 => (some ("a" : Str)).bind fun y_1278 => some (y_1277, y_1278)).bind fun y_1281 => some (em y_1281)).bind fun y_1282 => (some []).bind fun y_1283 => some (y_1282 :: y_1283)).bind fun y_1285 => some (y_1284 :: y_1285)).bind fun y_1287 => some (y_1286 :: y_1287)).bind (vtP 3)).bind fun y_1288 => some (em y_1288)).bind fun r_1289 => some r_1289).bind fun r_1453 => some (id r_1453) else (andO ((some v_kind_1143).bind fun y_1290 => (some (6 : Int)).bind fun y_1291 => some (decide (y_1290 = y_1291))) ((some p_top).bind fun y_1292 => some (!y_1292))).bind fun c_1452 => if c_1452 = true then ((((some v_number_1140).bind fun y_1293 => some (Int.fmod y_1293 (3 : Int))).bind fun y_1294 => some (em y_1294)).bind fun r_1295 => some r_1295).bind fun r_1451 => some (id r_1451) else (andO ((some v_kind_1143).bind fun y_1296 => (some (7 : Int)).bind fun y_1297 => some (decide (y_1296 = y_1297))) ((some p_top).bind fun y_1298 => some (!y_1298))).bind fun c_1450 => if c_1450 = true then ((((((some ("x" : Str)).bind fun y_1303 => ((some ("kind" : Str)).bind fun y_1301 => ((some ("" : Str)).bind fun y_1299 => (some []).bind fun y_1300 => some (y_1299 :: y_1300)).bind fun y_1302 => some (y_1301 :: y_1302)).bind fun y_1304 => some (y_1303 :: y_1304)).bind lstP).bind fun y_1309 => ((some v_number_1140).bind fun y_1308 => some (Int.fmod y_1308 (3 : Int))).bind fun y_1310 => atI y_1309 y_1310).bind fun y_1311 => some (em y_1311)).bind fun r_1312 => some r_1312).bind fun r_1449 => some (id r_1449) else (orO ((some v_kind_1143).bind fun y_1313 => (some (8 : Int)).bind fun y_1314 => some (decide (y_1313 = y_1314))) (orO ((some v_kind_1143).bind fun y_1315 => (some (6 : Int)).bind fun y_1316 => some (decide (y_1315 = y_1316))) ((some v_kind_1143).bind fun y_1317 => (some (7 : Int)).bind fun y_1318 => some (decide (y_1317 = y_1318))))).bind fun c_1448 => if c_1448 = true then ((((some v_number_1140).bind fun y_1319 => (some ()).bind fun y_1320 => some (y_1319, y_1320)).bind (fun a : Int × Unit => M__law_small a.1)).bind fun r_1322 => some r_1322).bind fun r_1447 => some (id r_1447) else ((some v_kind_1143).bind fun y_1323 => (some (9 : Int)).bind fun y_1324 => some (decide (y_1323 = y_1324))).bind fun c_1446 => if c_1446 = true then ((((some []).bind fun d => some (⟨d⟩ : Vt D)).bind fun y_1325 => some (em y_1325)).bind fun r_1326 => some r_1326).bind fun r_1445 => some (id r_1445) else (andO ((some v_kind_1143).bind fun y_1327 => (some (10 : Int)).bind fun y_1328 => some (decide (y_1327 = y_1328))) (((some p_term).bind fun y_1329 => lenD y_1329).bind fun y_1330 => (some (3 : Int)).bind fun y_1331 => some (decide (y_1330 = y_1331)))).bind fun c_1444 => if c_1444 = true then (((((((some p_term).bind fun y_1332 => asV y_1332).bind fun y_1333 => (some (0 : Int)).bind fun y_1334 => atI y_1333.l y_1334).bind fun y_1345 => ((((some p_term).bind fun y_1335 => asV y_1335).bind fun y_1336 => (some (2 : Int)).bind fun y_1337 => atI y_1336.l y_1337).bind fun y_1343 => ((((some p_term).bind fun y_1338 => asV y_1338).bind fun y_1339 => (some (1 : Int)).bind fun y_1340 => atI y_1339.l y_1340).bind fun y_1341 => (some []).bind fun y_1342 => some (y_1341 :: y_1342)).bind fun y_1344 => some (y_1343 :: y_1344)).bind fun y_1346 => some (y_1345 :: y_1346)).bind (vtP 3)).bind fun y_1347 => some (em y_1347)).bind fun r_1348 => some r_1348).bind fun r_1443 => some (id r_1443) else ((some v_kind_1143).bind fun y_1349 => (some (11 : Int)).bind fun y_1350 => some (decide (y_1349 = y_1350))).bind fun c_1442 => if c_1442 = true then (((((((((some v_number_1140).bind fun y_1351 => some (Int.fmod y_1351 (3 : Int))).bind fun y_1352 => (some []).bind fun y_1353 => some (y_1352 :: y_1353)).bind (vtP 1)).bind fun y_1359 => some (em y_1359)).bind fun y_1360 => asV y_1360).bind fun y_1363 => (((((some p_term).bind fun y_1354 => asV y_1354).bind fun y_1356 => ((some (1 : Int)).bind fun y_1355 => some (some y_1355)).bind fun y_1357 => (some none).bind fun y_1358 => cutT y_1356 y_1357 y_1358).bind fun y_1361 => some (em y_1361)).bind fun y_1362 => asV y_1362).bind fun y_1364 => catT y_1363 y_1364).bind fun y_1365 => some (em y_1365)).bind fun r_1366 => some r_1366).bind fun r_1441 => some (id r_1441) else ((some v_kind_1143).bind fun y_1367 => (some (12 : Int)).bind fun y_1368 => some (decide (y_1367 = y_1368))).bind fun c_1440 => if c_1440 = true then (((((some p_term).bind fun y_1369 => (some []).bind fun y_1370 => some (y_1369 :: y_1370)).bind (vtP 1)).bind fun y_1371 => some (em y_1371)).bind fun r_1372 => some r_1372).bind fun r_1439 => some (id r_1439) else (((((some ("kind" : Str)).bind fun y_1374 => (some (3 : Int)).bind fun y_1375 => some (y_1374, y_1375)).bind fun y_1389 => some (em y_1389)).bind fun y_1402 => ((((some ("atleast" : Str)).bind fun y_1378 => (some ("3" : Str)).bind fun y_1379 => ((some ("kind" : Str)).bind fun y_1376 => (some ("a" : Str)).bind fun y_1377 => some (y_1376, y_1377)).bind fun y_1380 => some (⟨y_1378, y_1379, y_1380⟩ : T3 _ _ _)).bind fun y_1390 => some (em y_1390)).bind fun y_1400 => ((((some ("name" : Str)).bind fun y_1383 => ((some ("kind" : Str)).bind fun y_1381 => (some ("a" : Str)).bind fun y_1382 => some (y_1381, y_1382)).bind fun y_1384 => some (y_1383, y_1384)).bind fun y_1391 => some (em y_1391)).bind fun y_1398 => ((((some ("non" : Str)).bind fun y_1385 => (some (0 : Int)).bind fun y_1386 => some (y_1385, y_1386)).bind fun y_1392 => some (em y_1392)).bind fun y_1396 => ((((some ("name" : Str)).bind fun y_1387 => (some (3 : Int)).bind fun y_1388 => some (y_1387, y_1388)).bind fun y_1393 => some (em y_1393)).bind fun y_1394 => (some []).bind fun y_1395 => some (y_1394 :: y_1395)).bind fun y_1397 => some (y_1396 :: y_1397)).bind fun y_1399 => some (y_1398 :: y_1399)).bind fun y_1401 => some (y_1400 :: y_1401)).bind fun y_1403 => some (y_1402 :: y_1403)).bind lstP).bind fun v_wrong_1373 => (((some v_wrong_1373).bind fun y_1433 => (((((some ("atmost" : Str)).bind fun y_1411 => (some ("0" : Str)).bind fun y_1412 => ((some ("kind" : Str)).bind fun y_1409 => (some ("a" : Str)).bind fun y_1410 => some (y_1409, y_1410)).bind fun y_1413 => some (⟨y_1411, y_1412, y_1413⟩ : T3 _ _ _)).bind fun y_1421 => some (em y_1421)).bind fun y_1428 => ((((some ("exactly" : Str)).bind fun y_1416 => (some ("" : Str)).bind fun y_1417 => ((some ("kind" : Str)).bind fun y_1414 => (some ("a" : Str)).bind fun y_1415 => some (y_1414, y_1415)).bind fun y_1418 => some (⟨y_1416, y_1417, y_1418⟩ : T3 _ _ _)).bind fun y_1422 => some (em y_1422)).bind fun y_1426 => ((((some ("every" : Str)).bind fun y_1419 => (some (2 : Int)).bind fun y_1420 => some (y_1419, y_1420)).bind fun y_1423 => some (em y_1423)).bind fun y_1424 => (some []).bind fun y_1425 => some (y_1424 :: y_1425)).bind fun y_1427 => some (y_1426 :: y_1427)).bind fun y_1429 => some (y_1428 :: y_1429)).bind lstP).bind fun y_1434 => catL y_1433 y_1434).bind fun y_1436 => ((some v_number_1140).bind fun y_1435 => some (Int.fmod y_1435 (8 : Int))).bind fun y_1437 => atI y_1436 y_1437).bind fun r_1438 => some r_1438
/-! ### _law_is -/
def M__law_is (p_actual : D) (p_due : D) : Option Bool := (andO ((some p_actual).bind fun y_1465 => isiP "str" (em y_1465)) ((some p_actual).bind fun y_1466 => (some p_due).bind fun y_1467 => eqD y_1466 y_1467)).bind fun r_1468 => some r_1468
/-! ### law -/
def M_law (p_script : (List Int)) : Option Bool := (((some p_script).bind fun y_1472 => ((some (60 : Int)).bind fun y_1470 => (some ()).bind fun y_1471 => some (y_1470, y_1471)).bind fun y_1473 => some (y_1472, y_1473)).bind (fun a : (List Int) × Int × Unit => M__law_draws a.1 a.2.1)).bind fun v_draws_1469 => ((some (3 : Int)).bind fun y_1476 => rngP 0 y_1476).bind fun y_1479 => (loopO (fun (s_1477 : Unit) (v_turn_1478 : Int) => (((((((some v_draws_1469).bind fun y_1481 => (some v_turn_1478).bind fun y_1482 => atI y_1481 y_1482).bind fun y_1483 => some (y_1483 * (1009 : Int))).bind fun y_1489 => (((some v_draws_1469).bind fun y_1486 => ((some (3 : Int)).bind fun y_1484 => (some v_turn_1478).bind fun y_1485 => some (y_1484 + y_1485)).bind fun y_1487 => atI y_1486 y_1487).bind fun y_1488 => some (Int.fmod y_1488 (1009 : Int))).bind fun y_1490 => some (y_1489 + y_1490)).bind fun y_1491 => some y_1491).bind fun y_1492 => some (Int.fmod y_1492 (2147483647 : Int))).bind fun v_seed_1480 => ((some (1 : Int)).bind fun y_1516 => (((some v_draws_1469).bind fun y_1496 => ((some (6 : Int)).bind fun y_1494 => (some v_turn_1478).bind fun y_1495 => some (y_1494 + y_1495)).bind fun y_1497 => atI y_1496 y_1497).bind fun y_1514 => ((((some (7 : Int)).bind fun y_1502 => ((some (20 : Int)).bind fun y_1500 => ((some (52 : Int)).bind fun y_1498 => (some []).bind fun y_1499 => some (y_1498 :: y_1499)).bind fun y_1501 => some (y_1500 :: y_1501)).bind fun y_1503 => some (y_1502 :: y_1503)).bind lstP).bind fun y_1512 => (((some v_draws_1469).bind fun y_1509 => ((some (9 : Int)).bind fun y_1507 => (some v_turn_1478).bind fun y_1508 => some (y_1507 + y_1508)).bind fun y_1510 => atI y_1509 y_1510).bind fun y_1511 => some (Int.fmod y_1511 (3 : Int))).bind fun y_1513 => atI y_1512 y_1513).bind fun y_1515 => modP y_1514 y_1515).bind fun y_1517 => some (y_1516 + y_1517)).bind fun v_many_1493 => (((some v_seed_1480).bind fun y_1521 => ((some v_many_1493).bind fun y_1519 => (some ()).bind fun y_1520 => some (y_1519, y_1520)).bind fun y_1522 => some (y_1521, y_1522)).bind (fun a : Int × Int × Unit => R__law_kind 64 a.1 a.2.1)).bind fun v_term_1518 => (((some v_turn_1478).bind fun y_1525 => (some (1 : Int)).bind fun y_1526 => some (decide (y_1525 = y_1526))).bind fun c_1673 => if c_1673 = true then (((some v_seed_1480).bind fun y_1531 => ((some v_many_1493).bind fun y_1529 => (some ()).bind fun y_1530 => some (y_1529, y_1530)).bind fun y_1532 => some (y_1531, y_1532)).bind (fun a : Int × Int × Unit => M__law_noun a.1 a.2.1)).bind fun v_term_1528 => some v_term_1528 else some v_term_1518).bind fun s_1527 : D => (((some v_turn_1478).bind fun y_1535 => (some (2 : Int)).bind fun y_1536 => some (decide (y_1535 = y_1536))).bind fun c_1672 => if c_1672 = true then (((some v_seed_1480).bind fun y_1543 => (((some (3 : Int)).bind fun y_1539 => (some v_many_1493).bind fun y_1540 => some (if y_1540 > y_1539 then y_1540 else y_1539)).bind fun y_1541 => (some ()).bind fun y_1542 => some (y_1541, y_1542)).bind fun y_1544 => some (y_1543, y_1544)).bind (fun a : Int × Int × Unit => R__law_sentence 64 a.1 a.2.1)).bind fun v_term_1538 => some v_term_1538 else some s_1527).bind fun s_1537 : D => (((((some v_draws_1469).bind fun y_1547 => (some (12 : Int)).bind fun y_1548 => atI y_1547 y_1548).bind fun y_1549 => some (Int.fmod y_1549 (6 : Int))).bind fun y_1551 => ((some v_turn_1478).bind fun y_1550 => some (y_1550 * (2 : Int))).bind fun y_1552 => some (decide (y_1551 = y_1552))).bind fun c_1671 => if c_1671 = true then ((((some v_draws_1469).bind fun y_1555 => (some (13 : Int)).bind fun y_1556 => atI y_1555 y_1556).bind fun y_1557 => (some ()).bind fun y_1558 => some (y_1557, y_1558)).bind (fun a : Int × Unit => M__law_small a.1)).bind fun v_term_1554 => (((((some v_draws_1469).bind fun y_1560 => (some (14 : Int)).bind fun y_1561 => atI y_1560 y_1561).bind fun y_1562 => some (Int.fmod y_1562 (3 : Int))).bind fun y_1563 => (some (44 : Int)).bind fun y_1564 => some (y_1563 + y_1564)).bind fun y_1565 => rngP 0 y_1565).bind fun y_1568 => (foldO (fun (s_1566 : D) (v_k_1567 : Int) => ((((((((some ("non" : Str)).bind fun y_1576 => ((some ("not" : Str)).bind fun y_1574 => ((some ("isle" : Str)).bind fun y_1572 => ((some ("not" : Str)).bind fun y_1570 => (some []).bind fun y_1571 => some (y_1570 :: y_1571)).bind fun y_1573 => some (y_1572 :: y_1573)).bind fun y_1575 => some (y_1574 :: y_1575)).bind fun y_1577 => some (y_1576 :: y_1577)).bind lstP).bind fun y_1585 => (((some v_draws_1469).bind fun y_1582 => (some (15 : Int)).bind fun y_1583 => atI y_1582 y_1583).bind fun y_1584 => some (Int.fmod y_1584 (4 : Int))).bind fun y_1586 => atI y_1585 y_1586).bind fun y_1587 => some (em y_1587)).bind fun y_1590 => ((some s_1566).bind fun y_1588 => (some []).bind fun y_1589 => some (y_1588 :: y_1589)).bind fun y_1591 => some (y_1590 :: y_1591)).bind (vtP 2)).bind fun y_1592 => some (em y_1592)).bind fun v_term_1569 => some v_term_1569) v_term_1554 y_1568).bind fun s_1566 => some s_1566 else some s_1537).bind fun s_1553 : D => (((some s_1553).bind fun y_1594 => (some []).bind fun y_1595 => some (y_1594 :: y_1595)).bind lstP).bind fun v_asked_1593 => ((some (9 : Int)).bind fun y_1597 => rngP 0 y_1597).bind fun y_1600 => (foldO (fun (s_1598 : (List D)) (v_k_1599 : Int) => ((((((some v_draws_1469).bind fun y_1607 => (((some (16 : Int)).bind fun y_1603 => ((some v_turn_1478).bind fun y_1602 => some (y_1602 * (9 : Int))).bind fun y_1604 => some (y_1603 + y_1604)).bind fun y_1605 => (some v_k_1599).bind fun y_1606 => some (y_1605 + y_1606)).bind fun y_1608 => atI y_1607 y_1608).bind fun y_1609 => some (y_1609 * (1009 : Int))).bind fun y_1615 => (((some v_draws_1469).bind fun y_1612 => ((some (43 : Int)).bind fun y_1610 => (some v_k_1599).bind fun y_1611 => some (y_1610 + y_1611)).bind fun y_1613 => atI y_1612 y_1613).bind fun y_1614 => some (Int.fmod y_1614 (1009 : Int))).bind fun y_1616 => some (y_1615 + y_1616)).bind fun y_1617 => some y_1617).bind fun y_1618 => some (Int.fmod y_1618 (2147483647 : Int))).bind fun v_number_1601 => (((some s_1553).bind fun y_1623 => ((some v_number_1601).bind fun y_1621 => ((some true).bind fun y_1619 => (some ()).bind fun y_1620 => some (y_1619, y_1620)).bind fun y_1622 => some (y_1621, y_1622)).bind fun y_1624 => some (y_1623, y_1624)).bind (fun a : D × Int × Bool × Unit => R__law_spoilt 70 a.1 a.2.1 a.2.2.1)).bind fun y_1629 => (appP s_1598 y_1629).bind fun v_asked_1628 => some v_asked_1628) v_asked_1593 y_1600).bind fun s_1598 => ((((some s_1553).bind fun y_1630 => asV y_1630).bind fun y_1632 => ((some (1 : Int)).bind fun y_1631 => some (some y_1631)).bind fun y_1633 => (some none).bind fun y_1634 => cutT y_1632 y_1633 y_1634).bind fun y_1635 => some y_1635.l).bind fun y_1638 => (foldO (fun (s_1636 : (List D)) (v_part_1637 : D) => (((some v_part_1637).bind fun y_1639 => isiP "tuple" (em y_1639)).bind fun c_1643 => if c_1643 = true then (some v_part_1637).bind fun y_1642 => (appP s_1636 y_1642).bind fun v_asked_1641 => some v_asked_1641 else some s_1636).bind fun s_1640 : (List D) => some s_1640) s_1598 y_1638).bind fun s_1636 => ((some s_1636).bind fun y_1647 => (((some s_1553).bind fun y_1644 => (some []).bind fun y_1645 => some (y_1644 :: y_1645)).bind lstP).bind fun y_1648 => catL y_1647 y_1648).bind fun y_1651 => (loopO (fun (s_1649 : Unit) (v_one_1650 : D) => ((((((((some v_one_1650).bind fun y_1652 => (some ()).bind fun y_1653 => some (y_1652, y_1653)).bind (fun a : D × Unit => R_sort_of 70 a.1)).bind fun y_1655 => some (em y_1655)).bind fun y_1662 => (((((some v_one_1650).bind fun y_1656 => (some ()).bind fun y_1657 => some (y_1656, y_1657)).bind (fun a : D × Unit => R__law_sort 70 a.1)).bind fun y_1659 => some (em y_1659)).bind fun y_1660 => (some ()).bind fun y_1661 => some (y_1660, y_1661)).bind fun y_1663 => some (y_1662, y_1663)).bind (fun a : D × D × Unit => M__law_is a.1 a.2.1)).bind fun y_1666 => some (!y_1666)).bind fun c_1669 => if c_1669 = true then ((some false).bind fun r_1667 => some r_1667).bind fun r_1668 => some (Fl.rt r_1668) else some (Fl.nx ()) : Option (Fl Bool Unit Unit))) () y_1651).bind (Lp.go (Fl.rt) fun s_1649 : Unit => some (Fl.nx ())) : Option (Fl Bool Unit Unit))) () y_1479).bind (Lp.go (fun x => x) fun s_1477 : Unit => ((some (18 : Int)).bind fun y_1674 => rngP 0 y_1674).bind fun y_1677 => (loopO (fun (s_1675 : Unit) (v_k_1676 : Int) => ((((((((((some v_k_1676).bind fun y_1678 => (some ()).bind fun y_1679 => some (y_1678, y_1679)).bind (fun a : Int × Unit => M__law_small a.1)).bind fun y_1681 => (some ()).bind fun y_1682 => some (y_1681, y_1682)).bind (fun a : D × Unit => R_sort_of 70 a.1)).bind fun y_1684 => some (em y_1684)).bind fun y_1694 => (((((((some v_k_1676).bind fun y_1685 => (some ()).bind fun y_1686 => some (y_1685, y_1686)).bind (fun a : Int × Unit => M__law_small a.1)).bind fun y_1688 => (some ()).bind fun y_1689 => some (y_1688, y_1689)).bind (fun a : D × Unit => R__law_sort 70 a.1)).bind fun y_1691 => some (em y_1691)).bind fun y_1692 => (some ()).bind fun y_1693 => some (y_1692, y_1693)).bind fun y_1695 => some (y_1694, y_1695)).bind (fun a : D × D × Unit => M__law_is a.1 a.2.1)).bind fun y_1698 => some (!y_1698)).bind fun c_1701 => if c_1701 = true then ((some false).bind fun r_1699 => some r_1699).bind fun r_1700 => some (Fl.rt r_1700) else some (Fl.nx ()) : Option (Fl Bool Unit Unit))) () y_1677).bind (Lp.go (fun x => x) fun s_1675 : Unit => (((((some (0 : Int)).bind fun y_1703 => (some ()).bind fun y_1704 => some (y_1703, y_1704)).bind (fun a : Int × Unit => M__law_small a.1)).bind fun y_1711 => ((((some (2 : Int)).bind fun y_1706 => (some ()).bind fun y_1707 => some (y_1706, y_1707)).bind (fun a : Int × Unit => M__law_small a.1)).bind fun y_1709 => (some []).bind fun y_1710 => some (y_1709 :: y_1710)).bind fun y_1712 => some (y_1711 :: y_1712)).bind lstP).bind fun v_high_1702 => ((some (57 : Int)).bind fun y_1715 => rngP 0 y_1715).bind fun y_1718 => (foldO (fun (s_1716 : (List D)) (v_k_1717 : Int) => (((((((some ("non" : Str)).bind fun y_1722 => some (em y_1722)).bind fun y_1725 => (((some s_1716).bind fun y_1720 => (some (0 : Int)).bind fun y_1721 => atI y_1720 y_1721).bind fun y_1723 => (some []).bind fun y_1724 => some (y_1723 :: y_1724)).bind fun y_1726 => some (y_1725 :: y_1726)).bind (vtP 2)).bind fun y_1749 => some (em y_1749)).bind fun y_1753 => (((((((((some ("not" : Str)).bind fun y_1729 => ((some ("isle" : Str)).bind fun y_1727 => (some []).bind fun y_1728 => some (y_1727 :: y_1728)).bind fun y_1730 => some (y_1729 :: y_1730)).bind lstP).bind fun y_1740 => ((((some v_draws_1469).bind fun y_1733 => (some (15 : Int)).bind fun y_1734 => atI y_1733 y_1734).bind fun y_1737 => ((some (4 : Int)).bind fun y_1735 => (some v_k_1717).bind fun y_1736 => some (y_1735 + y_1736)).bind fun y_1738 => divP y_1737 y_1738).bind fun y_1739 => some (Int.fmod y_1739 (2 : Int))).bind fun y_1741 => atI y_1740 y_1741).bind fun y_1744 => some (em y_1744)).bind fun y_1747 => (((some s_1716).bind fun y_1742 => (some (1 : Int)).bind fun y_1743 => atI y_1742 y_1743).bind fun y_1745 => (some []).bind fun y_1746 => some (y_1745 :: y_1746)).bind fun y_1748 => some (y_1747 :: y_1748)).bind (vtP 2)).bind fun y_1750 => some (em y_1750)).bind fun y_1751 => (some []).bind fun y_1752 => some (y_1751 :: y_1752)).bind fun y_1754 => some (y_1753 :: y_1754)).bind lstP).bind fun v_high_1719 => some v_high_1719) v_high_1702 y_1718).bind fun s_1716 => (orO ((((((((some s_1716).bind fun y_1757 => (some (0 : Int)).bind fun y_1758 => atI y_1757 y_1758).bind fun y_1759 => (some ()).bind fun y_1760 => some (y_1759, y_1760)).bind (fun a : D × Unit => R_sort_of 70 a.1)).bind fun y_1762 => some (em y_1762)).bind fun y_1766 => (((some ("kind" : Str)).bind fun y_1763 => some (em y_1763)).bind fun y_1764 => (some ()).bind fun y_1765 => some (y_1764, y_1765)).bind fun y_1767 => some (y_1766, y_1767)).bind (fun a : D × D × Unit => M__law_is a.1 a.2.1)).bind fun y_1770 => some (!y_1770)) ((((((((some s_1716).bind fun y_1771 => (some (1 : Int)).bind fun y_1772 => atI y_1771 y_1772).bind fun y_1773 => (some ()).bind fun y_1774 => some (y_1773, y_1774)).bind (fun a : D × Unit => R_sort_of 70 a.1)).bind fun y_1776 => some (em y_1776)).bind fun y_1780 => (((some ("sentence" : Str)).bind fun y_1777 => some (em y_1777)).bind fun y_1778 => (some ()).bind fun y_1779 => some (y_1778, y_1779)).bind fun y_1781 => some (y_1780, y_1781)).bind (fun a : D × D × Unit => M__law_is a.1 a.2.1)).bind fun y_1784 => some (!y_1784))).bind fun c_1800 => if c_1800 = true then ((some false).bind fun r_1785 => some r_1785).bind fun r_1799 => some (id r_1799) else ((((((((some []).bind fun d => some (⟨d⟩ : Vt D)).bind fun y_1786 => some (em y_1786)).bind fun y_1787 => (some ()).bind fun y_1788 => some (y_1787, y_1788)).bind (fun a : D × Unit => R_sort_of 70 a.1)).bind fun y_1790 => some (em y_1790)).bind fun y_1794 => (((some ("" : Str)).bind fun y_1791 => some (em y_1791)).bind fun y_1792 => (some ()).bind fun y_1793 => some (y_1792, y_1793)).bind fun y_1795 => some (y_1794, y_1795)).bind (fun a : D × D × Unit => M__law_is a.1 a.2.1)).bind fun r_1798 => some r_1798))
end K19

set_option Elab.async false
set_option linter.all false
set_option maxRecDepth 100000
set_option maxHeartbeats 8000000
namespace K19
open PySem PySem.Spec PyProof.Rows L2 T
def top (i : Nat) : Stmt := PySem.Challenge.pw_saidback_k19_sorts_of_terms.main.body.getD i (.Pass ⟨0, 0, 0, 0⟩)
abbrev s_is_name : Stmt := top 1
abbrev s_made_sort : Stmt := top 8
abbrev s_first_part : Stmt := top 9
abbrev s_head_is_right : Stmt := top 10
abbrev s_inner : Stmt := top 11
abbrev s_sort_of : Stmt := top 12
abbrev s__law_draws : Stmt := top 14
abbrev s__law_next : Stmt := top 15
abbrev s__law_name : Stmt := top 16
abbrev s__law_kind : Stmt := top 17
abbrev s__law_noun : Stmt := top 18
abbrev s__law_sentence : Stmt := top 19
abbrev s__law_is_name : Stmt := top 20
abbrev s__law_sort : Stmt := top 21
abbrev s__law_other : Stmt := top 22
abbrev s__law_small : Stmt := top 23
abbrev s__law_spoilt : Stmt := top 24
abbrev s__law_is : Stmt := top 25
abbrev s_law : Stmt := top 26
structure Zs (K : PySem.W.Frag) (w : World) (mg : Str → Option Value) : Prop where
  z_abs : mg "abs" = none
  z_all : mg "all" = none
  z_bool : mg "bool" = none
  z_int : mg "int" = none
  z_isinstance : mg "isinstance" = none
  z_len : mg "len" = none
  z_max : mg "max" = none
  z_range : mg "range" = none
  z_str : mg "str" = none
  z_tuple : mg "tuple" = none
  c_LEAVES : KD K w mg "LEAVES" K_LEAVES F_LEAVES
  c_KINDS_MADE : Gc K mg "KINDS_MADE" (em C_KINDS_MADE)
  c_NOUNS_MADE : Gc K mg "NOUNS_MADE" (em C_NOUNS_MADE)
  c_NUMBERED : Gc K mg "NUMBERED" (em C_NUMBERED)
  c_PARTS : KD K w mg "PARTS" K_PARTS F_PARTS
section
variable [Tabs]
variable {P : Program} {w : World} {K : PySem.W.Frag} {mg : Str → Option Value} {base : Heap}
theorem ok_is_name {f : Addr} {fd : FuncData} {c Pt : Addr} (F : FunT K "is_name" "is_name" s_is_name f fd c) (hT : Tabs.tab Pt) (TB : GxR.TabB base mg c Pt) (Z : Zs K w mg) : FnOk P w K mg base CX0 1 f fd ["text"] (spF K (fun a : Str × Unit => [.dat (em a.1)]) (fun a : Str × Unit => M_is_name a.1) fun x : Bool => .dat (em x)) :=
  fn_mkT (N := ["text", "sign"]) F ⟨rfl, rfl, rfl, by decide +kernel, rfl, by decide +kernel, by decide +kernel⟩ 1 rfl (fun _ => rfl) fun X C hcode eb em2 _ _ ⟨p_text, _⟩ => (g_ret (φ := fun x => x) (x_and (x_chI op_le op_le x_int (x_lenS C (x_var C 0) Z.z_len) x_int) (x_one (x_allS C (x_var C 0) hT (by rw [eb, em2]; exact TB) hcode gens_of (elt_btw rfl (by decide +kernel)) Z.z_all))) (fun _ _ _ _ z => z.1))
theorem ok_made_sort {f : Addr} {fd : FuncData} (F : Fun K "made_sort" "made_sort" s_made_sort f fd) (Z : Zs K w mg) : FnOk P w K mg base CX0 1 f fd ["word"] (spF K (fun a : Str × Unit => [.dat (em a.1)]) (fun a : Str × Unit => M_made_sort a.1) fun x : Str => .dat (em x)) :=
  fn_mk (N := ["word"]) F ⟨rfl, rfl, rfl, by decide +kernel, rfl, by decide +kernel, by decide +kernel⟩ 0 rfl (fun _ => rfl) fun X C ⟨p_word, _⟩ => (g_ifX (φ := id) (t_inKd C Z.c_LEAVES (x_var C 0)) (g_ret (φ := fun x => x) (x_asS (x_ixKd C Z.c_LEAVES (x_var C 0))) (fun _ _ _ _ z => z)) early_rn (g_ifX (φ := id) (t_inV (x_var C 0) (x_gc C Z.c_KINDS_MADE)) (g_ret (φ := fun x => x) x_str (fun _ _ _ _ z => z)) early_rn (g_ret (φ := fun x => x) (x_if (t_inV (x_var C 0) (x_gc C Z.c_NOUNS_MADE)) x_str x_str) (fun _ _ _ _ z => z.1))))
theorem ok_first_part {f : Addr} {fd : FuncData} (F : Fun K "first_part" "first_part" s_first_part f fd) (Z : Zs K w mg) : FnOk P w K mg base CX0 1 f fd ["word"] (spF K (fun a : Str × Unit => [.dat (em a.1)]) (fun a : Str × Unit => M_first_part a.1) fun x : Int => .dat (em x)) :=
  fn_mk (N := ["word"]) F ⟨rfl, rfl, rfl, by decide +kernel, rfl, by decide +kernel, by decide +kernel⟩ 0 rfl (fun _ => rfl) fun X C ⟨p_word, _⟩ => (g_ret (φ := fun x => x) (x_if (t_inV (x_var C 0) (x_gc C Z.c_NUMBERED)) x_int x_int) (fun _ _ _ _ z => z.1))
theorem ok_head_is_right {f : Addr} {fd : FuncData} (F : Fun K "head_is_right" "head_is_right" s_head_is_right f fd) (Z : Zs K w mg) {f_first_part : Addr} {fd_first_part : FuncData} {f_is_name : Addr} {fd_is_name : FuncData} (D_first_part : Df P w K mg base 1 "first_part" f_first_part fd_first_part ["word"] (spF K (fun a : Str × Unit => [.dat (em a.1)]) (fun a : Str × Unit => M_first_part a.1) fun x : Int => .dat (em x))) (D_is_name : Df P w K mg base 1 "is_name" f_is_name fd_is_name ["text"] (spF K (fun a : Str × Unit => [.dat (em a.1)]) (fun a : Str × Unit => M_is_name a.1) fun x : Bool => .dat (em x))) : FnOk P w K mg base CX0 2 f fd ["term"] (spF K (fun a : D × Unit => [.dat (em a.1)]) (fun a : D × Unit => M_head_is_right a.1) fun x : Bool => .dat (em x)) :=
  fn_mk (N := ["term", "word"]) F ⟨rfl, rfl, rfl, by decide +kernel, rfl, by decide +kernel, by decide +kernel⟩ 1 rfl (fun _ => rfl) fun X C ⟨p_term, _⟩ => (g_ifX (φ := id) (t_w (w_or (t_not (t_x (x_isi C (x_var C 0) kit_tuple Z.z_isinstance Z.z_tuple))) (w_or (t_not (t_tru (x_var C 0))) (w_or1 (t_not (t_x (x_isi C (x_ixV (x_asV (x_var C 0)) x_int) kit_str Z.z_isinstance Z.z_str))))))) (g_ret (φ := fun x => x) x_bl (fun _ _ _ _ z => z)) early_rn (g_set C 1 (x_ixV (x_asV (x_var C 0)) x_int) (fun v_word_33 => (g_ifX (φ := id) (t_inKd C Z.c_LEAVES (x_asS (x_var C 1))) (g_ret (φ := fun x => x) (x_and (x_eq (x_lenD C (x_var C 0) Z.z_len) x_int) (x_and (x_isi C (x_ixV (x_asV (x_var C 0)) x_int) kit_str Z.z_isinstance Z.z_str) (x_one (x_callD C D_is_name (a_dat (x_asS (x_ixV (x_asV (x_var C 0)) x_int)) a_nil))))) (fun _ _ _ _ z => z)) early_rn (g_ifX (φ := id) (t_w (w_or (t_ninKd C Z.c_PARTS (x_asS (x_var C 1))) (w_or1 (t_ne (x_lenD C (x_var C 0) Z.z_len) (x_add (x_callD C D_first_part (a_dat (x_asS (x_var C 1)) a_nil)) (x_lenD C (x_ixKd C Z.c_PARTS (x_asS (x_var C 1))) Z.z_len)))))) (g_ret (φ := fun x => x) x_bl (fun _ _ _ _ z => z)) early_rn (g_ifX (φ := id) (t_ninV (x_asS (x_var C 1)) (x_gc C Z.c_NUMBERED)) (g_ret (φ := fun x => x) x_bl (fun _ _ _ _ z => z)) early_rn (g_ret (φ := fun x => x) (x_and (x_isi C (x_ixV (x_asV (x_var C 0)) x_int) kit_int Z.z_isinstance Z.z_int) (x_and (x_not (x_isi C (x_ixV (x_asV (x_var C 0)) x_int) kit_bool Z.z_isinstance Z.z_bool)) (x_one (x_chI op_le op_le x_int (x_asI (x_ixV (x_asV (x_var C 0)) x_int)) x_int)))) (fun _ _ _ _ z => z.1))))))))
theorem ok_inner {f : Addr} {fd : FuncData} (F : Fun K "inner" "inner" s_inner f fd) (Z : Zs K w mg) {f_first_part : Addr} {fd_first_part : FuncData} (D_first_part : Df P w K mg base 1 "first_part" f_first_part fd_first_part ["word"] (spF K (fun a : Str × Unit => [.dat (em a.1)]) (fun a : Str × Unit => M_first_part a.1) fun x : Int => .dat (em x))) : FnOk P w K mg base CX0 2 f fd ["term"] (spF K (fun a : D × Unit => [.dat (em a.1)]) (fun a : D × Unit => M_inner a.1) fun x : D => .dat (em x)) :=
  fn_mk (N := ["term"]) F ⟨rfl, rfl, rfl, by decide +kernel, rfl, by decide +kernel, by decide +kernel⟩ 0 rfl (fun _ => rfl) fun X C ⟨p_term, _⟩ => (g_ifX (φ := id) (t_inKd C Z.c_LEAVES (x_asS (x_ixV (x_asV (x_var C 0)) x_int))) (g_ret (φ := fun x => x) (x_D (x_tupV (τ := D) i_nil (fun x h => by cases h; decide))) (fun _ _ _ _ z => z)) early_rn (g_ret (φ := fun x => x) (x_D (x_cutT (x_asV (x_var C 0)) (o_some (x_callD C D_first_part (a_dat (x_asS (x_ixV (x_asV (x_var C 0)) x_int)) a_nil))) o_none)) (fun _ _ _ _ z => z.1)))
theorem ok_sort_of {f : Addr} {fd : FuncData} (F : Fun K "sort_of" "sort_of" s_sort_of f fd) (Z : Zs K w mg) {f_head_is_right : Addr} {fd_head_is_right : FuncData} {f_inner : Addr} {fd_inner : FuncData} {f_made_sort : Addr} {fd_made_sort : FuncData} (D_head_is_right : Df P w K mg base 2 "head_is_right" f_head_is_right fd_head_is_right ["term"] (spF K (fun a : D × Unit => [.dat (em a.1)]) (fun a : D × Unit => M_head_is_right a.1) fun x : Bool => .dat (em x))) (D_inner : Df P w K mg base 2 "inner" f_inner fd_inner ["term"] (spF K (fun a : D × Unit => [.dat (em a.1)]) (fun a : D × Unit => M_inner a.1) fun x : D => .dat (em x))) (D_made_sort : Df P w K mg base 1 "made_sort" f_made_sort fd_made_sort ["word"] (spF K (fun a : Str × Unit => [.dat (em a.1)]) (fun a : Str × Unit => M_made_sort a.1) fun x : Str => .dat (em x))) (hmg : mg "sort_of" = some (.ref f)) (hkp : PySem.W.keepIn K (.ref f) = true) (hbd : Binds K fd ["term"] []) : ∀ n, FnOk P w K mg base CX0 (n + 3) f fd ["term"] (spF K (fun a : D × Unit => [.dat (em a.1)]) (fun a : D × Unit => R_sort_of n a.1) fun x : Str => .dat (em x))
  | 0 => fn_none fun _ => rfl
  | n + 1 => by
    have D_sort_of : Df P w K mg base (n + 3) "sort_of" f fd ["term"] (spF K (fun a : D × Unit => [.dat (em a.1)]) (fun a : D × Unit => R_sort_of n a.1) fun x : Str => .dat (em x)) := ⟨ok_sort_of F Z D_head_is_right D_inner D_made_sort hmg hkp hbd n, hmg, hkp, hbd⟩
    exact fn_mk (N := ["term", "parts", "k"]) F ⟨rfl, rfl, rfl, by decide +kernel, rfl, by decide +kernel, by decide +kernel⟩ 2 rfl (fun _ => rfl) fun X C ⟨p_term, _⟩ => (g_ifX (φ := id) (t_not (t_x (x_callD C D_head_is_right (a_dat (x_var C 0) a_nil) (hj := by omega)))) (g_ret (φ := fun x => x) x_str (fun _ _ _ _ z => z)) early_rn (g_set C 1 (x_callD C D_inner (a_dat (x_var C 0) a_nil) (hj := by omega)) (fun v_parts_123 => (g_forF (envL := fun s_129 : Unit => [.dat (em (p_term : D)), .dat (em (v_parts_123 : D)), .any]) (res := fun x : Str => .dat (em x)) (φ := fun x => x) C (w_rng1 C (x_lenD C (x_var C 1) Z.z_len) Z.z_range) (fun s_129 => (gt_name C 2)) (.same (.same (.same .nil))) (fun s_129 v_k_130 => (g_ifX (φ := Fl.rt) (t_neP C (x_callD C D_sort_of (a_dat (x_ixV (x_asV (x_var C 1)) (x_var C 2)) a_nil) (hj := Nat.le_refl _)) (x_ixV (x_asV (x_ixKd C Z.c_PARTS (x_asS (x_ixV (x_asV (x_var C 0)) x_int)))) (x_var C 2))) (g_ret (φ := fun x => x) x_str (fun _ _ _ _ z => z)) early_rf (g_nilF (.same (.same (.drop .nil)))))) hzD (fun s_129 => (g_ret (φ := fun x => x) (x_callD C D_made_sort (a_dat (x_asS (x_ixV (x_asV (x_var C 0)) x_int)) a_nil) (hj := by omega)) (fun _ _ _ _ z => z.1)))))))
theorem ok__law_draws {f : Addr} {fd : FuncData} (F : Fun K "_law_draws" "_law_draws" s__law_draws f fd) (Z : Zs K w mg) : FnOk P w K mg base CX0 1 f fd ["script", "count"] (spF K (fun a : (List Int) × Int × Unit => [.bor (List.map em a.1), .dat (em a.2.1)]) (fun a : (List Int) × Int × Unit => M__law_draws a.1 a.2.1) fun x : (List Int) => .own (List.map em x)) :=
  fn_mk (N := ["script", "count", "cells", "many", "draws", "k", "at", "cell", "mixed"]) F ⟨rfl, rfl, rfl, by decide +kernel, rfl, by decide +kernel, by decide +kernel⟩ 7 rfl (fun _ => rfl) fun X C ⟨p_script, p_count, _⟩ => (g_setLc (own := [("cell", 7)]) (envC := [.bor (List.map em (p_script : (List Int))), .dat (em (p_count : Int)), .any, .any, .any, .any, .any, .any, .any]) C 2 (w_bor C 0) (lcP_no (fun X_167 C_163 => (gt_name C_163 7)) (fun X_167 C_163 v_cell_164 => (x_abs C_163 (x_intI C_163 (x_var C_163 7) Z.z_int) Z.z_abs))) (by decide +kernel) (ownS rfl own0) (.same (.same (.same (.same (.same (.same (.same (.same (.same .nil))))))))) (by decide) (hr := fun v_cells_162 => (g_ifJ (envJ := fun s_172 : (List Int) => [.bor (List.map em (p_script : (List Int))), .dat (em (p_count : Int)), .own (List.map em (s_172 : (List Int))), .any, .any, .any, .any, .any, .any]) (t_eq (x_lenQ C (q_own C 2) Z.z_len) x_int) (g_setL C 2 (l_lst (i_cons x_int i_nil)) (fun v_cells_173 => (g_nil (.same (.same (.same (.same (.same (.same (.same (.same (.same .nil)))))))))))) (g_nil (.same (.same (.same (.same (.same (.same (.same (.same (.same .nil)))))))))) (fun s_172 => (g_set C 3 (x_lenQ C (q_own C 2) Z.z_len) (fun v_many_177 => (g_setL C 4 l_nil (fun v_draws_179 => (g_for (envL := fun s_181 : ((List Int) × (List Int)) => [.bor (List.map em (p_script : (List Int))), .dat (em (p_count : Int)), .own (List.map em (s_181.1 : (List Int))), .dat (em (v_many_177 : Int)), .own (List.map em (s_181.2 : (List Int))), .any, .any, .any, .any]) C (w_rng1 C (x_var C 1) Z.z_range) (fun s_181 => (gt_name C 5)) (.same (.same (.same (.same (.same (.same (.same (.same (.same .nil))))))))) (fun s_181 v_k_182 => (g_set C 6 (x_mod (x_var C 5) (x_var C 3)) (fun v_at_184 => (g_set C 7 (x_ixQ (q_own C 2) (x_var C 6)) (fun v_cell_187 => (g_ifJ (envJ := fun s_192 : ((List Int) × (List Int)) => [.bor (List.map em (p_script : (List Int))), .dat (em (p_count : Int)), .own (List.map em (s_192.1 : (List Int))), .dat (em (v_many_177 : Int)), .own (List.map em (s_192.2 : (List Int))), .dat (em (v_k_182 : Int)), .dat (em (v_at_184 : Int)), .dat (em (v_cell_187 : Int)), .any]) (t_ge (x_var C 7) (x_powC)) (g_append C 4 (x_modC (x_intI C (x_var C 7) Z.z_int)) (fun v_draws_195 => (g_setItem C 2 (x_divC (x_var C 7)) (x_var C 6) (fun v_cells_197 => (g_nil (.same (.same (.same (.same (.same (.same (.same (.same (.same .nil)))))))))))))) (g_set C 8 (x_modC (x_add (x_add (x_mulCr (x_var C 7)) (x_mulCr (x_var C 5))) x_int)) (fun v_mixed_203 => (g_append C 4 (x_modC (x_add (x_add (x_mul (x_var C 8) (x_var C 8)) (x_mulCr (x_var C 7))) (x_var C 5))) (fun v_draws_219 => (g_nil (.same (.same (.same (.same (.same (.same (.same (.same (.drop .nil)))))))))))))) (fun s_192 => (g_nil (.same (.same (.same (.same (.same (.drop (.drop (.drop (.same .nil))))))))))))))))) (fun s_181 => (g_retO C 4 (fun _ _ _ z => z.1))))))))))))
theorem ok__law_next {f : Addr} {fd : FuncData} (F : Fun K "_law_next" "_law_next" s__law_next f fd) (Z : Zs K w mg) : FnOk P w K mg base CX0 1 f fd ["seed", "k"] (spF K (fun a : Int × Int × Unit => [.dat (em a.1), .dat (em a.2.1)]) (fun a : Int × Int × Unit => M__law_next a.1 a.2.1) fun x : Int => .dat (em x)) :=
  fn_mk (N := ["seed", "k"]) F ⟨rfl, rfl, rfl, by decide +kernel, rfl, by decide +kernel, by decide +kernel⟩ 0 rfl (fun _ => rfl) fun X C ⟨p_seed, p_k, _⟩ => (g_ret (φ := fun x => x) (x_modC (x_add (x_add (x_mulCr (x_var C 0)) (x_mulCr (x_var C 1))) x_int)) (fun _ _ _ _ z => z.1))
theorem ok__law_name {f : Addr} {fd : FuncData} (F : Fun K "_law_name" "_law_name" s__law_name f fd) (Z : Zs K w mg) : FnOk P w K mg base CX0 1 f fd ["seed"] (spF K (fun a : Int × Unit => [.dat (em a.1)]) (fun a : Int × Unit => M__law_name a.1) fun x : Str => .dat (em x)) :=
  fn_mk (N := ["seed", "names"]) F ⟨rfl, rfl, rfl, by decide +kernel, rfl, by decide +kernel, by decide +kernel⟩ 1 rfl (fun _ => rfl) fun X C ⟨p_seed, _⟩ => (g_setL C 1 (l_lst (i_cons x_str (i_cons x_str (i_cons x_str (i_cons x_str (i_cons x_str (i_cons x_str (i_cons x_str (i_cons x_str (i_cons x_str (i_cons x_str (i_cons x_str i_nil)))))))))))) (fun v_names_231 => (g_ret (φ := fun x => x) (x_ixQ (q_own C 1) (x_modC (x_var C 0))) (fun _ _ _ _ z => z.1))))
theorem ok__law_kind {f : Addr} {fd : FuncData} (F : Fun K "_law_kind" "_law_kind" s__law_kind f fd) (Z : Zs K w mg) {f__law_name : Addr} {fd__law_name : FuncData} {f__law_next : Addr} {fd__law_next : FuncData} (D__law_name : Df P w K mg base 1 "_law_name" f__law_name fd__law_name ["seed"] (spF K (fun a : Int × Unit => [.dat (em a.1)]) (fun a : Int × Unit => M__law_name a.1) fun x : Str => .dat (em x))) (D__law_next : Df P w K mg base 1 "_law_next" f__law_next fd__law_next ["seed", "k"] (spF K (fun a : Int × Int × Unit => [.dat (em a.1), .dat (em a.2.1)]) (fun a : Int × Int × Unit => M__law_next a.1 a.2.1) fun x : Int => .dat (em x))) (hmg : mg "_law_kind" = some (.ref f)) (hkp : PySem.W.keepIn K (.ref f) = true) (hbd : Binds K fd ["seed", "many"] []) : ∀ n, FnOk P w K mg base CX0 (n + 2) f fd ["seed", "many"] (spF K (fun a : Int × Int × Unit => [.dat (em a.1), .dat (em a.2.1)]) (fun a : Int × Int × Unit => R__law_kind n a.1 a.2.1) fun x : D => .dat (em x))
  | 0 => fn_none fun _ => rfl
  | n + 1 => by
    have D__law_kind : Df P w K mg base (n + 2) "_law_kind" f fd ["seed", "many"] (spF K (fun a : Int × Int × Unit => [.dat (em a.1), .dat (em a.2.1)]) (fun a : Int × Int × Unit => R__law_kind n a.1 a.2.1) fun x : D => .dat (em x)) := ⟨ok__law_kind F Z D__law_name D__law_next hmg hkp hbd n, hmg, hkp, hbd⟩
    exact fn_mk (N := ["seed", "many", "left", "one"]) F ⟨rfl, rfl, rfl, by decide +kernel, rfl, by decide +kernel, by decide +kernel⟩ 2 rfl (fun _ => rfl) fun X C ⟨p_seed, p_many, _⟩ => (g_ifX (φ := id) (t_eq (x_var C 1) x_int) (g_ret (φ := fun x => x) (x_D (x_tupP (i_cons (x_D x_str) (i_cons (x_D (x_callD C D__law_name (a_dat (x_divC (x_var C 0)) a_nil) (hj := by omega))) i_nil)))) (fun _ _ _ _ z => z)) early_rn (g_ifX (φ := id) (t_w (w_or (t_eq (x_var C 1) x_int) (w_or1 (t_eq (x_modC (x_var C 0)) x_int)))) (g_ret (φ := fun x => x) (x_D (x_tupP (i_cons (x_D x_str) (i_cons (x_callD C D__law_kind (a_dat (x_callD C D__law_next (a_dat (x_var C 0) (a_dat x_int a_nil)) (hj := by omega)) (a_dat (x_sub (x_var C 1) x_int) a_nil)) (hj := Nat.le_refl _)) i_nil)))) (fun _ _ _ _ z => z)) early_rn (g_set C 2 (x_add x_int (x_mod (x_divC (x_var C 0)) (x_sub (x_var C 1) x_int))) (fun v_left_309 => (g_set C 3 (x_callD C D__law_kind (a_dat (x_callD C D__law_next (a_dat (x_var C 0) (a_dat x_int a_nil)) (hj := by omega)) (a_dat (x_var C 2) a_nil)) (hj := Nat.le_refl _)) (fun v_one_317 => (g_ret (φ := fun x => x) (x_D (x_tupP (i_cons (x_D (x_ixQ (q_l (l_lst (i_cons x_str (i_cons x_str i_nil)))) (x_modC (x_divC (x_var C 0))))) (i_cons (x_var C 3) (i_cons (x_callD C D__law_kind (a_dat (x_callD C D__law_next (a_dat (x_var C 0) (a_dat x_int a_nil)) (hj := by omega)) (a_dat (x_sub (x_sub (x_var C 1) x_int) (x_var C 2)) a_nil)) (hj := Nat.le_refl _)) i_nil))))) (fun _ _ _ _ z => z.1))))))))
theorem ok__law_noun {f : Addr} {fd : FuncData} (F : Fun K "_law_noun" "_law_noun" s__law_noun f fd) (Z : Zs K w mg) {f__law_kind : Addr} {fd__law_kind : FuncData} {f__law_name : Addr} {fd__law_name : FuncData} {f__law_next : Addr} {fd__law_next : FuncData} (D__law_kind : Df P w K mg base 66 "_law_kind" f__law_kind fd__law_kind ["seed", "many"] (spF K (fun a : Int × Int × Unit => [.dat (em a.1), .dat (em a.2.1)]) (fun a : Int × Int × Unit => R__law_kind 64 a.1 a.2.1) fun x : D => .dat (em x))) (D__law_name : Df P w K mg base 1 "_law_name" f__law_name fd__law_name ["seed"] (spF K (fun a : Int × Unit => [.dat (em a.1)]) (fun a : Int × Unit => M__law_name a.1) fun x : Str => .dat (em x))) (D__law_next : Df P w K mg base 1 "_law_next" f__law_next fd__law_next ["seed", "k"] (spF K (fun a : Int × Int × Unit => [.dat (em a.1), .dat (em a.2.1)]) (fun a : Int × Int × Unit => M__law_next a.1 a.2.1) fun x : Int => .dat (em x))) : FnOk P w K mg base CX0 67 f fd ["seed", "many"] (spF K (fun a : Int × Int × Unit => [.dat (em a.1), .dat (em a.2.1)]) (fun a : Int × Int × Unit => M__law_noun a.1 a.2.1) fun x : D => .dat (em x)) :=
  fn_mk (N := ["seed", "many", "kind", "word"]) F ⟨rfl, rfl, rfl, by decide +kernel, rfl, by decide +kernel, by decide +kernel⟩ 2 rfl (fun _ => rfl) fun X C ⟨p_seed, p_many, _⟩ => (g_ifX (φ := id) (t_eq (x_var C 1) x_int) (g_ret (φ := fun x => x) (x_D (x_tupP (i_cons (x_D x_str) (i_cons (x_D (x_callD C D__law_name (a_dat (x_divC (x_var C 0)) a_nil))) i_nil)))) (fun _ _ _ _ z => z)) early_rn (g_set C 2 (x_callD C D__law_kind (a_dat (x_callD C D__law_next (a_dat (x_var C 0) (a_dat x_int a_nil))) (a_dat (x_sub (x_var C 1) x_int) a_nil))) (fun v_kind_383 => (g_set C 3 (x_ixQ (q_l (l_lst (i_cons x_str (i_cons x_str (i_cons x_str (i_cons x_str (i_cons x_str (i_cons x_str (i_cons x_str i_nil))))))))) (x_modC (x_var C 0))) (fun v_word_398 => (g_ifX (φ := id) (t_lt (x_modC (x_var C 0)) x_int) (g_ret (φ := fun x => x) (x_D (x_tupP (i_cons (x_D (x_var C 3)) (i_cons (x_var C 2) i_nil)))) (fun _ _ _ _ z => z)) early_rn (g_ret (φ := fun x => x) (x_D (x_tupP (i_cons (x_D (x_var C 3)) (i_cons (x_D (x_modC (x_divC (x_var C 0)))) (i_cons (x_var C 2) i_nil))))) (fun _ _ _ _ z => z.1))))))))
theorem ok__law_sentence {f : Addr} {fd : FuncData} (F : Fun K "_law_sentence" "_law_sentence" s__law_sentence f fd) (Z : Zs K w mg) {f__law_kind : Addr} {fd__law_kind : FuncData} {f__law_next : Addr} {fd__law_next : FuncData} {f__law_noun : Addr} {fd__law_noun : FuncData} (D__law_kind : Df P w K mg base 66 "_law_kind" f__law_kind fd__law_kind ["seed", "many"] (spF K (fun a : Int × Int × Unit => [.dat (em a.1), .dat (em a.2.1)]) (fun a : Int × Int × Unit => R__law_kind 64 a.1 a.2.1) fun x : D => .dat (em x))) (D__law_next : Df P w K mg base 1 "_law_next" f__law_next fd__law_next ["seed", "k"] (spF K (fun a : Int × Int × Unit => [.dat (em a.1), .dat (em a.2.1)]) (fun a : Int × Int × Unit => M__law_next a.1 a.2.1) fun x : Int => .dat (em x))) (D__law_noun : Df P w K mg base 67 "_law_noun" f__law_noun fd__law_noun ["seed", "many"] (spF K (fun a : Int × Int × Unit => [.dat (em a.1), .dat (em a.2.1)]) (fun a : Int × Int × Unit => M__law_noun a.1 a.2.1) fun x : D => .dat (em x))) (hmg : mg "_law_sentence" = some (.ref f)) (hkp : PySem.W.keepIn K (.ref f) = true) (hbd : Binds K fd ["seed", "many"] []) : ∀ n, FnOk P w K mg base CX0 (n + 68) f fd ["seed", "many"] (spF K (fun a : Int × Int × Unit => [.dat (em a.1), .dat (em a.2.1)]) (fun a : Int × Int × Unit => R__law_sentence n a.1 a.2.1) fun x : D => .dat (em x))
  | 0 => fn_none fun _ => rfl
  | n + 1 => by
    have D__law_sentence : Df P w K mg base (n + 68) "_law_sentence" f fd ["seed", "many"] (spF K (fun a : Int × Int × Unit => [.dat (em a.1), .dat (em a.2.1)]) (fun a : Int × Int × Unit => R__law_sentence n a.1 a.2.1) fun x : D => .dat (em x)) := ⟨ok__law_sentence F Z D__law_kind D__law_next D__law_noun hmg hkp hbd n, hmg, hkp, hbd⟩
    exact fn_mk (N := ["seed", "many", "left", "one"]) F ⟨rfl, rfl, rfl, by decide +kernel, rfl, by decide +kernel, by decide +kernel⟩ 2 rfl (fun _ => rfl) fun X C ⟨p_seed, p_many, _⟩ => (g_ifX (φ := id) (t_w (w_and (t_gt (x_var C 1) x_int) (w_and1 (t_eq (x_modC (x_var C 0)) x_int)))) (g_ret (φ := fun x => x) (x_D (x_tupP (i_cons (x_D (x_ixQ (q_l (l_lst (i_cons x_str (i_cons x_str i_nil)))) (x_modC (x_divC (x_var C 0))))) (i_cons (x_callD C D__law_sentence (a_dat (x_callD C D__law_next (a_dat (x_var C 0) (a_dat x_int a_nil)) (hj := by omega)) (a_dat (x_sub (x_var C 1) x_int) a_nil)) (hj := Nat.le_refl _)) i_nil)))) (fun _ _ _ _ z => z)) early_rn (g_ifX (φ := id) (t_w (w_and (t_gt (x_var C 1) x_int) (w_and1 (t_lt (x_modC (x_var C 0)) x_int)))) (g_set C 2 (x_add x_int (x_mod (x_divC (x_var C 0)) (x_sub (x_var C 1) x_int))) (fun v_left_490 => (g_set C 3 (x_callD C D__law_sentence (a_dat (x_callD C D__law_next (a_dat (x_var C 0) (a_dat x_int a_nil)) (hj := by omega)) (a_dat (x_var C 2) a_nil)) (hj := Nat.le_refl _)) (fun v_one_498 => (g_ret (φ := fun x => x) (x_D (x_tupP (i_cons (x_D (x_ixQ (q_l (l_lst (i_cons x_str (i_cons x_str (i_cons x_str i_nil))))) (x_modC (x_divC (x_var C 0))))) (i_cons (x_var C 3) (i_cons (x_callD C D__law_sentence (a_dat (x_callD C D__law_next (a_dat (x_var C 0) (a_dat x_int a_nil)) (hj := by omega)) (a_dat (x_sub (x_sub (x_var C 1) x_int) (x_var C 2)) a_nil)) (hj := Nat.le_refl _)) i_nil))))) (fun _ _ _ _ z => z)))))) early_rn (g_set C 2 (x_add x_int (x_mod (x_divC (x_var C 0)) (x_sub (x_var C 1) x_int))) (fun v_left_549 => (g_ret (φ := fun x => x) (x_D (x_tupP (i_cons (x_D x_str) (i_cons (x_callD C D__law_noun (a_dat (x_callD C D__law_next (a_dat (x_var C 0) (a_dat x_int a_nil)) (hj := by omega)) (a_dat (x_var C 2) a_nil)) (hj := by omega)) (i_cons (x_callD C D__law_kind (a_dat (x_callD C D__law_next (a_dat (x_var C 0) (a_dat x_int a_nil)) (hj := by omega)) (a_dat (x_sub (x_sub (x_var C 1) x_int) (x_var C 2)) a_nil)) (hj := by omega)) i_nil))))) (fun _ _ _ _ z => z.1))))))
theorem ok__law_is_name {f : Addr} {fd : FuncData} (F : Fun K "_law_is_name" "_law_is_name" s__law_is_name f fd) (Z : Zs K w mg) : FnOk P w K mg base CX0 1 f fd ["text"] (spF K (fun a : D × Unit => [.dat (em a.1)]) (fun a : D × Unit => M__law_is_name a.1) fun x : Bool => .dat (em x)) :=
  fn_mk (N := ["text", "sign"]) F ⟨rfl, rfl, rfl, by decide +kernel, rfl, by decide +kernel, by decide +kernel⟩ 1 rfl (fun _ => rfl) fun X C ⟨p_text, _⟩ => (g_ifX (φ := id) (t_w (w_or (t_not (t_x (x_isi C (x_var C 0) kit_str Z.z_isinstance Z.z_str))) (w_or (t_lt (x_lenD C (x_var C 0) Z.z_len) x_int) (w_or1 (t_gt (x_lenD C (x_var C 0) Z.z_len) x_int))))) (g_ret (φ := fun x => x) x_bl (fun _ _ _ _ z => z)) early_rn (g_ret (φ := fun x => x) (x_eqD (x_D (x_join x_str (q_l (lc_gen (own := [("sign", 1)]) (envC := [.dat (em (p_text : D)), .any]) C (w_str (x_asS (x_var C 0))) (lcP_if (fun X_613 C_609 => (gt_name C_609 1)) (fun X_613 C_609 v_sign_610 => (t_inS1 (x_var C_609 1) x_str)) (fun X_613 C_609 v_sign_610 => (x_var C_609 1))) (by decide +kernel) (ownS rfl own0) (.same (.same .nil)) (by decide))))) (x_var C 0)) (fun _ _ _ _ z => z.1)))
theorem ok__law_sort {f : Addr} {fd : FuncData} (F : Fun K "_law_sort" "_law_sort" s__law_sort f fd) (Z : Zs K w mg) {f__law_is_name : Addr} {fd__law_is_name : FuncData} (D__law_is_name : Df P w K mg base 1 "_law_is_name" f__law_is_name fd__law_is_name ["text"] (spF K (fun a : D × Unit => [.dat (em a.1)]) (fun a : D × Unit => M__law_is_name a.1) fun x : Bool => .dat (em x))) (hmg : mg "_law_sort" = some (.ref f)) (hkp : PySem.W.keepIn K (.ref f) = true) (hbd : Binds K fd ["term"] []) : ∀ n, FnOk P w K mg base CX0 (n + 2) f fd ["term"] (spF K (fun a : D × Unit => [.dat (em a.1)]) (fun a : D × Unit => R__law_sort n a.1) fun x : Str => .dat (em x))
  | 0 => fn_none fun _ => rfl
  | n + 1 => by
    have D__law_sort : Df P w K mg base (n + 2) "_law_sort" f fd ["term"] (spF K (fun a : D × Unit => [.dat (em a.1)]) (fun a : D × Unit => R__law_sort n a.1) fun x : Str => .dat (em x)) := ⟨ok__law_sort F Z D__law_is_name hmg hkp hbd n, hmg, hkp, hbd⟩
    exact fn_mk (N := ["term", "word", "sorts", "below"]) F ⟨rfl, rfl, rfl, by decide +kernel, rfl, by decide +kernel, by decide +kernel⟩ 3 rfl (fun _ => rfl) fun X C ⟨p_term, _⟩ => (g_ifX (φ := id) (t_w (w_or (t_not (t_x (x_isi C (x_var C 0) kit_tuple Z.z_isinstance Z.z_tuple))) (w_or (t_lt (x_lenD C (x_var C 0) Z.z_len) x_int) (w_or (t_gt (x_lenD C (x_var C 0) Z.z_len) x_int) (w_or1 (t_not (t_x (x_isi C (x_ixV (x_asV (x_var C 0)) x_int) kit_str Z.z_isinstance Z.z_str)))))))) (g_ret (φ := fun x => x) x_str (fun _ _ _ _ z => z)) early_rn (g_set C 1 (x_ixV (x_asV (x_var C 0)) x_int) (fun v_word_637 => (g_ifX (φ := id) (t_eq (x_lenD C (x_var C 0) Z.z_len) x_int) (g_ifX (φ := id) (t_w (w_or (t_eqD (x_var C 1) (x_D x_str)) (w_or1 (t_eqD (x_var C 1) (x_D x_str))))) (g_ret (φ := fun x => x) (x_ixQ (q_l (l_lst (i_cons x_str (i_cons x_str (i_cons x_str i_nil))))) (x_mul (x_intB C (x_callD C D__law_is_name (a_dat (x_ixV (x_asV (x_var C 0)) x_int) a_nil) (hj := by omega)) Z.z_int) (x_add x_int (x_intB C (x_eqD (x_var C 1) (x_D x_str)) Z.z_int)))) (fun _ _ _ _ z => z)) early_r (g_set C 3 (x_callD C D__law_sort (a_dat (x_ixV (x_asV (x_var C 0)) x_int) a_nil) (hj := Nat.le_refl _)) (fun v_below_677 => (g_ifX (φ := id) (t_w (w_and (t_eqD (x_var C 1) (x_D x_str)) (w_and1 (t_eq (x_var C 3) x_str)))) (g_ret (φ := fun x => x) x_str (fun _ _ _ _ z => z)) early_r (g_ifX (φ := id) (t_w (w_and (t_inV (x_asS (x_var C 1)) (x_tupP (i_cons x_str (i_cons x_str (i_cons x_str (i_cons x_str i_nil)))))) (w_and1 (t_eq (x_var C 3) x_str)))) (g_ret (φ := fun x => x) x_str (fun _ _ _ _ z => z)) early_r (g_ifX (φ := id) (t_w (w_and (t_inV (x_asS (x_var C 1)) (x_tupP (i_cons x_str (i_cons x_str i_nil)))) (w_and1 (t_eq (x_var C 3) x_str)))) (g_ret (φ := fun x => x) x_str (fun _ _ _ _ z => z)) early_r (g_ret (φ := fun x => x) x_str (fun _ _ _ _ z => z)))))))) early_rn (g_ifX (φ := id) (t_inV (x_asS (x_var C 1)) (x_tupP (i_cons x_str (i_cons x_str (i_cons x_str i_nil))))) (g_ifX (φ := id) (t_w (w_and (t_x (x_isi C (x_ixV (x_asV (x_var C 0)) x_int) kit_int Z.z_isinstance Z.z_int)) (w_and (t_chI op_le op_le x_int (x_asI (x_ixV (x_asV (x_var C 0)) x_int)) x_int) (w_and1 (t_eq (x_callD C D__law_sort (a_dat (x_ixV (x_asV (x_var C 0)) x_int) a_nil) (hj := Nat.le_refl _)) x_str))))) (g_ret (φ := fun x => x) x_str (fun _ _ _ _ z => z)) early_r (g_ret (φ := fun x => x) x_str (fun _ _ _ _ z => z))) early_rn (g_setL C 2 (l_lst (i_cons (x_callD C D__law_sort (a_dat (x_ixV (x_asV (x_var C 0)) x_int) a_nil) (hj := Nat.le_refl _)) (i_cons (x_callD C D__law_sort (a_dat (x_ixV (x_asV (x_var C 0)) x_int) a_nil) (hj := Nat.le_refl _)) i_nil))) (fun v_sorts_752 => (g_freeze 2 rfl (g_ifX (φ := id) (t_w (w_and (t_inV (x_asS (x_var C 1)) (x_tupP (i_cons x_str (i_cons x_str i_nil)))) (w_and1 (t_eqP C (x_var C 2) (x_l (l_lst (i_cons x_str (i_cons x_str i_nil)))))))) (g_ret (φ := fun x => x) x_str (fun _ _ _ _ z => z)) early_rn (g_ifX (φ := id) (t_w (w_and (t_eqD (x_var C 1) (x_D x_str)) (w_and1 (t_eqP C (x_var C 2) (x_l (l_lst (i_cons x_str (i_cons x_str i_nil)))))))) (g_ret (φ := fun x => x) x_str (fun _ _ _ _ z => z)) early_rn (g_ifX (φ := id) (t_w (w_and (t_inV (x_asS (x_var C 1)) (x_tupP (i_cons x_str (i_cons x_str (i_cons x_str i_nil))))) (w_and1 (t_eqP C (x_var C 2) (x_l (l_lst (i_cons x_str (i_cons x_str i_nil)))))))) (g_ret (φ := fun x => x) x_str (fun _ _ _ _ z => z)) early_rn (g_ret (φ := fun x => x) x_str (fun _ _ _ _ z => z.1)))))))))))))
theorem ok__law_other {f : Addr} {fd : FuncData} (F : Fun K "_law_other" "_law_other" s__law_other f fd) (Z : Zs K w mg) : FnOk P w K mg base CX0 1 f fd ["seed"] (spF K (fun a : Int × Unit => [.dat (em a.1)]) (fun a : Int × Unit => M__law_other a.1) fun x : Str => .dat (em x)) :=
  fn_mk (N := ["seed", "words"]) F ⟨rfl, rfl, rfl, by decide +kernel, rfl, by decide +kernel, by decide +kernel⟩ 1 rfl (fun _ => rfl) fun X C ⟨p_seed, _⟩ => (g_setL C 1 (l_lst (i_cons x_str (i_cons x_str (i_cons x_str (i_cons x_str (i_cons x_str (i_cons x_str (i_cons x_str (i_cons x_str (i_cons x_str (i_cons x_str (i_cons x_str (i_cons x_str i_nil))))))))))))) (fun v_words_843 => (g_setL C 1 (l_cat (q_own C 1) (q_l (l_lst (i_cons x_str (i_cons x_str (i_cons x_str (i_cons x_str (i_cons x_str (i_cons x_str (i_cons x_str (i_cons x_str (i_cons x_str (i_cons x_str (i_cons x_str (i_cons x_str i_nil))))))))))))))) (fun v_words_880 => (g_ret (φ := fun x => x) (x_ixQ (q_own C 1) (x_modC (x_var C 0))) (fun _ _ _ _ z => z.1))))))
theorem ok__law_small {f : Addr} {fd : FuncData} (F : Fun K "_law_small" "_law_small" s__law_small f fd) (Z : Zs K w mg) : FnOk P w K mg base CX0 1 f fd ["seed"] (spF K (fun a : Int × Unit => [.dat (em a.1)]) (fun a : Int × Unit => M__law_small a.1) fun x : D => .dat (em x)) :=
  fn_mk (N := ["seed", "kind", "name", "say", "terms"]) F ⟨rfl, rfl, rfl, by decide +kernel, rfl, by decide +kernel, by decide +kernel⟩ 4 rfl (fun _ => rfl) fun X C ⟨p_seed, _⟩ => (g_set C 1 (x_tup2 x_str x_str) (fun v_kind_923 => (g_set C 2 (x_tup2 x_str x_str) (fun v_name_926 => (g_set C 3 (x_tup3 x_str (x_var C 2) (x_var C 1)) (fun v_say_929 => (g_setL C 4 (l_lst (i_cons (x_D (x_var C 1)) (i_cons (x_D (x_var C 2)) (i_cons (x_D (x_var C 3)) (i_cons (x_D (x_tupP (i_cons (x_D x_str) (i_cons (x_D (x_var C 1)) (i_cons (x_D (x_var C 1)) i_nil))))) (i_cons (x_D (x_tupP (i_cons (x_D x_str) (i_cons (x_D (x_var C 1)) (i_cons (x_D (x_var C 1)) i_nil))))) (i_cons (x_D (x_tupP (i_cons (x_D x_str) (i_cons (x_D (x_var C 1)) i_nil)))) (i_cons (x_D (x_tupP (i_cons (x_D x_str) (i_cons (x_D (x_var C 1)) i_nil)))) (i_cons (x_D (x_tupP (i_cons (x_D x_str) (i_cons (x_D (x_var C 1)) i_nil)))) i_nil))))))))) (fun v_terms_933 => (g_setL C 4 (l_cat (q_own C 4) (q_l (l_lst (i_cons (x_D (x_tup2 x_str (x_var C 1))) (i_cons (x_D (x_tup2 x_str (x_var C 1))) (i_cons (x_D (x_tup3 x_str x_int (x_var C 1))) (i_cons (x_D (x_tup3 x_str x_int (x_var C 1))) (i_cons (x_D (x_tup3 x_str x_int (x_var C 1))) i_nil)))))))) (fun v_terms_1002 => (g_setL C 4 (l_cat (q_own C 4) (q_l (l_lst (i_cons (x_D (x_tup2 x_str (x_var C 3))) (i_cons (x_D (x_tup3 x_str (x_var C 3) (x_var C 3))) (i_cons (x_D (x_tup3 x_str (x_var C 3) (x_var C 3))) (i_cons (x_D (x_tup3 x_str (x_var C 3) (x_var C 3))) (i_cons (x_D (x_tup2 x_str (x_var C 3))) i_nil)))))))) (fun v_terms_1038 => (g_ret (φ := fun x => x) (x_ixQ (q_own C 4) (x_modC (x_var C 0))) (fun _ _ _ _ z => z.1))))))))))))))
theorem ok__law_spoilt {f : Addr} {fd : FuncData} (F : Fun K "_law_spoilt" "_law_spoilt" s__law_spoilt f fd) (Z : Zs K w mg) {f__law_next : Addr} {fd__law_next : FuncData} {f__law_other : Addr} {fd__law_other : FuncData} {f__law_small : Addr} {fd__law_small : FuncData} (D__law_next : Df P w K mg base 1 "_law_next" f__law_next fd__law_next ["seed", "k"] (spF K (fun a : Int × Int × Unit => [.dat (em a.1), .dat (em a.2.1)]) (fun a : Int × Int × Unit => M__law_next a.1 a.2.1) fun x : Int => .dat (em x))) (D__law_other : Df P w K mg base 1 "_law_other" f__law_other fd__law_other ["seed"] (spF K (fun a : Int × Unit => [.dat (em a.1)]) (fun a : Int × Unit => M__law_other a.1) fun x : Str => .dat (em x))) (D__law_small : Df P w K mg base 1 "_law_small" f__law_small fd__law_small ["seed"] (spF K (fun a : Int × Unit => [.dat (em a.1)]) (fun a : Int × Unit => M__law_small a.1) fun x : D => .dat (em x))) (hmg : mg "_law_spoilt" = some (.ref f)) (hkp : PySem.W.keepIn K (.ref f) = true) (hbd : Binds K fd ["term", "seed", "top"] []) : ∀ n, FnOk P w K mg base CX0 (n + 2) f fd ["term", "seed", "top"] (spF K (fun a : D × Int × Bool × Unit => [.dat (em a.1), .dat (em a.2.1), .dat (em a.2.2.1)]) (fun a : D × Int × Bool × Unit => R__law_spoilt n a.1 a.2.1 a.2.2.1) fun x : D => .dat (em x))
  | 0 => fn_none fun _ => rfl
  | n + 1 => by
    have D__law_spoilt : Df P w K mg base (n + 2) "_law_spoilt" f fd ["term", "seed", "top"] (spF K (fun a : D × Int × Bool × Unit => [.dat (em a.1), .dat (em a.2.1), .dat (em a.2.2.1)]) (fun a : D × Int × Bool × Unit => R__law_spoilt n a.1 a.2.1 a.2.2.1) fun x : D => .dat (em x)) := ⟨ok__law_spoilt F Z D__law_next D__law_other D__law_small hmg hkp hbd n, hmg, hkp, hbd⟩
    exact fn_mk (N := ["term", "seed", "top", "places", "number", "kind", "wrong", "k", "names"]) F ⟨rfl, rfl, rfl, by decide +kernel, rfl, by decide +kernel, by decide +kernel⟩ 6 rfl (fun _ => rfl) fun X C ⟨p_term, p_seed, p_top, _⟩ => (g_setLc (own := [("k", 7)]) (envC := [.dat (em (p_term : D)), .dat (em (p_seed : Int)), .dat (em (p_top : Bool)), .any, .any, .any, .any, .any, .any]) C 3 (w_rng2 C x_int (x_lenD C (x_var C 0) Z.z_len) Z.z_range) (lcP_if (fun X_1088 C_1082 => (gt_name C_1082 7)) (fun X_1088 C_1082 v_k_1083 => (t_x (x_isi C_1082 (x_ixV (x_asV (x_var C_1082 0)) (x_var C_1082 7)) kit_tuple Z.z_isinstance Z.z_tuple))) (fun X_1088 C_1082 v_k_1083 => (x_var C_1082 7))) (by decide +kernel) (ownS rfl own0) (.same (.same (.same (.same (.same (.same (.same (.same (.same .nil))))))))) (by decide) (hr := fun v_places_1078 => (g_freeze 3 rfl (g_ifX (φ := id) (t_w (w_and (t_neP C (x_var C 3) (x_l l_nil)) (w_and1 (t_gt (x_modC (x_var C 1)) x_int)))) (g_set C 7 (x_ixQ (q_x (x_var C 3)) (x_mod (x_divC (x_var C 1)) (x_lenQ C (q_x (x_var C 3)) Z.z_len))) (fun v_k_1095 => (g_ret (φ := fun x => x) (x_D (x_catT (x_catT (x_cutT (x_asV (x_var C 0)) o_none (o_some (x_var C 7))) (x_tupP (i_cons (x_callD C D__law_spoilt (a_dat (x_ixV (x_asV (x_var C 0)) (x_var C 7)) (a_dat (x_callD C D__law_next (a_dat (x_var C 1) (a_dat x_int a_nil)) (hj := by omega)) (a_dat x_bl a_nil))) (hj := Nat.le_refl _)) i_nil))) (x_cutT (x_asV (x_var C 0)) (o_some (x_add (x_var C 7) x_int)) o_none))) (fun _ _ _ _ z => z)))) early_rn (g_set C 4 (x_divC (x_divC (x_var C 1))) (fun v_number_1140 => (g_set C 5 (x_modC (x_divC (x_var C 1))) (fun v_kind_1143 => (g_ifX (φ := id) (t_eq (x_var C 5) x_int) (g_ret (φ := fun x => x) (x_D (x_catT (x_asV (x_D (x_tupP (i_cons (x_callD C D__law_other (a_dat (x_var C 4) a_nil) (hj := by omega)) i_nil)))) (x_asV (x_D (x_cutT (x_asV (x_var C 0)) (o_some x_int) o_none))))) (fun _ _ _ _ z => z)) early_rn (g_ifX (φ := id) (t_eq (x_var C 5) x_int) (g_ret (φ := fun x => x) (x_D (x_cutT (x_asV (x_var C 0)) o_none (o_some x_negL))) (fun _ _ _ _ z => z)) early_rn (g_ifX (φ := id) (t_eq (x_var C 5) x_int) (g_ret (φ := fun x => x) (x_D (x_catT (x_asV (x_var C 0)) (x_tupP (i_cons (x_ixV (x_asV (x_var C 0)) x_negL) i_nil)))) (fun _ _ _ _ z => z)) early_rn (g_ifX (φ := id) (t_w (w_or (t_eq (x_var C 5) x_int) (w_or1 (t_eq (x_var C 5) x_int)))) (g_setL C 8 (l_lst (i_cons x_str (i_cons (x_mulS x_str x_int) (i_cons x_str (i_cons x_str (i_cons x_str (i_cons x_str (i_cons x_str (i_cons (x_mulS x_str x_int) i_nil))))))))) (fun v_names_1191 => (g_ret (φ := fun x => x) (x_D (x_tupP (i_cons (x_D (x_ixQ (q_l (l_lst (i_cons x_str (i_cons x_str i_nil)))) (x_sub (x_var C 5) x_int))) (i_cons (x_D (x_ixQ (q_own C 8) (x_modC (x_var C 4)))) i_nil)))) (fun _ _ _ _ z => z)))) early_rn (g_ifX (φ := id) (t_eq (x_var C 5) x_int) (g_ret (φ := fun x => x) (x_D (x_tupP (i_cons (x_D (x_ixQ (q_l (l_lst (i_cons x_str (i_cons x_str (i_cons x_str i_nil))))) (x_modC (x_var C 4)))) (i_cons (x_D (x_ixQ (q_l (l_lst (i_cons x_negL (i_cons x_int (i_cons x_int (i_cons x_int (i_cons (x_powC) (i_cons x_int i_nil)))))))) (x_modC (x_divC (x_var C 4))))) (i_cons (x_D (x_tup2 x_str x_str)) i_nil))))) (fun _ _ _ _ z => z)) early_rn (g_ifX (φ := id) (t_w (w_and (t_eq (x_var C 5) x_int) (w_and1 (t_not (t_x (x_var C 2)))))) (g_ret (φ := fun x => x) (x_D (x_modC (x_var C 4))) (fun _ _ _ _ z => z)) early_rn (g_ifX (φ := id) (t_w (w_and (t_eq (x_var C 5) x_int) (w_and1 (t_not (t_x (x_var C 2)))))) (g_ret (φ := fun x => x) (x_D (x_ixQ (q_l (l_lst (i_cons x_str (i_cons x_str (i_cons x_str i_nil))))) (x_modC (x_var C 4)))) (fun _ _ _ _ z => z)) early_rn (g_ifX (φ := id) (t_w (w_or (t_eq (x_var C 5) x_int) (w_or (t_eq (x_var C 5) x_int) (w_or1 (t_eq (x_var C 5) x_int))))) (g_ret (φ := fun x => x) (x_callD C D__law_small (a_dat (x_var C 4) a_nil) (hj := by omega)) (fun _ _ _ _ z => z)) early_rn (g_ifX (φ := id) (t_eq (x_var C 5) x_int) (g_ret (φ := fun x => x) (x_D (x_tupV (τ := D) i_nil (fun x h => by cases h; decide))) (fun _ _ _ _ z => z)) early_rn (g_ifX (φ := id) (t_w (w_and (t_eq (x_var C 5) x_int) (w_and1 (t_eq (x_lenD C (x_var C 0) Z.z_len) x_int)))) (g_ret (φ := fun x => x) (x_D (x_tupP (i_cons (x_ixV (x_asV (x_var C 0)) x_int) (i_cons (x_ixV (x_asV (x_var C 0)) x_int) (i_cons (x_ixV (x_asV (x_var C 0)) x_int) i_nil))))) (fun _ _ _ _ z => z)) early_rn (g_ifX (φ := id) (t_eq (x_var C 5) x_int) (g_ret (φ := fun x => x) (x_D (x_catT (x_asV (x_D (x_tupP (i_cons (x_modC (x_var C 4)) i_nil)))) (x_asV (x_D (x_cutT (x_asV (x_var C 0)) (o_some x_int) o_none))))) (fun _ _ _ _ z => z)) early_rn (g_ifX (φ := id) (t_eq (x_var C 5) x_int) (g_ret (φ := fun x => x) (x_D (x_tupP (i_cons (x_var C 0) i_nil))) (fun _ _ _ _ z => z)) early_rn (g_setL C 6 (l_lst (i_cons (x_D (x_tup2 x_str x_int)) (i_cons (x_D (x_tup3 x_str x_str (x_tup2 x_str x_str))) (i_cons (x_D (x_tup2 x_str (x_tup2 x_str x_str))) (i_cons (x_D (x_tup2 x_str x_int)) (i_cons (x_D (x_tup2 x_str x_int)) i_nil)))))) (fun v_wrong_1373 => (g_ret (φ := fun x => x) (x_ixQ (q_l (l_cat (q_own C 6) (q_l (l_lst (i_cons (x_D (x_tup3 x_str x_str (x_tup2 x_str x_str))) (i_cons (x_D (x_tup3 x_str x_str (x_tup2 x_str x_str))) (i_cons (x_D (x_tup2 x_str x_int)) i_nil))))))) (x_modC (x_var C 4))) (fun _ _ _ _ z => z.1))))))))))))))))))))))))
theorem ok__law_is {f : Addr} {fd : FuncData} (F : Fun K "_law_is" "_law_is" s__law_is f fd) (Z : Zs K w mg) : FnOk P w K mg base CX0 1 f fd ["actual", "due"] (spF K (fun a : D × D × Unit => [.dat (em a.1), .dat (em a.2.1)]) (fun a : D × D × Unit => M__law_is a.1 a.2.1) fun x : Bool => .dat (em x)) :=
  fn_mk (N := ["actual", "due"]) F ⟨rfl, rfl, rfl, by decide +kernel, rfl, by decide +kernel, by decide +kernel⟩ 0 rfl (fun _ => rfl) fun X C ⟨p_actual, p_due, _⟩ => (g_ret (φ := fun x => x) (x_and (x_isi C (x_var C 0) kit_str Z.z_isinstance Z.z_str) (x_one (x_eqD (x_var C 0) (x_var C 1)))) (fun _ _ _ _ z => z.1))
theorem ok_law {f : Addr} {fd : FuncData} (F : Fun K "law" "law" s_law f fd) (Z : Zs K w mg) {f__law_draws : Addr} {fd__law_draws : FuncData} {f__law_is : Addr} {fd__law_is : FuncData} {f__law_kind : Addr} {fd__law_kind : FuncData} {f__law_noun : Addr} {fd__law_noun : FuncData} {f__law_sentence : Addr} {fd__law_sentence : FuncData} {f__law_small : Addr} {fd__law_small : FuncData} {f__law_sort : Addr} {fd__law_sort : FuncData} {f__law_spoilt : Addr} {fd__law_spoilt : FuncData} {f_sort_of : Addr} {fd_sort_of : FuncData} (D__law_draws : Df P w K mg base 1 "_law_draws" f__law_draws fd__law_draws ["script", "count"] (spF K (fun a : (List Int) × Int × Unit => [.bor (List.map em a.1), .dat (em a.2.1)]) (fun a : (List Int) × Int × Unit => M__law_draws a.1 a.2.1) fun x : (List Int) => .own (List.map em x))) (D__law_is : Df P w K mg base 1 "_law_is" f__law_is fd__law_is ["actual", "due"] (spF K (fun a : D × D × Unit => [.dat (em a.1), .dat (em a.2.1)]) (fun a : D × D × Unit => M__law_is a.1 a.2.1) fun x : Bool => .dat (em x))) (D__law_kind : Df P w K mg base 66 "_law_kind" f__law_kind fd__law_kind ["seed", "many"] (spF K (fun a : Int × Int × Unit => [.dat (em a.1), .dat (em a.2.1)]) (fun a : Int × Int × Unit => R__law_kind 64 a.1 a.2.1) fun x : D => .dat (em x))) (D__law_noun : Df P w K mg base 67 "_law_noun" f__law_noun fd__law_noun ["seed", "many"] (spF K (fun a : Int × Int × Unit => [.dat (em a.1), .dat (em a.2.1)]) (fun a : Int × Int × Unit => M__law_noun a.1 a.2.1) fun x : D => .dat (em x))) (D__law_sentence : Df P w K mg base 132 "_law_sentence" f__law_sentence fd__law_sentence ["seed", "many"] (spF K (fun a : Int × Int × Unit => [.dat (em a.1), .dat (em a.2.1)]) (fun a : Int × Int × Unit => R__law_sentence 64 a.1 a.2.1) fun x : D => .dat (em x))) (D__law_small : Df P w K mg base 1 "_law_small" f__law_small fd__law_small ["seed"] (spF K (fun a : Int × Unit => [.dat (em a.1)]) (fun a : Int × Unit => M__law_small a.1) fun x : D => .dat (em x))) (D__law_sort : Df P w K mg base 72 "_law_sort" f__law_sort fd__law_sort ["term"] (spF K (fun a : D × Unit => [.dat (em a.1)]) (fun a : D × Unit => R__law_sort 70 a.1) fun x : Str => .dat (em x))) (D__law_spoilt : Df P w K mg base 72 "_law_spoilt" f__law_spoilt fd__law_spoilt ["term", "seed", "top"] (spF K (fun a : D × Int × Bool × Unit => [.dat (em a.1), .dat (em a.2.1), .dat (em a.2.2.1)]) (fun a : D × Int × Bool × Unit => R__law_spoilt 70 a.1 a.2.1 a.2.2.1) fun x : D => .dat (em x))) (D_sort_of : Df P w K mg base 73 "sort_of" f_sort_of fd_sort_of ["term"] (spF K (fun a : D × Unit => [.dat (em a.1)]) (fun a : D × Unit => R_sort_of 70 a.1) fun x : Str => .dat (em x))) : FnOk P w K mg base CX0 133 f fd ["script"] (spF K (fun a : (List Int) × Unit => [.bor (List.map em a.1)]) (fun a : (List Int) × Unit => M_law a.1) fun x : Bool => .dat (em x)) :=
  fn_mk (N := ["script", "draws", "turn", "k", "high", "seed", "many", "term", "asked", "part", "one", "number"]) F ⟨rfl, rfl, rfl, by decide +kernel, rfl, by decide +kernel, by decide +kernel⟩ 11 rfl (fun _ => rfl) fun X C ⟨p_script, _⟩ => (g_setL C 1 (l_callD C D__law_draws (a_bor (q_bor C 0) (a_dat x_int a_nil))) (fun v_draws_1469 => (g_forF (envL := fun s_1477 : Unit => [.bor (List.map em (p_script : (List Int))), .own (List.map em (v_draws_1469 : (List Int))), .any, .any, .any, .any, .any, .any, .any, .any, .any, .any]) (res := fun x : Bool => .dat (em x)) (φ := fun x => x) C (w_rng1 C x_int Z.z_range) (fun s_1477 => (gt_name C 2)) (.same (.same (.same (.same (.same (.same (.same (.same (.same (.same (.same (.same .nil)))))))))))) (fun s_1477 v_turn_1478 => (g_set C 5 (x_modC (x_intI C (x_add (x_mulCr (x_ixQ (q_own C 1) (x_var C 2))) (x_modC (x_ixQ (q_own C 1) (x_add x_int (x_var C 2))))) Z.z_int)) (fun v_seed_1480 => (g_set C 6 (x_add x_int (x_mod (x_ixQ (q_own C 1) (x_add x_int (x_var C 2))) (x_ixQ (q_l (l_lst (i_cons x_int (i_cons x_int (i_cons x_int i_nil))))) (x_modC (x_ixQ (q_own C 1) (x_add x_int (x_var C 2))))))) (fun v_many_1493 => (g_set C 7 (x_callD C D__law_kind (a_dat (x_var C 5) (a_dat (x_var C 6) a_nil))) (fun v_term_1518 => (g_ifJ (envJ := fun s_1527 : D => [.bor (List.map em (p_script : (List Int))), .own (List.map em (v_draws_1469 : (List Int))), .dat (em (v_turn_1478 : Int)), .any, .any, .dat (em (v_seed_1480 : Int)), .dat (em (v_many_1493 : Int)), .dat (em (s_1527 : D)), .any, .any, .any, .any]) (t_eq (x_var C 2) x_int) (g_set C 7 (x_callD C D__law_noun (a_dat (x_var C 5) (a_dat (x_var C 6) a_nil))) (fun v_term_1528 => (g_nil (.same (.same (.same (.same (.same (.same (.same (.same (.same (.same (.same (.same .nil))))))))))))))) (g_nil (.same (.same (.same (.same (.same (.same (.same (.same (.same (.same (.same (.same .nil))))))))))))) (fun s_1527 => (g_ifJ (envJ := fun s_1537 : D => [.bor (List.map em (p_script : (List Int))), .own (List.map em (v_draws_1469 : (List Int))), .dat (em (v_turn_1478 : Int)), .any, .any, .dat (em (v_seed_1480 : Int)), .dat (em (v_many_1493 : Int)), .dat (em (s_1537 : D)), .any, .any, .any, .any]) (t_eq (x_var C 2) x_int) (g_set C 7 (x_callD C D__law_sentence (a_dat (x_var C 5) (a_dat (x_max2 C x_int (x_var C 6) Z.z_max) a_nil))) (fun v_term_1538 => (g_nil (.same (.same (.same (.same (.same (.same (.same (.same (.same (.same (.same (.same .nil))))))))))))))) (g_nil (.same (.same (.same (.same (.same (.same (.same (.same (.same (.same (.same (.same .nil))))))))))))) (fun s_1537 => (g_ifJ (envJ := fun s_1553 : D => [.bor (List.map em (p_script : (List Int))), .own (List.map em (v_draws_1469 : (List Int))), .dat (em (v_turn_1478 : Int)), .any, .any, .dat (em (v_seed_1480 : Int)), .dat (em (v_many_1493 : Int)), .dat (em (s_1553 : D)), .any, .any, .any, .any]) (t_eq (x_modC (x_ixQ (q_own C 1) x_int)) (x_mulCr (x_var C 2))) (g_set C 7 (x_callD C D__law_small (a_dat (x_ixQ (q_own C 1) x_int) a_nil)) (fun v_term_1554 => (g_for (envL := fun s_1566 : D => [.bor (List.map em (p_script : (List Int))), .own (List.map em (v_draws_1469 : (List Int))), .dat (em (v_turn_1478 : Int)), .any, .any, .dat (em (v_seed_1480 : Int)), .dat (em (v_many_1493 : Int)), .dat (em (s_1566 : D)), .any, .any, .any, .any]) C (w_rng1 C (x_add (x_modC (x_ixQ (q_own C 1) x_int)) x_int) Z.z_range) (fun s_1566 => (gt_name C 3)) (.same (.same (.same (.same (.same (.same (.same (.same (.same (.same (.same (.same .nil)))))))))))) (fun s_1566 v_k_1567 => (g_set C 7 (x_D (x_tupP (i_cons (x_D (x_ixQ (q_l (l_lst (i_cons x_str (i_cons x_str (i_cons x_str (i_cons x_str i_nil)))))) (x_modC (x_ixQ (q_own C 1) x_int)))) (i_cons (x_var C 7) i_nil)))) (fun v_term_1569 => (g_nil (.same (.same (.same (.drop (.same (.same (.same (.same (.same (.same (.same (.same .nil)))))))))))))))) (fun s_1566 => (g_nil (.same (.same (.same (.same (.same (.same (.same (.same (.same (.same (.same (.same .nil))))))))))))))))) (g_nil (.same (.same (.same (.same (.same (.same (.same (.same (.same (.same (.same (.same .nil))))))))))))) (fun s_1553 => (g_setL C 8 (l_lst (i_cons (x_var C 7) i_nil)) (fun v_asked_1593 => (g_for (envL := fun s_1598 : (List D) => [.bor (List.map em (p_script : (List Int))), .own (List.map em (v_draws_1469 : (List Int))), .dat (em (v_turn_1478 : Int)), .any, .any, .dat (em (v_seed_1480 : Int)), .dat (em (v_many_1493 : Int)), .dat (em (s_1553 : D)), .own (List.map em (s_1598 : (List D))), .any, .any, .any]) C (w_rng1 C x_int Z.z_range) (fun s_1598 => (gt_name C 3)) (.same (.same (.same (.same (.same (.same (.same (.same (.same (.same (.same (.same .nil)))))))))))) (fun s_1598 v_k_1599 => (g_set C 11 (x_modC (x_intI C (x_add (x_mulCr (x_ixQ (q_own C 1) (x_add (x_add x_int (x_mulCr (x_var C 2))) (x_var C 3)))) (x_modC (x_ixQ (q_own C 1) (x_add x_int (x_var C 3))))) Z.z_int)) (fun v_number_1601 => (g_append C 8 (x_callD C D__law_spoilt (a_dat (x_var C 7) (a_dat (x_var C 11) (a_dat x_bl a_nil)))) (fun v_asked_1628 => (g_nil (.same (.same (.same (.drop (.same (.same (.same (.same (.same (.same (.same (.drop .nil)))))))))))))))))) (fun s_1598 => (g_for (envL := fun s_1636 : (List D) => [.bor (List.map em (p_script : (List Int))), .own (List.map em (v_draws_1469 : (List Int))), .dat (em (v_turn_1478 : Int)), .any, .any, .dat (em (v_seed_1480 : Int)), .dat (em (v_many_1493 : Int)), .dat (em (s_1553 : D)), .own (List.map em (s_1636 : (List D))), .any, .any, .any]) C (w_tup (x_cutT (x_asV (x_var C 7)) (o_some x_int) o_none)) (fun s_1636 => (gt_name C 9)) (.same (.same (.same (.same (.same (.same (.same (.same (.same (.same (.same (.same .nil)))))))))))) (fun s_1636 v_part_1637 => (g_ifJ (envJ := fun s_1640 : (List D) => [.bor (List.map em (p_script : (List Int))), .own (List.map em (v_draws_1469 : (List Int))), .dat (em (v_turn_1478 : Int)), .any, .any, .dat (em (v_seed_1480 : Int)), .dat (em (v_many_1493 : Int)), .dat (em (s_1553 : D)), .own (List.map em (s_1640 : (List D))), .dat (em (v_part_1637 : D)), .any, .any]) (t_x (x_isi C (x_var C 9) kit_tuple Z.z_isinstance Z.z_tuple)) (g_append C 8 (x_var C 9) (fun v_asked_1641 => (g_nil (.same (.same (.same (.same (.same (.same (.same (.same (.same (.same (.same (.same .nil))))))))))))))) (g_nil (.same (.same (.same (.same (.same (.same (.same (.same (.same (.same (.same (.same .nil))))))))))))) (fun s_1640 => (g_nil (.same (.same (.same (.same (.same (.same (.same (.same (.same (.drop (.same (.same .nil)))))))))))))))) (fun s_1636 => (g_forF (envL := fun s_1649 : Unit => [.bor (List.map em (p_script : (List Int))), .own (List.map em (v_draws_1469 : (List Int))), .dat (em (v_turn_1478 : Int)), .any, .any, .dat (em (v_seed_1480 : Int)), .dat (em (v_many_1493 : Int)), .dat (em (s_1553 : D)), .own (List.map em (s_1636 : (List D))), .any, .any, .any]) (res := fun x : Bool => .dat (em x)) (φ := Fl.rt) C (w_l (l_cat (q_own C 8) (q_l (l_lst (i_cons (x_var C 7) i_nil))))) (fun s_1649 => (gt_name C 10)) (.same (.same (.same (.same (.same (.same (.same (.same (.same (.same (.same (.same .nil)))))))))))) (fun s_1649 v_one_1650 => (g_ifX (φ := Fl.rt) (t_not (t_x (x_callD C D__law_is (a_dat (x_D (x_callD C D_sort_of (a_dat (x_var C 10) a_nil))) (a_dat (x_D (x_callD C D__law_sort (a_dat (x_var C 10) a_nil))) a_nil))))) (g_ret (φ := fun x => x) x_bl (fun _ _ _ _ z => z)) early_rf (g_nilF (.same (.same (.same (.same (.same (.same (.same (.same (.same (.same (.drop (.same .nil))))))))))))))) (fun _ _ _ _ z => z) (fun s_1649 => (g_nilF (.same (.same (.drop (.same (.same (.drop (.drop (.drop (.drop (.same (.same (.same .nil)))))))))))))))))))))))))))))))))) hzD (fun s_1477 => (g_forF (envL := fun s_1675 : Unit => [.bor (List.map em (p_script : (List Int))), .own (List.map em (v_draws_1469 : (List Int))), .any, .any, .any, .any, .any, .any, .any, .any, .any, .any]) (res := fun x : Bool => .dat (em x)) (φ := fun x => x) C (w_rng1 C x_int Z.z_range) (fun s_1675 => (gt_name C 3)) (.same (.same (.same (.same (.same (.same (.same (.same (.same (.same (.same (.same .nil)))))))))))) (fun s_1675 v_k_1676 => (g_ifX (φ := Fl.rt) (t_not (t_x (x_callD C D__law_is (a_dat (x_D (x_callD C D_sort_of (a_dat (x_callD C D__law_small (a_dat (x_var C 3) a_nil)) a_nil))) (a_dat (x_D (x_callD C D__law_sort (a_dat (x_callD C D__law_small (a_dat (x_var C 3) a_nil)) a_nil))) a_nil))))) (g_ret (φ := fun x => x) x_bl (fun _ _ _ _ z => z)) early_rf (g_nilF (.same (.same (.same (.drop (.same (.same (.same (.same (.same (.same (.same (.same .nil))))))))))))))) hzD (fun s_1675 => (g_setL C 4 (l_lst (i_cons (x_callD C D__law_small (a_dat x_int a_nil)) (i_cons (x_callD C D__law_small (a_dat x_int a_nil)) i_nil))) (fun v_high_1702 => (g_for (envL := fun s_1716 : (List D) => [.bor (List.map em (p_script : (List Int))), .own (List.map em (v_draws_1469 : (List Int))), .any, .any, .own (List.map em (s_1716 : (List D))), .any, .any, .any, .any, .any, .any, .any]) C (w_rng1 C x_int Z.z_range) (fun s_1716 => (gt_name C 3)) (.same (.same (.same (.same (.same (.same (.same (.same (.same (.same (.same (.same .nil)))))))))))) (fun s_1716 v_k_1717 => (g_setL C 4 (l_lst (i_cons (x_D (x_tupP (i_cons (x_D x_str) (i_cons (x_ixQ (q_own C 4) x_int) i_nil)))) (i_cons (x_D (x_tupP (i_cons (x_D (x_ixQ (q_l (l_lst (i_cons x_str (i_cons x_str i_nil)))) (x_modC (x_div (x_ixQ (q_own C 1) x_int) (x_add x_int (x_var C 3)))))) (i_cons (x_ixQ (q_own C 4) x_int) i_nil)))) i_nil))) (fun v_high_1719 => (g_nil (.same (.same (.same (.drop (.same (.same (.same (.same (.same (.same (.same (.same .nil)))))))))))))))) (fun s_1716 => (g_ifX (φ := id) (t_w (w_or (t_not (t_x (x_callD C D__law_is (a_dat (x_D (x_callD C D_sort_of (a_dat (x_ixQ (q_own C 4) x_int) a_nil))) (a_dat (x_D x_str) a_nil))))) (w_or1 (t_not (t_x (x_callD C D__law_is (a_dat (x_D (x_callD C D_sort_of (a_dat (x_ixQ (q_own C 4) x_int) a_nil))) (a_dat (x_D x_str) a_nil)))))))) (g_ret (φ := fun x => x) x_bl (fun _ _ _ _ z => z)) early_rn (g_ret (φ := fun x => x) (x_callD C D__law_is (a_dat (x_D (x_callD C D_sort_of (a_dat (x_D (x_tupV (τ := D) i_nil (fun x h => by cases h; decide))) a_nil))) (a_dat (x_D x_str) a_nil))) (fun _ _ _ _ z => z.1)))))))))))))
end
end K19

set_option Elab.async false
set_option linter.all false
set_option maxRecDepth 100000
set_option maxHeartbeats 4000000
namespace T
open PySem PySem.Spec PyProof.Rows L2
variable {τ α β γ δ ρ B S ι : Type}
/-! ### loops that succeed -/
theorem foldO_inv {f : S → α → Option S} (Inv : Nat → S → Prop) : ∀ (xs : List α) (n : Nat) (s0 : S), Inv n s0 → (∀ i x s, xs[i]? = some x → Inv (n + i) s → ∃ s', f s x = some s' ∧ Inv (n + i + 1) s') → ∃ s', foldO f s0 xs = some s' ∧ Inv (n + xs.length) s'
  | [], n, s0, h0, _ => ⟨s0, rfl, h0⟩
  | x :: xs, n, s0, h0, st => by
    obtain ⟨s1, e1, h1⟩ := st 0 x s0 rfl h0
    obtain ⟨s2, e2, h2⟩ := foldO_inv Inv xs (n + 1) s1 h1 fun i y s hy hs => by
      obtain ⟨s', a, b⟩ := st (i + 1) y s hy (by rw [show n + (i + 1) = n + 1 + i by omega]; exact hs)
      exact ⟨s', a, by rw [show n + 1 + i + 1 = n + (i + 1) + 1 by omega]; exact b⟩
    refine ⟨s2, ?_, by rw [List.length_cons, show n + (xs.length + 1) = n + 1 + xs.length by omega]; exact h2⟩
    show (f s0 x).bind _ = _
    rw [e1]
    exact e2
theorem foldO_ok {f : S → α → Option S} {xs : List α} {s0 : S} (Inv : Nat → S → Prop) (h0 : Inv 0 s0) (st : ∀ i x s, xs[i]? = some x → Inv i s → ∃ s', f s x = some s' ∧ Inv (i + 1) s') : ∃ s', foldO f s0 xs = some s' ∧ Inv xs.length s' := by
  obtain ⟨s', a, b⟩ := foldO_inv Inv xs 0 s0 h0 fun i x s hx hs => by
    rw [Nat.zero_add] at hs ⊢
    exact st i x s hx hs
  rw [Nat.zero_add] at b
  exact ⟨s', a, b⟩
/-- a loop that never leaves -/
theorem loopO_inv {f : S → α → Option (Fl ρ S S)} (Inv : Nat → S → Prop) : ∀ (xs : List α) (n : Nat) (s0 : S), Inv n s0 → (∀ i x s, xs[i]? = some x → Inv (n + i) s → ∃ s', (f s x = some (.nx s') ∨ f s x = some (.ct s')) ∧ Inv (n + i + 1) s') → ∃ s', loopO f s0 xs = some (.fin s') ∧ Inv (n + xs.length) s'
  | [], n, s0, h0, _ => ⟨s0, rfl, h0⟩
  | x :: xs, n, s0, h0, st => by
    obtain ⟨s1, e1, h1⟩ := st 0 x s0 rfl h0
    obtain ⟨s2, e2, h2⟩ := loopO_inv Inv xs (n + 1) s1 h1 fun i y s hy hs => by
      obtain ⟨s', a, b⟩ := st (i + 1) y s hy (by rw [show n + (i + 1) = n + 1 + i by omega]; exact hs)
      exact ⟨s', a, by rw [show n + 1 + i + 1 = n + (i + 1) + 1 by omega]; exact b⟩
    refine ⟨s2, ?_, by rw [List.length_cons, show n + (xs.length + 1) = n + 1 + xs.length by omega]; exact h2⟩
    show (f s0 x).bind _ = _
    rcases e1 with e1 | e1
    · rw [e1]; exact e2
    · rw [e1]; exact e2
theorem loopO_ok {f : S → α → Option (Fl ρ S S)} {xs : List α} {s0 : S} (Inv : Nat → S → Prop) (h0 : Inv 0 s0) (st : ∀ i x s, xs[i]? = some x → Inv i s → ∃ s', (f s x = some (.nx s') ∨ f s x = some (.ct s')) ∧ Inv (i + 1) s') : ∃ s', loopO f s0 xs = some (.fin s') ∧ Inv xs.length s' := by
  obtain ⟨s', a, b⟩ := loopO_inv Inv xs 0 s0 h0 fun i x s hx hs => by
    rw [Nat.zero_add] at hs ⊢
    exact st i x s hx hs
  rw [Nat.zero_add] at b
  exact ⟨s', a, b⟩
/-- a loop that goes on or hands back one value -/
theorem loopO_any {f : S → α → Option (Fl ρ S S)} (Inv : S → Prop) (R : ρ → Prop) : ∀ (xs : List α) (s0 : S), Inv s0 → (∀ x s, x ∈ xs → Inv s → ∃ o, f s x = some o ∧ match o with | .nx s' => Inv s' | .ct s' => Inv s' | .bk s' => Inv s' | .rt r => R r) → ∃ o, loopO f s0 xs = some o ∧ match o with | .fin s' => Inv s' | .ret r => R r
  | [], s0, h0, _ => ⟨_, rfl, h0⟩
  | x :: xs, s0, h0, st => by
    obtain ⟨o, e1, h1⟩ := st x s0 (List.mem_cons_self) h0
    show ∃ o', (f s0 x).bind _ = some o' ∧ _
    rw [e1]
    cases o with
    | nx s' => exact loopO_any Inv R xs s' h1 fun y s hy hs => st y s (List.mem_cons_of_mem _ hy) hs
    | ct s' => exact loopO_any Inv R xs s' h1 fun y s hy hs => st y s (List.mem_cons_of_mem _ hy) hs
    | bk s' => exact ⟨_, rfl, h1⟩
    | rt r => exact ⟨_, rfl, h1⟩
theorem lcO_t {f : α → Option β} : ∀ xs : List α, lcO (fun _ => some true) f xs = mapO f xs
  | [] => rfl
  | x :: xs => by
    show (some true).bind _ = _
    rw [Option.bind_some, if_pos rfl]
    show (f x).bind _ = (f x).bind _
    rw [lcO_t xs]
theorem lcC_t {f : α → Option β} {xs : List α} : lcC (fun _ => some true) f xs = mapC f xs := by unfold lcC mapC; rw [lcO_t]
/-- not by rfl: a plain rewriting -/
theorem bsm (x : α) (f : α → Option β) : (some x).bind f = f x := by
  generalize h : (some x).bind f = y
  rw [Option.bind_some] at h
  exact h.symm
theorem basm (m : Option α) (f : α → Option β) (g : β → Option γ) : (m.bind f).bind g = m.bind fun x => (f x).bind g := by
  cases m with
  | none => rfl
  | some x => rw [bsm, bsm]
/-- it answers, and P holds of the answer -/
def Ok (m : Option α) (P : α → Prop) : Prop := ∃ r, m = some r ∧ P r
theorem Ok.bind {m : Option α} {f : α → Option β} {P : α → Prop} {Q : β → Prop} (h : Ok m P) (k : ∀ a, P a → Ok (f a) Q) : Ok (m.bind f) Q := by
  obtain ⟨a, rfl, p⟩ := h
  exact k a p
theorem Ok.one {m : Option α} {f : α → Option β} {a : α} {Q : β → Prop} (h : m = some a) (k : Ok (f a) Q) : Ok (m.bind f) Q := by
  subst h
  exact k
theorem Ok.some {a : α} {P : α → Prop} (h : P a) : Ok (Option.some a) P := ⟨a, rfl, h⟩
theorem Ok.eq {m : Option α} {a : α} {P : α → Prop} (e : m = Option.some a) (h : P a) : Ok m P := ⟨a, e, h⟩
theorem Ok.imp {m : Option α} {P Q : α → Prop} (h : Ok m P) (k : ∀ a, P a → Q a) : Ok m Q := let ⟨a, e, p⟩ := h; ⟨a, e, k a p⟩
theorem Ok.ite {c : Prop} [Decidable c] {m n : Option α} {P : α → Prop} (h1 : c → Ok m P) (h2 : ¬ c → Ok n P) : Ok (if c then m else n) P := by
  by_cases h : c
  · rw [if_pos h]; exact h1 h
  · rw [if_neg h]; exact h2 h
theorem Ok.get {m : Option α} {a : α} (h : Ok m fun x => x = a) : m = Option.some a := by obtain ⟨b, e, rfl⟩ := h; exact e
theorem Ok.fold {f : S → α → Option S} {xs : List α} {s0 : S} {P : S → Prop} (Inv : Nat → S → Prop) (h0 : Inv 0 s0) (st : ∀ i x s, xs[i]? = Option.some x → Inv i s → Ok (f s x) (Inv (i + 1))) (hp : ∀ s, Inv xs.length s → P s) : Ok (foldO f s0 xs) P := by
  obtain ⟨s', a, b⟩ := foldO_ok Inv h0 st
  exact ⟨s', a, hp s' b⟩
theorem mapO_ok {f : α → Option β} {P : Nat → α → β → Prop} : ∀ (xs : List α) (n : Nat), (∀ i x, xs[i]? = some x → ∃ y, f x = some y ∧ P (n + i) x y) → ∃ ys, mapO f xs = some ys ∧ ys.length = xs.length ∧ ∀ i x y, xs[i]? = some x → ys[i]? = some y → P (n + i) x y
  | [], n, _ => ⟨[], rfl, rfl, fun i x y h => by simp at h⟩
  | x :: xs, n, st => by
    obtain ⟨y, e, p⟩ := st 0 x rfl
    obtain ⟨ys, e2, hl, p2⟩ := mapO_ok (P := P) xs (n + 1) fun i z hz => by
      obtain ⟨y', a, b⟩ := st (i + 1) z hz
      exact ⟨y', a, by rw [show n + 1 + i = n + (i + 1) by omega]; exact b⟩
    refine ⟨y :: ys, ?_, by rw [List.length_cons, List.length_cons, hl], fun i z w hz hw => ?_⟩
    · show (f x).bind _ = _
      rw [e]
      show (mapO f xs).bind _ = _
      rw [e2]
      rfl
    · cases i with
      | zero => cases hz; cases hw; exact p
      | succ i => have := p2 i z w hz hw; rwa [show n + 1 + i = n + (i + 1) by omega] at this
theorem lcC_ok {f : α → Option β} {P : Nat → α → β → Prop} {xs : List α} (hz : xs.length < 16777216) (st : ∀ i x, xs[i]? = some x → ∃ y, f x = some y ∧ P i x y) : ∃ ys, lcC (fun _ => some true) f xs = some ys ∧ ys.length = xs.length ∧ ∀ i x y, xs[i]? = some x → ys[i]? = some y → P i x y := by
  obtain ⟨ys, a, b, c⟩ := mapO_ok (P := P) xs 0 fun i x hx => by rw [Nat.zero_add]; exact st i x hx
  refine ⟨ys, ?_, b, fun i x y h1 h2 => by have := c i x y h1 h2; rwa [Nat.zero_add] at this⟩
  rw [lcC_t]
  unfold mapC
  rw [if_pos (show sz xs.length from hz)]
  exact a
/-- a plain map -/
theorem mapO_map {f : α → Option β} {g : α → β} : ∀ {xs : List α}, (∀ x ∈ xs, f x = some (g x)) → mapO f xs = some (xs.map g)
  | [], _ => rfl
  | x :: xs, h => by
    show (f x).bind _ = _
    rw [h x List.mem_cons_self]
    show (mapO f xs).bind _ = _
    rw [mapO_map fun y hy => h y (List.mem_cons_of_mem _ hy)]
    rfl
theorem lcC_map {f : α → Option β} {g : α → β} {xs : List α} (hz : xs.length < 16777216) (h : ∀ x ∈ xs, f x = some (g x)) : lcC (fun _ => some true) f xs = some (xs.map g) := by
  rw [lcC_t]
  unfold mapC
  rw [if_pos (show sz xs.length from hz), mapO_map h]
theorem lcO_filter {c : α → Option Bool} {f : α → Option β} {p : α → Bool} {g : α → β} : ∀ {xs : List α}, (∀ x ∈ xs, c x = some (p x)) → (∀ x ∈ xs, p x = true → f x = some (g x)) → lcO c f xs = some ((xs.filter p).map g)
  | [], _, _ => rfl
  | x :: xs, h, h' => by
    show (c x).bind _ = _
    rw [h x List.mem_cons_self]
    show (if p x = true then (f x).bind (fun y => (lcO c f xs).bind fun ys => some (y :: ys)) else lcO c f xs) = _
    rw [lcO_filter (fun y hy => h y (List.mem_cons_of_mem _ hy)) fun y hy => h' y (List.mem_cons_of_mem _ hy)]
    by_cases hp : p x = true
    · rw [if_pos hp, h' x List.mem_cons_self hp, List.filter_cons_of_pos hp]
      rfl
    · rw [if_neg hp, List.filter_cons_of_neg hp]
theorem lcC_filter {c : α → Option Bool} {f : α → Option β} {p : α → Bool} {g : α → β} {xs : List α} (hz : xs.length < 16777216) (h : ∀ x ∈ xs, c x = some (p x)) (h' : ∀ x ∈ xs, p x = true → f x = some (g x)) : lcC c f xs = some ((xs.filter p).map g) := by
  unfold lcC
  rw [if_pos (show sz xs.length from hz), lcO_filter h h']
/-! ### ranges, items -/
theorem rngP_eq {n : Int} (h : n ≤ 16777216) (h0 : 0 ≤ n) : rngP 0 n = some (rng 0 n) := by
  unfold rngP
  rw [if_pos (by omega)]
theorem rng_len (n : Nat) : (rng 0 (n : Int)).length = n := by unfold rng; simp
theorem rng_nat {n : Nat} {i : Nat} {x : Int} (h : (rng 0 (n : Int))[i]? = some x) : i < n ∧ x = (i : Int) := by
  obtain ⟨h1, h2⟩ := rng_get h
  exact ⟨by omega, by omega⟩
theorem rng_mem {a b x : Int} (h : x ∈ rng a b) : a ≤ x ∧ x < b := by
  unfold rng at h
  simp only [List.mem_map, List.mem_range] at h
  obtain ⟨i, h1, rfl⟩ := h
  omega
theorem rngL_eq {n : Nat} (h : n ≤ 16777216) : rngL 0 (n : Int) = some ((List.range n).map fun i : Nat => (i : Int)) := by
  unfold rngL
  rw [if_pos (by omega)]
  unfold rng
  simp
theorem atI_nat {xs : List α} {i : Int} {j : Nat} (h : i = (j : Int)) (hj : j < xs.length) : atI xs i = some xs[j] := by
  subst h
  unfold atI ixN
  rw [if_pos (by omega)]
  simp [hj]
theorem atI_of {xs : List α} {i : Int} (h0 : 0 ≤ i) (h1 : i < xs.length) : ∃ x, atI xs i = some x ∧ x ∈ xs ∧ xs[i.toNat]? = some x := by
  have hj : i.toNat < xs.length := by omega
  exact ⟨xs[i.toNat], atI_nat (by omega) hj, List.getElem_mem _, List.getElem?_eq_getElem hj⟩
theorem setP_of {xs : List α} {i : Int} {x : α} (h0 : 0 ≤ i) (h1 : i < xs.length) : setP xs i x = some (xs.set i.toNat x) := by
  unfold setP ixN
  rw [if_pos h0, if_pos h1]
  rfl
theorem appP_eq {xs : List α} {x : α} (h : xs.length < 16777216) : appP xs x = some (xs ++ [x]) := by unfold appP; rw [if_pos (show sz xs.length from h)]
theorem catL_eq {xs ys : List α} (h : xs.length + ys.length < 16777216) : catL xs ys = some (xs ++ ys) := by unfold catL; rw [if_pos h]
theorem lstP_eq {xs : List α} (h : xs.length < 16777216) : lstP xs = some xs := by unfold lstP; rw [if_pos (show sz xs.length from h)]
theorem modP_eq {x y : Int} (h : y ≠ 0) : modP x y = some (x.fmod y) := by unfold modP; rw [if_neg h]
theorem divP_eq {x y : Int} (h : y ≠ 0) (h2 : y.natAbs < 1073741824) : divP x y = some (x.fdiv y) := by unfold divP; rw [if_neg h, if_pos h2]
theorem mulP_eq {x y : Int} (h : x.natAbs < 18446744073709551616 ∨ y.natAbs < 18446744073709551616) : mulP x y = some (x * y) := by unfold mulP; rw [if_pos (by omega)]
theorem lenS_eq {s : Str} (h : s.length < 16777216) : lenS s = some (s.length : Int) := by unfold lenS; rw [if_pos (show sz s.length from h)]
theorem fmod_lo {x y : Int} (h : 0 < y) : 0 ≤ x.fmod y := Int.fmod_nonneg_of_pos _ h
theorem fmod_hi {x y : Int} (h : 0 < y) : x.fmod y < y := Int.fmod_lt_of_pos _ h
theorem fmod_emod {x y : Int} (h : 0 ≤ y) : x.fmod y = x % y := Int.fmod_eq_emod_of_nonneg _ h
theorem fdiv_ediv {x y : Int} (h : 0 ≤ y) : x.fdiv y = x / y := Int.fdiv_eq_ediv_of_nonneg _ h
theorem andO_some (x : Bool) (y : Option Bool) : andO (some x) y = if x = true then y else some false := rfl
theorem orO_some (x : Bool) (y : Option Bool) : orO (some x) y = if x = true then some true else y := rfl
/-! ### texts -/
theorem slen (s : Str) : s.length = s.cps.toList.length := by simp [Str.length]
theorem strAt_eq {s : Str} {i : Int} {j : Nat} (h : i = (j : Int)) (hj : j < s.cps.toList.length) (hz : s.length < 16777216) : strAt s i = some ⟨#[s.cps.toList[j]]⟩ := by
  unfold strAt
  rw [if_pos (show sz s.length from hz), atI_nat h hj]
  rfl
theorem strAt_of {s : Str} {i : Int} (h0 : 0 ≤ i) (h1 : i < s.length) (hz : s.length < 16777216) : Ok (strAt s i) fun c => c.length = 1 ∧ ∃ q, c = ⟨#[q]⟩ ∧ q ∈ s.cps.toList ∧ s.cps.toList[i.toNat]? = some q := by
  have hj : i.toNat < s.cps.toList.length := by rw [slen] at h1; omega
  exact Ok.eq (strAt_eq (j := i.toNat) (by omega) hj hz) ⟨rfl, _, rfl, List.getElem_mem _, List.getElem?_eq_getElem hj⟩
theorem sIx_le' (n d : Nat) (h : d ≤ n) (o : Option Int) : HT.sIx n d o ≤ n ∨ ∃ v, o = some v ∧ v < 0 := by
  cases o with
  | none => exact .inl h
  | some v =>
    by_cases hv : v < 0
    · exact .inr ⟨v, rfl, hv⟩
    · left
      unfold HT.sIx
      simp only [hv, if_false]
      exact Nat.min_le_right _ _
theorem cutS_len (z : Str) (lo hi : Option Int) : (cutS z lo hi).length ≤ z.length := by
  rw [slen, slen]
  unfold cutS
  simp only [List.length_take, List.length_drop]
  omega
theorem cutP_eq {z : Str} {lo hi : Option Int} (h : z.length < 16777216) : cutP z lo hi = some (cutS z lo hi) := by unfold cutP; rw [if_pos (show sz z.length from h)]
theorem cutS_to (z : Str) (k : Nat) : (cutS z none (some (k : Int))).cps.toList = z.cps.toList.take k := by
  unfold cutS
  rw [HT.sIx_none, HT.sIx_nat]
  show ((z.cps.toList.drop 0).take (min k z.length - 0)) = _
  rw [List.drop_zero, Nat.sub_zero, slen, Nat.min_comm, List.take_eq_take_min (i := k), Nat.min_comm]
theorem cutS_from (z : Str) (k : Nat) : (cutS z (some (k : Int)) none).cps.toList = z.cps.toList.drop k := by
  unfold cutS
  rw [HT.sIx_none, HT.sIx_nat]
  show ((z.cps.toList.drop (min k z.length)).take (z.length - min k z.length)) = _
  rw [List.take_of_length_le (by rw [List.length_drop, ← slen]; omega), slen]
  by_cases h : k ≤ z.cps.toList.length
  · rw [Nat.min_eq_left h]
  · rw [Nat.min_eq_right (by omega), List.drop_of_length_le (Nat.le_refl _), List.drop_of_length_le (by omega)]
theorem revP_eq {z : Str} (h : z.length < 16777216) : revP z = some (revS z) := by unfold revP; rw [if_pos (show sz z.length from h)]
theorem revS_len (z : Str) : (revS z).length = z.length := by rw [slen, slen]; simp [revS]
theorem append_len (x y : Str) : (x ++ y).length = x.length + y.length := by rw [slen, slen, slen, ← List.length_append, ← TL.tl_append]
theorem catS_eq {x y : Str} (h : x.length + y.length < 16777216) : catS x y = some (x ++ y) := by unfold catS; rw [if_pos h]
theorem joinP_ones {ys : List Str} (h : ∀ y ∈ ys, y.length = 1) (hz : ys.length ≤ 16777216) : Ok (joinP "" ys) fun s => s.length = ys.length := by
  have hs : (ys.map (·.length)).sum = ys.length := by
    clear hz
    induction ys with
    | nil => rfl
    | cons y ys ih =>
      rw [List.map_cons, List.sum_cons, ih fun z hz => h z (List.mem_cons_of_mem _ hz), h y List.mem_cons_self, List.length_cons]
      omega
  have he : ("" : Str).length = 0 := by decide +kernel
  unfold joinP
  rw [if_pos (by rw [hs, he, Nat.mul_zero]; exact hz)]
  refine Ok.some ?_
  show (Builtin.Str.glued "" ys).length = _
  rw [size_glued, hs, he, Nat.mul_zero]
  rfl
theorem mulS_ok {x : Str} {n : Int} {L M : Nat} (hx : x.length ≤ L) (h0 : 0 ≤ n) (hn : n ≤ (M : Int)) (hM : M ≤ 16777216) (hLM : L * M ≤ 16777216) : Ok (mulS x n) fun s => s = Txt.mul x n ∧ s.length ≤ L * M := by
  unfold mulS
  rw [if_pos (PyProof.Rows.mulOk_of L M hx hn (by omega) hM hLM)]
  exact Ok.some ⟨rfl, len_mul_leN hx hn⟩
/-! ### the draws that most laws begin with -/
def drawsM (p_script : (List Int)) (p_count : Int) : Option (List Int) := (lcC (fun _ : Int => some true) (fun v_cell_55 : Int => some (absI v_cell_55)) p_script).bind fun v_cells_53 => (if (decide (((List.length v_cells_53 : Int)) = ((0 : Int)))) = true then let v_cells_64 := ([((0 : Int))] : (List Int)); some v_cells_64 else some v_cells_53).bind fun s_63 : (List Int) => let v_many_68 := (List.length s_63 : Int); let v_draws_70 := ([] : (List Int)); (rngP 0 p_count).bind fun y_74 => (foldO (fun (s_72 : ((List Int) × (List Int))) (v_k_73 : Int) => (modP v_k_73 v_many_68).bind fun v_at_75 => (atI s_72.1 v_at_75).bind fun v_cell_78 => (if (decide (((1000000000000000000 : Int)) ≤ v_cell_78)) = true then (appP s_72.2 ((Int.fmod v_cell_78 (1009 : Int)))).bind fun v_draws_86 => (setP s_72.1 v_at_75 ((Int.fdiv v_cell_78 (1009 : Int)))).bind fun v_cells_88 => some (v_cells_88, v_draws_86) else let v_mixed_94 := (Int.fmod ((((((v_cell_78 * (48271 : Int))) + ((v_k_73 * (69621 : Int))))) + ((40503 : Int)))) (2147483647 : Int)); ((((mulP v_mixed_94 v_mixed_94).bind fun y_105 => some ((y_105 + ((v_cell_78 * (16807 : Int)))))).bind fun y_107 => some ((y_107 + v_k_73))).bind fun y_109 => some ((Int.fmod y_109 (2147483629 : Int)))).bind fun y_111 => (appP s_72.2 y_111).bind fun v_draws_110 => some (s_72.1, v_draws_110)).bind fun s_83 : ((List Int) × (List Int)) => some (s_83.1, s_83.2)) (s_63, v_draws_70) y_74).bind fun s_72 => some s_72.2
theorem draws_ok {script : List Int} {n : Nat} (hs : script.length ≤ 63) (hn : n ≤ 100000) : Ok (drawsM script (n : Int)) fun ds => ds.length = n ∧ ∀ d ∈ ds, 0 ≤ d ∧ d < 2147483629 := by
  unfold drawsM
  refine Ok.one (lcC_map (g := absI) (by omega) fun x hx => rfl) ?_
  refine Ok.bind (P := fun cells => 0 < cells.length ∧ cells.length ≤ 63) (Ok.ite (fun h => Ok.some ⟨by decide, by decide⟩) fun h => Ok.some ⟨?_, by rw [List.length_map]; exact hs⟩) ?_
  · simp at h
    rw [List.length_map]
    exact List.length_pos_iff.mpr h
  rintro cells ⟨p0, p1⟩
  refine Ok.one (rngP_eq (by omega) (by omega)) ?_
  refine Ok.bind (P := fun s => s.1.length = cells.length ∧ s.2.length = n ∧ ∀ d ∈ s.2, 0 ≤ d ∧ d < 2147483629) ?_ fun s h => Ok.some h.2
  refine Ok.fold (fun i s => s.1.length = cells.length ∧ s.2.length = i ∧ ∀ d ∈ s.2, 0 ≤ d ∧ d < 2147483629) ⟨rfl, rfl, fun d h => by cases h⟩ ?_ fun s h => by rw [rng_len] at h; exact h
  rintro i x ⟨cs, ds⟩ hx ⟨q1, q2, q3⟩
  obtain ⟨hi, rfl⟩ := rng_nat hx
  refine Ok.one (modP_eq (by omega)) ?_
  have m0 := fmod_lo (x := (i : Int)) (show (0 : Int) < (cells.length : Int) by omega)
  have m1 := fmod_hi (x := (i : Int)) (show (0 : Int) < (cells.length : Int) by omega)
  obtain ⟨cell, e1, _⟩ := atI_of (xs := cs) m0 (by rw [q1]; exact m1)
  refine Ok.one e1 ?_
  have app : ∀ d : Int, 0 ≤ d → d < 2147483629 → ∀ d' ∈ ds ++ [d], 0 ≤ d' ∧ d' < 2147483629 := fun d a b d' h => by
    rcases List.mem_append.mp h with h | h
    · exact q3 d' h
    · rw [List.mem_singleton.mp h]; exact ⟨a, b⟩
  refine Ok.bind (P := fun s => s.1.length = cells.length ∧ s.2.length = i + 1 ∧ ∀ d ∈ s.2, 0 ≤ d ∧ d < 2147483629) (Ok.ite (fun h => ?_) fun h => ?_) fun s h => Ok.some h
  · refine Ok.one (appP_eq (by show ds.length < _; have q2 : ds.length = i := q2; omega)) (Ok.one (setP_of m0 (by show _ < (cs.length : Int); have q1 : cs.length = cells.length := q1; rw [q1]; exact m1)) (Ok.some ⟨?_, ?_, ?_⟩))
    · show (cs.set _ _).length = _
      rw [List.length_set]; exact q1
    · show (ds ++ _).length = _
      rw [List.length_append]; exact congrArg (· + 1) q2
    · exact app _ (fmod_lo (by decide)) (Int.lt_trans (fmod_hi (by decide)) (by decide))
  · have b0 := fmod_lo (x := cell * 48271 + (i : Int) * 69621 + 40503) (show (0 : Int) < 2147483647 by decide)
    have b1 := fmod_hi (x := cell * 48271 + (i : Int) * 69621 + 40503) (show (0 : Int) < 2147483647 by decide)
    refine Ok.one (a := ?v) ?e ?_
    case e =>
      rw [mulP_eq (Or.inl (by omega))]
      rfl
    refine Ok.one (appP_eq (by show ds.length < _; have q2 : ds.length = i := q2; omega)) (Ok.some ⟨q1, ?_, ?_⟩)
    · show (ds ++ _).length = _
      rw [List.length_append]; exact congrArg (· + 1) q2
    · exact app _ (fmod_lo (by decide)) (fmod_hi (by decide))
/-! ### loops that never leave -/
theorem Ok.loop {f : S → α → Option (Fl ρ S S)} {xs : List α} {s0 : S} {φ : ρ → β} {kk : S → Option β} {P : β → Prop} (Inv : Nat → S → Prop) (h0 : Inv 0 s0)
    (st : ∀ i x s, xs[i]? = Option.some x → Inv i s → Ok (f s x) fun o => ∃ s', (o = .nx s' ∨ o = .ct s') ∧ Inv (i + 1) s') (hk : ∀ s, Inv xs.length s → Ok (kk s) P) : Ok ((loopO f s0 xs).bind (Lp.go φ kk)) P := by
  obtain ⟨s', e, h⟩ := loopO_ok (f := f) (xs := xs) (s0 := s0) Inv h0 fun i x s hx hs => by
    obtain ⟨o, e1, s', e2, h⟩ := st i x s hx hs
    rcases e2 with rfl | rfl
    · exact ⟨s', .inl e1, h⟩
    · exact ⟨s', .inr e1, h⟩
  rw [e]
  exact hk s' h
/-- a loop whose turns change nothing -/
theorem Ok.loop0 {f : Unit → α → Option (Fl ρ Unit Unit)} {xs : List α} {φ : ρ → β} {kk : Unit → Option β} {P : β → Prop} (st : ∀ x, x ∈ xs → f () x = Option.some (Fl.nx ())) (hk : Ok (kk ()) P) : Ok ((loopO f () xs).bind (Lp.go φ kk)) P :=
  Ok.loop (fun _ _ => True) trivial (fun i x s hx _ => Ok.eq (st x (List.mem_of_getElem? hx)) ⟨(), .inl rfl, trivial⟩) fun s _ => hk
/-! ### the comparison that most laws make -/
def sameM : Nat → D → D → Option Bool
  | 0, _, _ => none
  | n + 1, p_actual, p_due => ((some p_due).bind fun y_122 => isiP "bool" (em y_122)).bind fun c_185 => if c_185 = true then ((andO ((some p_actual).bind fun y_123 => isiP "bool" (em y_123)) ((some p_actual).bind fun y_124 => (some p_due).bind fun y_125 => eqD y_124 y_125)).bind fun r_126 => some r_126).bind fun r_184 => some (id r_184) else ((some p_due).bind fun y_127 => isiP "int" (em y_127)).bind fun c_183 => if c_183 = true then ((andO ((some p_actual).bind fun y_128 => isiP "int" (em y_128)) (andO (((some p_actual).bind fun y_129 => isiP "bool" (em y_129)).bind fun y_130 => some (!y_130)) ((some p_actual).bind fun y_131 => (some p_due).bind fun y_132 => eqD y_131 y_132))).bind fun r_133 => some r_133).bind fun r_182 => some (id r_182) else ((some p_due).bind fun y_134 => isiP "str" (em y_134)).bind fun c_181 => if c_181 = true then ((andO ((some p_actual).bind fun y_135 => isiP "str" (em y_135)) ((some p_actual).bind fun y_136 => (some p_due).bind fun y_137 => eqD y_136 y_137)).bind fun r_138 => some r_138).bind fun r_180 => some (id r_180) else ((some p_due).bind fun y_139 => some (isN (em y_139))).bind fun c_179 => if c_179 = true then (((some p_actual).bind fun y_140 => some (isN (em y_140))).bind fun r_141 => some r_141).bind fun r_178 => some (id r_178) else (andO ((some p_due).bind fun y_142 => isiP "tuple" (em y_142)) (((some p_actual).bind fun y_143 => isiP "tuple" (em y_143)).bind fun y_144 => some (!y_144))).bind fun c_177 => if c_177 = true then ((some false).bind fun r_145 => some r_145).bind fun r_176 => some (id r_176) else (andO ((some p_due).bind fun y_146 => isiP "list" (em y_146)) (((some p_actual).bind fun y_147 => isiP "list" (em y_147)).bind fun y_148 => some (!y_148))).bind fun c_175 => if c_175 = true then ((some false).bind fun r_149 => some r_149).bind fun r_174 => some (id r_174) else (((some p_actual).bind fun y_150 => lenD y_150).bind fun y_152 => ((some p_due).bind fun y_151 => lenD y_151).bind fun y_153 => some (!decide (y_152 = y_153))).bind fun c_173 => if c_173 = true then ((some false).bind fun r_154 => some r_154).bind fun r_172 => some (id r_172) else ((some p_actual).bind fun y_155 => (some p_due).bind fun y_156 => zipD y_155 y_156).bind fun y_159 => (loopO (fun (s_157 : Unit) (v_one_158 : (D × D)) => (((((some v_one_158.1).bind fun y_162 => ((some v_one_158.2).bind fun y_160 => (some ()).bind fun y_161 => some (y_160, y_161)).bind fun y_163 => some (y_162, y_163)).bind (fun a : D × D × Unit => sameM n a.1 a.2.1)).bind fun y_166 => some (!y_166)).bind fun c_169 => if c_169 = true then ((some false).bind fun r_167 => some r_167).bind fun r_168 => some (Fl.rt r_168) else some (Fl.nx ()) : Option (Fl Bool Unit Unit))) () y_159).bind (Lp.go (fun x => x) fun s_157 : Unit => (some true).bind fun r_170 => some r_170)
/-- data of lists, tuples and plain values, of a depth below n -/
def okD : Nat → D → Prop
  | 0, _ => False
  | n + 1, .tup l => ∀ x ∈ l, okD n x
  | n + 1, .lst l => ∀ x ∈ l, okD n x
  | _ + 1, .ins _ _ _ => False
  | _ + 1, _ => True
theorem same_its {f : D × D → Option Bool} : ∀ {l : List D}, (∀ x ∈ l, f (x, x) = some true) → ∃ s, loopO (fun (_ : Unit) (p : D × D) => (f p).bind fun x => if (!x) = true then some (Fl.rt false) else some (Fl.nx ())) () (l.zip l) = some (Lp.fin (ρ := Bool) s)
  | [], _ => ⟨(), rfl⟩
  | x :: l, h => by
    obtain ⟨s, e⟩ := same_its (f := f) fun y hy => h y (List.mem_cons_of_mem _ hy)
    refine ⟨s, ?_⟩
    rw [List.zip_cons_cons]
    show ((f (x, x)).bind _).bind _ = _
    rw [h x List.mem_cons_self]
    exact e
theorem same_refl : ∀ (n : Nat) (d : D), okD n d → sameM n d d = some true
  | 0, _, h => h.elim
  | n + 1, d, h => by
    unfold sameM
    simp only [bsm, basm]
    cases d with
    | non => rfl
    | bl b => simp [isiP, isD, tyD, em, Em.em, eqD, andO]
    | int b => simp [isiP, isD, tyD, em, Em.em, eqD, andO]
    | str b => simp [isiP, isD, tyD, em, Em.em, eqD, andO]
    | ins _ _ _ => exact h.elim
    | tup l =>
      obtain ⟨s, e⟩ := same_its (l := l) (f := fun p => sameM n p.1 p.2) fun x hx => same_refl n x (h x hx)
      simp only [show isiP "bool" (em (D.tup l)) = some false from rfl, show isiP "int" (em (D.tup l)) = some false from rfl, show isiP "str" (em (D.tup l)) = some false from rfl, show isiP "tuple" (em (D.tup l)) = some true from rfl, show isiP "list" (em (D.tup l)) = some false from rfl,
        show isN (em (D.tup l)) = false from rfl, show lenD (D.tup l) = some (l.length : Int) from rfl, show zipD (D.tup l) (D.tup l) = some (l.zip l) from rfl, bsm, andO_some, Bool.false_eq_true, if_false, if_true, Bool.not_true, decide_true]
      rw [e]
      rfl
    | lst l =>
      obtain ⟨s, e⟩ := same_its (l := l) (f := fun p => sameM n p.1 p.2) fun x hx => same_refl n x (h x hx)
      simp only [show isiP "bool" (em (D.lst l)) = some false from rfl, show isiP "int" (em (D.lst l)) = some false from rfl, show isiP "str" (em (D.lst l)) = some false from rfl, show isiP "tuple" (em (D.lst l)) = some false from rfl, show isiP "list" (em (D.lst l)) = some true from rfl,
        show isN (em (D.lst l)) = false from rfl, show lenD (D.lst l) = some (l.length : Int) from rfl, show zipD (D.lst l) (D.lst l) = some (l.zip l) from rfl, bsm, andO_some, Bool.false_eq_true, if_false, if_true, Bool.not_true, decide_true]
      rw [e]
      rfl
/-! ### loops that append -/
theorem fold_rng {f : List β → Int → Option (List β)} {g : Nat → β} {n : Nat} (h : ∀ (i : Nat) (s : List β), i < n → s.length = i → f s (i : Int) = some (s ++ [g i])) : foldO f [] (rng 0 (n : Int)) = some ((List.range n).map g) := by
  refine Ok.get (Ok.fold (fun i s => s = (List.range i).map g) rfl ?_ fun s h => by rw [rng_len] at h; exact h)
  rintro i x s hx rfl
  obtain ⟨hi, rfl⟩ := rng_nat hx
  refine Ok.eq (h i _ hi (by simp)) ?_
  rw [List.range_succ, List.map_append]
  rfl
theorem fold_map {f : List β → α → Option (List β)} {g : α → β} {xs : List α} (hz : xs.length ≤ 16777216) (h : ∀ (s : List β) x, x ∈ xs → s.length < xs.length → f s x = some (s ++ [g x])) : foldO f [] xs = some (xs.map g) := by
  refine Ok.get (Ok.fold (fun i s => s = (xs.take i).map g) rfl ?_ fun s h => by rw [List.take_length] at h; exact h)
  rintro i x s hx rfl
  obtain ⟨hi, e⟩ := List.getElem?_eq_some_iff.mp hx
  refine Ok.eq (h _ x (List.mem_of_getElem? hx) (by rw [List.length_map, List.length_take]; omega)) ?_
  rw [List.take_add_one, List.map_append, hx]
  rfl
theorem okD_em [Em τ] {n : Nat} {l : List τ} (h : ∀ x ∈ l, okD n (em x)) : ∀ x ∈ l.map em, okD n x := fun x hx => by
  obtain ⟨y, hy, rfl⟩ := List.mem_map.mp hx
  exact h y hy
theorem okD_vt [Em τ] {n : Nat} {l : Vt τ} (h : ∀ x ∈ l.l, okD n (em x)) : okD (n + 1) (em l) := okD_em h
theorem okD_list [Em τ] {n : Nat} {l : List τ} (h : ∀ x ∈ l, okD n (em x)) : okD (n + 1) (em l) := okD_em h
theorem rngP_nat {n : Nat} (h : n ≤ 16777216) : rngP 0 (n : Int) = some (rng 0 (n : Int)) := rngP_eq (by omega) (by omega)
/-! ### loops that may hand back a value -/
def LpP (Inv : S → Prop) (R : ρ → Prop) : Lp ρ S → Prop
  | .fin s => Inv s
  | .ret r => R r
def FlP (Inv : S → Prop) (R : ρ → Prop) : Fl ρ S S → Prop
  | .nx s => Inv s
  | .ct s => Inv s
  | .bk s => Inv s
  | .rt r => R r
theorem Ok.loopAny {f : S → α → Option (Fl ρ S S)} (Inv : S → Prop) (R : ρ → Prop) : ∀ {xs : List α} {s0 : S}, Inv s0 → (∀ x s, x ∈ xs → Inv s → Ok (f s x) (FlP Inv R)) → Ok (loopO f s0 xs) (LpP Inv R)
  | [], s0, h0, _ => ⟨_, rfl, h0⟩
  | x :: xs, s0, h0, st => by
    obtain ⟨o, e1, h1⟩ := st x s0 (List.mem_cons_self) h0
    have nxt : ∀ s', Inv s' → Ok (loopO f s' xs) (LpP Inv R) := fun s' h => Ok.loopAny Inv R h fun y s hy hs => st y s (List.mem_cons_of_mem _ hy) hs
    show Ok ((f s0 x).bind _) _
    refine Ok.one e1 ?_
    cases o with
    | nx s' => exact nxt s' h1
    | ct s' => exact nxt s' h1
    | bk s' => exact ⟨_, rfl, h1⟩
    | rt r => exact ⟨_, rfl, h1⟩
theorem Ok.go {φ : ρ → β} {kk : S → Option β} {Inv : S → Prop} {R : ρ → Prop} {P : β → Prop} {o : Lp ρ S} (h : LpP Inv R o) (h1 : ∀ r, R r → P (φ r)) (h2 : ∀ s, Inv s → Ok (kk s) P) : Ok (Lp.go φ kk o) P := by
  cases o with
  | fin s => exact h2 s h
  | ret r => exact ⟨_, rfl, h1 r h⟩
end T

set_option Elab.async false
set_option linter.all false
set_option maxRecDepth 100000
set_option maxHeartbeats 4000000
namespace K19
open PySem PySem.Spec PyProof.Rows L2 T
/-! ### names -/
def az (c : Nat) : Bool := decide (97 ≤ c) && decide (c ≤ 122)
theorem az_all : (fun c : Nat => !decide ([c] < (Str.ofString "a").cps.toList) && !decide ((Str.ofString "z").cps.toList < [c])) = az := by
  funext c
  have e1 : (Str.ofString "a").cps.toList = [97] := by decide +kernel
  have e2 : (Str.ofString "z").cps.toList = [122] := by decide +kernel
  rw [e1, e2]
  unfold az
  by_cases h1 : 97 ≤ c
  · by_cases h2 : c ≤ 122
    · simp [h1, h2, List.cons_lt_cons_iff] <;> omega
    · simp [h1, h2, List.cons_lt_cons_iff] <;> omega
  · simp [h1, List.cons_lt_cons_iff] <;> omega
theorem az_mem (c : Nat) : decide (c ∈ (Str.ofString "abcdefghijklmnopqrstuvwxyz").cps.toList) = az c := by
  have e : (Str.ofString "abcdefghijklmnopqrstuvwxyz").cps.toList = (List.range 26).map (· + 97) := by decide +kernel
  rw [e]
  unfold az
  rw [← Bool.decide_and]
  refine decide_eq_decide.mpr ?_
  simp only [List.mem_map, List.mem_range]
  constructor
  · rintro ⟨a, h, rfl⟩; omega
  · rintro ⟨h1, h2⟩; exact ⟨c - 97, by omega, by omega⟩
def isName (s : Str) : Bool := decide (1 ≤ s.length) && decide (s.length ≤ 12) && s.cps.toList.all az
theorem name_eq {s : Str} (hz : s.length < 16777216) : M_is_name s = some (isName s) := by
  unfold M_is_name
  simp only [bsm, basm, az_all]
  unfold chI
  rw [lenS_eq hz]
  simp only [bsm]
  unfold isName
  have g1 : decide ((1 : Int) ≤ (s.length : Int)) = decide (1 ≤ s.length) := decide_eq_decide.mpr (by omega)
  have g2 : decide ((s.length : Int) ≤ 12) = decide (s.length ≤ 12) := decide_eq_decide.mpr (by omega)
  rw [g1, g2]
  cases decide (1 ≤ s.length) <;> cases decide (s.length ≤ 12) <;> rfl
theorem joinL_ones : ∀ l : List Nat, TL.joinL [] (l.map fun c => [c]) = l
  | [] => rfl
  | [c] => rfl
  | c :: d :: l => by
    have := joinL_ones (d :: l)
    show [c] ++ ([] ++ TL.joinL [] ((d :: l).map fun c => [c])) = _
    rw [this]
    rfl
theorem join_ones' (l : List Nat) : joinP "" (l.map fun c => (⟨#[c]⟩ : Str)) = if l.length ≤ 16777216 then some ⟨l.toArray⟩ else none := by
  have hs : ((l.map fun c => (⟨#[c]⟩ : Str)).map (·.length)).sum = l.length := by
    induction l with
    | nil => rfl
    | cons c l ih =>
      rw [List.map_cons, List.map_cons, List.sum_cons, ih, List.length_cons]
      show 1 + l.length = _
      omega
  have he : ("" : Str).length = 0 := by decide +kernel
  unfold joinP
  rw [hs, he, Nat.mul_zero, Nat.add_zero]
  by_cases h : l.length ≤ 16777216
  · rw [if_pos h, if_pos h]
    congr 1
    refine Str.ext' (Array.toList_inj.mp ?_)
    show (Builtin.Str.glued "" _).cps.toList = _
    rw [StrLaws.glued_eq_join]
    have := TL.tl_join ("" : Str) (l.map fun c => (⟨#[c]⟩ : Str))
    refine this.trans ?_
    rw [List.map_map]
    exact joinL_ones l
  · rw [if_neg h, if_neg h]
theorem law_name_str {s : Str} (hz : s.length < 16777216) : M__law_is_name (.str s) = some (isName s) := by
  unfold M__law_is_name
  simp only [bsm, basm]
  rw [show isiP "str" (em (D.str s)) = some true from rfl, show lenD (.str s) = some (s.length : Int) from by show (if sz s.length then some (s.length : Int) else none) = _; rw [if_pos (show sz s.length from hz)]]
  simp only [bsm]
  have orc : ∀ a b : Bool, orO (some a) (some b) = some (a || b) := fun a b => by cases a <;> rfl
  rw [orc, orc]
  simp only [bsm]
  unfold isName
  by_cases h : 1 ≤ s.length ∧ s.length ≤ 12
  · rw [if_neg (by simp; omega)]
    rw [show asS (.str s) = some s from rfl, bsm]
    rw [lcC_filter (f := fun v : Str => some v) (xs := T.signs s) (p := fun y : Str => match y.cps.toList with | [n] => az n | _ => false) (g := fun v => v) (by unfold T.signs; rw [List.length_map, ← slen]; exact hz) (fun y hy => ?_) (fun y hy _ => rfl)]
    · rw [bsm, List.map_id']
      have e : (T.signs s).filter (fun y : Str => match y.cps.toList with | [n] => az n | _ => false) = (s.cps.toList.filter az).map fun c => (⟨#[c]⟩ : Str) := by
        unfold T.signs
        rw [List.filter_map]
        rfl
      rw [e]
      have hl : (s.cps.toList.filter az).length ≤ 16777216 := by
        have := List.length_filter_le az s.cps.toList
        rw [← slen] at this
        omega
      rw [show joinP (Str.ofString "") _ = _ from join_ones' _, if_pos hl, bsm]
      show (some (decide ((⟨(s.cps.toList.filter az).toArray⟩ : Str) = s))).bind _ = _
      rw [bsm]
      congr 1
      rw [show decide (1 ≤ s.length) = true by simp [h.1], show decide (s.length ≤ 12) = true by simp [h.2], Bool.true_and, Bool.true_and]
      by_cases q : s.cps.toList.all az = true
      · rw [q]
        refine decide_eq_true ?_
        refine Str.ext' (Array.toList_inj.mp ?_)
        show s.cps.toList.filter az = _
        rw [List.filter_eq_self]
        exact List.all_eq_true.mp q
      · rw [show s.cps.toList.all az = false by simpa using q]
        refine decide_eq_false fun z => q ?_
        have z2 : s.cps.toList.filter az = s.cps.toList := congrArg (fun t : Str => t.cps.toList) z
        rw [List.all_eq_true]
        exact List.filter_eq_self.mp z2
    · unfold T.signs at hy
      obtain ⟨n, hn, rfl⟩ := List.mem_map.mp hy
      show some (decide (n ∈ _)) = some (az n)
      rw [az_mem]
  · rw [if_pos (by simp; omega)]
    have : (decide (1 ≤ s.length) && decide (s.length ≤ 12)) = false := by
      by_cases a : 1 ≤ s.length
      · have b : ¬ s.length ≤ 12 := fun b => h ⟨a, b⟩
        simp [b]
      · simp [a]
    rw [this]
    rfl
/-! ### words and their parts -/
theorem andc (a b : Bool) : andO (some a) (some b) = some (a && b) := by cases a <;> rfl
theorem orc (a b : Bool) : orO (some a) (some b) = some (a || b) := by cases a <;> rfl
def LEAF : List Str := ["kind", "name"]
def NUM : List Str := ["atleast", "atmost", "exactly"]
/-- word, its part's sort, its own sort -/
def ONE : List (Str × Str × Str) := [("non", "kind", "kind"), ("every", "kind", "noun"), ("some", "kind", "noun"), ("no", "kind", "noun"), ("notevery", "kind", "noun"), ("not", "sentence", "sentence"), ("isle", "sentence", "sentence")]
def TWO : List (Str × (Str × Str) × Str) := [("both", ("kind", "kind"), "kind"), ("either", ("kind", "kind"), "kind"), ("say", ("noun", "kind"), "sentence"), ("and", ("sentence", "sentence"), "sentence"), ("or", ("sentence", "sentence"), "sentence"), ("if", ("sentence", "sentence"), "sentence")]
def SORTS : List Str := ["", "kind", "noun", "sentence"]
theorem first_t {w : Str} (h : memB w C_NUMBERED.l = true) : M_first_part w = some 2 := by
  unfold M_first_part
  simp only [bsm, basm, h, if_true]
theorem first_f {w : Str} (h : memB w C_NUMBERED.l = false) : M_first_part w = some 1 := by
  unfold M_first_part
  simp only [bsm, basm, h, Bool.false_eq_true, if_false]
theorem asV_tup (l : List D) : asV (.tup l) = some ⟨l⟩ := rfl
theorem asS_str (s : Str) : asS (.str s) = some s := rfl
theorem asI_int (s : Int) : asI (.int s) = some s := rfl
theorem lenD_tup (l : List D) : lenD (.tup l) = some (l.length : Int) := rfl
theorem atI_0 {α : Type} (x : α) (l : List α) : atI (x :: l) 0 = some x := T.atI_nat (j := 0) rfl (by simp)
theorem atI_1 {α : Type} (x y : α) (l : List α) : atI (x :: y :: l) 1 = some y := T.atI_nat (j := 1) rfl (by simp)
theorem atI_2 {α : Type} (x y z : α) (l : List α) : atI (x :: y :: z :: l) 2 = some z := T.atI_nat (j := 2) rfl (by simp)
theorem made_of {w s : Str} (h : memB w K_LEAVES = false) (h2 : (if memB w C_KINDS_MADE.l = true then ("kind" : Str) else if memB w C_NOUNS_MADE.l = true then "noun" else "sentence") = s) : M_made_sort w = some s := by
  unfold M_made_sort
  simp only [bsm, basm, h, Bool.false_eq_true, if_false, id]
  by_cases a : memB w C_KINDS_MADE.l = true
  · rw [if_pos a] at h2 ⊢; rw [h2]
  · rw [if_neg a] at h2 ⊢
    by_cases b : memB w C_NOUNS_MADE.l = true
    · rw [if_pos b] at h2 ⊢; rw [h2]; rfl
    · rw [if_neg b] at h2 ⊢; rw [h2]; rfl
theorem one_w : ∀ p ∈ ONE, memB p.1 K_LEAVES = false ∧ memB p.1 K_PARTS = true ∧ memB p.1 C_NUMBERED.l = false ∧ (if memB p.1 C_KINDS_MADE.l = true then ("kind" : Str) else if memB p.1 C_NOUNS_MADE.l = true then "noun" else "sentence") = p.2.2 := by decide +kernel
theorem two_w : ∀ p ∈ TWO, memB p.1 K_LEAVES = false ∧ memB p.1 K_PARTS = true ∧ memB p.1 C_NUMBERED.l = false ∧ (if memB p.1 C_KINDS_MADE.l = true then ("kind" : Str) else if memB p.1 C_NOUNS_MADE.l = true then "noun" else "sentence") = p.2.2 := by decide +kernel
theorem num_w : ∀ w ∈ NUM, memB w K_LEAVES = false ∧ memB w K_PARTS = true ∧ memB w C_NUMBERED.l = true ∧ (if memB w C_KINDS_MADE.l = true then ("kind" : Str) else if memB w C_NOUNS_MADE.l = true then "noun" else "sentence") = "noun" := by decide +kernel
theorem lk (w x : Str) (d : D) (f : List (Str × D)) : List.lookup w ((x, d) :: f) = if w = x then some d else List.lookup w f := by
  rw [List.lookup_cons]
  by_cases h : w = x
  · subst h; rw [beq_self_eq_true, if_pos rfl]
  · rw [beq_false_of_ne h, if_neg h]
theorem one_p : ∀ p ∈ ONE, List.lookup p.1 F_PARTS = some (.tup [.str p.2.1]) := by
  intro p hp
  simp only [ONE, List.mem_cons, List.not_mem_nil, or_false] at hp
  unfold F_PARTS
  simp only [lk]
  rcases hp with rfl | rfl | rfl | rfl | rfl | rfl | rfl
  all_goals
    repeat (first | rw [if_pos rfl] | rw [if_neg (by decide +kernel)])
theorem two_p : ∀ p ∈ TWO, List.lookup p.1 F_PARTS = some (.tup [.str p.2.1.1, .str p.2.1.2]) := by
  intro p hp
  simp only [TWO, List.mem_cons, List.not_mem_nil, or_false] at hp
  unfold F_PARTS
  simp only [lk]
  rcases hp with rfl | rfl | rfl | rfl | rfl | rfl
  all_goals
    repeat (first | rw [if_pos rfl] | rw [if_neg (by decide +kernel)])
theorem num_p : ∀ w ∈ NUM, List.lookup w F_PARTS = some (.tup [.str "kind"]) := by
  intro p hp
  simp only [NUM, List.mem_cons, List.not_mem_nil, or_false] at hp
  unfold F_PARTS
  simp only [lk]
  rcases hp with rfl | rfl | rfl
  all_goals
    repeat (first | rw [if_pos rfl] | rw [if_neg (by decide +kernel)])
/-! ### data that may be a term -/
def Gd : Nat → D → Prop
  | 0, _ => False
  | _ + 1, .str s => PyData.strOk s = true ∧ s.length ≤ 1000
  | _ + 1, .int _ => True
  | n + 1, .tup l => l.length ≤ 100 ∧ ∀ x ∈ l, Gd n x
  | _ + 1, _ => False
theorem Gd.up : ∀ {n : Nat} {d : D}, Gd n d → Gd (n + 1) d
  | 0, _, h => h.elim
  | n + 1, .str _, h => h
  | n + 1, .int _, h => h
  | n + 1, .tup l, h => ⟨h.1, fun x hx => Gd.up (h.2 x hx)⟩
  | n + 1, .non, h => h.elim
  | n + 1, .bl _, h => h.elim
  | n + 1, .lst _, h => h.elim
  | n + 1, .ins _ _ _, h => h.elim
theorem Gd.ups {n m : Nat} {d : D} (h : Gd n d) (hm : n ≤ m) : Gd m d := by
  induction hm with
  | refl => exact h
  | step _ ih => exact ih.up
/-- the head: no tuple, the empty one, one whose first is no text -/
theorem head_str (s : Str) : M_head_is_right (.str s) = some false := by
  unfold M_head_is_right
  simp only [bsm, basm]
  rw [show isiP "tuple" (em (D.str s)) = some false from rfl]
  rfl
theorem head_int (s : Int) : M_head_is_right (.int s) = some false := by
  unfold M_head_is_right
  simp only [bsm, basm]
  rw [show isiP "tuple" (em (D.int s)) = some false from rfl]
  rfl
theorem head_nil : M_head_is_right (.tup []) = some false := by
  unfold M_head_is_right
  simp only [bsm, basm]
  rw [show isiP "tuple" (em (D.tup [])) = some true from rfl]
  rfl
theorem head_first {x : D} {l : List D} (h : isiP "str" (em x) = some false) : M_head_is_right (.tup (x :: l)) = some false := by
  unfold M_head_is_right
  simp only [bsm, basm, asV_tup, atI_0, h]
  rw [show isiP "tuple" (em (D.tup (x :: l))) = some true from rfl, show truD (.tup (x :: l)) = some true from by show some (decide ((x :: l).length ≠ 0)) = _; simp]
  rfl
theorem law_head {x : D} {l : List D} {n : Nat} (h : isiP "str" (em x) = some false) : R__law_sort (n + 1) (.tup (x :: l)) = some ("" : Str) := by
  unfold R__law_sort
  simp only [bsm, basm, asV_tup, atI_0, h, lenD_tup]
  rw [show isiP "tuple" (em (D.tup (x :: l))) = some true from rfl]
  simp only [bsm, Bool.not_true, Bool.not_false, orc, Bool.or_true, if_true, id]
theorem tupP {x : D} {l : List D} : isiP "tuple" (em (D.tup (x :: l))) = some true ∧ truD (.tup (x :: l)) = some true := ⟨rfl, by show some (decide ((x :: l).length ≠ 0)) = _; simp⟩
theorem strP (w : Str) : isiP "str" (em (D.str w)) = some true := rfl
theorem len_dec (l : List D) (n : Nat) : decide ((((D.str w) :: l).length : Int) = ((n + 1 : Nat) : Int)) = decide (l.length = n) := decide_eq_decide.mpr (by rw [List.length_cons]; omega)
theorem head_leaf {w s : Str} (h : memB w K_LEAVES = true) (hz : s.length < 16777216) : M_head_is_right (.tup [.str w, .str s]) = some (isName s) := by
  unfold M_head_is_right
  simp only [bsm, basm, asV_tup, atI_0, atI_1, strP, tupP.1, tupP.2, asS_str, h, if_true, lenD_tup, name_eq hz, Bool.not_true, orc, Bool.or_self, Bool.false_eq_true, if_false, andc]
  rfl
theorem head_leafX {w : Str} {x : D} (h : memB w K_LEAVES = true) (hx : isiP "str" (em x) = some false) : M_head_is_right (.tup [.str w, x]) = some false := by
  unfold M_head_is_right
  simp only [bsm, basm, asV_tup, atI_0, atI_1, strP, tupP.1, tupP.2, asS_str, h, if_true, lenD_tup, Bool.not_true, orc, Bool.or_self, Bool.false_eq_true, if_false, hx]
  rfl
theorem head_leafN {w : Str} {l : List D} (h : memB w K_LEAVES = true) (hl : l.length ≠ 1) : M_head_is_right (.tup (.str w :: l)) = some false := by
  unfold M_head_is_right
  have e : decide (((D.str w :: l).length : Int) = 2) = false := decide_eq_false (by rw [List.length_cons]; omega)
  simp only [bsm, basm, asV_tup, atI_0, strP, tupP.1, tupP.2, asS_str, h, if_true, lenD_tup, Bool.not_true, orc, Bool.or_self, Bool.false_eq_true, if_false, e, andO_some]
  rfl
theorem head_strange {w : Str} {l : List D} (h : memB w K_LEAVES = false) (h2 : memB w K_PARTS = false) : M_head_is_right (.tup (.str w :: l)) = some false := by
  unfold M_head_is_right
  simp only [bsm, basm, asV_tup, atI_0, strP, tupP.1, tupP.2, asS_str, h, h2, if_true, lenD_tup, Bool.not_true, Bool.not_false, orc, orO_some, Bool.or_self, Bool.false_eq_true, if_false, id]
theorem head_one {w : Str} {l ps : List D} (h : memB w K_LEAVES = false) (h2 : memB w K_PARTS = true) (h3 : memB w C_NUMBERED.l = false) (hp : List.lookup w F_PARTS = some (.tup ps)) : M_head_is_right (.tup (.str w :: l)) = some (decide (l.length = ps.length)) := by
  unfold M_head_is_right
  have e : (!decide (((D.str w :: l).length : Int) = 1 + (ps.length : Int))) = !decide (l.length = ps.length) := by
    congr 1
    exact decide_eq_decide.mpr (by rw [List.length_cons]; omega)
  simp only [bsm, basm, asV_tup, atI_0, strP, tupP.1, tupP.2, asS_str, h, h2, h3, first_f h3, hp, if_true, lenD_tup, Bool.not_true, Bool.not_false, orc, orO_some, Bool.or_self, Bool.false_eq_true, if_false, id, e]
  cases decide (l.length = ps.length) <;> rfl
theorem head_numN {w : Str} {l ps : List D} (h : memB w K_LEAVES = false) (h2 : memB w K_PARTS = true) (h3 : memB w C_NUMBERED.l = true) (hp : List.lookup w F_PARTS = some (.tup ps)) (hl : l.length ≠ ps.length + 1) : M_head_is_right (.tup (.str w :: l)) = some false := by
  unfold M_head_is_right
  have e : (!decide (((D.str w :: l).length : Int) = 2 + (ps.length : Int))) = true := by
    rw [decide_eq_false (by rw [List.length_cons]; omega)]
    rfl
  simp only [bsm, basm, asV_tup, atI_0, strP, tupP.1, tupP.2, asS_str, h, h2, h3, first_t h3, hp, if_true, lenD_tup, Bool.not_true, Bool.not_false, orc, orO_some, Bool.or_self, Bool.false_eq_true, if_false, id, e]
theorem head_num {w : Str} {t p : D} {i : Int} (h : memB w K_LEAVES = false) (h2 : memB w K_PARTS = true) (h3 : memB w C_NUMBERED.l = true) (hp : List.lookup w F_PARTS = some (.tup [p])) : M_head_is_right (.tup [.str w, .int i, t]) = some (decide (0 ≤ i) && decide (i ≤ 9)) := by
  unfold M_head_is_right
  have e : (!decide ((([D.str w, .int i, t] : List D).length : Int) = 2 + (([p] : List D).length : Int))) = false := rfl
  have q : chI (fun i j => decide (i ≤ j)) (fun i j => decide (i ≤ j)) (some 0) (some i) (some 9) = some (decide (0 ≤ i) && decide (i ≤ 9)) := by
    unfold chI
    simp only [bsm]
    cases decide (0 ≤ i) <;> rfl
  simp only [bsm, basm, asV_tup, atI_0, atI_1, strP, tupP.1, tupP.2, asS_str, asI_int, h, h2, h3, first_t h3, hp, if_true, lenD_tup, Bool.not_true, Bool.not_false, orc, orO_some, Bool.or_self, Bool.false_eq_true, if_false, id, e, q,
    show isiP "int" (em (D.int i)) = some true from rfl, show isiP "bool" (em (D.int i)) = some false from rfl, andc, Bool.true_and]
theorem head_numX {w : Str} {x t p : D} (h : memB w K_LEAVES = false) (h2 : memB w K_PARTS = true) (h3 : memB w C_NUMBERED.l = true) (hp : List.lookup w F_PARTS = some (.tup [p])) (hx : isiP "int" (em x) = some false) : M_head_is_right (.tup [.str w, x, t]) = some false := by
  unfold M_head_is_right
  have e : (!decide ((([D.str w, x, t] : List D).length : Int) = 2 + (([p] : List D).length : Int))) = false := rfl
  simp only [bsm, basm, asV_tup, atI_0, atI_1, strP, tupP.1, tupP.2, asS_str, h, h2, h3, first_t h3, hp, if_true, lenD_tup, Bool.not_true, Bool.not_false, orc, orO_some, Bool.or_self, Bool.false_eq_true, if_false, id, e, hx, andO_some]
/-! ### the program's sort -/
theorem sort_bad {n : Nat} {d : D} (h : M_head_is_right d = some false) : R_sort_of (n + 1) d = some ("" : Str) := by
  unfold R_sort_of
  simp only [bsm, basm, h, Bool.not_false, if_true, id]
theorem cut1 {α : Type} (x : α) (l : List α) : cutT ⟨x :: l⟩ (some 1) none = some ⟨l⟩ := by
  have h : HT.sIx (x :: l).length 0 (some (1 : Int)) = 1 := by
    have := HT.sIx_nat (l.length + 1) 0 1
    rw [List.length_cons]
    refine this.trans ?_
    omega
  unfold cutT
  show (if HT.sIx (x :: l).length 0 (some 1) = 0 ∧ _ then none else some (⟨T.cut (x :: l) (some 1) none⟩ : Vt α)) = _
  rw [if_neg (by rw [h]; omega)]
  unfold T.cut
  rw [h, HT.sIx_none]
  simp
theorem inner_leaf {w : Str} {l : List D} (h : memB w K_LEAVES = true) : M_inner (.tup (.str w :: l)) = some (.tup []) := by
  unfold M_inner
  simp only [bsm, basm, asV_tup, atI_0, asS_str, h, if_true]
  rfl
theorem inner_f {w : Str} {l : List D} (h : memB w K_LEAVES = false) (h3 : memB w C_NUMBERED.l = false) : M_inner (.tup (.str w :: l)) = some (.tup l) := by
  unfold M_inner
  simp only [bsm, basm, asV_tup, atI_0, asS_str, h, Bool.false_eq_true, if_false, first_f h3, cut1]
  show some (D.tup (l.map em)) = _
  rw [map_em]
theorem inner_t {w : Str} {x t : D} (h : memB w K_LEAVES = false) (h3 : memB w C_NUMBERED.l = true) : M_inner (.tup [.str w, x, t]) = some (.tup [t]) := by
  unfold M_inner
  simp only [bsm, basm, asV_tup, atI_0, asS_str, h, Bool.false_eq_true, if_false, first_t h3]
  rfl
theorem eqP_str {x y : Str} (hx : PyData.strOk x = true) (hy : PyData.strOk y = true) : eqP (em (D.str x)) (em (D.str y)) = some (decide (x = y)) := by
  unfold eqP
  rw [if_pos ⟨rfl, rfl, by show (PyData.canLay0 (.str x) && _) = true; simp [PyData.canLay0, hx, PyData.depth, toPy, em, Em.em], by show (PyData.canLay0 (.str y) && _) = true; simp [PyData.canLay0, hy, PyData.depth, toPy, em, Em.em]⟩]
  simp [em, Em.em, toPy, PyData.eqv]
  exact Bool.eq_iff_iff.mpr (by simp)
theorem sorts_ok : ∀ s ∈ SORTS, PyData.strOk s = true := by decide +kernel
theorem made_leaf : M_made_sort "kind" = some ("kind" : Str) ∧ M_made_sort "name" = some ("noun" : Str) := by decide +kernel
theorem leaf_k : memB ("kind" : Str) K_LEAVES = true ∧ memB ("name" : Str) K_LEAVES = true := by decide +kernel
theorem sort_good0 {n : Nat} {w : Str} {l : List D} {r : Str} (h : M_head_is_right (.tup (.str w :: l)) = some true) (hi : M_inner (.tup (.str w :: l)) = some (.tup [])) (hm : M_made_sort w = some r) : R_sort_of (n + 1) (.tup (.str w :: l)) = some r := by
  unfold R_sort_of
  simp only [bsm, basm, h, hi, lenD_tup, Bool.not_true, Bool.false_eq_true, if_false, asV_tup, atI_0, asS_str, hm]
  rw [show rngP 0 ((([] : List D).length : Nat) : Int) = some (rng 0 ((0 : Nat) : Int)) from T.rngP_nat (n := 0) (by decide), bsm]
  rfl
/-- one part -/
theorem sort_good1 {n : Nat} {w s p : Str} {l : List D} {t : D} {r : Str} (h : M_head_is_right (.tup (.str w :: l)) = some true) (hi : M_inner (.tup (.str w :: l)) = some (.tup [t])) (hp : List.lookup w F_PARTS = some (.tup [.str p])) (hm : M_made_sort w = some r)
    (ht : R_sort_of n t = some s) (os : PyData.strOk s = true) (op : PyData.strOk p = true) : R_sort_of (n + 1) (.tup (.str w :: l)) = some (if s = p then r else ("" : Str)) := by
  unfold R_sort_of
  simp only [bsm, basm, h, hi, lenD_tup, Bool.not_true, Bool.false_eq_true, if_false, asV_tup, atI_0, asS_str, hm, hp]
  rw [show rngP 0 ((([t] : List D).length : Nat) : Int) = some (rng 0 ((1 : Nat) : Int)) from T.rngP_nat (n := 1) (by decide), bsm, show rng 0 ((1 : Nat) : Int) = [0] from rfl]
  simp only [loopO, atI_0, bsm, basm, ht]
  rw [show eqP (em s) (em (D.str p)) = some (decide (s = p)) from eqP_str os op]
  simp only [bsm]
  by_cases q : s = p
  · simp [q, bsm, loopO, Lp.go]
  · simp [q, bsm, Lp.go]
/-- two parts -/
theorem sort_good2 {n : Nat} {w s s' p p' : Str} {l : List D} {t u : D} {r : Str} (h : M_head_is_right (.tup (.str w :: l)) = some true) (hi : M_inner (.tup (.str w :: l)) = some (.tup [t, u])) (hp : List.lookup w F_PARTS = some (.tup [.str p, .str p'])) (hm : M_made_sort w = some r)
    (ht : R_sort_of n t = some s) (hu : R_sort_of n u = some s') (os : PyData.strOk s = true) (os' : PyData.strOk s' = true) (op : PyData.strOk p = true) (op' : PyData.strOk p' = true) : R_sort_of (n + 1) (.tup (.str w :: l)) = some (if s = p ∧ s' = p' then r else ("" : Str)) := by
  unfold R_sort_of
  simp only [bsm, basm, h, hi, lenD_tup, Bool.not_true, Bool.false_eq_true, if_false, asV_tup, atI_0, asS_str, hm, hp]
  rw [show rngP 0 ((([t, u] : List D).length : Nat) : Int) = some (rng 0 ((2 : Nat) : Int)) from T.rngP_nat (n := 2) (by decide), bsm, show rng 0 ((2 : Nat) : Int) = [0, 1] from rfl]
  simp only [loopO, atI_0, atI_1, bsm, basm, ht, hu]
  rw [show eqP (em s) (em (D.str p)) = some (decide (s = p)) from eqP_str os op, show eqP (em s') (em (D.str p')) = some (decide (s' = p')) from eqP_str os' op']
  simp only [bsm]
  by_cases q : s = p
  · by_cases q' : s' = p'
    · simp [q, q', bsm, loopO, Lp.go]
    · simp [q, q', bsm, Lp.go]
  · simp [q, bsm, Lp.go]
/-! ### the law's sort -/
theorem law_str {n : Nat} (s : Str) : R__law_sort (n + 1) (.str s) = some ("" : Str) := by
  unfold R__law_sort
  simp only [bsm, basm]
  rw [show isiP "tuple" (em (D.str s)) = some false from rfl]
  simp only [bsm, Bool.not_false, orO_some, if_true, id]
theorem law_int {n : Nat} (s : Int) : R__law_sort (n + 1) (.int s) = some ("" : Str) := by
  unfold R__law_sort
  simp only [bsm, basm]
  rw [show isiP "tuple" (em (D.int s)) = some false from rfl]
  simp only [bsm, Bool.not_false, orO_some, if_true, id]
theorem law_nil {n : Nat} : R__law_sort (n + 1) (.tup []) = some ("" : Str) := by
  unfold R__law_sort
  simp only [bsm, basm]
  rw [show isiP "tuple" (em (D.tup [])) = some true from rfl, lenD_tup]
  simp only [bsm, Bool.not_true, orO_some, Bool.false_eq_true, if_false, show decide ((([] : List D).length : Int) < 2) = true from rfl, if_true, id]
theorem law_len {n : Nat} {w : Str} {l : List D} (h : l.length = 0 ∨ 3 ≤ l.length) : R__law_sort (n + 1) (.tup (.str w :: l)) = some ("" : Str) := by
  unfold R__law_sort
  simp only [bsm, basm, asV_tup, atI_0, strP, tupP.1, lenD_tup, Bool.not_true, orc, Bool.false_or, Bool.or_false]
  have e : (decide (((D.str w :: l).length : Int) < 2) || decide (3 < ((D.str w :: l).length : Int))) = true := by
    rw [List.length_cons]
    rcases h with h | h
    · rw [decide_eq_true (by omega)]; rfl
    · rw [Bool.or_eq_true]; exact .inr (decide_eq_true (by omega))
  rw [e]
  simp only [if_true, id]
theorem two_len (x y : D) : decide ((([x, y] : List D).length : Int) < 2) = false ∧ decide (3 < (([x, y] : List D).length : Int)) = false ∧ decide ((([x, y] : List D).length : Int) = 2) = true := ⟨rfl, rfl, rfl⟩
theorem three_len (x y z : D) : decide ((([x, y, z] : List D).length : Int) < 2) = false ∧ decide (3 < (([x, y, z] : List D).length : Int)) = false ∧ decide ((([x, y, z] : List D).length : Int) = 2) = false := ⟨rfl, rfl, rfl⟩
theorem eqD_str (x y : Str) : eqD (.str x) (em y) = some (decide (x = y)) := rfl
theorem law_kind {n : Nat} {x : D} {b : Bool} (h : M__law_is_name x = some b) : R__law_sort (n + 1) (.tup [.str "kind", x]) = some (if b = true then ("kind" : Str) else "") := by
  unfold R__law_sort
  simp only [bsm, basm, asV_tup, atI_0, atI_1, strP, tupP.1, lenD_tup, Bool.not_true, orc, (two_len _ _).1, (two_len _ _).2.1, (two_len _ _).2.2, Bool.or_self, Bool.false_eq_true, if_false, if_true, eqD_str, h, decide_true, Bool.true_or, show decide ((Str.ofString "kind") = (Str.ofString "name")) = false from by decide +kernel]
  cases b <;> decide +kernel
theorem law_name {n : Nat} {x : D} {b : Bool} (h : M__law_is_name x = some b) : R__law_sort (n + 1) (.tup [.str "name", x]) = some (if b = true then ("noun" : Str) else "") := by
  unfold R__law_sort
  simp only [bsm, basm, asV_tup, atI_0, atI_1, strP, tupP.1, lenD_tup, Bool.not_true, orc, (two_len _ _).1, (two_len _ _).2.1, (two_len _ _).2.2, Bool.or_self, Bool.false_eq_true, if_false, if_true, eqD_str, h, decide_true, Bool.or_true]
  cases b <;> decide +kernel
theorem law_one {n : Nat} {t : D} {s : Str} (ht : R__law_sort n t = some s) (hs : s ∈ SORTS) : ∀ p ∈ ONE, R__law_sort (n + 1) (.tup [.str p.1, t]) = some (if s = p.2.1 then p.2.2 else ("" : Str)) := by
  intro p hp
  have nl : decide (p.1 = ("kind" : Str)) = false ∧ decide (p.1 = ("name" : Str)) = false := by
    revert p
    decide +kernel
  unfold R__law_sort
  simp only [bsm, basm, asV_tup, atI_0, atI_1, asS_str, strP, tupP.1, lenD_tup, Bool.not_true, orc, (two_len _ _).1, (two_len _ _).2.1, (two_len _ _).2.2, Bool.or_self, Bool.false_eq_true, if_false, if_true, eqD_str, nl.1, nl.2, ht]
  clear nl ht
  revert s
  revert p
  decide +kernel
theorem eqP_pair {a b c d : Str} (ha : a ∈ SORTS) (hb : b ∈ SORTS) (hc : c ∈ SORTS) (hd : d ∈ SORTS) : eqP (em [a, b]) (em [c, d]) = some (decide (a = c) && decide (b = d)) := by
  have l : ∀ x ∈ SORTS, PyData.strOk x = true := sorts_ok
  unfold eqP
  rw [if_pos ⟨rfl, rfl, by show (PyData.canLay0 (.list [.str a, .str b]) && _) = true; simp [PyData.canLay0, PyData.canLayAll0, l a ha, l b hb, PyData.depth, PyData.depthAll, toPy, toPyA, em, Em.em], by show (PyData.canLay0 (.list [.str c, .str d]) && _) = true; simp [PyData.canLay0, PyData.canLayAll0, l c hc, l d hd, PyData.depth, PyData.depthAll, toPy, toPyA, em, Em.em]⟩]
  simp [em, Em.em, toPy, toPyA, PyData.eqv, PyData.eqvAll]
  exact Bool.eq_iff_iff.mpr (by simp)
theorem law_two {n : Nat} {t u : D} {s s' : Str} (ht : R__law_sort n t = some s) (hu : R__law_sort n u = some s') (hs : s ∈ SORTS) (hs' : s' ∈ SORTS) : ∀ p ∈ TWO, R__law_sort (n + 1) (.tup [.str p.1, t, u]) = some (if s = p.2.1.1 ∧ s' = p.2.1.2 then p.2.2 else ("" : Str)) := by
  intro p hp
  have nn : memB p.1 NUM = false := by
    revert p
    decide +kernel
  have k : ∀ x ∈ SORTS, ∀ y ∈ SORTS, eqP (em [s, s']) (em [x, y]) = some (decide (s = x) && decide (s' = y)) := fun x hx y hy => eqP_pair hs hs' hx hy
  unfold R__law_sort
  simp only [bsm, basm, asV_tup, atI_0, atI_1, atI_2, asS_str, strP, tupP.1, lenD_tup, Bool.not_true, orc, (three_len _ _ _).1, (three_len _ _ _).2.1, (three_len _ _ _).2.2, Bool.or_self, Bool.false_eq_true, if_false, if_true, eqD_str, ht, hu,
    show vtP 3 [Str.ofString "atleast", Str.ofString "atmost", Str.ofString "exactly"] = some ⟨NUM⟩ from rfl, nn, lstP_eq (xs := [s, s']) (by simp), lstP_eq (xs := [Str.ofString "kind", Str.ofString "kind"]) (by simp), lstP_eq (xs := [Str.ofString "noun", Str.ofString "kind"]) (by simp), lstP_eq (xs := [Str.ofString "sentence", Str.ofString "sentence"]) (by simp)]
  rw [k (Str.ofString "kind") (by decide +kernel) (Str.ofString "kind") (by decide +kernel), k (Str.ofString "noun") (by decide +kernel) (Str.ofString "kind") (by decide +kernel), k (Str.ofString "sentence") (by decide +kernel) (Str.ofString "sentence") (by decide +kernel)]
  clear nn ht hu k
  revert s'
  revert s
  revert p
  decide +kernel
theorem law_num {n : Nat} {t : D} {i : Int} {s : Str} (ht : R__law_sort n t = some s) : ∀ w ∈ NUM, R__law_sort (n + 1) (.tup [.str w, .int i, t]) = some (if (decide (0 ≤ i) && decide (i ≤ 9) && decide (s = ("kind" : Str))) = true then ("noun" : Str) else "") := by
  intro w hw
  have nn : memB w NUM = true := memB_iff.mpr hw
  have q : chI (fun i j => decide (i ≤ j)) (fun i j => decide (i ≤ j)) (some 0) (some i) (some 9) = some (decide (0 ≤ i) && decide (i ≤ 9)) := by
    unfold chI
    simp only [bsm]
    cases decide (0 ≤ i) <;> rfl
  unfold R__law_sort
  simp only [bsm, basm, asV_tup, atI_0, atI_1, atI_2, asS_str, asI_int, strP, tupP.1, lenD_tup, Bool.not_true, orc, andc, (three_len _ _ _).1, (three_len _ _ _).2.1, (three_len _ _ _).2.2, Bool.or_self, Bool.false_eq_true, if_false, if_true, ht,
    show vtP 3 [Str.ofString "atleast", Str.ofString "atmost", Str.ofString "exactly"] = some ⟨NUM⟩ from rfl, nn, show isiP "int" (em (D.int i)) = some true from rfl, q, Bool.true_and]
  cases decide (0 ≤ i) <;> cases decide (i ≤ 9) <;> cases decide (s = ("kind" : Str)) <;> rfl
theorem law_w2 {n : Nat} {t : D} {s w : Str} (ht : R__law_sort n t = some s) (h1 : w ∉ LEAF) (h2 : w ∉ ONE.map (·.1)) : R__law_sort (n + 1) (.tup [.str w, t]) = some ("" : Str) := by
  have e1 : decide (w = ("kind" : Str)) = false := decide_eq_false fun z => h1 (by rw [z]; simp [LEAF])
  have e2 : decide (w = ("name" : Str)) = false := decide_eq_false fun z => h1 (by rw [z]; simp [LEAF])
  have e3 : decide (w = ("non" : Str)) = false := decide_eq_false fun z => h2 (by rw [z]; simp [ONE])
  have mb : ∀ l : List Str, (∀ x ∈ l, x ∈ ONE.map (·.1)) → memB w l = false := fun l hl => by
    cases q : memB w l with
    | false => rfl
    | true => exact absurd (hl w (memB_iff.mp q)) h2
  unfold R__law_sort
  simp only [bsm, basm, asV_tup, atI_0, atI_1, asS_str, strP, tupP.1, lenD_tup, Bool.not_true, orc, (two_len _ _).1, (two_len _ _).2.1, (two_len _ _).2.2, Bool.or_self, Bool.false_eq_true, if_false, if_true, eqD_str, e1, e2, e3, ht, andO_some,
    show vtP 4 [Str.ofString "every", Str.ofString "some", Str.ofString "no", Str.ofString "notevery"] = some ⟨[Str.ofString "every", Str.ofString "some", Str.ofString "no", Str.ofString "notevery"]⟩ from rfl, show vtP 2 [Str.ofString "not", Str.ofString "isle"] = some ⟨[Str.ofString "not", Str.ofString "isle"]⟩ from rfl,
    mb [Str.ofString "every", Str.ofString "some", Str.ofString "no", Str.ofString "notevery"] (by decide +kernel), mb [Str.ofString "not", Str.ofString "isle"] (by decide +kernel), id]
theorem law_w3 {n : Nat} {t u : D} {s s' w : Str} (ht : R__law_sort n t = some s) (hu : R__law_sort n u = some s') (hs : s ∈ SORTS) (hs' : s' ∈ SORTS) (h1 : w ∉ NUM) (h2 : w ∉ TWO.map (·.1)) : R__law_sort (n + 1) (.tup [.str w, t, u]) = some ("" : Str) := by
  have nn : memB w NUM = false := by
    cases q : memB w NUM with
    | false => rfl
    | true => exact absurd (memB_iff.mp q) h1
  have e3 : decide (w = ("say" : Str)) = false := decide_eq_false fun z => h2 (by rw [z]; simp [TWO])
  have mb : ∀ l : List Str, (∀ x ∈ l, x ∈ TWO.map (·.1)) → memB w l = false := fun l hl => by
    cases q : memB w l with
    | false => rfl
    | true => exact absurd (hl w (memB_iff.mp q)) h2
  unfold R__law_sort
  simp only [bsm, basm, asV_tup, atI_0, atI_1, atI_2, asS_str, strP, tupP.1, lenD_tup, Bool.not_true, orc, (three_len _ _ _).1, (three_len _ _ _).2.1, (three_len _ _ _).2.2, Bool.or_self, Bool.false_eq_true, if_false, if_true, eqD_str, ht, hu,
    show vtP 3 [Str.ofString "atleast", Str.ofString "atmost", Str.ofString "exactly"] = some ⟨NUM⟩ from rfl, nn, lstP_eq (xs := [s, s']) (by simp), e3, andO_some,
    show vtP 2 [Str.ofString "both", Str.ofString "either"] = some ⟨[Str.ofString "both", Str.ofString "either"]⟩ from rfl, show vtP 3 [Str.ofString "and", Str.ofString "or", Str.ofString "if"] = some ⟨[Str.ofString "and", Str.ofString "or", Str.ofString "if"]⟩ from rfl,
    mb [Str.ofString "both", Str.ofString "either"] (by decide +kernel), mb [Str.ofString "and", Str.ofString "or", Str.ofString "if"] (by decide +kernel), id]
/-- a numbered word whose second is no number -/
theorem law_numX {n : Nat} {x t : D} {w : Str} (hw : w ∈ NUM) (hx : isiP "int" (em x) = some false) : R__law_sort (n + 1) (.tup [.str w, x, t]) = some ("" : Str) := by
  have nn : memB w NUM = true := memB_iff.mpr hw
  unfold R__law_sort
  simp only [bsm, basm, asV_tup, atI_0, atI_1, atI_2, asS_str, strP, tupP.1, lenD_tup, Bool.not_true, orc, (three_len _ _ _).1, (three_len _ _ _).2.1, (three_len _ _ _).2.2, Bool.or_self, Bool.false_eq_true, if_false, if_true,
    show vtP 3 [Str.ofString "atleast", Str.ofString "atmost", Str.ofString "exactly"] = some ⟨NUM⟩ from rfl, nn, hx, andO_some, id]
/-! ### both sorts agree -/
def Ag (n : Nat) (d : D) : Prop := ∃ s, s ∈ SORTS ∧ R_sort_of n d = some s ∧ R__law_sort n d = some s
theorem ag0 {n : Nat} {d : D} (h1 : R_sort_of n d = some ("" : Str)) (h2 : R__law_sort n d = some ("" : Str)) : Ag n d := ⟨"", by decide +kernel, h1, h2⟩
theorem leaf_mem : ∀ w ∈ LEAF, memB w K_LEAVES = true := by decide +kernel
theorem parts_in : ∀ x ∈ K_PARTS, x ∈ ONE.map (·.1) ∨ x ∈ TWO.map (·.1) ∨ x ∈ NUM := by decide +kernel
theorem leaves_in : ∀ x ∈ K_LEAVES, x ∈ LEAF := by decide +kernel
theorem memB_f {w : Str} {l : List Str} (h : w ∉ l) : memB w l = false := by
  cases q : memB w l with
  | false => rfl
  | true => exact absurd (memB_iff.mp q) h
theorem none_w {w : Str} (h1 : w ∉ LEAF) (h2 : w ∉ ONE.map (·.1)) (h3 : w ∉ TWO.map (·.1)) (h4 : w ∉ NUM) : memB w K_LEAVES = false ∧ memB w K_PARTS = false := by
  refine ⟨memB_f fun h => h1 (leaves_in w h), memB_f fun h => ?_⟩
  rcases parts_in w h with q | q | q
  · exact h2 q
  · exact h3 q
  · exact h4 q
theorem dj1 : ∀ w ∈ LEAF, w ∉ NUM ∧ w ∉ ONE.map (·.1) ∧ w ∉ TWO.map (·.1) := by decide +kernel
theorem dj2 : ∀ w ∈ NUM, w ∉ LEAF ∧ w ∉ ONE.map (·.1) ∧ w ∉ TWO.map (·.1) := by decide +kernel
theorem dj3 : ∀ w ∈ ONE.map (·.1), w ∉ LEAF ∧ w ∉ NUM ∧ w ∉ TWO.map (·.1) := by decide +kernel
theorem dj4 : ∀ w ∈ TWO.map (·.1), w ∉ LEAF ∧ w ∉ NUM ∧ w ∉ ONE.map (·.1) := by decide +kernel
theorem one_s : ∀ p ∈ ONE, p.2.2 ∈ SORTS ∧ PyData.strOk p.2.1 = true := by decide +kernel
theorem two_s : ∀ p ∈ TWO, p.2.2 ∈ SORTS ∧ PyData.strOk p.2.1.1 = true ∧ PyData.strOk p.2.1.2 = true := by decide +kernel
theorem str_or {n : Nat} {x : D} (h : Gd n x) : (∃ s, x = .str s ∧ s.length ≤ 1000) ∨ isiP "str" (em x) = some false := by
  cases n with
  | zero => exact h.elim
  | succ n =>
    cases x with
    | str s => exact .inl ⟨s, rfl, h.2⟩
    | int i => exact .inr rfl
    | tup l => exact .inr rfl
    | non => exact h.elim
    | bl b => exact h.elim
    | lst l => exact h.elim
    | ins a b c => exact h.elim
theorem int_or {n : Nat} {x : D} (h : Gd n x) : (∃ i, x = .int i) ∨ isiP "int" (em x) = some false := by
  cases n with
  | zero => exact h.elim
  | succ n =>
    cases x with
    | str s => exact .inr rfl
    | int i => exact .inl ⟨i, rfl⟩
    | tup l => exact .inr rfl
    | non => exact h.elim
    | bl b => exact h.elim
    | lst l => exact h.elim
    | ins a b c => exact h.elim
theorem law_name_non {x : D} (h : isiP "str" (em x) = some false) : M__law_is_name x = some false := by
  unfold M__law_is_name
  simp only [bsm, basm, h, Bool.not_false, orO_some, if_true, id]
theorem sub_ok (s : Str) (h : s ∈ SORTS) : PyData.strOk s = true := sorts_ok s h
theorem agree_w {n : Nat} {w : Str} {l : List D} (ih : ∀ x ∈ l, Ag n x) (gd : ∀ x ∈ l, Gd n x) : Ag (n + 1) (.tup (.str w :: l)) := by
  by_cases c1 : w ∈ LEAF
  · have k1 := leaf_mem w c1
    have dj := dj1 w c1
    match l, ih, gd with
    | [], _, _ => exact ag0 (sort_bad (head_leafN k1 (by simp))) (law_len (.inl rfl))
    | [x], ih, gd =>
      rcases str_or (gd x (by simp)) with ⟨s, rfl, hs⟩ | hx
      · have e1 := head_leaf (w := w) (s := s) k1 (by omega)
        have e2 := law_name_str (s := s) (by omega)
        have c1 : w = "kind" ∨ w = "name" := by simpa [LEAF] using c1
        cases q : isName s with
        | false =>
          rw [q] at e1 e2
          refine ag0 (sort_bad e1) ?_
          rcases c1 with rfl | rfl
          · exact law_kind e2
          · exact law_name e2
        | true =>
          rw [q] at e1 e2
          rcases c1 with rfl | rfl
          · exact ⟨"kind", by decide +kernel, sort_good0 e1 (inner_leaf k1) made_leaf.1, law_kind e2⟩
          · exact ⟨"noun", by decide +kernel, sort_good0 e1 (inner_leaf k1) made_leaf.2, law_name e2⟩
      · have e1 := head_leafX (w := w) k1 hx
        have e2 := law_name_non hx
        have c1 : w = "kind" ∨ w = "name" := by simpa [LEAF] using c1
        refine ag0 (sort_bad e1) ?_
        rcases c1 with rfl | rfl
        · exact law_kind e2
        · exact law_name e2
    | [x, y], ih, gd =>
      obtain ⟨s, hs, _, b⟩ := ih x (by simp)
      obtain ⟨s', hs', _, b'⟩ := ih y (by simp)
      exact ag0 (sort_bad (head_leafN k1 (by simp))) (law_w3 b b' hs hs' dj.1 dj.2.2)
    | x :: y :: z :: t, _, _ => exact ag0 (sort_bad (head_leafN k1 (by simp))) (law_len (.inr (by simp)))
  by_cases c2 : w ∈ ONE.map (·.1)
  · have dj := dj3 w c2
    obtain ⟨p, hp, rfl⟩ := List.mem_map.mp c2
    have k := one_w p hp
    have kp := one_p p hp
    have hd := fun l => head_one (l := l) k.1 k.2.1 k.2.2.1 kp
    match l, ih, gd with
    | [], _, _ => exact ag0 (sort_bad (hd [])) (law_len (.inl rfl))
    | [x], ih, gd =>
      obtain ⟨s, hs, a, b⟩ := ih x (by simp)
      refine ⟨if s = p.2.1 then p.2.2 else "", ?_, sort_good1 (hd [x]) (inner_f k.1 k.2.2.1) kp (made_of k.1 k.2.2.2) a (sub_ok s hs) (one_s p hp).2, law_one b hs p hp⟩
      split
      · exact (one_s p hp).1
      · decide +kernel
    | [x, y], ih, gd =>
      obtain ⟨s, hs, _, b⟩ := ih x (by simp)
      obtain ⟨s', hs', _, b'⟩ := ih y (by simp)
      exact ag0 (sort_bad (hd [x, y])) (law_w3 b b' hs hs' dj.2.1 dj.2.2)
    | x :: y :: z :: t, _, _ => exact ag0 (sort_bad ((hd _).trans (by simp))) (law_len (.inr (by simp)))
  by_cases c3 : w ∈ TWO.map (·.1)
  · have dj := dj4 w c3
    obtain ⟨p, hp, rfl⟩ := List.mem_map.mp c3
    have k := two_w p hp
    have kp := two_p p hp
    have hd := fun l => head_one (l := l) k.1 k.2.1 k.2.2.1 kp
    match l, ih, gd with
    | [], _, _ => exact ag0 (sort_bad (hd [])) (law_len (.inl rfl))
    | [x], ih, gd =>
      obtain ⟨s, hs, a, b⟩ := ih x (by simp)
      exact ag0 (sort_bad (hd [x])) (law_w2 b c1 c2)
    | [x, y], ih, gd =>
      obtain ⟨s, hs, a, b⟩ := ih x (by simp)
      obtain ⟨s', hs', a', b'⟩ := ih y (by simp)
      refine ⟨if s = p.2.1.1 ∧ s' = p.2.1.2 then p.2.2 else "", ?_, sort_good2 (hd [x, y]) (inner_f k.1 k.2.2.1) kp (made_of k.1 k.2.2.2) a a' (sub_ok s hs) (sub_ok s' hs') (two_s p hp).2.1 (two_s p hp).2.2, law_two b b' hs hs' p hp⟩
      split
      · exact (two_s p hp).1
      · decide +kernel
    | x :: y :: z :: t, _, _ => exact ag0 (sort_bad ((hd _).trans (by simp))) (law_len (.inr (by simp)))
  by_cases c4 : w ∈ NUM
  · have k := num_w w c4
    have kp := num_p w c4
    match l, ih, gd with
    | [], _, _ => exact ag0 (sort_bad (head_numN k.1 k.2.1 k.2.2.1 kp (by simp))) (law_len (.inl rfl))
    | [x], ih, gd =>
      obtain ⟨s, hs, a, b⟩ := ih x (by simp)
      exact ag0 (sort_bad (head_numN k.1 k.2.1 k.2.2.1 kp (by simp))) (law_w2 b c1 c2)
    | [x, y], ih, gd =>
      obtain ⟨s, hs, a, b⟩ := ih y (by simp)
      rcases int_or (gd x (by simp)) with ⟨i, rfl⟩ | hx
      · have e := head_num (t := y) (i := i) k.1 k.2.1 k.2.2.1 kp
        have e2 := law_num (i := i) b w c4
        cases q : decide (0 ≤ i) && decide (i ≤ 9) with
        | false =>
          rw [q] at e e2
          refine ag0 (sort_bad e) ?_
          rw [Bool.false_and, if_neg Bool.false_ne_true] at e2
          exact e2
        | true =>
          rw [q] at e e2
          refine ⟨if s = "kind" then "noun" else "", ?_, sort_good1 e (inner_t k.1 k.2.2.1) kp (made_of k.1 k.2.2.2) a (sub_ok s hs) (by decide +kernel), ?_⟩
          · split <;> decide +kernel
          · refine e2.trans ?_
            by_cases z : s = "kind"
            · simp [z]
            · simp [z]
      · exact ag0 (sort_bad (head_numX k.1 k.2.1 k.2.2.1 kp hx)) (law_numX c4 hx)
    | x :: y :: z :: t, _, _ => exact ag0 (sort_bad (head_numN k.1 k.2.1 k.2.2.1 kp (by simp))) (law_len (.inr (by simp)))
  · have k := none_w c1 c2 c3 c4
    have e := head_strange (l := l) k.1 k.2
    refine ag0 (sort_bad e) ?_
    match l, ih, gd with
    | [], _, _ => exact law_len (.inl rfl)
    | [x], ih, gd =>
      obtain ⟨s, hs, a, b⟩ := ih x (by simp)
      exact law_w2 b c1 c2
    | [x, y], ih, gd =>
      obtain ⟨s, hs, a, b⟩ := ih x (by simp)
      obtain ⟨s', hs', a', b'⟩ := ih y (by simp)
      exact law_w3 b b' hs hs' c4 c3
    | x :: y :: z :: t, _, _ => exact law_len (.inr (by simp))
theorem Gd.no {n : Nat} : ¬ Gd n .non ∧ (∀ b, ¬ Gd n (.bl b)) ∧ (∀ b, ¬ Gd n (.lst b)) ∧ (∀ a b c, ¬ Gd n (.ins a b c)) := by
  cases n <;> exact ⟨id, fun _ => id, fun _ => id, fun _ _ _ => id⟩
theorem agree : ∀ (n : Nat) (d : D), Gd n d → Ag n d
  | 0, _, h => h.elim
  | n + 1, .str s, h => ag0 (sort_bad (head_str s)) (law_str s)
  | n + 1, .int i, h => ag0 (sort_bad (head_int i)) (law_int i)
  | n + 1, .tup [], h => ag0 (sort_bad head_nil) law_nil
  | n + 1, .tup (x :: l), h => by
    have ih : ∀ y ∈ l, Ag n y := fun y hy => agree n y (h.2 y (List.mem_cons_of_mem _ hy))
    have g0 : Gd n x := h.2 x List.mem_cons_self
    have gl : ∀ y ∈ l, Gd n y := fun y hy => h.2 y (List.mem_cons_of_mem _ hy)
    cases x with
    | str w => exact agree_w ih gl
    | int i => exact ag0 (sort_bad (head_first rfl)) (law_head rfl)
    | tup i => exact ag0 (sort_bad (head_first rfl)) (law_head rfl)
    | non => exact absurd g0 Gd.no.1
    | bl b => exact absurd g0 (Gd.no.2.1 b)
    | lst b => exact absurd g0 (Gd.no.2.2.1 b)
    | ins a b c => exact absurd g0 (Gd.no.2.2.2 a b c)
  | n + 1, .non, h => h.elim
  | n + 1, .bl _, h => h.elim
  | n + 1, .lst _, h => h.elim
  | n + 1, .ins _ _ _, h => h.elim
def ON : List Str := ["non", "every", "some", "no", "notevery", "not", "isle"]
def TW : List Str := ["both", "either", "say", "and", "or", "if"]
/-- a term of a depth of n at most -/
inductive Tm : Nat → D → Prop
  | leaf {n : Nat} {w s : Str} : w ∈ LEAF → PyData.strOk s = true → s.length ≤ 12 → Tm (n + 1) (.tup [.str w, .str s])
  | num {n : Nat} {w : Str} {i : Int} {t : D} : w ∈ NUM → Tm n t → Tm (n + 1) (.tup [.str w, .int i, t])
  | one {n : Nat} {w : Str} {t : D} : w ∈ ON → Tm n t → Tm (n + 1) (.tup [.str w, t])
  | two {n : Nat} {w : Str} {t u : D} : w ∈ TW → Tm n t → Tm n u → Tm (n + 1) (.tup [.str w, t, u])
theorem Tm.up {n : Nat} {d : D} (h : Tm n d) : ∀ {m : Nat}, n ≤ m → Tm m d := by
  induction h with
  | leaf a b c => intro m hm; obtain ⟨k, rfl⟩ : ∃ k, m = k + 1 := ⟨m - 1, by omega⟩; exact .leaf a b c
  | num a _ ih => intro m hm; obtain ⟨k, rfl⟩ : ∃ k, m = k + 1 := ⟨m - 1, by omega⟩; exact .num a (ih (by omega))
  | one a _ ih => intro m hm; obtain ⟨k, rfl⟩ : ∃ k, m = k + 1 := ⟨m - 1, by omega⟩; exact .one a (ih (by omega))
  | two a _ _ ih ih2 => intro m hm; obtain ⟨k, rfl⟩ : ∃ k, m = k + 1 := ⟨m - 1, by omega⟩; exact .two a (ih (by omega)) (ih2 (by omega))
theorem Tm.tup {n : Nat} {d : D} (h : Tm n d) : ∃ l, d = .tup l := by cases h <;> exact ⟨_, rfl⟩
theorem words_ok : ∀ w ∈ LEAF ++ NUM ++ ON ++ TW, PyData.strOk w = true ∧ w.length ≤ 1000 := by decide +kernel
theorem Tm.gd {n : Nat} {d : D} (h : Tm n d) : Gd (n + 1) d := by
  have ow : ∀ w : Str, (w ∈ LEAF ∨ w ∈ NUM ∨ w ∈ ON ∨ w ∈ TW) → PyData.strOk w = true ∧ w.length ≤ 1000 := fun w h => words_ok w (by simpa [or_assoc] using h)
  induction h with
  | @leaf n w s a b c => exact ⟨by simp, by
      intro x hx
      simp only [List.mem_cons, List.not_mem_nil, or_false] at hx
      rcases hx with rfl | rfl
      · exact ow w (.inl a)
      · exact ⟨b, by omega⟩⟩
  | @num n w i t a ht ih => exact ⟨by simp, by
      intro x hx
      simp only [List.mem_cons, List.not_mem_nil, or_false] at hx
      rcases hx with rfl | rfl | rfl
      · exact ow w (.inr (.inl a))
      · trivial
      · exact ih⟩
  | @one n w t a ht ih => exact ⟨by simp, by
      intro x hx
      simp only [List.mem_cons, List.not_mem_nil, or_false] at hx
      rcases hx with rfl | rfl
      · exact ow w (.inr (.inr (.inl a)))
      · exact ih⟩
  | @two n w t u a ht hu ih ih2 => exact ⟨by simp, by
      intro x hx
      simp only [List.mem_cons, List.not_mem_nil, or_false] at hx
      rcases hx with rfl | rfl | rfl
      · exact ow w (.inr (.inr (.inr a)))
      · exact ih
      · exact ih2⟩
theorem next_ok (a k : Int) : Ok (M__law_next a k) fun x => 0 ≤ x := by
  unfold M__law_next
  simp only [bsm, basm]
  exact Ok.some (fmod_lo (by decide))
theorem name_ok (a : Int) : Ok (M__law_name a) fun s => PyData.strOk s = true ∧ s.length ≤ 12 := by
  unfold M__law_name
  simp only [bsm, basm]
  refine Ok.one (lstP_eq (by decide)) ?_
  have b0 := fmod_lo (x := a) (show (0 : Int) < 11 by decide)
  have b1 := fmod_hi (x := a) (show (0 : Int) < 11 by decide)
  generalize a.fmod 11 = r at b0 b1 ⊢
  have : r = 0 ∨ r = 1 ∨ r = 2 ∨ r = 3 ∨ r = 4 ∨ r = 5 ∨ r = 6 ∨ r = 7 ∨ r = 8 ∨ r = 9 ∨ r = 10 := by omega
  refine Ok.bind (P := fun s : Str => PyData.strOk s = true ∧ s.length ≤ 12) ?_ fun s h => Ok.some h
  rcases this with rfl | rfl | rfl | rfl | rfl | rfl | rfl | rfl | rfl | rfl | rfl
  all_goals exact ⟨_, rfl, by decide +kernel, by decide +kernel⟩
theorem two_of {r : Int} (h0 : 0 ≤ r) (h1 : r < 2) : r = 0 ∨ r = 1 := by omega
theorem kind_ok : ∀ (n : Nat) (seed : Int) (m : Nat), 1 ≤ m → m ≤ n → Ok (R__law_kind n seed (m : Int)) (Tm m)
  | 0, _, m, h1, h2 => by omega
  | n + 1, seed, m, h1, h2 => by
    unfold R__law_kind
    simp only [bsm, basm]
    refine Ok.ite (fun h => ?_) fun h => ?_
    · refine (name_ok _).bind fun s hs => ?_
      refine Ok.one vtP_eq (Ok.some ?_)
      exact (Tm.leaf (n := 0) (by decide +kernel) hs.1 hs.2).up h1
    · have hm : m ≠ 1 := fun z => h (by simp [z])
      rw [orO_some]
      refine Ok.bind (P := fun c : Bool => c = false → m ≠ 2) ?_ fun c hc => ?_
      · refine Ok.ite (fun _ => Ok.some (by simp)) fun q => Ok.some fun _ z => q (by simp [z])
      refine Ok.ite (fun _ => ?_) fun q => ?_
      · refine (next_ok _ _).bind fun x _ => ?_
        rw [show ((m : Int) - 1) = ((m - 1 : Nat) : Int) by omega]
        refine (kind_ok n x (m - 1) (by omega) (by omega)).bind fun d hd => ?_
        refine Ok.one vtP_eq (Ok.some ?_)
        exact (Tm.one (by decide +kernel) hd).up (by omega)
      · have hm2 : m ≠ 2 := hc (by simpa using q)
        refine Ok.one (modP_eq (by omega)) ?_
        have c0 := fmod_lo (x := seed.fdiv 4) (y := (m : Int) - 2) (by omega)
        have c1 := fmod_hi (x := seed.fdiv 4) (y := (m : Int) - 2) (by omega)
        generalize (seed.fdiv 4).fmod ((m : Int) - 2) = l at c0 c1 ⊢
        refine (next_ok _ _).bind fun x _ => ?_
        rw [show (1 + l) = ((1 + l.toNat : Nat) : Int) by omega]
        refine (kind_ok n x _ (by omega) (by omega)).bind fun d hd => ?_
        refine Ok.one (lstP_eq (by decide)) ?_
        refine Ok.bind (P := fun w : Str => w ∈ TW) ?_ fun w hw => ?_
        · rcases two_of (fmod_lo (x := seed.fdiv 64) (show (0 : Int) < 2 by decide)) (fmod_hi (by decide)) with e | e
          · rw [e]; exact ⟨_, rfl, by decide +kernel⟩
          · rw [e]; exact ⟨_, rfl, by decide +kernel⟩
        refine (next_ok _ _).bind fun y _ => ?_
        rw [show ((m : Int) - 1 - ((1 + l.toNat : Nat) : Int)) = ((m - 1 - (1 + l.toNat) : Nat) : Int) by omega]
        refine (kind_ok n y _ (by omega) (by omega)).bind fun e he => ?_
        refine Ok.one vtP_eq (Ok.some ?_)
        exact (Tm.two hw (hd.up (m := m - 1) (by omega)) (he.up (by omega))).up (by omega)
theorem in7 {r : Int} (h0 : 0 ≤ r) (h1 : r < 7) : r = 0 ∨ r = 1 ∨ r = 2 ∨ r = 3 ∨ r = 4 ∨ r = 5 ∨ r = 6 := by omega
theorem noun_ok (seed : Int) (m : Nat) (h1 : 1 ≤ m) (h2 : m ≤ 61) : Ok (M__law_noun seed (m : Int)) (Tm m) := by
  unfold M__law_noun
  simp only [bsm, basm]
  refine Ok.ite (fun h => ?_) fun h => ?_
  · refine (name_ok _).bind fun s hs => ?_
    refine Ok.one vtP_eq (Ok.some ?_)
    exact (Tm.leaf (n := 0) (by decide +kernel) hs.1 hs.2).up h1
  · have hm : m ≠ 1 := fun z => h (by simp [z])
    refine (next_ok _ _).bind fun x _ => ?_
    rw [show ((m : Int) - 1) = ((m - 1 : Nat) : Int) by omega]
    refine (kind_ok 64 x (m - 1) (by omega) (by omega)).bind fun d hd => ?_
    refine Ok.one (lstP_eq (by decide)) ?_
    have b0 := fmod_lo (x := seed) (show (0 : Int) < 7 by decide)
    have b1 := fmod_hi (x := seed) (show (0 : Int) < 7 by decide)
    generalize seed.fmod 7 = r at b0 b1 ⊢
    refine Ok.bind (P := fun w : Str => if r < 4 then w ∈ ON else w ∈ NUM) ?_ fun w hw => ?_
    · rcases in7 b0 b1 with rfl | rfl | rfl | rfl | rfl | rfl | rfl
      all_goals exact ⟨_, rfl, by decide +kernel⟩
    refine Ok.ite (fun q => ?_) fun q => ?_
    · rw [if_pos (by simpa using q)] at hw
      refine Ok.one vtP_eq (Ok.some ?_)
      exact (Tm.one hw hd).up (by omega)
    · rw [if_neg (by simpa using q)] at hw
      refine Ok.one vtP_eq (Ok.some ?_)
      exact (Tm.num hw hd).up (by omega)
theorem sent_ok : ∀ (n : Nat) (seed : Int) (m : Nat), 3 ≤ m → m ≤ n → m ≤ 61 → Ok (R__law_sentence n seed (m : Int)) (Tm m)
  | 0, _, m, h1, h2, _ => by omega
  | n + 1, seed, m, h1, h2, h3 => by
    unfold R__law_sentence
    simp only [bsm, basm]
    have andc : ∀ a b : Bool, andO (some a) (some b) = some (a && b) := fun a b => by cases a <;> rfl
    rw [andc, andc]
    simp only [bsm]
    refine Ok.ite (fun h => ?_) fun h => ?_
    · have hm : 3 < m := by
        have := (Bool.and_eq_true_iff.mp h).1
        have := of_decide_eq_true this
        omega
      refine Ok.one (lstP_eq (by decide)) ?_
      refine Ok.bind (P := fun w : Str => w ∈ ON) ?_ fun w hw => ?_
      · rcases two_of (fmod_lo (x := seed.fdiv 5) (show (0 : Int) < 2 by decide)) (fmod_hi (by decide)) with e | e
        · rw [e]; exact ⟨_, rfl, by decide +kernel⟩
        · rw [e]; exact ⟨_, rfl, by decide +kernel⟩
      refine (next_ok _ _).bind fun x _ => ?_
      rw [show ((m : Int) - 1) = ((m - 1 : Nat) : Int) by omega]
      refine (sent_ok n x (m - 1) (by omega) (by omega) (by omega)).bind fun d hd => ?_
      refine Ok.one vtP_eq (Ok.some ?_)
      exact (Tm.one hw hd).up (by omega)
    refine Ok.ite (fun q => ?_) fun q => ?_
    · have hm : 6 < m := by
        have := (Bool.and_eq_true_iff.mp q).1
        have := of_decide_eq_true this
        omega
      refine Ok.one (modP_eq (by omega)) ?_
      have c0 := fmod_lo (x := seed.fdiv 5) (y := (m : Int) - 6) (by omega)
      have c1 := fmod_hi (x := seed.fdiv 5) (y := (m : Int) - 6) (by omega)
      generalize (seed.fdiv 5).fmod ((m : Int) - 6) = l at c0 c1 ⊢
      refine (next_ok _ _).bind fun x _ => ?_
      rw [show (3 + l) = ((3 + l.toNat : Nat) : Int) by omega]
      refine (sent_ok n x _ (by omega) (by omega) (by omega)).bind fun d hd => ?_
      refine Ok.one (lstP_eq (by decide)) ?_
      refine Ok.bind (P := fun w : Str => w ∈ TW) ?_ fun w hw => ?_
      · have b0 := fmod_lo (x := seed.fdiv 100) (show (0 : Int) < 3 by decide)
        have b1 := fmod_hi (x := seed.fdiv 100) (show (0 : Int) < 3 by decide)
        have : (seed.fdiv 100).fmod 3 = 0 ∨ (seed.fdiv 100).fmod 3 = 1 ∨ (seed.fdiv 100).fmod 3 = 2 := by omega
        rcases this with e | e | e
        · rw [e]; exact ⟨_, rfl, by decide +kernel⟩
        · rw [e]; exact ⟨_, rfl, by decide +kernel⟩
        · rw [e]; exact ⟨_, rfl, by decide +kernel⟩
      refine (next_ok _ _).bind fun y _ => ?_
      rw [show ((m : Int) - 1 - ((3 + l.toNat : Nat) : Int)) = ((m - 1 - (3 + l.toNat) : Nat) : Int) by omega]
      refine (sent_ok n y _ (by omega) (by omega) (by omega)).bind fun e he => ?_
      refine Ok.one vtP_eq (Ok.some ?_)
      exact (Tm.two hw (hd.up (m := m - 1) (by omega)) (he.up (by omega))).up (by omega)
    · refine Ok.one (modP_eq (by omega)) ?_
      have c0 := fmod_lo (x := seed.fdiv 5) (y := (m : Int) - 2) (by omega)
      have c1 := fmod_hi (x := seed.fdiv 5) (y := (m : Int) - 2) (by omega)
      generalize (seed.fdiv 5).fmod ((m : Int) - 2) = l at c0 c1 ⊢
      refine (next_ok _ _).bind fun x _ => ?_
      rw [show (1 + l) = ((1 + l.toNat : Nat) : Int) by omega]
      refine (noun_ok x _ (by omega) (by omega)).bind fun d hd => ?_
      refine (next_ok _ _).bind fun y _ => ?_
      rw [show ((m : Int) - 1 - ((1 + l.toNat : Nat) : Int)) = ((m - 1 - (1 + l.toNat) : Nat) : Int) by omega]
      refine (kind_ok 64 y _ (by omega) (by omega)).bind fun e he => ?_
      refine Ok.one vtP_eq (Ok.some ?_)
      exact (Tm.two (by decide +kernel) (hd.up (m := m - 1) (by omega)) (he.up (by omega))).up (by omega)
theorem atI_ok {α : Type} {xs : List α} {i : Int} {P : α → Prop} (h0 : 0 ≤ i) (h1 : i < (xs.length : Int)) (h : ∀ x ∈ xs, P x) : Ok (atI xs i) P := by
  obtain ⟨x, e, m, _⟩ := atI_of (xs := xs) h0 h1
  exact ⟨x, e, h x m⟩
theorem t_kind : Tm 1 (.tup [.str "kind", .str "a"]) := .leaf (by decide +kernel) (by decide +kernel) (by decide +kernel)
theorem t_name : Tm 1 (.tup [.str "name", .str "b"]) := .leaf (by decide +kernel) (by decide +kernel) (by decide +kernel)
theorem t_say : Tm 2 (.tup [.str "say", .tup [.str "name", .str "b"], .tup [.str "kind", .str "a"]]) := .two (by decide +kernel) t_name t_kind
theorem small_ok (a : Int) : Ok (M__law_small a) (Tm 3) := by
  unfold M__law_small
  simp only [bsm, basm]
  refine Ok.one vtP_eq (Ok.one vtP_eq (Ok.one vtP_eq (Ok.one vtP_eq (Ok.one vtP_eq ?_))))
  refine Ok.one (lstP_eq (by decide)) (Ok.one (lstP_eq (by decide)) (Ok.one (catL_eq (by decide)) (Ok.one (lstP_eq (by decide)) (Ok.one (catL_eq (by decide)) ?_))))
  have b0 := fmod_lo (x := a) (show (0 : Int) < 18 by decide)
  have b1 := fmod_hi (x := a) (show (0 : Int) < 18 by decide)
  generalize a.fmod 18 = r at b0 b1 ⊢
  refine Ok.bind (atI_ok b0 (by exact b1) ?_) fun x hx => Ok.some hx
  intro x m
  simp only [List.cons_append, List.nil_append, List.mem_cons, List.not_mem_nil, or_false] at m
  rcases m with rfl | rfl | rfl | rfl | rfl | rfl | rfl | rfl | rfl | rfl | rfl | rfl | rfl | rfl | rfl | rfl | rfl | rfl
  · exact t_kind.up (by decide)
  · exact t_name.up (by decide)
  · exact t_say.up (by decide)
  · exact (Tm.two (by decide +kernel) t_kind t_kind).up (by decide)
  · exact (Tm.two (by decide +kernel) t_kind t_kind).up (by decide)
  · exact (Tm.one (by decide +kernel) t_kind).up (by decide)
  · exact (Tm.one (by decide +kernel) t_kind).up (by decide)
  · exact (Tm.one (by decide +kernel) t_kind).up (by decide)
  · exact (Tm.one (by decide +kernel) t_kind).up (by decide)
  · exact (Tm.one (by decide +kernel) t_kind).up (by decide)
  · exact (Tm.num (by decide +kernel) t_kind).up (by decide)
  · exact (Tm.num (by decide +kernel) t_kind).up (by decide)
  · exact (Tm.num (by decide +kernel) t_kind).up (by decide)
  · exact (Tm.one (by decide +kernel) t_say).up (by decide)
  · exact (Tm.two (by decide +kernel) t_say t_say).up (by decide)
  · exact (Tm.two (by decide +kernel) t_say t_say).up (by decide)
  · exact (Tm.two (by decide +kernel) t_say t_say).up (by decide)
  · exact (Tm.one (by decide +kernel) t_say).up (by decide)
/-! ### one place spoilt -/
theorem other_ok (a : Int) : Ok (M__law_other a) fun s => PyData.strOk s = true ∧ s.length ≤ 1000 := by
  unfold M__law_other
  simp only [bsm, basm]
  refine Ok.one (lstP_eq (by decide)) (Ok.one (lstP_eq (by decide)) (Ok.one (catL_eq (by decide)) ?_))
  have b0 := fmod_lo (x := a) (show (0 : Int) < 24 by decide)
  have b1 := fmod_hi (x := a) (show (0 : Int) < 24 by decide)
  generalize a.fmod 24 = r at b0 b1 ⊢
  exact Ok.bind (atI_ok b0 (by exact b1) (by decide +kernel)) fun x hx => Ok.some hx
/-- a tuple of 2 or 3 items that may be a term's -/
structure Sh (n : Nat) (l : List D) : Prop where
  lo : 2 ≤ l.length
  hi : l.length ≤ 3
  all : ∀ x ∈ l, Gd (n + 1) x
  sub : ∀ x ∈ l, isiP "tuple" (em x) = some true → Tm n x
  kind : ∀ x ∈ l, isiP "tuple" (em x) = some true ∨ isiP "tuple" (em x) = some false
theorem Tm.isi {n : Nat} {d : D} (h : Tm n d) : isiP "tuple" (em d) = some true := by cases h <;> rfl
theorem Tm.sh {n : Nat} {d : D} (h : Tm (n + 1) d) : ∃ l, d = .tup l ∧ Sh n l := by
  obtain ⟨l, rfl⟩ := h.tup
  refine ⟨l, rfl, ?_⟩
  have g := h.gd
  refine ⟨by cases h <;> simp, by cases h <;> simp, g.2, fun x hx hi => ?_, fun x hx => ?_⟩
  · cases h with
    | leaf a b c =>
      simp only [List.mem_cons, List.not_mem_nil, or_false] at hx
      rcases hx with rfl | rfl <;> cases hi
    | num a ht =>
      simp only [List.mem_cons, List.not_mem_nil, or_false] at hx
      rcases hx with rfl | rfl | rfl
      · cases hi
      · cases hi
      · exact ht
    | one a ht =>
      simp only [List.mem_cons, List.not_mem_nil, or_false] at hx
      rcases hx with rfl | rfl
      · cases hi
      · exact ht
    | two a ht hu =>
      simp only [List.mem_cons, List.not_mem_nil, or_false] at hx
      rcases hx with rfl | rfl | rfl
      · cases hi
      · exact ht
      · exact hu
  · cases x with
    | tup _ => exact .inl rfl
    | str _ => exact .inr rfl
    | int _ => exact .inr rfl
    | non => exact absurd (g.2 _ hx) Gd.no.1
    | bl b => exact absurd (g.2 _ hx) (Gd.no.2.1 b)
    | lst b => exact absurd (g.2 _ hx) (Gd.no.2.2.1 b)
    | ins a b c => exact absurd (g.2 _ hx) (Gd.no.2.2.2 a b c)
theorem lcf1 {α : Type} {c : α → Option Bool} {x : α} {b : Bool} (h : c x = some b) : lcC c (fun v => some v) [x] = some (if b = true then [x] else []) := by
  unfold lcC
  rw [if_pos (show sz [x].length from (by decide : (1 : Nat) < 16777216))]
  unfold lcO
  rw [h, bsm]
  cases b <;> rfl
theorem lcf2 {α : Type} {c : α → Option Bool} {x y : α} {b b' : Bool} (h : c x = some b) (h' : c y = some b') : lcC c (fun v => some v) [x, y] = some ((if b = true then [x] else []) ++ (if b' = true then [y] else [])) := by
  unfold lcC
  rw [if_pos (show sz [x, y].length from (by decide : (2 : Nat) < 16777216))]
  unfold lcO
  rw [h, bsm]
  unfold lcO
  rw [h', bsm]
  cases b <;> cases b' <;> rfl
theorem catT_eq {x : D} {a b : List D} (h : a.length + b.length < 1000) : catT (⟨x :: a⟩ : Vt D) ⟨b⟩ = some ⟨x :: a ++ b⟩ := by
  unfold catT
  rw [if_pos ⟨by simp, by simp; omega⟩]
theorem gd_tup {n : Nat} {l : List D} (hl : l.length ≤ 100) (h : ∀ x ∈ l, Gd n x) : Gd (n + 1) (.tup l) := ⟨hl, h⟩
theorem gd_str {n : Nat} {s : Str} (h : PyData.strOk s = true ∧ s.length ≤ 1000) : Gd (n + 1) (.str s) := h
theorem gd_in {n m : Nat} {l : List D} (h : Gd n (.tup l)) (hm : n ≤ m) : Gd m (.tup l) := h.ups hm
theorem eqP_ps {ps : List Int} (h : ps ∈ [[], [1], [2], [(1 : Int), 2]]) : eqP (em ps) (em ([] : List Int)) = some (decide (ps = [])) := by
  revert ps
  decide +kernel
theorem spoilt_ok : ∀ (m n : Nat) (d : D) (b : Int) (t : Bool), Tm n d → n ≤ m → Ok (R__law_spoilt m d b t) (Gd (n + 5))
  | 0, n, d, b, t, h, hm => by cases h <;> omega
  | m + 1, 0, d, b, t, h, hm => by cases h
  | m + 1, n + 1, d, b, t, h, hm => by
    obtain ⟨l, rfl, sh⟩ := h.sh
    have l2 := sh.lo
    have l3 := sh.hi
    unfold R__law_spoilt
    simp only [bsm, basm, lenD_tup, asV_tup, andc, orc]
    refine Ok.one (show rngP 1 (l.length : Int) = some (rng 1 (l.length : Int)) from by unfold rngP; rw [if_pos (by omega)]) ?_
    refine Ok.bind (P := fun ps : List Int => ps ∈ [[], [1], [2], [(1 : Int), 2]] ∧ ∀ k ∈ ps, 1 ≤ k ∧ k < l.length ∧ Ok (atI l k) (fun x => x ∈ l ∧ isiP "tuple" (em x) = some true)) ?_ fun ps hps => ?_
    · clear hm h
      match l, l2, l3, sh with
      | [x, y], _, _, sh =>
        rw [show rng 1 (([x, y] : List D).length : Int) = [1] from rfl]
        rcases sh.kind y (by simp) with q | q
        · exact ⟨[1], lcf1 (b := true) (by rw [atI_1, bsm]; exact q), by decide, fun k hk => by
            obtain rfl : k = 1 := by simpa using hk
            exact ⟨by decide, by show (1 : Int) < 2; decide, ⟨y, atI_1 _ _ _, by simp, q⟩⟩⟩
        · exact ⟨[], lcf1 (b := false) (by rw [atI_1, bsm]; exact q), by decide, by simp⟩
      | [x, y, z], _, _, sh =>
        rw [show rng 1 (([x, y, z] : List D).length : Int) = [1, 2] from rfl]
        have g1 : ∀ k : Int, k = 1 → isiP "tuple" (em y) = some true → 1 ≤ k ∧ k < (([x, y, z] : List D).length : Int) ∧ Ok (atI [x, y, z] k) (fun v => v ∈ [x, y, z] ∧ isiP "tuple" (em v) = some true) := by
          rintro k rfl q
          exact ⟨by decide, by show (1 : Int) < 3; decide, ⟨y, atI_1 _ _ _, by simp, q⟩⟩
        have g2 : ∀ k : Int, k = 2 → isiP "tuple" (em z) = some true → 1 ≤ k ∧ k < (([x, y, z] : List D).length : Int) ∧ Ok (atI [x, y, z] k) (fun v => v ∈ [x, y, z] ∧ isiP "tuple" (em v) = some true) := by
          rintro k rfl q
          exact ⟨by decide, by show (2 : Int) < 3; decide, ⟨z, atI_2 _ _ _ _, by simp, q⟩⟩
        rcases sh.kind y (by simp) with q | q <;> rcases sh.kind z (by simp) with q' | q'
        · exact ⟨[1, 2], lcf2 (b := true) (b' := true) (by rw [atI_1, bsm]; exact q) (by rw [atI_2, bsm]; exact q'), by decide, fun k hk => by
            have : k = 1 ∨ k = 2 := by simpa using hk
            rcases this with rfl | rfl
            · exact g1 _ rfl q
            · exact g2 _ rfl q'⟩
        · exact ⟨[1], lcf2 (b := true) (b' := false) (by rw [atI_1, bsm]; exact q) (by rw [atI_2, bsm]; exact q'), by decide, fun k hk => g1 k (by simpa using hk) q⟩
        · exact ⟨[2], lcf2 (b := false) (b' := true) (by rw [atI_1, bsm]; exact q) (by rw [atI_2, bsm]; exact q'), by decide, fun k hk => g2 k (by simpa using hk) q'⟩
        · exact ⟨[], lcf2 (b := false) (b' := false) (by rw [atI_1, bsm]; exact q) (by rw [atI_2, bsm]; exact q'), by decide, by simp⟩
      | [], l2, _, _ => simp at l2
      | [_], l2, _, _ => simp at l2
      | _ :: _ :: _ :: _ :: _, _, l3, _ => simp at l3
    rw [eqP_ps hps.1]
    simp only [bsm, basm, andc]
    refine Ok.ite (fun hc => ?_) fun _ => ?_
    · have hne : ps ≠ [] := by
        intro z
        simp [z] at hc
      have hpl : (0 : Int) < (ps.length : Int) := by
        have := List.length_pos_iff.mpr hne
        omega
      refine Ok.one (modP_eq (by omega)) ?_
      refine Ok.bind (atI_ok (fmod_lo hpl) (fmod_hi hpl) hps.2) fun k hk => ?_
      obtain ⟨k1, k2, x, ex, mx, tx⟩ := hk
      have rec0 := fun s => spoilt_ok m n x s false (sh.sub x mx tx) (by omega)
      clear hps
      match l, l2, l3, sh, k2, ex, mx with
      | [x0, y], _, _, sh, k2, ex, _ =>
        have k2 : k < 2 := k2
        obtain rfl : k = 1 := by omega
        refine Ok.one (show cutT (⟨[x0, y]⟩ : Vt D) none (some 1) = some ⟨[x0]⟩ from rfl) (Ok.one ex ?_)
        refine (next_ok _ _).bind fun s _ => (rec0 s).bind fun r hr => Ok.one vtP_eq (Ok.one (catT_eq (by simp)) ?_)
        refine Ok.one (show cutT (⟨[x0, y]⟩ : Vt D) (some (1 + 1)) none = some ⟨[]⟩ from rfl) (Ok.one (catT_eq (by simp)) (Ok.some ?_))
        refine gd_tup (by simp) fun v hv => ?_
        have hv : v = x0 ∨ v = r := by
          have hv : v ∈ [x0, r] := hv
          simpa using hv
        rcases hv with rfl | rfl
        · exact (sh.all _ (by simp)).ups (by omega)
        · exact hr
      | [x0, y, z], _, _, sh, k2, ex, _ =>
        have k2 : k < 3 := k2
        have : k = 1 ∨ k = 2 := by omega
        rcases this with rfl | rfl
        · refine Ok.one (show cutT (⟨[x0, y, z]⟩ : Vt D) none (some 1) = some ⟨[x0]⟩ from rfl) (Ok.one ex ?_)
          refine (next_ok _ _).bind fun s _ => (rec0 s).bind fun r hr => Ok.one vtP_eq (Ok.one (catT_eq (by simp)) ?_)
          refine Ok.one (show cutT (⟨[x0, y, z]⟩ : Vt D) (some (1 + 1)) none = some ⟨[z]⟩ from rfl) (Ok.one (catT_eq (by simp)) (Ok.some ?_))
          refine gd_tup (by simp) fun v hv => ?_
          have hv : v = x0 ∨ v = r ∨ v = z := by
            have hv : v ∈ [x0, r, z] := hv
            simpa using hv
          rcases hv with rfl | rfl | rfl
          · exact (sh.all _ (by simp)).ups (by omega)
          · exact hr
          · exact (sh.all _ (by simp)).ups (by omega)
        · refine Ok.one (show cutT (⟨[x0, y, z]⟩ : Vt D) none (some 2) = some ⟨[x0, y]⟩ from rfl) (Ok.one ex ?_)
          refine (next_ok _ _).bind fun s _ => (rec0 s).bind fun r hr => Ok.one vtP_eq (Ok.one (catT_eq (by simp)) ?_)
          refine Ok.one (show cutT (⟨[x0, y, z]⟩ : Vt D) (some (2 + 1)) none = some ⟨[]⟩ from rfl) (Ok.one (catT_eq (by simp)) (Ok.some ?_))
          refine gd_tup (by simp) fun v hv => ?_
          have hv : v = x0 ∨ v = y ∨ v = r := by
            have hv : v ∈ [x0, y, r] := hv
            simpa using hv
          rcases hv with rfl | rfl | rfl
          · exact (sh.all _ (by simp)).ups (by omega)
          · exact (sh.all _ (by simp)).ups (by omega)
          · exact hr
      | [], l2, _, _, _, _, _ => simp at l2
      | [_], l2, _, _, _, _, _ => simp at l2
      | _ :: _ :: _ :: _ :: _, _, l3, _, _, _, _ => simp at l3
    · clear hps
      have sa : ∀ x ∈ l, Gd (n + 5) x := fun x hx => (sh.all x hx).ups (by omega)
      obtain ⟨x0, r, rfl⟩ : ∃ x0 r, l = x0 :: r := by
        cases l with
        | nil => simp at l2
        | cons x0 r => exact ⟨x0, r, rfl⟩
      have rl : r.length ≤ 2 := by simpa using l3
      have tl : ∀ y : D, Gd (n + 5) y → Gd (n + 1 + 5) (.tup ([y] ++ r)) := fun y hy => gd_tup (by simp; omega) fun v hv => by
        have hv : v = y ∨ v ∈ r := by simpa using hv
        rcases hv with rfl | hv
        · exact hy
        · exact sa v (List.mem_cons_of_mem _ hv)
      have avr : asV (em (⟨r⟩ : Vt D)) = some ⟨r⟩ := by
        show some (⟨r.map em⟩ : Vt D) = _
        rw [map_em]
      have emv : ∀ l : List D, em (⟨l⟩ : Vt D) = .tup l := fun l => by
        show D.tup (l.map em) = _
        rw [map_em]
      refine Ok.ite (fun hk => ?_) fun _ => ?_
      · refine (other_ok _).bind fun s hs => Ok.one vtP_eq ?_
        refine Ok.one (show asV (em (⟨[s]⟩ : Vt Str)) = some ⟨[.str s]⟩ from rfl) (Ok.one (cut1 _ _) (Ok.one avr (Ok.one (catT_eq (by simp; omega)) (Ok.some ?_))))
        rw [emv]
        exact tl _ (gd_str hs)
      have sub : ∀ l' : List D, l'.length ≤ 100 → (∀ x ∈ l', x ∈ x0 :: r) → Gd (n + 1 + 5) (.tup l') := fun l' hl' hs => gd_tup hl' fun v hv => sa v (hs v hv)
      have two : ∀ w s : Str, PyData.strOk w = true ∧ w.length ≤ 1000 → PyData.strOk s = true ∧ s.length ≤ 1000 → Gd (n + 1 + 5) (.tup [.str w, .str s]) := fun w s hw hs => gd_tup (by simp) fun v hv => by
        have hv : v = .str w ∨ v = .str s := by simpa using hv
        rcases hv with rfl | rfl
        · exact gd_str hw
        · exact gd_str hs
      generalize hq : (b.fdiv 4).fdiv 14 = q
      generalize hk : (b.fdiv 4).fmod 14 = k
      refine Ok.ite (fun _ => ?_) fun _ => ?_
      · match r, rl, l2, sub with
        | [y], _, _, sub => exact Ok.one (show cutT (⟨[x0, y]⟩ : Vt D) none (some (-1)) = some ⟨[x0]⟩ from rfl) (Ok.some (sub [x0] (by simp) (by simp)))
        | [y, z], _, _, sub => exact Ok.one (show cutT (⟨[x0, y, z]⟩ : Vt D) none (some (-1)) = some ⟨[x0, y]⟩ from rfl) (Ok.some (sub [x0, y] (by simp) (by simp)))
        | [], _, l2, _ => simp at l2
        | _ :: _ :: _ :: _, rl, _, _ => simp at rl
      refine Ok.ite (fun _ => ?_) fun _ => ?_
      · refine Ok.bind (P := fun v => v ∈ x0 :: r) ?_ fun v hv => Ok.one vtP_eq (Ok.one (catT_eq (by simp; omega)) (Ok.some ?_))
        · match r, rl, l2 with
          | [y], _, _ => exact ⟨y, rfl, by simp⟩
          | [y, z], _, _ => exact ⟨z, rfl, by simp⟩
          | [], _, l2 => simp at l2
          | _ :: _ :: _ :: _, rl, _ => simp at rl
        · rw [emv]
          exact sub _ (by simp; omega) fun u hu => by
            have hu : u = x0 ∨ u ∈ r ∨ u = v := by simpa using hu
            rcases hu with rfl | hu | rfl
            · simp
            · simp [hu]
            · exact hv
      refine Ok.ite (fun h3 => ?_) fun _ => ?_
      · refine Ok.one (show mulS (Str.ofString "a") 13 = some (Str.ofString "aaaaaaaaaaaaa") by decide +kernel) (Ok.one (show mulS (Str.ofString "a") 12 = some (Str.ofString "aaaaaaaaaaaa") by decide +kernel) (Ok.one (lstP_eq (by decide)) (Ok.one (lstP_eq (by decide)) ?_)))
        have h3 : k = 3 ∨ k = 4 := by simpa using h3
        refine Ok.bind (atI_ok (P := fun w : Str => PyData.strOk w = true ∧ w.length ≤ 1000) (by omega) (by show k - 3 < 2; omega) (by decide +kernel)) fun w hw => ?_
        refine Ok.bind (atI_ok (P := fun w : Str => PyData.strOk w = true ∧ w.length ≤ 1000) (fmod_lo (by decide)) (by exact fmod_hi (by decide)) (by decide +kernel)) fun s hs => ?_
        exact Ok.one vtP_eq (Ok.some (two w s hw hs))
      refine Ok.ite (fun _ => ?_) fun _ => ?_
      · refine Ok.one (lstP_eq (by decide)) ?_
        refine Ok.bind (atI_ok (P := fun w : Str => PyData.strOk w = true ∧ w.length ≤ 1000) (fmod_lo (by decide)) (by exact fmod_hi (by decide)) (by decide +kernel)) fun w hw => ?_
        refine Ok.one (lstP_eq (by decide)) ?_
        refine Ok.bind (atI_ok (P := fun _ : Int => True) (fmod_lo (by decide)) (by exact fmod_hi (by decide)) (fun _ _ => trivial)) fun i _ => ?_
        refine Ok.one vtP_eq (Ok.some ?_)
        refine gd_tup (by simp) fun v hv => ?_
        have hv : v ∈ [D.str w, .int i, .tup [.str "kind", .str "a"]] := hv
        have hv : v = .str w ∨ v = .int i ∨ v = .tup [.str "kind", .str "a"] := by simpa using hv
        rcases hv with rfl | rfl | rfl
        · exact gd_str hw
        · trivial
        · exact (t_kind.gd).ups (by omega)
      refine Ok.ite (fun _ => ?_) fun _ => ?_
      · exact Ok.some trivial
      refine Ok.ite (fun _ => ?_) fun _ => ?_
      · refine Ok.one (lstP_eq (by decide)) ?_
        exact Ok.bind (atI_ok (P := fun w : Str => PyData.strOk w = true ∧ w.length ≤ 1000) (fmod_lo (by decide)) (by exact fmod_hi (by decide)) (by decide +kernel)) fun w hw => Ok.some (gd_str hw)
      refine Ok.ite (fun _ => ?_) fun _ => ?_
      · exact (small_ok _).bind fun v hv => Ok.some (hv.gd.ups (by omega))
      refine Ok.ite (fun _ => ?_) fun _ => ?_
      · exact Ok.some (gd_tup (by simp) (by simp))
      refine Ok.ite (fun h10 => ?_) fun _ => ?_
      · match r, rl, l2, sub, h10 with
        | [y, z], _, _, sub, _ => exact Ok.one (atI_0 _ _) (Ok.one (atI_2 _ _ _ _) (Ok.one (atI_1 _ _ _) (Ok.one vtP_eq (Ok.some (by
            rw [emv]
            exact sub [x0, z, y] (by simp) (by simp))))))
        | [y], _, _, _, h => exact absurd h (by simp)
        | [], _, l2, _, _ => simp at l2
        | _ :: _ :: _ :: _, rl, _, _, _ => simp at rl
      refine Ok.ite (fun _ => ?_) fun _ => ?_
      · refine Ok.one vtP_eq (Ok.one (show asV (em (⟨[q.fmod 3]⟩ : Vt Int)) = some ⟨[.int (q.fmod 3)]⟩ from rfl) (Ok.one (cut1 _ _) (Ok.one avr (Ok.one (catT_eq (by simp; omega)) (Ok.some ?_)))))
        rw [emv]
        exact tl _ trivial
      refine Ok.ite (fun _ => ?_) fun _ => ?_
      · refine Ok.one vtP_eq (Ok.some (gd_tup (by simp) fun v hv => ?_))
        have hv : v ∈ [D.tup (x0 :: r)] := hv
        obtain rfl : v = .tup (x0 :: r) := by simpa using hv
        exact h.gd.ups (by omega)
      refine Ok.one (lstP_eq (by decide)) (Ok.one (lstP_eq (by decide)) (Ok.one (catL_eq (by decide)) ?_))
      refine Ok.bind (atI_ok (P := Gd 3) (fmod_lo (by decide)) (by exact fmod_hi (by decide)) ?_) fun v hv => Ok.some (hv.ups (by omega))
      have e3 : ∀ (w s : Str), PyData.strOk w = true ∧ w.length ≤ 1000 → PyData.strOk s = true ∧ s.length ≤ 1000 → Gd 3 (.tup [.str w, .str s, .tup [.str "kind", .str "a"]]) := fun w s hw hs => gd_tup (by simp) fun v hv => by
        have hv : v = .str w ∨ v = .str s ∨ v = .tup [.str "kind", .str "a"] := by simpa using hv
        rcases hv with rfl | rfl | rfl
        · exact gd_str hw
        · exact gd_str hs
        · exact t_kind.gd
      have ei : ∀ (w : Str) (i : Int), PyData.strOk w = true ∧ w.length ≤ 1000 → Gd 3 (.tup [.str w, .int i]) := fun w s hw => gd_tup (by simp) fun v hv => by
        have hv : v = .str w ∨ v = .int s := by simpa using hv
        rcases hv with rfl | rfl
        · exact gd_str hw
        · trivial
      have et : Gd 3 (.tup [.str "name", .tup [.str "kind", .str "a"]]) := gd_tup (by simp) fun v hv => by
        have hv : v = .str "name" ∨ v = .tup [.str "kind", .str "a"] := by simpa using hv
        rcases hv with rfl | rfl
        · exact gd_str (by decide +kernel)
        · exact t_kind.gd
      intro v hv
      simp only [List.cons_append, List.nil_append, List.mem_cons, List.not_mem_nil, or_false] at hv
      rcases hv with rfl | rfl | rfl | rfl | rfl | rfl | rfl | rfl
      · exact ei _ _ (by decide +kernel)
      · exact e3 _ _ (by decide +kernel) (by decide +kernel)
      · exact et
      · exact ei _ _ (by decide +kernel)
      · exact ei _ _ (by decide +kernel)
      · exact e3 _ _ (by decide +kernel) (by decide +kernel)
      · exact e3 _ _ (by decide +kernel) (by decide +kernel)
      · exact ei _ _ (by decide +kernel)
theorem is_str (a b : Str) : M__law_is (em a) (em b) = some (decide (a = b)) := by
  unfold M__law_is
  simp only [bsm, basm]
  show (andO (some true) (some (decide (a = b)))).bind _ = _
  rw [andc]
  simp only [bsm, Bool.true_and, id]
theorem good_pass {n : Nat} {d : D} (h : Gd n d) (hn : n ≤ 70) : ∃ s : Str, R_sort_of 70 d = some s ∧ R__law_sort 70 d = some s := by
  obtain ⟨s, _, a, b⟩ := agree 70 d (h.ups hn)
  exact ⟨s, a, b⟩
theorem small0 : M__law_small 0 = some (.tup [.str "kind", .str "a"]) := rfl
theorem small2 : M__law_small 2 = some (.tup [.str "say", .tup [.str "name", .str "b"], .tup [.str "kind", .str "a"]]) := rfl
theorem sort_kind (m : Nat) : R_sort_of (m + 1) (.tup [.str "kind", .str "a"]) = some ("kind" : Str) :=
  sort_good0 ((head_leaf (s := "a") leaf_k.1 (by decide +kernel)).trans (congrArg some (by decide +kernel))) (inner_leaf leaf_k.1) made_leaf.1
theorem sort_name (m : Nat) : R_sort_of (m + 1) (.tup [.str "name", .str "b"]) = some ("noun" : Str) :=
  sort_good0 ((head_leaf (s := "b") leaf_k.2 (by decide +kernel)).trans (congrArg some (by decide +kernel))) (inner_leaf leaf_k.2) made_leaf.2
theorem sort_one {n : Nat} {t : D} : ∀ p ∈ ONE, R_sort_of n t = some p.2.1 → R_sort_of (n + 1) (.tup [.str p.1, t]) = some p.2.2 := fun p hp h => by
  have k := one_w p hp
  have := sort_good1 (head_one (l := [t]) k.1 k.2.1 k.2.2.1 (one_p p hp)) (inner_f k.1 k.2.2.1) (one_p p hp) (made_of k.1 k.2.2.2) h (one_s p hp).2 (one_s p hp).2
  rw [if_pos rfl] at this
  exact this
theorem sort_say (m : Nat) : R_sort_of (m + 2) (.tup [.str "say", .tup [.str "name", .str "b"], .tup [.str "kind", .str "a"]]) = some ("sentence" : Str) := by
  have hp : (("say", ("noun", "kind"), "sentence") : Str × (Str × Str) × Str) ∈ TWO := by decide +kernel
  have k := two_w _ hp
  have := sort_good2 (n := m + 1) (head_one (l := [.tup [.str "name", .str "b"], .tup [.str "kind", .str "a"]]) k.1 k.2.1 k.2.2.1 (two_p _ hp)) (inner_f k.1 k.2.2.1) (two_p _ hp) (made_of k.1 k.2.2.2) (sort_name m) (sort_kind m) (two_s _ hp).2.1 (two_s _ hp).2.2 (two_s _ hp).2.1 (two_s _ hp).2.2
  rw [if_pos ⟨rfl, rfl⟩] at this
  exact this
theorem law_true (ns : List Int) (hl : ns.length ≤ 63) : M_law ns = some true := by
  refine Ok.get ?_
  unfold M_law
  rw [e__law_draws]
  simp only [basm, bsm, andc, orc]
  have dr : Ok (m__law_draws ns 60) _ := draws_ok (n := 60) hl (by decide)
  refine dr.bind ?_
  rintro ds ⟨dl, dd⟩
  have at0 : ∀ i : Int, 0 ≤ i → i < 60 → Ok (atI ds i) fun d => 0 ≤ d := fun i h hj => by
    obtain ⟨d, e, m, _⟩ := atI_of (xs := ds) (i := i) h (by rw [dl]; exact hj)
    exact ⟨d, e, (dd d m).1⟩
  refine Ok.one (rngP_nat (n := 3) (by decide)) ?_
  refine Ok.loop0 (fun t ht => ?_) ?_
  · refine Ok.get ?_
    obtain ⟨t0, t1⟩ := rng_mem ht
    have t1 : t < 3 := t1
    refine (at0 _ t0 (by omega)).bind fun d0 _ => ?_
    refine (at0 _ (by omega) (by omega)).bind fun d3 _ => ?_
    refine (at0 _ (by omega) (by omega)).bind fun d6 _ => ?_
    refine Ok.one (lstP_eq (by decide)) ?_
    refine (at0 _ (by omega) (by omega)).bind fun d9 _ => ?_
    refine Ok.bind (atI_ok (P := fun s : Int => 0 < s ∧ s ≤ 52) (fmod_lo (by decide)) (by exact fmod_hi (by decide)) (by decide)) fun top htop => ?_
    refine Ok.one (modP_eq (by omega)) ?_
    have c0 := fmod_lo (x := d6) (y := top) htop.1
    have c1 := fmod_hi (x := d6) (y := top) htop.1
    obtain ⟨m, hm⟩ : ∃ m : Nat, 1 + d6.fmod top = (m : Int) := ⟨(1 + d6.fmod top).toNat, by omega⟩
    rw [hm]
    have m1 : 1 ≤ m ∧ m ≤ 52 := by omega
    refine (kind_ok 64 _ m m1.1 (by omega)).bind fun k hk => ?_
    refine Ok.bind (P := Tm 52) (Ok.ite (fun _ => ?_) fun _ => Ok.some (hk.up m1.2)) fun k1 hk1 => ?_
    · exact (noun_ok _ m m1.1 (by omega)).bind fun d hd => Ok.some (hd.up m1.2)
    refine Ok.bind (P := Tm 52) (Ok.ite (fun _ => ?_) fun _ => Ok.some hk1) fun k2 hk2 => ?_
    · rw [show (if (m : Int) > 3 then (m : Int) else 3) = ((if m > 3 then m else 3 : Nat) : Int) by split <;> split <;> omega]
      exact (sent_ok 64 _ _ (by split <;> omega) (by split <;> omega) (by split <;> omega)).bind fun d hd => Ok.some (hd.up (by split <;> omega))
    refine (at0 _ (by omega) (by omega)).bind fun d12 _ => ?_
    refine Ok.bind (P := Tm 52) (Ok.ite (fun _ => ?_) fun _ => Ok.some hk2) fun term hterm => ?_
    · refine (at0 _ (by omega) (by omega)).bind fun d13 _ => ?_
      refine (small_ok d13).bind fun s hs => ?_
      refine (at0 _ (by omega) (by omega)).bind fun d14 _ => ?_
      have e0 := fmod_lo (x := d14) (show (0 : Int) < 3 by decide)
      have e1 := fmod_hi (x := d14) (show (0 : Int) < 3 by decide)
      obtain ⟨q, hq⟩ : ∃ q : Nat, d14.fmod 3 + 44 = (q : Int) := ⟨(d14.fmod 3 + 44).toNat, by omega⟩
      rw [hq]
      refine Ok.one (rngP_nat (by omega)) ?_
      refine Ok.bind (P := Tm 52) (Ok.fold (fun i s => Tm (3 + i) s) hs (fun i x s _ hs => ?_) fun s hs => ?_) fun s hs => Ok.some hs
      · refine Ok.one (lstP_eq (by decide)) ?_
        refine (at0 _ (by omega) (by omega)).bind fun d15 _ => ?_
        refine Ok.bind (atI_ok (P := fun w : Str => w ∈ ON) (fmod_lo (by decide)) (by exact fmod_hi (by decide)) (by decide +kernel)) fun w hw => ?_
        exact Ok.one vtP_eq (Ok.some (Tm.one hw hs))
      · rw [rng_len] at hs
        exact hs.up (by omega)
    refine Ok.one (lstP_eq (by simp)) (Ok.one (rngP_nat (n := 9) (by decide)) ?_)
    refine Ok.bind (P := fun l : List D => l.length = 10 ∧ ∀ d ∈ l, Gd 57 d) (Ok.fold (fun i (l : List D) => l.length = 1 + i ∧ ∀ d ∈ l, Gd 57 d) ⟨rfl, fun d hd => ?_⟩ (fun i x s hx hs => ?_) fun s hs => ⟨by rw [hs.1, rng_len], hs.2⟩) fun l hl => ?_
    · obtain rfl : d = term := by simpa using hd
      exact hterm.gd.ups (by decide)
    · obtain ⟨x1, rfl⟩ := rng_nat hx
      refine (at0 _ (by omega) (by omega)).bind fun da _ => ?_
      refine (at0 _ (by omega) (by omega)).bind fun db _ => ?_
      refine (spoilt_ok 70 52 term _ true hterm (by decide)).bind fun r hr => ?_
      refine Ok.one (appP_eq (by omega)) (Ok.some ⟨by simp; omega, fun d hd => ?_⟩)
      rcases List.mem_append.mp hd with hd | hd
      · exact hs.2 d hd
      · obtain rfl : d = r := by simpa using hd
        exact hr
    obtain ⟨tl, rfl, sh⟩ := (hterm.up (show 52 ≤ 51 + 1 by decide)).sh
    obtain ⟨x0, r, rfl⟩ : ∃ x0 r, tl = x0 :: r := by
      cases tl with
      | nil => have := sh.lo; simp at this
      | cons x0 r => exact ⟨x0, r, rfl⟩
    have rl : r.length ≤ 2 := by simpa using sh.hi
    refine Ok.one (asV_tup _) (Ok.one (cut1 _ _) ?_)
    refine Ok.bind (P := fun l : List D => l.length ≤ 12 ∧ ∀ d ∈ l, Gd 57 d) (Ok.fold (fun i (l : List D) => l.length ≤ 10 + i ∧ ∀ d ∈ l, Gd 57 d) ⟨by omega, hl.2⟩ (fun i x s hx hs => ?_) fun s hs => ⟨by have := hs.1; show s.length ≤ 12; have e : ({ l := r } : Vt D).l.length = r.length := rfl; omega, hs.2⟩) fun l hl => ?_
    · have hx' := List.mem_of_getElem? hx
      have hi : i < r.length := (List.getElem?_eq_some_iff.mp hx).1
      have gx : Gd 57 x := (sh.all x (List.mem_cons_of_mem _ hx')).ups (by decide)
      refine Ok.bind (P := fun _ : Bool => True) ?_ fun c _ => ?_
      · rcases sh.kind x (List.mem_cons_of_mem _ hx') with q | q
        · exact ⟨_, q, trivial⟩
        · exact ⟨_, q, trivial⟩
      refine Ok.bind (P := fun l : List D => l.length ≤ 10 + (i + 1) ∧ ∀ d ∈ l, Gd 57 d) (Ok.ite (fun _ => ?_) fun _ => Ok.some ⟨by omega, hs.2⟩) fun l hl => Ok.some hl
      refine Ok.one (appP_eq (by omega)) (Ok.some ⟨by simp; omega, fun d hd => ?_⟩)
      rcases List.mem_append.mp hd with hd | hd
      · exact hs.2 d hd
      · obtain rfl : d = x := by simpa using hd
        exact gx
    refine Ok.one (lstP_eq (by simp)) (Ok.one (catL_eq (by simp; omega)) ?_)
    refine Ok.loop0 (fun x hx => ?_) (Ok.some rfl)
    have gx : Gd 57 x := by
      rcases List.mem_append.mp hx with hx | hx
      · exact hl.2 x hx
      · obtain rfl : x = .tup (x0 :: r) := by simpa using hx
        exact hterm.gd.ups (by decide)
    obtain ⟨s, a, b⟩ := good_pass gx (by decide)
    rw [a, bsm, b, bsm, is_str, bsm, decide_eq_true rfl]
    rfl
  · refine Ok.one (rngP_nat (n := 18) (by decide)) ?_
    refine Ok.loop0 (fun x hx => ?_) ?_
    · obtain ⟨t, e, ht⟩ := small_ok x
      obtain ⟨s, a, b⟩ := good_pass ht.gd (by decide)
      rw [e, bsm, a, bsm, bsm, b, bsm, is_str, bsm, decide_eq_true rfl]
      rfl
    rw [small0, small2, bsm, bsm]
    refine Ok.one (lstP_eq (by simp)) (Ok.one (rngP_nat (n := 57) (by decide)) ?_)
    refine Ok.bind (P := fun l : List D => ∃ a b, l = [a, b] ∧ R_sort_of 70 a = some ("kind" : Str) ∧ R_sort_of 70 b = some ("sentence" : Str)) (Ok.fold (fun i (l : List D) => ∃ a b, l = [a, b] ∧ ∀ m, i + 2 ≤ m → R_sort_of m a = some ("kind" : Str) ∧ R_sort_of m b = some ("sentence" : Str)) ⟨_, _, rfl, fun m hm => ?_⟩ (fun i x s hx hs => ?_) fun s hs => ?_) fun l hl => ?_
    · obtain ⟨k, rfl⟩ : ∃ k, m = k + 2 := ⟨m - 2, by omega⟩
      exact ⟨sort_kind (k + 1), sort_say k⟩
    · obtain ⟨a, b, rfl, hs⟩ := hs
      obtain ⟨x1, rfl⟩ := rng_nat hx
      refine Ok.one (atI_0 _ _) (Ok.one vtP_eq (Ok.one (lstP_eq (by decide)) ?_))
      refine (at0 _ (by omega) (by omega)).bind fun d15 _ => ?_
      refine Ok.one (divP_eq (by omega) (by omega)) ?_
      refine Ok.bind (atI_ok (P := fun w : Str => ((w, "sentence", "sentence") : Str × Str × Str) ∈ ONE) (fmod_lo (by decide)) (by exact fmod_hi (by decide)) (by decide +kernel)) fun w hw => ?_
      refine Ok.one (atI_1 _ _ _) (Ok.one vtP_eq (Ok.one (lstP_eq (by simp)) (Ok.some ⟨_, _, rfl, fun m hm => ?_⟩)))
      obtain ⟨k, rfl⟩ : ∃ k, m = k + 1 := ⟨m - 1, by omega⟩
      exact ⟨sort_one ("non", "kind", "kind") (by decide +kernel) (hs k (by omega)).1, sort_one _ hw (hs k (by omega)).2⟩
    · obtain ⟨a, b, rfl, hs⟩ := hs
      exact ⟨a, b, rfl, hs 70 (by rw [rng_len]; decide)⟩
    · obtain ⟨a, b, rfl, ha, hb⟩ := hl
      rw [atI_0, atI_1, bsm, bsm, ha, hb, bsm, bsm, is_str, is_str, bsm, bsm, decide_eq_true rfl, decide_eq_true rfl]
      simp only [Bool.not_true, orc, bsm, Bool.or_self, Bool.false_eq_true, if_false]
      rw [show R_sort_of 70 (em (⟨[]⟩ : Vt D)) = some ("" : Str) from sort_bad head_nil, bsm, is_str, bsm, decide_eq_true rfl]
      exact Ok.some rfl
end K19

set_option Elab.async false
set_option linter.all false
set_option maxRecDepth 100000
set_option maxHeartbeats 8000000
namespace K19
open PySem PySem.Spec PyProof.Rows L2 T
theorem all_mk {l : PySem.W.OpenLaw} {w : World} {K : PySem.W.Frag} {h : Heap} {mg : Str → Option Value} {fa f_is_name f_made_sort f_first_part f_head_is_right f_inner f_sort_of f__law_draws f__law_next f__law_name f__law_kind f__law_noun f__law_sentence f__law_is_name f__law_sort f__law_other f__law_small f__law_spoilt f__law_is f_law : Addr} (X : K.In h) (G : h.Ns mainGlobals mg) (hfa : mg "law" = some (.ref fa))
    {A_LEAVES : Addr} {t_LEAVES_0 : Tok} {tk_LEAVES_0 : Tok} {t_LEAVES_1 : Tok} {tk_LEAVES_1 : Tok} {n_LEAVES : Nat} {t_KINDS_MADE_0 : Tok} {t_KINDS_MADE_1 : Tok} {t_KINDS_MADE_2 : Tok} {A_KINDS_MADE : Addr} {od_KINDS_MADE : Option Addr} {n_KINDS_MADE : Nat} {sl_KINDS_MADE : Array (Option Value)} {t_NOUNS_MADE_0 : Tok} {t_NOUNS_MADE_1 : Tok} {t_NOUNS_MADE_2 : Tok} {t_NOUNS_MADE_3 : Tok} {t_NOUNS_MADE_4 : Tok} {t_NOUNS_MADE_5 : Tok} {t_NOUNS_MADE_6 : Tok} {A_NOUNS_MADE : Addr} {od_NOUNS_MADE : Option Addr} {n_NOUNS_MADE : Nat} {sl_NOUNS_MADE : Array (Option Value)} {t_NUMBERED_0 : Tok} {t_NUMBERED_1 : Tok} {t_NUMBERED_2 : Tok} {A_NUMBERED : Addr} {od_NUMBERED : Option Addr} {n_NUMBERED : Nat} {sl_NUMBERED : Array (Option Value)} {A_PARTS : Addr} {t_PARTS_0_0 : Tok} {t_PARTS_0_1 : Tok} {A_PARTS_0 : Addr} {od_PARTS_0 : Option Addr} {n_PARTS_0 : Nat} {sl_PARTS_0 : Array (Option Value)} {tk_PARTS_0 : Tok} {t_PARTS_1_0 : Tok} {t_PARTS_1_1 : Tok} {A_PARTS_1 : Addr} {od_PARTS_1 : Option Addr} {n_PARTS_1 : Nat} {sl_PARTS_1 : Array (Option Value)} {tk_PARTS_1 : Tok} {t_PARTS_2_0 : Tok} {A_PARTS_2 : Addr} {od_PARTS_2 : Option Addr} {n_PARTS_2 : Nat} {sl_PARTS_2 : Array (Option Value)} {tk_PARTS_2 : Tok} {t_PARTS_3_0 : Tok} {A_PARTS_3 : Addr} {od_PARTS_3 : Option Addr} {n_PARTS_3 : Nat} {sl_PARTS_3 : Array (Option Value)} {tk_PARTS_3 : Tok} {t_PARTS_4_0 : Tok} {A_PARTS_4 : Addr} {od_PARTS_4 : Option Addr} {n_PARTS_4 : Nat} {sl_PARTS_4 : Array (Option Value)} {tk_PARTS_4 : Tok} {t_PARTS_5_0 : Tok} {A_PARTS_5 : Addr} {od_PARTS_5 : Option Addr} {n_PARTS_5 : Nat} {sl_PARTS_5 : Array (Option Value)} {tk_PARTS_5 : Tok} {t_PARTS_6_0 : Tok} {A_PARTS_6 : Addr} {od_PARTS_6 : Option Addr} {n_PARTS_6 : Nat} {sl_PARTS_6 : Array (Option Value)} {tk_PARTS_6 : Tok} {t_PARTS_7_0 : Tok} {A_PARTS_7 : Addr} {od_PARTS_7 : Option Addr} {n_PARTS_7 : Nat} {sl_PARTS_7 : Array (Option Value)} {tk_PARTS_7 : Tok} {t_PARTS_8_0 : Tok} {A_PARTS_8 : Addr} {od_PARTS_8 : Option Addr} {n_PARTS_8 : Nat} {sl_PARTS_8 : Array (Option Value)} {tk_PARTS_8 : Tok} {t_PARTS_9_0 : Tok} {A_PARTS_9 : Addr} {od_PARTS_9 : Option Addr} {n_PARTS_9 : Nat} {sl_PARTS_9 : Array (Option Value)} {tk_PARTS_9 : Tok} {t_PARTS_10_0 : Tok} {t_PARTS_10_1 : Tok} {A_PARTS_10 : Addr} {od_PARTS_10 : Option Addr} {n_PARTS_10 : Nat} {sl_PARTS_10 : Array (Option Value)} {tk_PARTS_10 : Tok} {t_PARTS_11_0 : Tok} {A_PARTS_11 : Addr} {od_PARTS_11 : Option Addr} {n_PARTS_11 : Nat} {sl_PARTS_11 : Array (Option Value)} {tk_PARTS_11 : Tok} {t_PARTS_12_0 : Tok} {t_PARTS_12_1 : Tok} {A_PARTS_12 : Addr} {od_PARTS_12 : Option Addr} {n_PARTS_12 : Nat} {sl_PARTS_12 : Array (Option Value)} {tk_PARTS_12 : Tok} {t_PARTS_13_0 : Tok} {t_PARTS_13_1 : Tok} {A_PARTS_13 : Addr} {od_PARTS_13 : Option Addr} {n_PARTS_13 : Nat} {sl_PARTS_13 : Array (Option Value)} {tk_PARTS_13 : Tok} {t_PARTS_14_0 : Tok} {t_PARTS_14_1 : Tok} {A_PARTS_14 : Addr} {od_PARTS_14 : Option Addr} {n_PARTS_14 : Nat} {sl_PARTS_14 : Array (Option Value)} {tk_PARTS_14 : Tok} {t_PARTS_15_0 : Tok} {A_PARTS_15 : Addr} {od_PARTS_15 : Option Addr} {n_PARTS_15 : Nat} {sl_PARTS_15 : Array (Option Value)} {tk_PARTS_15 : Tok} {n_PARTS : Nat}
    {od_is_name an_is_name : Option Addr} {sl_is_name : Array (Option Value)} {oc_is_name kV_is_name dc_is_name pm_is_name ct_is_name : Value}
    {od_made_sort an_made_sort : Option Addr} {sl_made_sort : Array (Option Value)} {oc_made_sort kV_made_sort dc_made_sort pm_made_sort cd_made_sort ct_made_sort : Value}
    {od_first_part an_first_part : Option Addr} {sl_first_part : Array (Option Value)} {oc_first_part kV_first_part dc_first_part pm_first_part cd_first_part ct_first_part : Value}
    {od_head_is_right an_head_is_right : Option Addr} {sl_head_is_right : Array (Option Value)} {oc_head_is_right kV_head_is_right dc_head_is_right pm_head_is_right cd_head_is_right ct_head_is_right : Value}
    {od_inner an_inner : Option Addr} {sl_inner : Array (Option Value)} {oc_inner kV_inner dc_inner pm_inner cd_inner ct_inner : Value}
    {od_sort_of an_sort_of : Option Addr} {sl_sort_of : Array (Option Value)} {oc_sort_of kV_sort_of dc_sort_of pm_sort_of cd_sort_of ct_sort_of : Value}
    {od__law_draws an__law_draws : Option Addr} {sl__law_draws : Array (Option Value)} {oc__law_draws kV__law_draws dc__law_draws pm__law_draws cd__law_draws ct__law_draws : Value}
    {od__law_next an__law_next : Option Addr} {sl__law_next : Array (Option Value)} {oc__law_next kV__law_next dc__law_next pm__law_next cd__law_next ct__law_next : Value}
    {od__law_name an__law_name : Option Addr} {sl__law_name : Array (Option Value)} {oc__law_name kV__law_name dc__law_name pm__law_name cd__law_name ct__law_name : Value}
    {od__law_kind an__law_kind : Option Addr} {sl__law_kind : Array (Option Value)} {oc__law_kind kV__law_kind dc__law_kind pm__law_kind cd__law_kind ct__law_kind : Value}
    {od__law_noun an__law_noun : Option Addr} {sl__law_noun : Array (Option Value)} {oc__law_noun kV__law_noun dc__law_noun pm__law_noun cd__law_noun ct__law_noun : Value}
    {od__law_sentence an__law_sentence : Option Addr} {sl__law_sentence : Array (Option Value)} {oc__law_sentence kV__law_sentence dc__law_sentence pm__law_sentence cd__law_sentence ct__law_sentence : Value}
    {od__law_is_name an__law_is_name : Option Addr} {sl__law_is_name : Array (Option Value)} {oc__law_is_name kV__law_is_name dc__law_is_name pm__law_is_name cd__law_is_name ct__law_is_name : Value}
    {od__law_sort an__law_sort : Option Addr} {sl__law_sort : Array (Option Value)} {oc__law_sort kV__law_sort dc__law_sort pm__law_sort cd__law_sort ct__law_sort : Value}
    {od__law_other an__law_other : Option Addr} {sl__law_other : Array (Option Value)} {oc__law_other kV__law_other dc__law_other pm__law_other cd__law_other ct__law_other : Value}
    {od__law_small an__law_small : Option Addr} {sl__law_small : Array (Option Value)} {oc__law_small kV__law_small dc__law_small pm__law_small cd__law_small ct__law_small : Value}
    {od__law_spoilt an__law_spoilt : Option Addr} {sl__law_spoilt : Array (Option Value)} {oc__law_spoilt kV__law_spoilt dc__law_spoilt pm__law_spoilt cd__law_spoilt ct__law_spoilt : Value}
    {od__law_is an__law_is : Option Addr} {sl__law_is : Array (Option Value)} {oc__law_is kV__law_is dc__law_is pm__law_is cd__law_is ct__law_is : Value}
    {od_law an_law : Option Addr} {sl_law : Array (Option Value)} {oc_law kV_law dc_law pm_law cd_law ct_law : Value}
    {c_is_name_ Pt_is_name : Addr} {dx_is_name : Option Addr} {vx_is_name : Array Value} {sx_is_name : Array (Option Value)} {file_is_name : Str} {tf_is_name tg_is_name tt_is_name : Tok} {fg_is_name tx_is_name : Int} {iF_is_name : Bool}
    (a_is_name : PySem.W.nsIn K mainGlobals "is_name" = some (some (.ref f_is_name))) (l_is_name : K.lookup f_is_name = some ⟨oc_is_name, od_is_name, .func (PySem.W.fnOf "is_name" "is_name" (defArgs s_is_name) (defBody s_is_name) (defScope s_is_name) .none kV_is_name dc_is_name pm_is_name an_is_name (.ref c_is_name_) ct_is_name), sl_is_name⟩) (c_is_name : PySem.W.codeIn K (.ref c_is_name_) "is_name" = true) (k_is_name : PySem.W.keepIn K (.ref f_is_name) = true)
    (a_made_sort : PySem.W.nsIn K mainGlobals "made_sort" = some (some (.ref f_made_sort))) (l_made_sort : K.lookup f_made_sort = some ⟨oc_made_sort, od_made_sort, .func (PySem.W.fnOf "made_sort" "made_sort" (defArgs s_made_sort) (defBody s_made_sort) (defScope s_made_sort) .none kV_made_sort dc_made_sort pm_made_sort an_made_sort cd_made_sort ct_made_sort), sl_made_sort⟩) (c_made_sort : PySem.W.codeIn K cd_made_sort "made_sort" = true) (k_made_sort : PySem.W.keepIn K (.ref f_made_sort) = true)
    (a_first_part : PySem.W.nsIn K mainGlobals "first_part" = some (some (.ref f_first_part))) (l_first_part : K.lookup f_first_part = some ⟨oc_first_part, od_first_part, .func (PySem.W.fnOf "first_part" "first_part" (defArgs s_first_part) (defBody s_first_part) (defScope s_first_part) .none kV_first_part dc_first_part pm_first_part an_first_part cd_first_part ct_first_part), sl_first_part⟩) (c_first_part : PySem.W.codeIn K cd_first_part "first_part" = true) (k_first_part : PySem.W.keepIn K (.ref f_first_part) = true)
    (a_head_is_right : PySem.W.nsIn K mainGlobals "head_is_right" = some (some (.ref f_head_is_right))) (l_head_is_right : K.lookup f_head_is_right = some ⟨oc_head_is_right, od_head_is_right, .func (PySem.W.fnOf "head_is_right" "head_is_right" (defArgs s_head_is_right) (defBody s_head_is_right) (defScope s_head_is_right) .none kV_head_is_right dc_head_is_right pm_head_is_right an_head_is_right cd_head_is_right ct_head_is_right), sl_head_is_right⟩) (c_head_is_right : PySem.W.codeIn K cd_head_is_right "head_is_right" = true) (k_head_is_right : PySem.W.keepIn K (.ref f_head_is_right) = true)
    (a_inner : PySem.W.nsIn K mainGlobals "inner" = some (some (.ref f_inner))) (l_inner : K.lookup f_inner = some ⟨oc_inner, od_inner, .func (PySem.W.fnOf "inner" "inner" (defArgs s_inner) (defBody s_inner) (defScope s_inner) .none kV_inner dc_inner pm_inner an_inner cd_inner ct_inner), sl_inner⟩) (c_inner : PySem.W.codeIn K cd_inner "inner" = true) (k_inner : PySem.W.keepIn K (.ref f_inner) = true)
    (a_sort_of : PySem.W.nsIn K mainGlobals "sort_of" = some (some (.ref f_sort_of))) (l_sort_of : K.lookup f_sort_of = some ⟨oc_sort_of, od_sort_of, .func (PySem.W.fnOf "sort_of" "sort_of" (defArgs s_sort_of) (defBody s_sort_of) (defScope s_sort_of) .none kV_sort_of dc_sort_of pm_sort_of an_sort_of cd_sort_of ct_sort_of), sl_sort_of⟩) (c_sort_of : PySem.W.codeIn K cd_sort_of "sort_of" = true) (k_sort_of : PySem.W.keepIn K (.ref f_sort_of) = true)
    (a__law_draws : PySem.W.nsIn K mainGlobals "_law_draws" = some (some (.ref f__law_draws))) (l__law_draws : K.lookup f__law_draws = some ⟨oc__law_draws, od__law_draws, .func (PySem.W.fnOf "_law_draws" "_law_draws" (defArgs s__law_draws) (defBody s__law_draws) (defScope s__law_draws) .none kV__law_draws dc__law_draws pm__law_draws an__law_draws cd__law_draws ct__law_draws), sl__law_draws⟩) (c__law_draws : PySem.W.codeIn K cd__law_draws "_law_draws" = true) (k__law_draws : PySem.W.keepIn K (.ref f__law_draws) = true)
    (a__law_next : PySem.W.nsIn K mainGlobals "_law_next" = some (some (.ref f__law_next))) (l__law_next : K.lookup f__law_next = some ⟨oc__law_next, od__law_next, .func (PySem.W.fnOf "_law_next" "_law_next" (defArgs s__law_next) (defBody s__law_next) (defScope s__law_next) .none kV__law_next dc__law_next pm__law_next an__law_next cd__law_next ct__law_next), sl__law_next⟩) (c__law_next : PySem.W.codeIn K cd__law_next "_law_next" = true) (k__law_next : PySem.W.keepIn K (.ref f__law_next) = true)
    (a__law_name : PySem.W.nsIn K mainGlobals "_law_name" = some (some (.ref f__law_name))) (l__law_name : K.lookup f__law_name = some ⟨oc__law_name, od__law_name, .func (PySem.W.fnOf "_law_name" "_law_name" (defArgs s__law_name) (defBody s__law_name) (defScope s__law_name) .none kV__law_name dc__law_name pm__law_name an__law_name cd__law_name ct__law_name), sl__law_name⟩) (c__law_name : PySem.W.codeIn K cd__law_name "_law_name" = true) (k__law_name : PySem.W.keepIn K (.ref f__law_name) = true)
    (a__law_kind : PySem.W.nsIn K mainGlobals "_law_kind" = some (some (.ref f__law_kind))) (l__law_kind : K.lookup f__law_kind = some ⟨oc__law_kind, od__law_kind, .func (PySem.W.fnOf "_law_kind" "_law_kind" (defArgs s__law_kind) (defBody s__law_kind) (defScope s__law_kind) .none kV__law_kind dc__law_kind pm__law_kind an__law_kind cd__law_kind ct__law_kind), sl__law_kind⟩) (c__law_kind : PySem.W.codeIn K cd__law_kind "_law_kind" = true) (k__law_kind : PySem.W.keepIn K (.ref f__law_kind) = true)
    (a__law_noun : PySem.W.nsIn K mainGlobals "_law_noun" = some (some (.ref f__law_noun))) (l__law_noun : K.lookup f__law_noun = some ⟨oc__law_noun, od__law_noun, .func (PySem.W.fnOf "_law_noun" "_law_noun" (defArgs s__law_noun) (defBody s__law_noun) (defScope s__law_noun) .none kV__law_noun dc__law_noun pm__law_noun an__law_noun cd__law_noun ct__law_noun), sl__law_noun⟩) (c__law_noun : PySem.W.codeIn K cd__law_noun "_law_noun" = true) (k__law_noun : PySem.W.keepIn K (.ref f__law_noun) = true)
    (a__law_sentence : PySem.W.nsIn K mainGlobals "_law_sentence" = some (some (.ref f__law_sentence))) (l__law_sentence : K.lookup f__law_sentence = some ⟨oc__law_sentence, od__law_sentence, .func (PySem.W.fnOf "_law_sentence" "_law_sentence" (defArgs s__law_sentence) (defBody s__law_sentence) (defScope s__law_sentence) .none kV__law_sentence dc__law_sentence pm__law_sentence an__law_sentence cd__law_sentence ct__law_sentence), sl__law_sentence⟩) (c__law_sentence : PySem.W.codeIn K cd__law_sentence "_law_sentence" = true) (k__law_sentence : PySem.W.keepIn K (.ref f__law_sentence) = true)
    (a__law_is_name : PySem.W.nsIn K mainGlobals "_law_is_name" = some (some (.ref f__law_is_name))) (l__law_is_name : K.lookup f__law_is_name = some ⟨oc__law_is_name, od__law_is_name, .func (PySem.W.fnOf "_law_is_name" "_law_is_name" (defArgs s__law_is_name) (defBody s__law_is_name) (defScope s__law_is_name) .none kV__law_is_name dc__law_is_name pm__law_is_name an__law_is_name cd__law_is_name ct__law_is_name), sl__law_is_name⟩) (c__law_is_name : PySem.W.codeIn K cd__law_is_name "_law_is_name" = true) (k__law_is_name : PySem.W.keepIn K (.ref f__law_is_name) = true)
    (a__law_sort : PySem.W.nsIn K mainGlobals "_law_sort" = some (some (.ref f__law_sort))) (l__law_sort : K.lookup f__law_sort = some ⟨oc__law_sort, od__law_sort, .func (PySem.W.fnOf "_law_sort" "_law_sort" (defArgs s__law_sort) (defBody s__law_sort) (defScope s__law_sort) .none kV__law_sort dc__law_sort pm__law_sort an__law_sort cd__law_sort ct__law_sort), sl__law_sort⟩) (c__law_sort : PySem.W.codeIn K cd__law_sort "_law_sort" = true) (k__law_sort : PySem.W.keepIn K (.ref f__law_sort) = true)
    (a__law_other : PySem.W.nsIn K mainGlobals "_law_other" = some (some (.ref f__law_other))) (l__law_other : K.lookup f__law_other = some ⟨oc__law_other, od__law_other, .func (PySem.W.fnOf "_law_other" "_law_other" (defArgs s__law_other) (defBody s__law_other) (defScope s__law_other) .none kV__law_other dc__law_other pm__law_other an__law_other cd__law_other ct__law_other), sl__law_other⟩) (c__law_other : PySem.W.codeIn K cd__law_other "_law_other" = true) (k__law_other : PySem.W.keepIn K (.ref f__law_other) = true)
    (a__law_small : PySem.W.nsIn K mainGlobals "_law_small" = some (some (.ref f__law_small))) (l__law_small : K.lookup f__law_small = some ⟨oc__law_small, od__law_small, .func (PySem.W.fnOf "_law_small" "_law_small" (defArgs s__law_small) (defBody s__law_small) (defScope s__law_small) .none kV__law_small dc__law_small pm__law_small an__law_small cd__law_small ct__law_small), sl__law_small⟩) (c__law_small : PySem.W.codeIn K cd__law_small "_law_small" = true) (k__law_small : PySem.W.keepIn K (.ref f__law_small) = true)
    (a__law_spoilt : PySem.W.nsIn K mainGlobals "_law_spoilt" = some (some (.ref f__law_spoilt))) (l__law_spoilt : K.lookup f__law_spoilt = some ⟨oc__law_spoilt, od__law_spoilt, .func (PySem.W.fnOf "_law_spoilt" "_law_spoilt" (defArgs s__law_spoilt) (defBody s__law_spoilt) (defScope s__law_spoilt) .none kV__law_spoilt dc__law_spoilt pm__law_spoilt an__law_spoilt cd__law_spoilt ct__law_spoilt), sl__law_spoilt⟩) (c__law_spoilt : PySem.W.codeIn K cd__law_spoilt "_law_spoilt" = true) (k__law_spoilt : PySem.W.keepIn K (.ref f__law_spoilt) = true)
    (a__law_is : PySem.W.nsIn K mainGlobals "_law_is" = some (some (.ref f__law_is))) (l__law_is : K.lookup f__law_is = some ⟨oc__law_is, od__law_is, .func (PySem.W.fnOf "_law_is" "_law_is" (defArgs s__law_is) (defBody s__law_is) (defScope s__law_is) .none kV__law_is dc__law_is pm__law_is an__law_is cd__law_is ct__law_is), sl__law_is⟩) (c__law_is : PySem.W.codeIn K cd__law_is "_law_is" = true) (k__law_is : PySem.W.keepIn K (.ref f__law_is) = true)
    (a_law : PySem.W.nsIn K mainGlobals "law" = some (some (.ref f_law))) (l_law : K.lookup f_law = some ⟨oc_law, od_law, .func (PySem.W.fnOf "law" "law" (defArgs s_law) (defBody s_law) (defScope s_law) .none kV_law dc_law pm_law an_law cd_law ct_law), sl_law⟩) (c_law : PySem.W.codeIn K cd_law "law" = true) (k_law : PySem.W.keepIn K (.ref f_law) = true)
    (lc_is_name : K.lookup c_is_name_ = some ⟨.type "code", dx_is_name, .fields vx_is_name, sx_is_name⟩)
    (v11_is_name : vx_is_name[11]? = some (.ref Pt_is_name))
    (v18_is_name : vx_is_name.getD 18 .none = .str file_is_name tf_is_name)
    (v7_is_name : vx_is_name.getD 7 .none = .int fg_is_name tg_is_name)
    (v9_is_name : vx_is_name.getD 9 .none = .bool iF_is_name)
    (v10_is_name : vx_is_name.getD 10 .none = .int tx_is_name tt_is_name)
    (ne_is_name : c_is_name_ ≠ Pt_is_name)
    (np_is_name : K.lookup Pt_is_name = none)
    (own_is_name : LamX.OwnTab K f_is_name h)
    (z_abs : PySem.W.nsIn K mainGlobals "abs" = some none)
    (z_all : PySem.W.nsIn K mainGlobals "all" = some none)
    (z_bool : PySem.W.nsIn K mainGlobals "bool" = some none)
    (z_int : PySem.W.nsIn K mainGlobals "int" = some none)
    (z_isinstance : PySem.W.nsIn K mainGlobals "isinstance" = some none)
    (z_len : PySem.W.nsIn K mainGlobals "len" = some none)
    (z_max : PySem.W.nsIn K mainGlobals "max" = some none)
    (z_range : PySem.W.nsIn K mainGlobals "range" = some none)
    (z_str : PySem.W.nsIn K mainGlobals "str" = some none)
    (z_tuple : PySem.W.nsIn K mainGlobals "tuple" = some none)
    (g_LEAVES : PySem.W.nsIn K mainGlobals "LEAVES" = some (some (.ref A_LEAVES)))
    (d_LEAVES : K.lookup A_LEAVES = some ⟨.type "dict", none, .dict #[⟨PyData.keyHash w.params ("kind" : Str), .str ("kind" : Str) tk_LEAVES_0, .str ("kind" : Str) t_LEAVES_0⟩, ⟨PyData.keyHash w.params ("name" : Str), .str ("name" : Str) tk_LEAVES_1, .str ("noun" : Str) t_LEAVES_1⟩] n_LEAVES, #[]⟩)
    (s_LEAVES : (A_LEAVES == sysModules) = false)
    (v_LEAVES_0 : PySem.W.nsIn K A_LEAVES ("kind" : Str) = some (some (.str ("kind" : Str) t_LEAVES_0)))
    (v_LEAVES_1 : PySem.W.nsIn K A_LEAVES ("name" : Str) = some (some (.str ("noun" : Str) t_LEAVES_1)))
    (g_KINDS_MADE : PySem.W.nsIn K mainGlobals "KINDS_MADE" = some (some (.ref A_KINDS_MADE)))
    (l_KINDS_MADE : K.lookup A_KINDS_MADE = some ⟨.type "tuple", od_KINDS_MADE, .seq #[.str ("both" : Str) t_KINDS_MADE_0, .str ("either" : Str) t_KINDS_MADE_1, .str ("non" : Str) t_KINDS_MADE_2] n_KINDS_MADE, sl_KINDS_MADE⟩)
    (g_NOUNS_MADE : PySem.W.nsIn K mainGlobals "NOUNS_MADE" = some (some (.ref A_NOUNS_MADE)))
    (l_NOUNS_MADE : K.lookup A_NOUNS_MADE = some ⟨.type "tuple", od_NOUNS_MADE, .seq #[.str ("every" : Str) t_NOUNS_MADE_0, .str ("some" : Str) t_NOUNS_MADE_1, .str ("no" : Str) t_NOUNS_MADE_2, .str ("notevery" : Str) t_NOUNS_MADE_3, .str ("atleast" : Str) t_NOUNS_MADE_4, .str ("atmost" : Str) t_NOUNS_MADE_5, .str ("exactly" : Str) t_NOUNS_MADE_6] n_NOUNS_MADE, sl_NOUNS_MADE⟩)
    (g_NUMBERED : PySem.W.nsIn K mainGlobals "NUMBERED" = some (some (.ref A_NUMBERED)))
    (l_NUMBERED : K.lookup A_NUMBERED = some ⟨.type "tuple", od_NUMBERED, .seq #[.str ("atleast" : Str) t_NUMBERED_0, .str ("atmost" : Str) t_NUMBERED_1, .str ("exactly" : Str) t_NUMBERED_2] n_NUMBERED, sl_NUMBERED⟩)
    (g_PARTS : PySem.W.nsIn K mainGlobals "PARTS" = some (some (.ref A_PARTS)))
    (d_PARTS : K.lookup A_PARTS = some ⟨.type "dict", none, .dict #[⟨PyData.keyHash w.params ("both" : Str), .str ("both" : Str) tk_PARTS_0, .ref A_PARTS_0⟩, ⟨PyData.keyHash w.params ("either" : Str), .str ("either" : Str) tk_PARTS_1, .ref A_PARTS_1⟩, ⟨PyData.keyHash w.params ("non" : Str), .str ("non" : Str) tk_PARTS_2, .ref A_PARTS_2⟩, ⟨PyData.keyHash w.params ("every" : Str), .str ("every" : Str) tk_PARTS_3, .ref A_PARTS_3⟩, ⟨PyData.keyHash w.params ("some" : Str), .str ("some" : Str) tk_PARTS_4, .ref A_PARTS_4⟩, ⟨PyData.keyHash w.params ("no" : Str), .str ("no" : Str) tk_PARTS_5, .ref A_PARTS_5⟩, ⟨PyData.keyHash w.params ("notevery" : Str), .str ("notevery" : Str) tk_PARTS_6, .ref A_PARTS_6⟩, ⟨PyData.keyHash w.params ("atleast" : Str), .str ("atleast" : Str) tk_PARTS_7, .ref A_PARTS_7⟩, ⟨PyData.keyHash w.params ("atmost" : Str), .str ("atmost" : Str) tk_PARTS_8, .ref A_PARTS_8⟩, ⟨PyData.keyHash w.params ("exactly" : Str), .str ("exactly" : Str) tk_PARTS_9, .ref A_PARTS_9⟩, ⟨PyData.keyHash w.params ("say" : Str), .str ("say" : Str) tk_PARTS_10, .ref A_PARTS_10⟩, ⟨PyData.keyHash w.params ("not" : Str), .str ("not" : Str) tk_PARTS_11, .ref A_PARTS_11⟩, ⟨PyData.keyHash w.params ("and" : Str), .str ("and" : Str) tk_PARTS_12, .ref A_PARTS_12⟩, ⟨PyData.keyHash w.params ("or" : Str), .str ("or" : Str) tk_PARTS_13, .ref A_PARTS_13⟩, ⟨PyData.keyHash w.params ("if" : Str), .str ("if" : Str) tk_PARTS_14, .ref A_PARTS_14⟩, ⟨PyData.keyHash w.params ("isle" : Str), .str ("isle" : Str) tk_PARTS_15, .ref A_PARTS_15⟩] n_PARTS, #[]⟩)
    (s_PARTS : (A_PARTS == sysModules) = false)
    (v_PARTS_0 : PySem.W.nsIn K A_PARTS ("both" : Str) = some (some (.ref A_PARTS_0)))
    (l_PARTS_0 : K.lookup A_PARTS_0 = some ⟨.type "tuple", od_PARTS_0, .seq #[.str ("kind" : Str) t_PARTS_0_0, .str ("kind" : Str) t_PARTS_0_1] n_PARTS_0, sl_PARTS_0⟩)
    (v_PARTS_1 : PySem.W.nsIn K A_PARTS ("either" : Str) = some (some (.ref A_PARTS_1)))
    (l_PARTS_1 : K.lookup A_PARTS_1 = some ⟨.type "tuple", od_PARTS_1, .seq #[.str ("kind" : Str) t_PARTS_1_0, .str ("kind" : Str) t_PARTS_1_1] n_PARTS_1, sl_PARTS_1⟩)
    (v_PARTS_2 : PySem.W.nsIn K A_PARTS ("non" : Str) = some (some (.ref A_PARTS_2)))
    (l_PARTS_2 : K.lookup A_PARTS_2 = some ⟨.type "tuple", od_PARTS_2, .seq #[.str ("kind" : Str) t_PARTS_2_0] n_PARTS_2, sl_PARTS_2⟩)
    (v_PARTS_3 : PySem.W.nsIn K A_PARTS ("every" : Str) = some (some (.ref A_PARTS_3)))
    (l_PARTS_3 : K.lookup A_PARTS_3 = some ⟨.type "tuple", od_PARTS_3, .seq #[.str ("kind" : Str) t_PARTS_3_0] n_PARTS_3, sl_PARTS_3⟩)
    (v_PARTS_4 : PySem.W.nsIn K A_PARTS ("some" : Str) = some (some (.ref A_PARTS_4)))
    (l_PARTS_4 : K.lookup A_PARTS_4 = some ⟨.type "tuple", od_PARTS_4, .seq #[.str ("kind" : Str) t_PARTS_4_0] n_PARTS_4, sl_PARTS_4⟩)
    (v_PARTS_5 : PySem.W.nsIn K A_PARTS ("no" : Str) = some (some (.ref A_PARTS_5)))
    (l_PARTS_5 : K.lookup A_PARTS_5 = some ⟨.type "tuple", od_PARTS_5, .seq #[.str ("kind" : Str) t_PARTS_5_0] n_PARTS_5, sl_PARTS_5⟩)
    (v_PARTS_6 : PySem.W.nsIn K A_PARTS ("notevery" : Str) = some (some (.ref A_PARTS_6)))
    (l_PARTS_6 : K.lookup A_PARTS_6 = some ⟨.type "tuple", od_PARTS_6, .seq #[.str ("kind" : Str) t_PARTS_6_0] n_PARTS_6, sl_PARTS_6⟩)
    (v_PARTS_7 : PySem.W.nsIn K A_PARTS ("atleast" : Str) = some (some (.ref A_PARTS_7)))
    (l_PARTS_7 : K.lookup A_PARTS_7 = some ⟨.type "tuple", od_PARTS_7, .seq #[.str ("kind" : Str) t_PARTS_7_0] n_PARTS_7, sl_PARTS_7⟩)
    (v_PARTS_8 : PySem.W.nsIn K A_PARTS ("atmost" : Str) = some (some (.ref A_PARTS_8)))
    (l_PARTS_8 : K.lookup A_PARTS_8 = some ⟨.type "tuple", od_PARTS_8, .seq #[.str ("kind" : Str) t_PARTS_8_0] n_PARTS_8, sl_PARTS_8⟩)
    (v_PARTS_9 : PySem.W.nsIn K A_PARTS ("exactly" : Str) = some (some (.ref A_PARTS_9)))
    (l_PARTS_9 : K.lookup A_PARTS_9 = some ⟨.type "tuple", od_PARTS_9, .seq #[.str ("kind" : Str) t_PARTS_9_0] n_PARTS_9, sl_PARTS_9⟩)
    (v_PARTS_10 : PySem.W.nsIn K A_PARTS ("say" : Str) = some (some (.ref A_PARTS_10)))
    (l_PARTS_10 : K.lookup A_PARTS_10 = some ⟨.type "tuple", od_PARTS_10, .seq #[.str ("noun" : Str) t_PARTS_10_0, .str ("kind" : Str) t_PARTS_10_1] n_PARTS_10, sl_PARTS_10⟩)
    (v_PARTS_11 : PySem.W.nsIn K A_PARTS ("not" : Str) = some (some (.ref A_PARTS_11)))
    (l_PARTS_11 : K.lookup A_PARTS_11 = some ⟨.type "tuple", od_PARTS_11, .seq #[.str ("sentence" : Str) t_PARTS_11_0] n_PARTS_11, sl_PARTS_11⟩)
    (v_PARTS_12 : PySem.W.nsIn K A_PARTS ("and" : Str) = some (some (.ref A_PARTS_12)))
    (l_PARTS_12 : K.lookup A_PARTS_12 = some ⟨.type "tuple", od_PARTS_12, .seq #[.str ("sentence" : Str) t_PARTS_12_0, .str ("sentence" : Str) t_PARTS_12_1] n_PARTS_12, sl_PARTS_12⟩)
    (v_PARTS_13 : PySem.W.nsIn K A_PARTS ("or" : Str) = some (some (.ref A_PARTS_13)))
    (l_PARTS_13 : K.lookup A_PARTS_13 = some ⟨.type "tuple", od_PARTS_13, .seq #[.str ("sentence" : Str) t_PARTS_13_0, .str ("sentence" : Str) t_PARTS_13_1] n_PARTS_13, sl_PARTS_13⟩)
    (v_PARTS_14 : PySem.W.nsIn K A_PARTS ("if" : Str) = some (some (.ref A_PARTS_14)))
    (l_PARTS_14 : K.lookup A_PARTS_14 = some ⟨.type "tuple", od_PARTS_14, .seq #[.str ("sentence" : Str) t_PARTS_14_0, .str ("sentence" : Str) t_PARTS_14_1] n_PARTS_14, sl_PARTS_14⟩)
    (v_PARTS_15 : PySem.W.nsIn K A_PARTS ("isle" : Str) = some (some (.ref A_PARTS_15)))
    (l_PARTS_15 : K.lookup A_PARTS_15 = some ⟨.type "tuple", od_PARTS_15, .seq #[.str ("sentence" : Str) t_PARTS_15_0] n_PARTS_15, sl_PARTS_15⟩)
    : LamX.LawAtS l w K CX0 133 63 "script" mg fa h := by
  letI tbI : Tabs := ⟨fun p => p ∈ [Pt_is_name]⟩
  have e := hfa.symm.trans (PySem.W.mg_of X G a_law)
  cases e
  have Z : Zs K w mg := ⟨PySem.W.mg_none_of X G z_abs, PySem.W.mg_none_of X G z_all, PySem.W.mg_none_of X G z_bool, PySem.W.mg_none_of X G z_int, PySem.W.mg_none_of X G z_isinstance, PySem.W.mg_none_of X G z_len, PySem.W.mg_none_of X G z_max, PySem.W.mg_none_of X G z_range, PySem.W.mg_none_of X G z_str, PySem.W.mg_none_of X G z_tuple, kd_mk (PySem.W.mg_of X G g_LEAVES) (dicW_of d_LEAVES s_LEAVES) (kv_cons v_LEAVES_0 cs_str (kv_cons v_LEAVES_1 cs_str kv_nil)), ⟨_, PySem.W.mg_of X G g_KINDS_MADE, (cs_tup l_KINDS_MADE (.cons cs_str (.cons cs_str (.cons cs_str .nil))))⟩, ⟨_, PySem.W.mg_of X G g_NOUNS_MADE, (cs_tup l_NOUNS_MADE (.cons cs_str (.cons cs_str (.cons cs_str (.cons cs_str (.cons cs_str (.cons cs_str (.cons cs_str .nil))))))))⟩, ⟨_, PySem.W.mg_of X G g_NUMBERED, (cs_tup l_NUMBERED (.cons cs_str (.cons cs_str (.cons cs_str .nil))))⟩, kd_mk (PySem.W.mg_of X G g_PARTS) (dicW_of d_PARTS s_PARTS) (kv_cons v_PARTS_0 (cs_tup l_PARTS_0 (.cons cs_str (.cons cs_str .nil))) (kv_cons v_PARTS_1 (cs_tup l_PARTS_1 (.cons cs_str (.cons cs_str .nil))) (kv_cons v_PARTS_2 (cs_tup l_PARTS_2 (.cons cs_str .nil)) (kv_cons v_PARTS_3 (cs_tup l_PARTS_3 (.cons cs_str .nil)) (kv_cons v_PARTS_4 (cs_tup l_PARTS_4 (.cons cs_str .nil)) (kv_cons v_PARTS_5 (cs_tup l_PARTS_5 (.cons cs_str .nil)) (kv_cons v_PARTS_6 (cs_tup l_PARTS_6 (.cons cs_str .nil)) (kv_cons v_PARTS_7 (cs_tup l_PARTS_7 (.cons cs_str .nil)) (kv_cons v_PARTS_8 (cs_tup l_PARTS_8 (.cons cs_str .nil)) (kv_cons v_PARTS_9 (cs_tup l_PARTS_9 (.cons cs_str .nil)) (kv_cons v_PARTS_10 (cs_tup l_PARTS_10 (.cons cs_str (.cons cs_str .nil))) (kv_cons v_PARTS_11 (cs_tup l_PARTS_11 (.cons cs_str .nil)) (kv_cons v_PARTS_12 (cs_tup l_PARTS_12 (.cons cs_str (.cons cs_str .nil))) (kv_cons v_PARTS_13 (cs_tup l_PARTS_13 (.cons cs_str (.cons cs_str .nil))) (kv_cons v_PARTS_14 (cs_tup l_PARTS_14 (.cons cs_str (.cons cs_str .nil))) (kv_cons v_PARTS_15 (cs_tup l_PARTS_15 (.cons cs_str .nil)) kv_nil))))))))))))))))⟩
  have F_is_name := fun_mk (st := s_is_name) l_is_name c_is_name k_is_name
  have FT_is_name := funT_mk (st := s_is_name) l_is_name c_is_name
  have b_is_name := F_is_name.binds (ps := ["text"]) fun _ _ _ _ _ _ us hl => match us, hl with | [_], _ => rfl
  have F_made_sort := fun_mk (st := s_made_sort) l_made_sort c_made_sort k_made_sort
  have b_made_sort := F_made_sort.binds (ps := ["word"]) fun _ _ _ _ _ _ us hl => match us, hl with | [_], _ => rfl
  have F_first_part := fun_mk (st := s_first_part) l_first_part c_first_part k_first_part
  have b_first_part := F_first_part.binds (ps := ["word"]) fun _ _ _ _ _ _ us hl => match us, hl with | [_], _ => rfl
  have F_head_is_right := fun_mk (st := s_head_is_right) l_head_is_right c_head_is_right k_head_is_right
  have b_head_is_right := F_head_is_right.binds (ps := ["term"]) fun _ _ _ _ _ _ us hl => match us, hl with | [_], _ => rfl
  have F_inner := fun_mk (st := s_inner) l_inner c_inner k_inner
  have b_inner := F_inner.binds (ps := ["term"]) fun _ _ _ _ _ _ us hl => match us, hl with | [_], _ => rfl
  have F_sort_of := fun_mk (st := s_sort_of) l_sort_of c_sort_of k_sort_of
  have b_sort_of := F_sort_of.binds (ps := ["term"]) fun _ _ _ _ _ _ us hl => match us, hl with | [_], _ => rfl
  have F__law_draws := fun_mk (st := s__law_draws) l__law_draws c__law_draws k__law_draws
  have b__law_draws := F__law_draws.binds (ps := ["script", "count"]) fun _ _ _ _ _ _ us hl => match us, hl with | [_, _], _ => rfl
  have F__law_next := fun_mk (st := s__law_next) l__law_next c__law_next k__law_next
  have b__law_next := F__law_next.binds (ps := ["seed", "k"]) fun _ _ _ _ _ _ us hl => match us, hl with | [_, _], _ => rfl
  have F__law_name := fun_mk (st := s__law_name) l__law_name c__law_name k__law_name
  have b__law_name := F__law_name.binds (ps := ["seed"]) fun _ _ _ _ _ _ us hl => match us, hl with | [_], _ => rfl
  have F__law_kind := fun_mk (st := s__law_kind) l__law_kind c__law_kind k__law_kind
  have b__law_kind := F__law_kind.binds (ps := ["seed", "many"]) fun _ _ _ _ _ _ us hl => match us, hl with | [_, _], _ => rfl
  have F__law_noun := fun_mk (st := s__law_noun) l__law_noun c__law_noun k__law_noun
  have b__law_noun := F__law_noun.binds (ps := ["seed", "many"]) fun _ _ _ _ _ _ us hl => match us, hl with | [_, _], _ => rfl
  have F__law_sentence := fun_mk (st := s__law_sentence) l__law_sentence c__law_sentence k__law_sentence
  have b__law_sentence := F__law_sentence.binds (ps := ["seed", "many"]) fun _ _ _ _ _ _ us hl => match us, hl with | [_, _], _ => rfl
  have F__law_is_name := fun_mk (st := s__law_is_name) l__law_is_name c__law_is_name k__law_is_name
  have b__law_is_name := F__law_is_name.binds (ps := ["text"]) fun _ _ _ _ _ _ us hl => match us, hl with | [_], _ => rfl
  have F__law_sort := fun_mk (st := s__law_sort) l__law_sort c__law_sort k__law_sort
  have b__law_sort := F__law_sort.binds (ps := ["term"]) fun _ _ _ _ _ _ us hl => match us, hl with | [_], _ => rfl
  have F__law_other := fun_mk (st := s__law_other) l__law_other c__law_other k__law_other
  have b__law_other := F__law_other.binds (ps := ["seed"]) fun _ _ _ _ _ _ us hl => match us, hl with | [_], _ => rfl
  have F__law_small := fun_mk (st := s__law_small) l__law_small c__law_small k__law_small
  have b__law_small := F__law_small.binds (ps := ["seed"]) fun _ _ _ _ _ _ us hl => match us, hl with | [_], _ => rfl
  have F__law_spoilt := fun_mk (st := s__law_spoilt) l__law_spoilt c__law_spoilt k__law_spoilt
  have b__law_spoilt := F__law_spoilt.binds (ps := ["term", "seed", "top"]) fun _ _ _ _ _ _ us hl => match us, hl with | [_, _, _], _ => rfl
  have F__law_is := fun_mk (st := s__law_is) l__law_is c__law_is k__law_is
  have b__law_is := F__law_is.binds (ps := ["actual", "due"]) fun _ _ _ _ _ _ us hl => match us, hl with | [_, _], _ => rfl
  have F_law := fun_mk (st := s_law) l_law c_law k_law
  refine ⟨PySem.W.fnOf "law" "law" (defArgs s_law) (defBody s_law) (defScope s_law) .none kV_law dc_law pm_law an_law cd_law ct_law, [(c_is_name_, Pt_is_name)], spLaw K, (by intro p hp; simp only [List.mem_cons, List.not_mem_nil, or_false] at hp; rcases hp with rfl <;> first | exact own_is_name c_is_name_ Pt_is_name _ _ _ _ _ _ l_is_name rfl rfl lc_is_name v11_is_name), (by intro p hp; simp only [List.mem_cons, List.not_mem_nil, or_false] at hp; rcases hp with rfl <;> first | exact np_is_name), (by intro p hp; simp only [List.mem_cons, List.not_mem_nil, or_false] at hp; rcases hp with rfl <;> first | exact codeHd_of X lc_is_name v11_is_name v18_is_name v7_is_name v9_is_name v10_is_name ne_is_name), fun s v => .of_eq rfl, fun H a ns h1 h2 h3 h4 => ⟨a, ns, rfl, h4, h1, fun p hp => ?_, fun _ => rfl⟩, fun base _ _ TBs => ?_⟩
  · have hp : p ∈ [Pt_is_name] := hp
    simp only [List.mem_cons, List.not_mem_nil, or_false] at hp
    all_goals rw [hp]
    all_goals first | exact tab0 (h3 (c_is_name_, Pt_is_name) (by simp))
  have D_is_name : Df l.prog w K mg base 1 "is_name" f_is_name _ ["text"] (spF K (fun a : Str × Unit => [.dat (em a.1)]) (fun a : Str × Unit => M_is_name a.1) fun x : Bool => .dat (em x)) := ⟨ok_is_name FT_is_name (show Tabs.tab Pt_is_name from (by show Pt_is_name ∈ _; simp)) (tabB_of (TBs (c_is_name_, Pt_is_name) (by simp))) Z, PySem.W.mg_of X G a_is_name, k_is_name, b_is_name⟩
  have D_made_sort : Df l.prog w K mg base 1 "made_sort" f_made_sort _ ["word"] (spF K (fun a : Str × Unit => [.dat (em a.1)]) (fun a : Str × Unit => M_made_sort a.1) fun x : Str => .dat (em x)) := ⟨ok_made_sort F_made_sort Z, PySem.W.mg_of X G a_made_sort, k_made_sort, b_made_sort⟩
  have D_first_part : Df l.prog w K mg base 1 "first_part" f_first_part _ ["word"] (spF K (fun a : Str × Unit => [.dat (em a.1)]) (fun a : Str × Unit => M_first_part a.1) fun x : Int => .dat (em x)) := ⟨ok_first_part F_first_part Z, PySem.W.mg_of X G a_first_part, k_first_part, b_first_part⟩
  have D_head_is_right : Df l.prog w K mg base 2 "head_is_right" f_head_is_right _ ["term"] (spF K (fun a : D × Unit => [.dat (em a.1)]) (fun a : D × Unit => M_head_is_right a.1) fun x : Bool => .dat (em x)) := ⟨ok_head_is_right F_head_is_right Z D_first_part D_is_name, PySem.W.mg_of X G a_head_is_right, k_head_is_right, b_head_is_right⟩
  have D_inner : Df l.prog w K mg base 2 "inner" f_inner _ ["term"] (spF K (fun a : D × Unit => [.dat (em a.1)]) (fun a : D × Unit => M_inner a.1) fun x : D => .dat (em x)) := ⟨ok_inner F_inner Z D_first_part, PySem.W.mg_of X G a_inner, k_inner, b_inner⟩
  have D_sort_of : Df l.prog w K mg base 73 "sort_of" f_sort_of _ ["term"] (spF K (fun a : D × Unit => [.dat (em a.1)]) (fun a : D × Unit => R_sort_of 70 a.1) fun x : Str => .dat (em x)) := ⟨ok_sort_of F_sort_of Z D_head_is_right D_inner D_made_sort (PySem.W.mg_of X G a_sort_of) k_sort_of b_sort_of 70, PySem.W.mg_of X G a_sort_of, k_sort_of, b_sort_of⟩
  have D__law_draws : Df l.prog w K mg base 1 "_law_draws" f__law_draws _ ["script", "count"] (spF K (fun a : (List Int) × Int × Unit => [.bor (List.map em a.1), .dat (em a.2.1)]) (fun a : (List Int) × Int × Unit => M__law_draws a.1 a.2.1) fun x : (List Int) => .own (List.map em x)) := ⟨ok__law_draws F__law_draws Z, PySem.W.mg_of X G a__law_draws, k__law_draws, b__law_draws⟩
  have D__law_next : Df l.prog w K mg base 1 "_law_next" f__law_next _ ["seed", "k"] (spF K (fun a : Int × Int × Unit => [.dat (em a.1), .dat (em a.2.1)]) (fun a : Int × Int × Unit => M__law_next a.1 a.2.1) fun x : Int => .dat (em x)) := ⟨ok__law_next F__law_next Z, PySem.W.mg_of X G a__law_next, k__law_next, b__law_next⟩
  have D__law_name : Df l.prog w K mg base 1 "_law_name" f__law_name _ ["seed"] (spF K (fun a : Int × Unit => [.dat (em a.1)]) (fun a : Int × Unit => M__law_name a.1) fun x : Str => .dat (em x)) := ⟨ok__law_name F__law_name Z, PySem.W.mg_of X G a__law_name, k__law_name, b__law_name⟩
  have D__law_kind : Df l.prog w K mg base 66 "_law_kind" f__law_kind _ ["seed", "many"] (spF K (fun a : Int × Int × Unit => [.dat (em a.1), .dat (em a.2.1)]) (fun a : Int × Int × Unit => R__law_kind 64 a.1 a.2.1) fun x : D => .dat (em x)) := ⟨ok__law_kind F__law_kind Z D__law_name D__law_next (PySem.W.mg_of X G a__law_kind) k__law_kind b__law_kind 64, PySem.W.mg_of X G a__law_kind, k__law_kind, b__law_kind⟩
  have D__law_noun : Df l.prog w K mg base 67 "_law_noun" f__law_noun _ ["seed", "many"] (spF K (fun a : Int × Int × Unit => [.dat (em a.1), .dat (em a.2.1)]) (fun a : Int × Int × Unit => M__law_noun a.1 a.2.1) fun x : D => .dat (em x)) := ⟨ok__law_noun F__law_noun Z D__law_kind D__law_name D__law_next, PySem.W.mg_of X G a__law_noun, k__law_noun, b__law_noun⟩
  have D__law_sentence : Df l.prog w K mg base 132 "_law_sentence" f__law_sentence _ ["seed", "many"] (spF K (fun a : Int × Int × Unit => [.dat (em a.1), .dat (em a.2.1)]) (fun a : Int × Int × Unit => R__law_sentence 64 a.1 a.2.1) fun x : D => .dat (em x)) := ⟨ok__law_sentence F__law_sentence Z D__law_kind D__law_next D__law_noun (PySem.W.mg_of X G a__law_sentence) k__law_sentence b__law_sentence 64, PySem.W.mg_of X G a__law_sentence, k__law_sentence, b__law_sentence⟩
  have D__law_is_name : Df l.prog w K mg base 1 "_law_is_name" f__law_is_name _ ["text"] (spF K (fun a : D × Unit => [.dat (em a.1)]) (fun a : D × Unit => M__law_is_name a.1) fun x : Bool => .dat (em x)) := ⟨ok__law_is_name F__law_is_name Z, PySem.W.mg_of X G a__law_is_name, k__law_is_name, b__law_is_name⟩
  have D__law_sort : Df l.prog w K mg base 72 "_law_sort" f__law_sort _ ["term"] (spF K (fun a : D × Unit => [.dat (em a.1)]) (fun a : D × Unit => R__law_sort 70 a.1) fun x : Str => .dat (em x)) := ⟨ok__law_sort F__law_sort Z D__law_is_name (PySem.W.mg_of X G a__law_sort) k__law_sort b__law_sort 70, PySem.W.mg_of X G a__law_sort, k__law_sort, b__law_sort⟩
  have D__law_other : Df l.prog w K mg base 1 "_law_other" f__law_other _ ["seed"] (spF K (fun a : Int × Unit => [.dat (em a.1)]) (fun a : Int × Unit => M__law_other a.1) fun x : Str => .dat (em x)) := ⟨ok__law_other F__law_other Z, PySem.W.mg_of X G a__law_other, k__law_other, b__law_other⟩
  have D__law_small : Df l.prog w K mg base 1 "_law_small" f__law_small _ ["seed"] (spF K (fun a : Int × Unit => [.dat (em a.1)]) (fun a : Int × Unit => M__law_small a.1) fun x : D => .dat (em x)) := ⟨ok__law_small F__law_small Z, PySem.W.mg_of X G a__law_small, k__law_small, b__law_small⟩
  have D__law_spoilt : Df l.prog w K mg base 72 "_law_spoilt" f__law_spoilt _ ["term", "seed", "top"] (spF K (fun a : D × Int × Bool × Unit => [.dat (em a.1), .dat (em a.2.1), .dat (em a.2.2.1)]) (fun a : D × Int × Bool × Unit => R__law_spoilt 70 a.1 a.2.1 a.2.2.1) fun x : D => .dat (em x)) := ⟨ok__law_spoilt F__law_spoilt Z D__law_next D__law_other D__law_small (PySem.W.mg_of X G a__law_spoilt) k__law_spoilt b__law_spoilt 70, PySem.W.mg_of X G a__law_spoilt, k__law_spoilt, b__law_spoilt⟩
  have D__law_is : Df l.prog w K mg base 1 "_law_is" f__law_is _ ["actual", "due"] (spF K (fun a : D × D × Unit => [.dat (em a.1), .dat (em a.2.1)]) (fun a : D × D × Unit => M__law_is a.1 a.2.1) fun x : Bool => .dat (em x)) := ⟨ok__law_is F__law_is Z, PySem.W.mg_of X G a__law_is, k__law_is, b__law_is⟩
  exact law_ok (m := fun a => M_law a.1) (ok_law F_law Z D__law_draws D__law_is D__law_kind D__law_noun D__law_sentence D__law_small D__law_sort D__law_spoilt D_sort_of) fun ns hl => law_true ns hl
end K19
open PySem PySem.W PyProof.Rows
set_option maxRecDepth 100000 in
set_option maxHeartbeats 0 in
theorem PySem.Challenge.cw_saidback_k19_sorts_of_terms_holds : PySem.Challenge.rw_saidback_k19_sorts_of_terms.Holds := by
  w_on; o_law; k_head; (case hw => w_witness2)
  k_fill
  refine T.law_walkT (k := 133) (l := PySem.Challenge.rw_saidback_k19_sorts_of_terms) rfl rfl (fun w h Y => PySem.W.kIn_of Y) ⟨rfl, by decide, by decide⟩ ["is_name"] (by decide) ?F
  case F =>
    intro w mg fa h KX G hmg own
    refine' K19.all_mk KX G hmg ?a_is_name ?l_is_name ?c_is_name ?k_is_name ?a_made_sort ?l_made_sort ?c_made_sort ?k_made_sort ?a_first_part ?l_first_part ?c_first_part ?k_first_part ?a_head_is_right ?l_head_is_right ?c_head_is_right ?k_head_is_right ?a_inner ?l_inner ?c_inner ?k_inner ?a_sort_of ?l_sort_of ?c_sort_of ?k_sort_of ?a__law_draws ?l__law_draws ?c__law_draws ?k__law_draws ?a__law_next ?l__law_next ?c__law_next ?k__law_next ?a__law_name ?l__law_name ?c__law_name ?k__law_name ?a__law_kind ?l__law_kind ?c__law_kind ?k__law_kind ?a__law_noun ?l__law_noun ?c__law_noun ?k__law_noun ?a__law_sentence ?l__law_sentence ?c__law_sentence ?k__law_sentence ?a__law_is_name ?l__law_is_name ?c__law_is_name ?k__law_is_name ?a__law_sort ?l__law_sort ?c__law_sort ?k__law_sort ?a__law_other ?l__law_other ?c__law_other ?k__law_other ?a__law_small ?l__law_small ?c__law_small ?k__law_small ?a__law_spoilt ?l__law_spoilt ?c__law_spoilt ?k__law_spoilt ?a__law_is ?l__law_is ?c__law_is ?k__law_is ?a_law ?l_law ?c_law ?k_law ?lc_is_name ?v11_is_name ?v18_is_name ?v7_is_name ?v9_is_name ?v10_is_name ?ne_is_name ?np_is_name ?own_is_name ?z_abs ?z_all ?z_bool ?z_int ?z_isinstance ?z_len ?z_max ?z_range ?z_str ?z_tuple ?g_LEAVES ?d_LEAVES ?s_LEAVES ?v_LEAVES_0 ?v_LEAVES_1 ?g_KINDS_MADE ?l_KINDS_MADE ?g_NOUNS_MADE ?l_NOUNS_MADE ?g_NUMBERED ?l_NUMBERED ?g_PARTS ?d_PARTS ?s_PARTS ?v_PARTS_0 ?l_PARTS_0 ?v_PARTS_1 ?l_PARTS_1 ?v_PARTS_2 ?l_PARTS_2 ?v_PARTS_3 ?l_PARTS_3 ?v_PARTS_4 ?l_PARTS_4 ?v_PARTS_5 ?l_PARTS_5 ?v_PARTS_6 ?l_PARTS_6 ?v_PARTS_7 ?l_PARTS_7 ?v_PARTS_8 ?l_PARTS_8 ?v_PARTS_9 ?l_PARTS_9 ?v_PARTS_10 ?l_PARTS_10 ?v_PARTS_11 ?l_PARTS_11 ?v_PARTS_12 ?l_PARTS_12 ?v_PARTS_13 ?l_PARTS_13 ?v_PARTS_14 ?l_PARTS_14 ?v_PARTS_15 ?l_PARTS_15
    (case a_is_name => k_is); (case l_is_name => k_is); (case c_is_name => k_is); (case k_is_name => k_is)
    (case a_made_sort => k_is); (case l_made_sort => k_is); (case c_made_sort => k_is); (case k_made_sort => k_is)
    (case a_first_part => k_is); (case l_first_part => k_is); (case c_first_part => k_is); (case k_first_part => k_is)
    (case a_head_is_right => k_is); (case l_head_is_right => k_is); (case c_head_is_right => k_is); (case k_head_is_right => k_is)
    (case a_inner => k_is); (case l_inner => k_is); (case c_inner => k_is); (case k_inner => k_is)
    (case a_sort_of => k_is); (case l_sort_of => k_is); (case c_sort_of => k_is); (case k_sort_of => k_is)
    (case a__law_draws => k_is); (case l__law_draws => k_is); (case c__law_draws => k_is); (case k__law_draws => k_is)
    (case a__law_next => k_is); (case l__law_next => k_is); (case c__law_next => k_is); (case k__law_next => k_is)
    (case a__law_name => k_is); (case l__law_name => k_is); (case c__law_name => k_is); (case k__law_name => k_is)
    (case a__law_kind => k_is); (case l__law_kind => k_is); (case c__law_kind => k_is); (case k__law_kind => k_is)
    (case a__law_noun => k_is); (case l__law_noun => k_is); (case c__law_noun => k_is); (case k__law_noun => k_is)
    (case a__law_sentence => k_is); (case l__law_sentence => k_is); (case c__law_sentence => k_is); (case k__law_sentence => k_is)
    (case a__law_is_name => k_is); (case l__law_is_name => k_is); (case c__law_is_name => k_is); (case k__law_is_name => k_is)
    (case a__law_sort => k_is); (case l__law_sort => k_is); (case c__law_sort => k_is); (case k__law_sort => k_is)
    (case a__law_other => k_is); (case l__law_other => k_is); (case c__law_other => k_is); (case k__law_other => k_is)
    (case a__law_small => k_is); (case l__law_small => k_is); (case c__law_small => k_is); (case k__law_small => k_is)
    (case a__law_spoilt => k_is); (case l__law_spoilt => k_is); (case c__law_spoilt => k_is); (case k__law_spoilt => k_is)
    (case a__law_is => k_is); (case l__law_is => k_is); (case c__law_is => k_is); (case k__law_is => k_is)
    (case a_law => k_is); (case l_law => k_is); (case c_law => k_is); (case k_law => k_is)
    (case lc_is_name => k_is)
    (case v11_is_name => exact rfl)
    (case v18_is_name => exact rfl)
    (case v7_is_name => exact rfl)
    (case v9_is_name => exact rfl)
    (case v10_is_name => exact rfl)
    (case ne_is_name => decide)
    (case np_is_name => first | k_is | exact rfl)
    (case own_is_name => exact own "is_name" (by decide) _ (PySem.W.mg_of KX G (by k_is)))
    (case z_abs => k_is)
    (case z_all => k_is)
    (case z_bool => k_is)
    (case z_int => k_is)
    (case z_isinstance => k_is)
    (case z_len => k_is)
    (case z_max => k_is)
    (case z_range => k_is)
    (case z_str => k_is)
    (case z_tuple => k_is)
    (case g_LEAVES => k_is)
    (case d_LEAVES => k_is)
    (case s_LEAVES => exact rfl)
    (case v_LEAVES_0 => k_is)
    (case v_LEAVES_1 => k_is)
    (case g_KINDS_MADE => k_is)
    (case l_KINDS_MADE => k_is)
    (case g_NOUNS_MADE => k_is)
    (case l_NOUNS_MADE => k_is)
    (case g_NUMBERED => k_is)
    (case l_NUMBERED => k_is)
    (case g_PARTS => k_is)
    (case d_PARTS => k_is)
    (case s_PARTS => exact rfl)
    (case v_PARTS_0 => k_is)
    (case l_PARTS_0 => k_is)
    (case v_PARTS_1 => k_is)
    (case l_PARTS_1 => k_is)
    (case v_PARTS_2 => k_is)
    (case l_PARTS_2 => k_is)
    (case v_PARTS_3 => k_is)
    (case l_PARTS_3 => k_is)
    (case v_PARTS_4 => k_is)
    (case l_PARTS_4 => k_is)
    (case v_PARTS_5 => k_is)
    (case l_PARTS_5 => k_is)
    (case v_PARTS_6 => k_is)
    (case l_PARTS_6 => k_is)
    (case v_PARTS_7 => k_is)
    (case l_PARTS_7 => k_is)
    (case v_PARTS_8 => k_is)
    (case l_PARTS_8 => k_is)
    (case v_PARTS_9 => k_is)
    (case l_PARTS_9 => k_is)
    (case v_PARTS_10 => k_is)
    (case l_PARTS_10 => k_is)
    (case v_PARTS_11 => k_is)
    (case l_PARTS_11 => k_is)
    (case v_PARTS_12 => k_is)
    (case l_PARTS_12 => k_is)
    (case v_PARTS_13 => k_is)
    (case l_PARTS_13 => k_is)
    (case v_PARTS_14 => k_is)
    (case l_PARTS_14 => k_is)
    (case v_PARTS_15 => k_is)
    (case l_PARTS_15 => k_is)
#print axioms PySem.Challenge.cw_saidback_k19_sorts_of_terms_holds

