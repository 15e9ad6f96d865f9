import PyProof.Rows.All
import Wide.All
import OpenK.AllK
import Wide.FinOn
import HandS.ForMost
import HandS.ForExc
import KE.KRevSl
import PyProof.Draws
import HandS.IsInst
import HandS.Conv
import HandS.Style
import HandS.Zip
import HandS.More
import PySem.Challenge.RW_saidback_k02_comparison_rows
set_option Elab.async false
set_option linter.all false
set_option maxRecDepth 100000
set_option maxHeartbeats 4000000
/-! TCore: typed refinement over HandS. A def's mirror is a Lean function in Option; its walk is put together from the rules below. -/
namespace T
open PySem PySem.Spec PyProof.Rows L2

/-! ### data -/
inductive D where
  | non
  | bl (b : Bool)
  | int (i : Int)
  | str (s : Str)
  | tup (xs : List D)
  | lst (xs : List D)
  | ins (C : Addr) (fs : List Str) (ds : List D)

mutual
inductive Rp (K : PySem.W.Frag) (H : Hp) : V → D → Prop
  | non : Rp K H .non .non
  | bl (b : Bool) : Rp K H (.bl b) (.bl b)
  | int (i : Int) : Rp K H (.int i) (.int i)
  | str (x : Str) : Rp K H (.str x) (.str x)
  | tup {a : Addr} {vs : List V} {ds : List D} : SqT K H a vs → RpA K H vs ds → Rp K H (.ref a) (.tup ds)
  | lst {a : Addr} {vs : List V} {ds : List D} : SqL K H a vs → RpA K H vs ds → Rp K H (.ref a) (.lst ds)
  | ins {a C dx : Addr} {vs : List (Str × V)} {fs : List Str} {ds : List D} : H a = some (.ins C dx vs) → vs.map (·.1) = fs → RpA K H (vs.map (·.2)) ds → Rp K H (.ref a) (.ins C fs ds)
inductive RpA (K : PySem.W.Frag) (H : Hp) : List V → List D → Prop
  | nil : RpA K H [] []
  | cons {v : V} {vs : List V} {d : D} {ds : List D} : Rp K H v d → RpA K H vs ds → RpA K H (v :: vs) (d :: ds)
end
theorem same_t {K : PySem.W.Frag} {H H' : Hp} {a : Addr} {xs : List V} (e : Same H H') (h : SqT K H a xs) : SqT K H' a xs := by
  rcases h with (h | ⟨o, h⟩) | h
  · exact .inl (.inl (e _ _ h))
  · exact .inl (.inr ⟨o, e _ _ h⟩)
  · exact .inr h
mutual
theorem Rp.mono {K : PySem.W.Frag} {H H' : Hp} (e : Same H H') : ∀ (d : D) (v : V), Rp K H v d → Rp K H' v d
  | .non, _, h => by cases h; exact .non
  | .bl _, _, h => by cases h; exact .bl _
  | .int _, _, h => by cases h; exact .int _
  | .str _, _, h => by cases h; exact .str _
  | .tup ds, _, h => by
    cases h with
    | tup h1 h2 => exact .tup (same_t e h1) (RpA.mono e ds _ h2)
  | .lst ds, _, h => by
    cases h with
    | lst h1 h2 => exact .lst (e.seq h1) (RpA.mono e ds _ h2)
  | .ins C fs ds, _, h => by
    cases h with
    | ins h1 h2 h3 => exact .ins (e _ _ h1) h2 (RpA.mono e ds _ h3)
theorem RpA.mono {K : PySem.W.Frag} {H H' : Hp} (e : Same H H') : ∀ (ds : List D) (vs : List V), RpA K H vs ds → RpA K H' vs ds
  | [], _, h => by cases h; exact .nil
  | d :: ds, _, h => by
    cases h with
    | cons h1 h2 => exact .cons (Rp.mono e d _ h1) (RpA.mono e ds _ h2)
end
section
variable {K : PySem.W.Frag} {H H' : Hp}
theorem RpA.length : ∀ {vs : List V} {ds : List D}, RpA K H vs ds → vs.length = ds.length
  | _, _, .nil => rfl
  | _, _, .cons _ t => by rw [List.length_cons, List.length_cons, RpA.length t]
theorem RpA.append : ∀ {vs ws : List V} {ds es : List D}, RpA K H vs ds → RpA K H ws es → RpA K H (vs ++ ws) (ds ++ es)
  | _, _, _, _, .nil, h => h
  | _, _, _, _, .cons r t, h => .cons r (RpA.append t h)
theorem RpA.get : ∀ {vs : List V} {ds : List D} {i : Nat} {d : D}, RpA K H vs ds → ds[i]? = some d → ∃ v, vs[i]? = some v ∧ Rp K H v d
  | _, _, _, _, .nil, e => by simp at e
  | _, _, 0, d, .cons r _, e => by simp at e; subst e; exact ⟨_, rfl, r⟩
  | _, _, i + 1, d, .cons _ t, e => by
    obtain ⟨v, h1, h2⟩ := RpA.get (i := i) (d := d) t (by simpa using e)
    exact ⟨v, by simpa using h1, h2⟩
theorem RpA.getV : ∀ {vs : List V} {ds : List D} {i : Nat} {v : V}, RpA K H vs ds → vs[i]? = some v → ∃ d, ds[i]? = some d ∧ Rp K H v d
  | _, _, _, _, .nil, e => by simp at e
  | _, _, 0, d, .cons r _, e => by simp at e; subst e; exact ⟨_, rfl, r⟩
  | _, _, i + 1, d, .cons _ t, e => by
    obtain ⟨v, h1, h2⟩ := RpA.getV (i := i) (v := d) t (by simpa using e)
    exact ⟨v, by simpa using h1, h2⟩
theorem RpA.set {v : V} {d : D} (r : Rp K H v d) : ∀ {vs : List V} {ds : List D} (i : Nat), RpA K H vs ds → RpA K H (vs.set i v) (ds.set i d)
  | _, _, _, .nil => .nil
  | _, _, 0, .cons _ t => .cons r t
  | _, _, i + 1, .cons q t => .cons q (RpA.set r i t)
theorem RpA.take : ∀ {vs : List V} {ds : List D} (n : Nat), RpA K H vs ds → RpA K H (vs.take n) (ds.take n)
  | _, _, 0, _ => .nil
  | _, _, _ + 1, .nil => .nil
  | _, _, n + 1, .cons r t => .cons r (RpA.take n t)
theorem RpA.drop : ∀ {vs : List V} {ds : List D} (n : Nat), RpA K H vs ds → RpA K H (vs.drop n) (ds.drop n)
  | _, _, 0, r => r
  | _, _, _ + 1, .nil => .nil
  | _, _, n + 1, .cons _ t => RpA.drop n t
theorem RpA.reverse {vs : List V} {ds : List D} (h : RpA K H vs ds) : RpA K H vs.reverse ds.reverse := by
  induction vs generalizing ds with
  | nil => cases h; exact .nil
  | cons v vs ih =>
    cases h with
    | cons r t =>
      rw [List.reverse_cons, List.reverse_cons]
      exact (ih t).append (.cons r .nil)
theorem Rp.int_iff {v : V} {i : Int} : Rp K H v (.int i) ↔ v = .int i := ⟨fun h => by cases h; rfl, fun h => h ▸ .int _⟩
theorem Rp.str_iff {v : V} {i : Str} : Rp K H v (.str i) ↔ v = .str i := ⟨fun h => by cases h; rfl, fun h => h ▸ .str _⟩
theorem Rp.bl_iff {v : V} {i : Bool} : Rp K H v (.bl i) ↔ v = .bl i := ⟨fun h => by cases h; rfl, fun h => h ▸ .bl _⟩
end

/-! ### typed data -/
class Em (τ : Type) where
  em : τ → D
abbrev em {τ : Type} [Em τ] (x : τ) : D := Em.em x

instance : Em Int := ⟨.int⟩
instance : Em Bool := ⟨.bl⟩
instance : Em Str := ⟨.str⟩
instance : Em D := ⟨id⟩
instance : Em Unit := ⟨fun _ => .non⟩
instance {α : Type} [Em α] : Em (List α) := ⟨fun xs => .lst (xs.map em)⟩
instance {α β : Type} [Em α] [Em β] : Em (α × β) := ⟨fun p => .tup [em p.1, em p.2]⟩
instance {α : Type} [Em α] : Em (Option α) := ⟨fun o => match o with | none => .non | some x => em x⟩
/-- a tuple of any length, its items of one type -/
structure Vt (α : Type) where
  l : List α
instance {α : Type} [Em α] : Em (Vt α) := ⟨fun t => .tup (t.l.map em)⟩
structure T3 (α β γ : Type) where
  a : α
  b : β
  c : γ
instance {α β γ : Type} [Em α] [Em β] [Em γ] : Em (T3 α β γ) := ⟨fun t => .tup [em t.a, em t.b, em t.c]⟩
structure T4 (α β γ δ : Type) where
  a : α
  b : β
  c : γ
  d : δ
instance {α β γ δ : Type} [Em α] [Em β] [Em γ] [Em δ] : Em (T4 α β γ δ) := ⟨fun t => .tup [em t.a, em t.b, em t.c, em t.d]⟩
structure T5 (α β γ δ ε : Type) where
  a : α
  b : β
  c : γ
  d : δ
  e : ε
instance {α β γ δ ε : Type} [Em α] [Em β] [Em γ] [Em δ] [Em ε] : Em (T5 α β γ δ ε) := ⟨fun t => .tup [em t.a, em t.b, em t.c, em t.d, em t.e]⟩

/-! ### worlds: b what is frozen for good (data leans on it alone), h all that is tracked -/
structure Wd where
  b : Hp
  h : Hp
structure Le (W W' : Wd) : Prop where
  b : Same W.b W'.b
  h : Same W.h W'.h
  f : ∀ a o, W.h a = some o → W'.b a = W.b a
  ok : Same W'.b W'.h
theorem Le.refl {W : Wd} (ok : Same W.b W.h) : Le W W := ⟨Same.refl _, Same.refl _, fun _ _ _ => rfl, ok⟩
theorem Le.trans {W W1 W2 : Wd} (a : Le W W1) (c : Le W1 W2) : Le W W2 := ⟨a.b.trans c.b, a.h.trans c.h, fun x o h => (c.f x o (a.h x o h)).trans (a.f x o h), c.ok⟩
theorem Same.new {H : Hp} {p : Addr} {o : HO} (h : H p = none) : Same H (upd H p o) := fun a u e => by
  rw [upd_ne (ne_of_none e h)]
  exact e
/-- a new object, frozen at once -/
theorem Le.lay {W : Wd} (ok : Same W.b W.h) {p : Addr} {o : HO} (h : W.h p = none) : Le W ⟨upd W.b p o, upd W.h p o⟩ := by
  have hb : W.b p = Option.none := ok.free h
  refine ⟨Same.new hb, Same.new h, fun a u e => upd_ne (ne_of_none e h), fun a u e => ?_⟩
  have e : upd W.b p o a = some u := e
  show upd W.h p o a = some u
  by_cases ha : a = p
  · subst ha; rw [upd_same] at e ⊢; exact e
  · rw [upd_ne ha] at e ⊢; exact ok a u e
/-- a new object that may still change -/
theorem Le.layM {W : Wd} (ok : Same W.b W.h) {p : Addr} {o : HO} (h : W.h p = none) : Le W ⟨W.b, upd W.h p o⟩ :=
  ⟨Same.refl _, Same.new h, fun a u e => rfl, ok.trans (Same.new h)⟩
/-- what was laid so is frozen -/
theorem Le.freeze {W W' : Wd} (ok : Same W.b W.h) (l : Le W W') {p : Addr} {o : HO} (h0 : W.h p = none) (h : W'.h p = some o) (hb : W'.b p = none) : Le W ⟨upd W'.b p o, W'.h⟩ := by
  refine ⟨l.b.trans (Same.new hb), l.h, fun a u e => ?_, fun a u e => ?_⟩
  · show upd W'.b p o a = W.b a
    rw [upd_ne (ne_of_none e h0)]; exact l.f a u e
  · have e : upd W'.b p o a = some u := e
    by_cases ha : a = p
    · subst ha; rw [upd_same] at e; exact h.trans e
    · rw [upd_ne ha] at e; exact l.ok a u e

/-! ### slots -/
inductive SV where
  | any
  | dat (d : D)
  | own (ds : List D)
  | bor (ds : List D)
def SlotR (K : PySem.W.Frag) (W0 W : Wd) (o : Option V) : SV → Prop
  | .any => True
  | .dat d => ∃ v, o = some v ∧ Rp K W.b v d
  | .own ds => ∃ a vs, o = some (.ref a) ∧ W.h a = some (.lst vs) ∧ W.b a = none ∧ W0.h a = none ∧ RpA K W.b vs ds
  | .bor ds => ∃ a vs, o = some (.ref a) ∧ SqL K W0.h a vs ∧ RpA K W0.b vs ds
structure EnvR (K : PySem.W.Frag) (W0 W : Wd) (env : List SV) (σ : L2.St) : Prop where
  le : Le W0 W
  len : σ.length = env.length
  slot : ∀ (i : Nat) (sv : SV), env[i]? = some sv → ∃ o, σ[i]? = some o ∧ SlotR K W0 W o sv
  apart : ∀ (i j : Nat) (di dj : List D), i ≠ j → env[i]? = some (.own di) → env[j]? = some (.own dj) → σ[i]? ≠ σ[j]?
section
variable {K : PySem.W.Frag} {W0 W W' : Wd} {env : List SV} {σ : L2.St}
theorem EnvR.ok (E : EnvR K W0 W env σ) : Same W.b W.h := E.le.ok
theorem SlotR.mono {o : Option V} {sv : SV} (l : Le W W') (h : SlotR K W0 W o sv) : SlotR K W0 W' o sv := by
  cases sv with
  | any => trivial
  | dat d => obtain ⟨v, e, r⟩ := h; exact ⟨v, e, r.mono l.b⟩
  | own ds => obtain ⟨a, vs, e, h1, h2, h0, r⟩ := h; exact ⟨a, vs, e, l.h _ _ h1, (l.f _ _ h1).trans h2, h0, r.mono l.b⟩
  | bor ds => exact h
theorem EnvR.mono (E : EnvR K W0 W env σ) (l : Le W W') : EnvR K W0 W' env σ :=
  ⟨E.le.trans l, E.len, fun i sv e => let ⟨o, h1, h2⟩ := E.slot i sv e; ⟨o, h1, h2.mono l⟩, E.apart⟩
theorem EnvR.dat {i : Nat} {d : D} (E : EnvR K W0 W env σ) (h : env[i]? = some (.dat d)) : ∃ v, σ[i]? = some (some v) ∧ Rp K W.b v d := by
  obtain ⟨o, h1, v, e, r⟩ := E.slot i _ h
  subst e
  exact ⟨v, h1, r⟩
theorem EnvR.own {i : Nat} {ds : List D} (E : EnvR K W0 W env σ) (h : env[i]? = some (.own ds)) : ∃ a vs, σ[i]? = some (some (.ref a)) ∧ W.h a = some (.lst vs) ∧ W.b a = none ∧ W0.h a = none ∧ RpA K W.b vs ds := by
  obtain ⟨o, h1, a, vs, e, r⟩ := E.slot i _ h
  subst e
  exact ⟨a, vs, h1, r⟩
theorem EnvR.bor {i : Nat} {ds : List D} (E : EnvR K W0 W env σ) (h : env[i]? = some (.bor ds)) : ∃ a vs, σ[i]? = some (some (.ref a)) ∧ SqL K W.h a vs ∧ RpA K W.b vs ds := by
  obtain ⟨o, h1, a, vs, e, r1, r2⟩ := E.slot i _ h
  subst e
  exact ⟨a, vs, h1, E.le.h.seq r1, r2.mono E.le.b⟩
theorem set_get {α : Type} {l : List α} {i j : Nat} {x y : α} (h : (l.set i x)[j]? = some y) : (j = i ∧ i < l.length ∧ y = x) ∨ (j ≠ i ∧ l[j]? = some y) := by
  by_cases e : j = i
  · subst e
    have hl : j < l.length := by have := (List.getElem?_eq_some_iff.mp h).1; rwa [List.length_set] at this
    rw [List.getElem?_set_self hl] at h
    exact .inl ⟨rfl, hl, (Option.some.inj h).symm⟩
  · rw [List.getElem?_set_ne (Ne.symm e)] at h
    exact .inr ⟨e, h⟩
/-- a slot gets a value that no owned slot has, or data -/
theorem EnvR.put {i : Nat} {v : V} {sv : SV} (E : EnvR K W0 W env σ) (r : SlotR K W0 W (some v) sv) (ap : ∀ ds, sv = .own ds → ∀ j dj, j ≠ i → env[j]? = some (.own dj) → σ[j]? ≠ some (some v)) :
    EnvR K W0 W (env.set i sv) (σ.set i (some v)) := by
  refine ⟨E.le, by rw [List.length_set, List.length_set]; exact E.len, fun j sj e => ?_, fun j k dj dk n e1 e2 => ?_⟩
  · rcases set_get e with ⟨rfl, hl, rfl⟩ | ⟨n, e⟩
    · exact ⟨_, List.getElem?_set_self (by rw [E.len]; exact hl), r⟩
    · rw [List.getElem?_set_ne (Ne.symm n)]; exact E.slot j sj e
  · rcases set_get e1 with ⟨rfl, hl, e1'⟩ | ⟨n1, e1'⟩
    · rcases set_get e2 with ⟨e', _, _⟩ | ⟨n2, e2'⟩
      · exact absurd e'.symm n
      · rw [List.getElem?_set_self (by rw [E.len]; exact hl), List.getElem?_set_ne (Ne.symm n2)]
        exact fun z => ap dj e1'.symm k dk n2 e2' z.symm
    · rcases set_get e2 with ⟨rfl, hl, e2'⟩ | ⟨n2, e2'⟩
      · rw [List.getElem?_set_self (by rw [E.len]; exact hl), List.getElem?_set_ne (Ne.symm n1)]
        exact fun z => ap dk e2'.symm j dj n1 e1' z
      · rw [List.getElem?_set_ne (Ne.symm n1), List.getElem?_set_ne (Ne.symm n2)]
        exact E.apart j k dj dk n e1' e2'
theorem EnvR.putD {i : Nat} {v : V} {d : D} (E : EnvR K W0 W env σ) (r : Rp K W.b v d) : EnvR K W0 W (env.set i (.dat d)) (σ.set i (some v)) :=
  E.put ⟨v, rfl, r⟩ fun _ e => by cases e
/-- a new list -/
theorem EnvR.putL {i : Nat} {a : Addr} {vs : List V} {ds : List D} (E : EnvR K W0 W env σ) (l : Le W W') (h0 : W.h a = none) (h1 : W'.h a = some (.lst vs)) (h2 : W'.b a = none) (r : RpA K W'.b vs ds) :
    EnvR K W0 W' (env.set i (.own ds)) (σ.set i (some (.ref a))) := by
  refine (E.mono l).put ⟨a, vs, rfl, h1, h2, E.le.h.free h0, r⟩ fun es _ j dj _ ej z => ?_
  obtain ⟨c, ws, e1, e2, _⟩ := E.own ej
  rw [e1] at z
  injection z with z; injection z with z; injection z with z
  subst z
  rw [h0] at e2; cases e2
/-- an owned list changes -/
theorem EnvR.write {i : Nat} {a : Addr} {vs : List V} {ds es : List D} (E : EnvR K W0 W env σ) (hi : env[i]? = some (.own ds)) (hs : σ[i]? = some (some (.ref a))) (r : RpA K W.b vs es) :
    EnvR K W0 ⟨W.b, upd W.h a (.lst vs)⟩ (env.set i (.own es)) σ := by
  obtain ⟨a', ws, e1, e2, e3, e0, e4⟩ := E.own hi
  rw [hs] at e1
  injection e1 with e1; injection e1 with e1; injection e1 with e1
  subst e1
  have hl : i < env.length := (List.getElem?_eq_some_iff.mp hi).1
  refine ⟨⟨E.le.b, fun c u z => ?_, E.le.f, fun c u z => ?_⟩, by rw [List.length_set]; exact E.len, fun j sj e => ?_, fun j k dj dk n h1 h2 => ?_⟩
  · show upd W.h a _ c = some u
    rw [upd_ne (ne_of_none z e0)]; exact E.le.h c u z
  · show upd W.h a _ c = some u
    rw [upd_ne (ne_of_none z e3)]; exact E.le.ok c u z
  · rcases set_get e with ⟨rfl, _, rfl⟩ | ⟨n, e⟩
    · exact ⟨_, hs, a, vs, rfl, upd_same, e3, e0, r⟩
    · obtain ⟨o, h1, h2⟩ := E.slot j sj e
      refine ⟨o, h1, ?_⟩
      cases sj with
      | any => trivial
      | dat d => exact h2
      | bor d => exact h2
      | own d =>
        obtain ⟨c, us, q1, q2, q3⟩ := h2
        subst q1
        have nc : c ≠ a := fun z => by
          subst z
          exact E.apart j i d ds n e hi (h1.trans hs.symm)
        exact ⟨c, us, rfl, by show upd W.h a _ c = _; rw [upd_ne nc]; exact q2, q3⟩
  · have h1' : ∃ d, env[j]? = some (.own d) := by
      rcases set_get h1 with ⟨rfl, _, _⟩ | ⟨_, q⟩
      · exact ⟨_, hi⟩
      · exact ⟨_, q⟩
    have h2' : ∃ d, env[k]? = some (.own d) := by
      rcases set_get h2 with ⟨rfl, _, _⟩ | ⟨_, q⟩
      · exact ⟨_, hi⟩
      · exact ⟨_, q⟩
    obtain ⟨_, h1'⟩ := h1'
    obtain ⟨_, h2'⟩ := h2'
    exact E.apart j k _ _ n h1' h2'
end
/-- what may be forgotten -/
inductive EnvLe : List SV → List SV → Prop
  | nil : EnvLe [] []
  | same {x : SV} {a b : List SV} : EnvLe a b → EnvLe (x :: a) (x :: b)
  | drop {x : SV} {a b : List SV} : EnvLe a b → EnvLe (x :: a) (.any :: b)
theorem EnvLe.len : ∀ {a b : List SV}, EnvLe a b → a.length = b.length
  | _, _, .nil => rfl
  | _, _, .same h => by rw [List.length_cons, List.length_cons, EnvLe.len h]
  | _, _, .drop h => by rw [List.length_cons, List.length_cons, EnvLe.len h]
theorem EnvLe.get : ∀ {a b : List SV} {i : Nat} {sv : SV}, EnvLe a b → b[i]? = some sv → ∃ sw, a[i]? = some sw ∧ (sw = sv ∨ sv = .any)
  | _, _, _, _, .nil, e => by simp at e
  | _, _, 0, sv, .same h, e => ⟨_, rfl, .inl (by simpa using e)⟩
  | _, _, 0, sv, .drop h, e => ⟨_, rfl, .inr (by simpa using e.symm)⟩
  | _, _, i + 1, sv, .same h, e => by
    obtain ⟨sw, h1, h2⟩ := EnvLe.get (i := i) (sv := sv) h (by simpa using e)
    exact ⟨sw, by simpa using h1, h2⟩
  | _, _, i + 1, sv, .drop h, e => by
    obtain ⟨sw, h1, h2⟩ := EnvLe.get (i := i) (sv := sv) h (by simpa using e)
    exact ⟨sw, by simpa using h1, h2⟩
theorem EnvR.weak {K : PySem.W.Frag} {W0 W : Wd} {env env' : List SV} {σ : L2.St} (E : EnvR K W0 W env σ) (l : EnvLe env env') : EnvR K W0 W env' σ := by
  refine ⟨E.le, E.len.trans l.len, fun i sv e => ?_, fun i j di dj n e1 e2 => ?_⟩
  · obtain ⟨sw, h1, h2⟩ := l.get e
    obtain ⟨o, q1, q2⟩ := E.slot i sw h1
    rcases h2 with rfl | rfl
    · exact ⟨o, q1, q2⟩
    · exact ⟨o, q1, trivial⟩
  · obtain ⟨sw, h1, h2⟩ := l.get e1
    obtain ⟨sw', h1', h2'⟩ := l.get e2
    rcases h2 with rfl | h2
    · rcases h2' with rfl | h2'
      · exact E.apart i j di dj n h1 h1'
      · cases h2'
    · cases h2
end T

set_option Elab.async false
set_option linter.all false
set_option maxRecDepth 100000
set_option maxHeartbeats 4000000
namespace T
open PySem PySem.Spec PyProof.Rows L2
abbrev St := L2.St

/-! ### what is known of the place where code runs -/
def visB (sc : Scope) (x : Str) : Bool := match sc.names.lookup x with
  | some .local => true
  | some .cell => true
  | some .free => true
  | _ => false
def glbB (sc : Scope) (x : Str) : Bool := match sc.names.lookup x with
  | some .globalImplicit => true
  | _ => false
def locB (sc : Scope) (fb : Str → Bool) (x : Str) : Bool := match sc.names.lookup x with
  | some .local => true
  | some .cell => fb x
  | _ => false
theorem visB_ok {sc : Scope} {x : Str} (h : visB sc x = true) : Vis sc x := by
  unfold visB at h
  split at h <;> first | exact .inl (by assumption) | exact .inr (.inl (by assumption)) | exact .inr (.inr (by assumption)) | cases h
theorem glbB_ok {sc : Scope} {x : Str} (h : glbB sc x = true) : sc.names.lookup x = some .globalImplicit := by
  unfold glbB at h
  split at h <;> first | assumption | cases h
theorem locB_ok {sc : Scope} {fb : Str → Bool} {x : Str} (h : locB sc fb x = true) : Loc sc x := by
  unfold locB at h
  split at h <;> first | exact .inl (by assumption) | exact .inr (by assumption) | cases h
theorem locB_fn {sc : Scope} {fb : Str → Bool} {x : Str} (h : locB sc fb x = true) : fb x = true ∨ sc.names.lookup x = some .local := by
  unfold locB at h
  split at h <;> first | exact .inr (by assumption) | exact .inl h | cases h
inductive Cf (X : Cx) : List Str → Scope → (Str → Bool) → PySem.W.Frag → (Str → Option Value) → Program → World → Heap → Nat → Prop
  | mk {k : Nat} (nd : X.N.Nodup) (calm : X.calm = true) (po : PassesOwn (model X.prog X.w) X.A X.env X.xe) (rm : Room k X.A) :
    Cf X X.N X.env.scope X.fn X.K X.mg X.prog X.w X.base k

/-! ### readings, weakened -/
section
variable {X : Cx}
theorem peImp {e : Expr} {t t' : TE} (h : PE X e t) (k : ∀ σ H Q, t' σ H Q → t σ H Q) : PE X e t' := ⟨fun pins s σ H Q I q => h.run pins s σ H Q I (k σ H Q q)⟩
theorem ptImp {e : Expr} {t t' : TT} (h : PT X e t) (k : ∀ σ H Q, t' σ H Q → t σ H Q) : PT X e t' := ⟨fun pins s σ H Q I q => h.run pins s σ H Q I (k σ H Q q)⟩
theorem pwImp {e : Expr} {t t' : TT} (h : PW X e t) (k : ∀ σ H Q, t' σ H Q → t σ H Q) : PW X e t' := ⟨fun wh pins s σ H Q I q => h.run wh pins s σ H Q I (k σ H Q q)⟩
theorem paImp {es : List Expr} {t t' : TA} (h : PA X es t) (k : ∀ σ H Q, t' σ H Q → t σ H Q) : PA X es t' := ⟨fun p pins s σ H Q I q => h.run p pins s σ H Q I (k σ H Q q)⟩
theorem psImp {st : Stmt} {t t' : TS} (h : PS X st t) (k : ∀ D σ H, t' D σ H → t D σ H) : PS X st t' := ⟨fun pins s σ H D I q => h.run pins s σ H D I (k D σ H q)⟩
theorem pssImp {st : List Stmt} {t t' : TS} (h : PSs X st t) (k : ∀ D σ H, t' D σ H → t D σ H) : PSs X st t' := ⟨fun pins s σ H D I q => h.run pins s σ H D I (k D σ H q)⟩
theorem piImp {tg it : Expr} {t t' : TI} (h : PI X tg it t) (k : ∀ σ H R, t' σ H R → t σ H R) : PI X tg it t' := ⟨fun pins s σ H R I q => h.run pins s σ H R I (k σ H R q)⟩
theorem pgImp {tg : Expr} {t t' : TG} (h : PG X tg t) (k : ∀ v σ H Q, t' v σ H Q → t v σ H Q) : PG X tg t' := ⟨fun pins s σ H v u Q I r q => h.run pins s σ H v u Q I r (k v σ H Q q)⟩
theorem peEx {ι : Type} {e : Expr} {t : ι → TE} (h : ∀ i, PE X e (t i)) : PE X e (fun σ H Q => ∃ i, t i σ H Q) := ⟨fun pins s σ H Q I ⟨i, q⟩ => (h i).run pins s σ H Q I q⟩
theorem ptEx {ι : Type} {e : Expr} {t : ι → TT} (h : ∀ i, PT X e (t i)) : PT X e (fun σ H Q => ∃ i, t i σ H Q) := ⟨fun pins s σ H Q I ⟨i, q⟩ => (h i).run pins s σ H Q I q⟩
theorem ptsEx {ι : Type} {e : List Expr} {t : ι → TT} (h : ∀ i, PTs X e (t i)) : PTs X e (fun σ H Q => ∃ i, t i σ H Q) := ⟨fun pins s σ H Q I ⟨i, q⟩ => (h i).run pins s σ H Q I q⟩
theorem pssEx {ι : Type} {e : List Stmt} {t : ι → TS} (h : ∀ i, PSs X e (t i)) : PSs X e (fun D σ H => ∃ i, t i D σ H) := ⟨fun pins s σ H D I ⟨i, q⟩ => (h i).run pins s σ H D I q⟩
end

/-! ### the canonical readings -/
variable {τ α β γ δ : Type}
theorem bind_some {m : Option α} {f : α → Option β} {y : β} (h : m.bind f = some y) : ∃ x, m = some x ∧ f x = some y := by
  cases m with
  | none => cases h
  | some x => exact ⟨x, rfl, h⟩
def tX [Em τ] (K : PySem.W.Frag) (env : List SV) (m : Option τ) : TE := fun σ H Q =>
  ∃ W0 W : Wd, W.h = H ∧ EnvR K W0 W env σ ∧ ∃ x, m = some x ∧ ∀ v W', Le W W' → Rp K W'.b v (em x) → Q v W'.h
/-- a list that may be read -/
def tQ [Em τ] (K : PySem.W.Frag) (env : List SV) (m : Option (List τ)) : TE := fun σ H Q =>
  ∃ W0 W : Wd, W.h = H ∧ EnvR K W0 W env σ ∧ ∃ x, m = some x ∧ ∀ a vs W', Le W W' → SqL K W'.h a vs → RpA K W'.b vs (x.map em) → Q (.ref a) W'.h
/-- a new list -/
def tL [Em τ] (K : PySem.W.Frag) (env : List SV) (m : Option (List τ)) : TE := fun σ H Q =>
  ∃ W0 W : Wd, W.h = H ∧ EnvR K W0 W env σ ∧ ∃ x, m = some x ∧ ∀ a vs W', Le W W' → W.h a = none → W'.h a = some (.lst vs) → W'.b a = none → RpA K W'.b vs (x.map em) → Q (.ref a) W'.h
def tC' (K : PySem.W.Frag) (env : List SV) (m : Option Bool) : TT := fun σ H Q =>
  ∃ W0 W : Wd, W.h = H ∧ EnvR K W0 W env σ ∧ ∃ x, m = some x ∧ ∀ W', Le W W' → Q x W'.h
inductive Args (K : PySem.W.Frag) (W : Wd) : List V → List SV → Prop
  | nil : Args K W [] []
  | dat {v : V} {d : D} {vs : List V} {svs : List SV} : Rp K W.b v d → Args K W vs svs → Args K W (v :: vs) (.dat d :: svs)
  | bor {a : Addr} {ws : List V} {ds : List D} {vs : List V} {svs : List SV} : SqL K W.h a ws → RpA K W.b ws ds → Args K W vs svs → Args K W (.ref a :: vs) (.bor ds :: svs)
theorem Args.mono {K : PySem.W.Frag} {W W' : Wd} (l : Le W W') : ∀ {vs : List V} {svs : List SV}, Args K W vs svs → Args K W' vs svs
  | _, _, .nil => .nil
  | _, _, .dat r t => .dat (r.mono l.b) (Args.mono l t)
  | _, _, .bor s r t => .bor (l.h.seq s) (r.mono l.b) (Args.mono l t)
def tA (K : PySem.W.Frag) (env : List SV) (m : Option α) (svs : α → List SV) : TA := fun σ H Q =>
  ∃ W0 W : Wd, W.h = H ∧ EnvR K W0 W env σ ∧ ∃ x, m = some x ∧ ∀ vs W', Le W W' → Args K W' vs (svs x) → Q vs W'.h
abbrev XE [Em τ] (X : Cx) (env : List SV) (e : Expr) (m : Option τ) : Prop := PE X e (tX X.K env m)
abbrev XQ [Em τ] (X : Cx) (env : List SV) (e : Expr) (m : Option (List τ)) : Prop := PE X e (tQ X.K env m)
abbrev XL [Em τ] (X : Cx) (env : List SV) (e : Expr) (m : Option (List τ)) : Prop := PE X e (tL X.K env m)
abbrev XT (X : Cx) (env : List SV) (e : Expr) (m : Option Bool) : Prop := PT X e (tC' X.K env m)
abbrev XA (X : Cx) (env : List SV) (es : List Expr) (m : Option α) (svs : α → List SV) : Prop := PA X es (tA X.K env m svs)

section
variable {X : Cx} {env : List SV} {e a b c : Expr} {pos : Pos} [Em τ] [Em α] [Em β] [Em γ]
/-- the shape of most rules -/
theorem x_of {t : TE} {m : Option τ} (h : PE X e t)
    (k : ∀ (W0 W : Wd) (σ : St), EnvR X.K W0 W env σ → ∀ x, m = some x → ∀ Q : VK, (∀ v W', Le W W' → Rp X.K W'.b v (em x) → Q v W'.h) → t σ W.h Q) : XE X env e m :=
  peImp h fun σ H Q ⟨W0, W, hH, E, x, hx, q⟩ => by subst hH; exact k W0 W σ E x hx Q q
theorem q_of {t : TE} {m : Option (List τ)} (h : PE X e t)
    (k : ∀ (W0 W : Wd) (σ : St), EnvR X.K W0 W env σ → ∀ x, m = some x → ∀ Q : VK, (∀ a vs W', Le W W' → SqL X.K W'.h a vs → RpA X.K W'.b vs (x.map em) → Q (.ref a) W'.h) → t σ W.h Q) : XQ X env e m :=
  peImp h fun σ H Q ⟨W0, W, hH, E, x, hx, q⟩ => by subst hH; exact k W0 W σ E x hx Q q
theorem l_of {t : TE} {m : Option (List τ)} (h : PE X e t)
    (k : ∀ (W0 W : Wd) (σ : St), EnvR X.K W0 W env σ → ∀ x, m = some x → ∀ Q : VK, (∀ a vs W', Le W W' → W.h a = none → W'.h a = some (.lst vs) → W'.b a = none → RpA X.K W'.b vs (x.map em) → Q (.ref a) W'.h) → t σ W.h Q) : XL X env e m :=
  peImp h fun σ H Q ⟨W0, W, hH, E, x, hx, q⟩ => by subst hH; exact k W0 W σ E x hx Q q
theorem t_of {t : TT} {m : Option Bool} (h : PT X e t)
    (k : ∀ (W0 W : Wd) (σ : St), EnvR X.K W0 W env σ → ∀ x, m = some x → ∀ Q : Bool → Hp → Prop, (∀ W', Le W W' → Q x W'.h) → t σ W.h Q) : XT X env e m :=
  ptImp h fun σ H Q ⟨W0, W, hH, E, x, hx, q⟩ => by subst hH; exact k W0 W σ E x hx Q q
variable {K : PySem.W.Frag} {W0 W : Wd} {σ : St}
theorem use_x {m : Option τ} {x : τ} {Q : VK} (E : EnvR K W0 W env σ) (h : m = some x) (q : ∀ v W', Le W W' → Rp K W'.b v (em x) → Q v W'.h) : tX K env m σ W.h Q := ⟨W0, W, rfl, E, x, h, q⟩
theorem use_q {m : Option (List τ)} {x : List τ} {Q : VK} (E : EnvR K W0 W env σ) (h : m = some x) (q : ∀ a vs W', Le W W' → SqL K W'.h a vs → RpA K W'.b vs (x.map em) → Q (.ref a) W'.h) : tQ K env m σ W.h Q := ⟨W0, W, rfl, E, x, h, q⟩
theorem use_l {m : Option (List τ)} {x : List τ} {Q : VK} (E : EnvR K W0 W env σ) (h : m = some x) (q : ∀ a vs W', Le W W' → W.h a = none → W'.h a = some (.lst vs) → W'.b a = none → RpA K W'.b vs (x.map em) → Q (.ref a) W'.h) : tL K env m σ W.h Q := ⟨W0, W, rfl, E, x, h, q⟩
theorem use_t {m : Option Bool} {x : Bool} {Q : Bool → Hp → Prop} (E : EnvR K W0 W env σ) (h : m = some x) (q : ∀ W', Le W W' → Q x W'.h) : tC' K env m σ W.h Q := ⟨W0, W, rfl, E, x, h, q⟩
theorem use_a {m : Option δ} {svs : δ → List SV} {x : δ} {Q : List V → Hp → Prop} (E : EnvR K W0 W env σ) (h : m = some x) (q : ∀ vs W', Le W W' → Args K W' vs (svs x) → Q vs W'.h) : tA K env m svs σ W.h Q := ⟨W0, W, rfl, E, x, h, q⟩
theorem XE.is {m m' : Option τ} (h : XE X env e m) (q : m = m') : XE X env e m' := q ▸ h
theorem XT.is {m m' : Option Bool} (h : XT X env e m) (q : m = m') : XT X env e m' := q ▸ h

/-! ### constants, names -/
theorem x_int {i : Int} {j : Nat} : XE X env (.Constant (.int i) j pos) (some i) := x_of pe_int fun W0 W σ E x hx Q q => by cases hx; exact q _ W (Le.refl E.ok) (.int _)
theorem x_bl {i : Bool} {j : Nat} : XE X env (.Constant (.bool i) j pos) (some i) := x_of pe_bl fun W0 W σ E x hx Q q => by cases hx; exact q _ W (Le.refl E.ok) (.bl _)
theorem x_str {i : Str} {j : Nat} : XE X env (.Constant (.str i) j pos) (some i) := x_of pe_str fun W0 W σ E x hx Q q => by cases hx; exact q _ W (Le.refl E.ok) (.str _)
theorem x_non {j : Nat} : XE X env (.Constant .none j pos) (some ()) := x_of pe_non fun W0 W σ E x hx Q q => by cases hx; exact q _ W (Le.refl E.ok) .non
theorem x_nonO {j : Nat} : XE X env (.Constant .none j pos) (some (none : Option τ)) := x_of pe_non fun W0 W σ E x hx Q q => by cases hx; exact q _ W (Le.refl E.ok) .non
theorem x_some {m : Option τ} (h : XE X env e m) : XE X env e (m.bind fun x => some (some x)) := x_of h fun W0 W σ E x hx Q q => by
  obtain ⟨y, rfl, hy⟩ := bind_some hx
  cases hy
  exact use_x E rfl q
theorem x_D {m : Option τ} (h : XE X env e m) : XE X env e (m.bind fun x => some (em x)) := x_of h fun W0 W σ E x hx Q q => by
  obtain ⟨y, rfl, hy⟩ := bind_some hx
  cases hy
  exact use_x E rfl q
variable {N : List Str} {sc : Scope} {fb : Str → Bool} {mg : Str → Option Value} {P : Program} {w : World} {base : Heap} {k : Nat}
theorem Cf.n (C : Cf X N sc fb K mg P w base k) : X.N = N := by cases C; rfl
theorem x_var (C : Cf X N sc fb K mg P w base k) (i : Nat) {n : Str} {x : τ} (he : env[i]? = some (.dat (em x)) := by rfl) (hi : N[i]? = some n := by rfl) (hv : visB sc n = true := by decide +kernel)
    (hd : (n == ("__debug__" : Str)) = false := by decide) (hc : (n == ("__classdict__" : Str)) = false := by decide) : XE X env (.Name n pos) (some x) := by
  cases C
  refine x_of (pe_var hi (visB_ok hv) hd hc) fun W0 W σ E y hy Q q => ?_
  cases hy
  obtain ⟨v, h1, r⟩ := E.dat he
  exact ⟨v, h1, q v W (Le.refl E.ok) r⟩
theorem q_own (C : Cf X N sc fb K mg P w base k) (i : Nat) {n : Str} {x : List τ} (he : env[i]? = some (.own (x.map em)) := by rfl) (hi : N[i]? = some n := by rfl) (hv : visB sc n = true := by decide +kernel)
    (hd : (n == ("__debug__" : Str)) = false := by decide) (hc : (n == ("__classdict__" : Str)) = false := by decide) : XQ X env (.Name n pos) (some x) := by
  cases C
  refine q_of (pe_var hi (visB_ok hv) hd hc) fun W0 W σ E y hy Q q => ?_
  cases hy
  obtain ⟨a, vs, h1, h2, h3, h0, r⟩ := E.own he
  exact ⟨_, h1, q a vs W (Le.refl E.ok) (SqL.of h2) r⟩
theorem q_bor (C : Cf X N sc fb K mg P w base k) (i : Nat) {n : Str} {x : List τ} (he : env[i]? = some (.bor (x.map em)) := by rfl) (hi : N[i]? = some n := by rfl) (hv : visB sc n = true := by decide +kernel)
    (hd : (n == ("__debug__" : Str)) = false := by decide) (hc : (n == ("__classdict__" : Str)) = false := by decide) : XQ X env (.Name n pos) (some x) := by
  cases C
  refine q_of (pe_var hi (visB_ok hv) hd hc) fun W0 W σ E y hy Q q => ?_
  cases hy
  obtain ⟨a, vs, h1, h2, r⟩ := E.bor he
  exact ⟨_, h1, q a vs W (Le.refl E.ok) h2 r⟩
/-- from one kind of list to another -/
theorem q_x {m : Option (List τ)} (h : XE X env e m) : XQ X env e m := q_of h fun W0 W σ E x hx Q q => use_x E hx fun v W' l r => by
  have r : Rp X.K W'.b v (.lst (x.map em)) := r
  cases r with
  | lst h1 h2 => exact q _ _ W' l (l.ok.seq h1) h2
theorem q_l {m : Option (List τ)} (h : XL X env e m) : XQ X env e m := q_of h fun W0 W σ E x hx Q q => use_l E hx fun a vs W' l h0 h1 hb r => q a vs W' l (SqL.of h1) r
theorem x_l {m : Option (List τ)} (h : XL X env e m) : XE X env e m := x_of h fun W0 W σ E x hx Q q => use_l E hx fun a vs W' l h0 h1 hb r => by
  refine q (.ref a) ⟨upd W'.b a (.lst vs), W'.h⟩ (Le.freeze E.ok l h0 h1 hb) ?_
  exact .lst (SqL.of (show upd W'.b a (.lst vs) a = some (.lst vs) from upd_same)) (r.mono (Same.new hb))

/-! ### operators -/
theorem x_bin {op : Operator} {r : R2} {ma : Option α} {mb : Option β} {f : α → β → Option γ} (ho : OpR X (binaryOp op) r) (ha : XE X env a ma) (hb : XE X env b mb)
    (hr : ∀ x y z, f x y = some z → ∀ (W : Wd) (u v : V), Same W.b W.h → Rp X.K W.b u (em x) → Rp X.K W.b v (em y) → ∀ Q : VK, (∀ v W', Le W W' → Rp X.K W'.b v (em z) → Q v W'.h) → r u v W.h Q) :
    XE X env (.BinOp a op b pos) (ma.bind fun x => mb.bind fun y => f x y) := by
  refine x_of (pe_op ho ha hb) fun W0 W σ E z hz Q q => ?_
  obtain ⟨x, hx, hz⟩ := bind_some hz
  obtain ⟨y, hy, hz⟩ := bind_some hz
  refine use_x E hx fun u W1 l1 r1 => ?_
  refine use_x (E.mono l1) hy fun v W2 l2 r2 => ?_
  exact hr x y z hz W2 u v l2.ok (r1.mono l2.b) r2 Q fun v' W3 l3 r3 => q v' W3 (l1.trans (l2.trans l3)) r3
theorem x_cmp {op : CmpOp} {r : R2} {ma : Option α} {mb : Option β} {f : α → β → Option γ} (ho : OpR X (compareOp op) r) (ha : XE X env a ma) (hb : XE X env b mb) (hm : behindInMarks op b = false)
    (hr : ∀ x y z, f x y = some z → ∀ (W : Wd) (u v : V), Same W.b W.h → Rp X.K W.b u (em x) → Rp X.K W.b v (em y) → ∀ Q : VK, (∀ v W', Le W W' → Rp X.K W'.b v (em z) → Q v W'.h) → r u v W.h Q) :
    XE X env (.Compare a [op] [b] pos) (ma.bind fun x => mb.bind fun y => f x y) := by
  refine x_of (pe_cmpR ho ha hb hm) fun W0 W σ E z hz Q q => ?_
  obtain ⟨x, hx, hz⟩ := bind_some hz
  obtain ⟨y, hy, hz⟩ := bind_some hz
  refine use_x E hx fun u W1 l1 r1 => ?_
  refine use_x (E.mono l1) hy fun v W2 l2 r2 => ?_
  exact hr x y z hz W2 u v l2.ok (r1.mono l2.b) r2 Q fun v' W3 l3 r3 => q v' W3 (l1.trans (l2.trans l3)) r3
/-- ints, without a condition -/
theorem x_binI {op : Operator} {g : Int → Int → Int} {ma mb : Option Int} (ho : OpR X (binaryOp op) (rI0 fun i j => .int (g i j))) (ha : XE X env a ma) (hb : XE X env b mb) :
    XE X env (.BinOp a op b pos) (ma.bind fun x => mb.bind fun y => some (g x y)) :=
  x_bin ho ha hb fun x y z hz W u v ok ru rv Q q => by
    cases hz
    cases ru; cases rv
    exact ⟨x, y, rfl, rfl, q _ W (Le.refl ok) (.int _)⟩
theorem x_binIc {op : Operator} {Cn : Int → Int → Prop} {g : Int → Int → Int} {f : Int → Int → Option Int} {ma mb : Option Int} (ho : OpR X (binaryOp op) (rI Cn fun i j => .int (g i j)))
    (hf : ∀ x y z, f x y = some z → Cn x y ∧ g x y = z) (ha : XE X env a ma) (hb : XE X env b mb) :
    XE X env (.BinOp a op b pos) (ma.bind fun x => mb.bind fun y => f x y) :=
  x_bin ho ha hb fun x y z hz W u v ok ru rv Q q => by
    obtain ⟨h1, h2⟩ := hf x y z hz
    subst h2
    cases ru; cases rv
    exact ⟨x, y, rfl, rfl, h1, q _ W (Le.refl ok) (.int _)⟩
theorem x_cmpI {op : CmpOp} {g : Int → Int → Bool} {ma mb : Option Int} (ho : OpR X (compareOp op) (rI0 fun i j => .bl (g i j))) (ha : XE X env a ma) (hb : XE X env b mb) (hm : behindInMarks op b = false) :
    XE X env (.Compare a [op] [b] pos) (ma.bind fun x => mb.bind fun y => some (g x y)) :=
  x_cmp ho ha hb hm fun x y z hz W u v ok ru rv Q q => by
    cases hz
    cases ru; cases rv
    exact ⟨x, y, rfl, rfl, q _ W (Le.refl ok) (.bl _)⟩
end
/-- what the arithmetic of the model carries -/
def mulP (x y : Int) : Option Int := if (-18446744073709551616 < x ∧ x < 18446744073709551616) ∨ (-18446744073709551616 < y ∧ y < 18446744073709551616) then some (x * y) else none
def modP (x y : Int) : Option Int := if y = 0 then none else some (x.fmod y)
def divP (x y : Int) : Option Int := if y = 0 then none else if y.natAbs < 1073741824 then some (x.fdiv y) else none
def powP (x y : Int) : Option Int := if 0 ≤ y ∧ y ≤ 1000000 ∧ x.natAbs < 18446744073709551616 then some (x ^ y.toNat) else none
section
variable {X : Cx} {env : List SV} {e a b c : Expr} {pos : Pos} [Em τ] [Em α] [Em β] [Em γ]
theorem x_add {ma mb : Option Int} (ha : XE X env a ma) (hb : XE X env b mb) : XE X env (.BinOp a .Add b pos) (ma.bind fun x => mb.bind fun y => some (x + y)) := x_binI op_add ha hb
theorem x_sub {ma mb : Option Int} (ha : XE X env a ma) (hb : XE X env b mb) : XE X env (.BinOp a .Sub b pos) (ma.bind fun x => mb.bind fun y => some (x - y)) := x_binI op_sub ha hb
theorem x_mul {ma mb : Option Int} (ha : XE X env a ma) (hb : XE X env b mb) : XE X env (.BinOp a .Mult b pos) (ma.bind fun x => mb.bind fun y => mulP x y) :=
  x_binIc op_mul (fun x y z h => by
    unfold mulP at h
    split at h
    · exact ⟨by unfold CMul; omega, Option.some.inj h⟩
    · cases h) ha hb
theorem x_mod {ma mb : Option Int} (ha : XE X env a ma) (hb : XE X env b mb) : XE X env (.BinOp a .Mod b pos) (ma.bind fun x => mb.bind fun y => modP x y) :=
  x_binIc op_modN (fun x y z h => by
    unfold modP at h
    split at h
    · cases h
    · exact ⟨by assumption, Option.some.inj h⟩) ha hb
theorem x_div {ma mb : Option Int} (ha : XE X env a ma) (hb : XE X env b mb) : XE X env (.BinOp a .FloorDiv b pos) (ma.bind fun x => mb.bind fun y => divP x y) :=
  x_binIc op_fdivN (fun x y z h => by
    unfold divP at h
    split at h
    · cases h
    · split at h
      · exact ⟨⟨by assumption, by assumption⟩, Option.some.inj h⟩
      · cases h) ha hb
theorem x_pow {ma mb : Option Int} (ha : XE X env a ma) (hb : XE X env b mb) : XE X env (.BinOp a .Pow b pos) (ma.bind fun x => mb.bind fun y => powP x y) :=
  x_binIc op_pow (fun x y z h => by
    unfold powP at h
    split at h
    · rename_i q
      exact ⟨⟨q.1, q.2.1, by simpa using q.2.2⟩, Option.some.inj h⟩
    · cases h) ha hb
theorem x_lt {ma mb : Option Int} (ha : XE X env a ma) (hb : XE X env b mb) : XE X env (.Compare a [.Lt] [b] pos) (ma.bind fun x => mb.bind fun y => some (decide (x < y))) := x_cmpI op_lt ha hb (nomark _)
theorem x_le {ma mb : Option Int} (ha : XE X env a ma) (hb : XE X env b mb) : XE X env (.Compare a [.LtE] [b] pos) (ma.bind fun x => mb.bind fun y => some (decide (x ≤ y))) := x_cmpI op_le ha hb (nomark _)
theorem x_gt {ma mb : Option Int} (ha : XE X env a ma) (hb : XE X env b mb) : XE X env (.Compare a [.Gt] [b] pos) (ma.bind fun x => mb.bind fun y => some (decide (y < x))) := x_cmpI op_gt ha hb (nomark _)
theorem x_ge {ma mb : Option Int} (ha : XE X env a ma) (hb : XE X env b mb) : XE X env (.Compare a [.GtE] [b] pos) (ma.bind fun x => mb.bind fun y => some (decide (y ≤ x))) := x_cmpI op_ge ha hb (nomark _)
/-- ==, != of two of one plain kind -/
class Pl (τ : Type) extends Em τ where
  dec : DecidableEq τ
  eq : ∀ {K : PySem.W.Frag} {H : Hp} {x y : τ} {u v : V}, Rp K H u (em x) → Rp K H v (em y) → scal u v = true ∧ (u = v ↔ x = y)
instance : Pl Int := { dec := inferInstance, eq := fun r q => by cases r; cases q; exact ⟨rfl, by simp⟩ }
instance : Pl Bool := { dec := inferInstance, eq := fun r q => by cases r; cases q; exact ⟨rfl, by simp⟩ }
instance : Pl Str := { dec := inferInstance, eq := fun r q => by cases r; cases q; exact ⟨rfl, by simp⟩ }
instance {τ : Type} [Pl τ] : DecidableEq τ := Pl.dec
theorem x_eq {τ : Type} [Pl τ] {ma mb : Option τ} (ha : XE X env a ma) (hb : XE X env b mb) : XE X env (.Compare a [.Eq] [b] pos) (ma.bind fun x => mb.bind fun y => some (decide (x = y))) :=
  x_cmp op_eq ha hb (nomark _) fun x y z hz W u v ok ru rv Q q => by
    cases hz
    obtain ⟨h1, h2⟩ := Pl.eq ru rv
    refine ⟨h1, ?_⟩
    rw [show decide (u = v) = decide (x = y) from decide_eq_decide.mpr h2]
    exact q _ W (Le.refl ok) (.bl _)
theorem x_ne {τ : Type} [Pl τ] {ma mb : Option τ} (ha : XE X env a ma) (hb : XE X env b mb) : XE X env (.Compare a [.NotEq] [b] pos) (ma.bind fun x => mb.bind fun y => some (!decide (x = y))) :=
  x_cmp op_ne ha hb (nomark _) fun x y z hz W u v ok ru rv Q q => by
    cases hz
    obtain ⟨h1, h2⟩ := Pl.eq ru rv
    refine ⟨h1, ?_⟩
    rw [show decide (u = v) = decide (x = y) from decide_eq_decide.mpr h2]
    exact q _ W (Le.refl ok) (.bl _)
/-! ### tests -/
theorem t_x {m : Option Bool} (h : XE X env e m) (he : ∀ whole, isTrue e X.env whole = (do let v ← whole; standAt e.pos; holding [v] (truthy v)) := by intro _; rfl) : XT X env e m :=
  t_of (pt_val h he) fun W0 W σ E x hx Q q => use_x E hx fun v W' l r => by
    cases r
    exact ⟨x, rfl, q W' l⟩
end
end T

set_option Elab.async false
set_option linter.all false
set_option maxRecDepth 100000
set_option maxHeartbeats 4000000
namespace T
open PySem PySem.Spec PyProof.Rows L2
variable {τ α β γ δ : Type}
section
variable {X : Cx} {env : List SV} {e a b c : Expr} {pos : Pos} [Em τ] [Em α] [Em β] [Em γ]
/-! ### and, or, not, if else -/
theorem t_not {m : Option Bool} (h : XT X env a m) : XT X env (.UnaryOp .Not a pos) (m.bind fun x => some (!x)) :=
  t_of (pt_not h) fun W0 W σ E x hx Q q => by
    obtain ⟨y, hy, hx⟩ := bind_some hx
    cases hx
    exact use_t E hy fun W' l => q W' l
theorem x_not {m : Option Bool} (h : XE X env a m) : XE X env (.UnaryOp .Not a pos) (m.bind fun x => some (!x)) :=
  x_of (pe_not h) fun W0 W σ E x hx Q q => by
    obtain ⟨y, hy, hx⟩ := bind_some hx
    cases hx
    exact use_x E hy fun v W' l r => by
      cases r
      exact ⟨y, rfl, q _ W' l (.bl _)⟩
/-- a and b, lazily -/
def andO (x y : Option Bool) : Option Bool := x.bind fun b => if b = true then y else some false
def orO (x y : Option Bool) : Option Bool := x.bind fun b => if b = true then some true else y
abbrev XW (X : Cx) (env : List SV) (e : Expr) (m : Option Bool) : Prop := PW X e (tC' X.K env m)
theorem w_and1 {m : Option Bool} (h : XT X env a m) : XW X env (.BoolOp .And [a] pos) m := pw_and1 h
theorem w_or1 {m : Option Bool} (h : XT X env a m) : XW X env (.BoolOp .Or [a] pos) m := pw_or1 h
theorem w_and {ma mb : Option Bool} {rest : List Expr} (ha : XT X env a ma) (hb : XW X env (.BoolOp .And (b :: rest) pos) mb) : XW X env (.BoolOp .And (a :: b :: rest) pos) (andO ma mb) := by
  refine pwImp (pw_and ha hb) fun σ H Q ⟨W0, W, hH, E, x, hx, q⟩ => ?_
  subst hH
  obtain ⟨y, hy, hx⟩ := bind_some hx
  refine use_t E hy fun W1 l1 => ?_
  cases y with
  | true => exact use_t (E.mono l1) (by simpa using hx) fun W2 l2 => q W2 (l1.trans l2)
  | false =>
    have e : false = x := Option.some.inj (by simpa using hx)
    subst e
    exact q W1 l1
theorem w_or {ma mb : Option Bool} {rest : List Expr} (ha : XT X env a ma) (hb : XW X env (.BoolOp .Or (b :: rest) pos) mb) : XW X env (.BoolOp .Or (a :: b :: rest) pos) (orO ma mb) := by
  refine pwImp (pw_or ha hb) fun σ H Q ⟨W0, W, hH, E, x, hx, q⟩ => ?_
  subst hH
  obtain ⟨y, hy, hx⟩ := bind_some hx
  refine use_t E hy fun W1 l1 => ?_
  cases y with
  | false => exact use_t (E.mono l1) (by simpa using hx) fun W2 l2 => q W2 (l1.trans l2)
  | true =>
    have e : true = x := Option.some.inj (by simpa using hx)
    subst e
    exact q W1 l1
theorem t_w {m : Option Bool} (h : XW X env e m) : XT X env e m := h.pt
theorem x_one {op : BoolOp} {m : Option Bool} (h : XE X env a m) : XE X env (.BoolOp op [a] pos) m := pe_one h
theorem x_and {ma mb : Option Bool} {rest : List Expr} (ha : XE X env a ma) (hb : XE X env (.BoolOp .And (b :: rest) pos) mb) : XE X env (.BoolOp .And (a :: b :: rest) pos) (andO ma mb) := by
  refine x_of (pe_and ha hb) fun W0 W σ E x hx Q q => ?_
  obtain ⟨y, hy, hx⟩ := bind_some hx
  refine use_x E hy fun v W1 l1 r => ?_
  cases r
  refine ⟨y, rfl, ?_⟩
  cases y with
  | true => exact use_x (E.mono l1) (by simpa using hx) fun v W2 l2 r2 => q v W2 (l1.trans l2) r2
  | false =>
    have e : false = x := Option.some.inj (by simpa using hx)
    subst e
    exact q _ W1 l1 (.bl _)
theorem x_or {ma mb : Option Bool} {rest : List Expr} (ha : XE X env a ma) (hb : XE X env (.BoolOp .Or (b :: rest) pos) mb) : XE X env (.BoolOp .Or (a :: b :: rest) pos) (orO ma mb) := by
  refine x_of (pe_or ha hb) fun W0 W σ E x hx Q q => ?_
  obtain ⟨y, hy, hx⟩ := bind_some hx
  refine use_x E hy fun v W1 l1 r => ?_
  cases r
  refine ⟨y, rfl, ?_⟩
  cases y with
  | false => exact use_x (E.mono l1) (by simpa using hx) fun v W2 l2 r2 => q v W2 (l1.trans l2) r2
  | true =>
    have e : true = x := Option.some.inj (by simpa using hx)
    subst e
    exact q _ W1 l1 (.bl _)
theorem x_if {mc : Option Bool} {ma mb : Option τ} (hc : XT X env c mc) (ha : XE X env a ma) (hb : XE X env b mb) : XE X env (.IfExp c a b pos) (mc.bind fun x => if x = true then ma else mb) := by
  refine x_of (pe_ifExp hc ha hb) fun W0 W σ E x hx Q q => ?_
  obtain ⟨y, hy, hx⟩ := bind_some hx
  refine use_t E hy fun W1 l1 => ?_
  cases y with
  | true => exact use_x (E.mono l1) (by simpa using hx) fun v W2 l2 r2 => q v W2 (l1.trans l2) r2
  | false => exact use_x (E.mono l1) (by simpa using hx) fun v W2 l2 r2 => q v W2 (l1.trans l2) r2
/-! ### arguments, displays -/
theorem a_nil : XA X env [] (some ()) (fun _ => []) := paImp pa_nil fun σ H Q ⟨W0, W, hH, E, x, hx, q⟩ => by
  subst hH
  exact q [] W (Le.refl E.ok) .nil
theorem a_dat {es : List Expr} {m : Option τ} {ms : Option δ} {svs : δ → List SV} (h : XE X env e m) (hs : XA X env es ms svs) (hst : starEach (e :: es) X.env = (false, eval e X.env) :: starEach es X.env := by rfl) :
    XA X env (e :: es) (m.bind fun x => ms.bind fun y => some (x, y)) (fun p => .dat (em p.1) :: svs p.2) := by
  refine paImp (pa_cons h hs hst) fun σ H Q ⟨W0, W, hH, E, z, hz, q⟩ => ?_
  subst hH
  obtain ⟨x, hx, hz⟩ := bind_some hz
  obtain ⟨y, hy, hz⟩ := bind_some hz
  cases hz
  refine use_x E hx fun v W1 l1 r1 => ?_
  refine use_a (E.mono l1) hy fun vs W2 l2 r2 => ?_
  exact q _ W2 (l1.trans l2) (.dat (r1.mono l2.b) r2)
theorem a_bor {es : List Expr} {m : Option (List τ)} {ms : Option δ} {svs : δ → List SV} (h : XQ X env e m) (hs : XA X env es ms svs) (hst : starEach (e :: es) X.env = (false, eval e X.env) :: starEach es X.env := by rfl) :
    XA X env (e :: es) (m.bind fun x => ms.bind fun y => some (x, y)) (fun p => .bor (p.1.map em) :: svs p.2) := by
  refine paImp (pa_cons h hs hst) fun σ H Q ⟨W0, W, hH, E, z, hz, q⟩ => ?_
  subst hH
  obtain ⟨x, hx, hz⟩ := bind_some hz
  obtain ⟨y, hy, hz⟩ := bind_some hz
  cases hz
  refine use_q E hx fun a vs W1 l1 s1 r1 => ?_
  refine use_a (E.mono l1) hy fun us W2 l2 r2 => ?_
  exact q _ W2 (l1.trans l2) (.bor (l2.h.seq s1) (r1.mono l2.b) r2)
/-- items of one type, as data -/
abbrev XI [Em τ] (X : Cx) (env : List SV) (es : List Expr) (m : Option (List τ)) : Prop := PA X es (tA X.K env m fun xs => xs.map fun x => SV.dat (em x))
theorem i_nil : XI (τ := τ) X env [] (some []) := paImp pa_nil fun σ H Q ⟨W0, W, hH, E, x, hx, q⟩ => by
  subst hH
  cases hx
  exact q [] W (Le.refl E.ok) .nil
theorem i_cons {es : List Expr} {m : Option τ} {ms : Option (List τ)} (h : XE X env e m) (hs : XI X env es ms) (hst : starEach (e :: es) X.env = (false, eval e X.env) :: starEach es X.env := by rfl) :
    XI X env (e :: es) (m.bind fun x => ms.bind fun y => some (x :: y)) := by
  refine paImp (pa_cons h hs hst) fun σ H Q ⟨W0, W, hH, E, z, hz, q⟩ => ?_
  subst hH
  obtain ⟨x, hx, hz⟩ := bind_some hz
  obtain ⟨y, hy, hz⟩ := bind_some hz
  cases hz
  refine use_x E hx fun v W1 l1 r1 => ?_
  refine use_a (E.mono l1) hy fun vs W2 l2 r2 => ?_
  exact q _ W2 (l1.trans l2) (.dat (r1.mono l2.b) r2)
theorem Args.items {K : PySem.W.Frag} {W : Wd} : ∀ {vs : List V} {xs : List τ}, Args K W vs (xs.map fun x => SV.dat (em x)) → RpA K W.b vs (xs.map em)
  | _, [], .nil => .nil
  | _, _ :: _, .dat r t => .cons r (Args.items t)
theorem Args.dats {K : PySem.W.Frag} {W : Wd} : ∀ {vs : List V} {ds : List D}, Args K W vs (ds.map SV.dat) → RpA K W.b vs ds
  | _, [], .nil => .nil
  | _, _ :: _, .dat r t => .cons r (Args.dats t)
theorem Args.length {K : PySem.W.Frag} {W : Wd} : ∀ {vs : List V} {svs : List SV}, Args K W vs svs → vs.length = svs.length
  | _, _, .nil => rfl
  | _, _, .dat _ t => by rw [List.length_cons, List.length_cons, Args.length t]
  | _, _, .bor _ _ t => by rw [List.length_cons, List.length_cons, Args.length t]
def sz (n : Nat) : Prop := n < 16777216
instance (n : Nat) : Decidable (sz n) := inferInstanceAs (Decidable (n < 16777216))
theorem sz_line {n : Nat} (h : sz n) : n < sizeLine := by rw [sizeLine_eq]; exact h
def lstP (xs : List τ) : Option (List τ) := if sz xs.length then some xs else none
theorem lstP_some {xs ys : List τ} (h : lstP xs = some ys) : ys = xs ∧ sz xs.length := by
  unfold lstP at h
  split at h
  · exact ⟨(Option.some.inj h).symm, by assumption⟩
  · cases h
/-- [a, b, ..] -/
theorem l_lst {es : List Expr} {m : Option (List τ)} (h : XI X env es m) (hl : es.length < 16777216 := by decide) : XL X env (.List es pos) (m.bind lstP) := by
  refine l_of (pe_lst h) fun W0 W σ E x hx Q q => ?_
  obtain ⟨y, hy, hx⟩ := bind_some hx
  obtain ⟨rfl, hz⟩ := lstP_some hx
  refine use_a E hy fun vs W1 l1 r1 => ?_
  have r := r1.items
  refine ⟨by have := r.length; rw [List.length_map] at this; exact Nat.le_of_lt (by rw [this]; exact sz_line hz), fun p hp => ?_⟩
  exact q p vs ⟨W1.b, upd W1.h p (.lst vs)⟩ (l1.trans (Le.layM l1.ok hp)) (l1.h.free hp) upd_same (l1.ok.free hp) r
theorem l_nil : XL (τ := τ) X env (.List [] pos) (some []) := by
  refine l_of (pe_lst pa_nil) fun W0 W σ E x hx Q q => ?_
  cases hx
  refine ⟨by rw [sizeLine_eq]; decide, fun p hp => ?_⟩
  exact q p [] ⟨W.b, upd W.h p (.lst [])⟩ (Le.layM E.ok hp) hp upd_same (E.ok.free hp) .nil
/-- a written display of at least one item -/
theorem l_lst1 {es : List Expr} {m : Option (List τ)} (h : XI X env es m) (hm : ∀ x, m = some x → x.length < 16777216) : XL X env (.List es pos) m := by
  refine l_of (pe_lst h) fun W0 W σ E x hx Q q => ?_
  refine use_a E hx fun vs W1 l1 r1 => ?_
  have r := r1.items
  refine ⟨by have := r.length; rw [List.length_map] at this; exact Nat.le_of_lt (by rw [this]; exact sz_line (hm x hx)), fun p hp => ?_⟩
  exact q p vs ⟨W1.b, upd W1.h p (.lst vs)⟩ (l1.trans (Le.layM l1.ok hp)) (l1.h.free hp) upd_same (l1.ok.free hp) r
/-- (a, b, ..): items by their own types -/
theorem x_tupA {es : List Expr} {x1 : Nat} {m : Option δ} {ds : δ → List D} {f : δ → τ} (h : XA X env es m (fun d => (ds d).map SV.dat)) (hf : ∀ d, em (f d) = .tup (ds d)) (hl : ∀ d, (ds d).length < 16777216) :
    XE X env (.Tuple es x1 pos) (m.bind fun d => some (f d)) := by
  refine x_of (pe_tup h) fun W0 W σ E x hx Q q => ?_
  obtain ⟨y, hy, hx⟩ := bind_some hx
  cases hx
  refine use_a E hy fun vs W1 l1 r1 => ?_
  have r : RpA X.K W1.b vs (ds y) := by
    exact Args.dats r1
  refine ⟨by rw [r.length]; exact Nat.le_of_lt (sz_line (hl y)), fun p hp => ?_⟩
  refine q (.ref p) _ (l1.trans (Le.lay l1.ok (o := .tup vs) hp)) ?_
  rw [hf]
  exact .tup (SqT.of upd_same) (r.mono (Same.new (l1.ok.free hp)))
theorem x_tup2 {x1 : Nat} {ma : Option α} {mb : Option β} (ha : XE X env a ma) (hb : XE X env b mb) (h1 : starEach [a, b] X.env = (false, eval a X.env) :: starEach [b] X.env := by rfl) (h2 : starEach [b] X.env = (false, eval b X.env) :: starEach [] X.env := by rfl) :
    XE X env (.Tuple [a, b] x1 pos) (ma.bind fun x => mb.bind fun y => some (x, y)) := by
  refine (x_tupA (f := fun p : α × β × Unit => (p.1, p.2.1)) (ds := fun p => [em p.1, em p.2.1]) (a_dat ha (a_dat hb a_nil h2) h1) (fun _ => rfl) (fun _ => (by decide : 2 < 16777216))).is ?_
  cases ma with
  | none => rfl
  | some x => cases mb <;> rfl
theorem x_tup3 {x1 : Nat} {ma : Option α} {mb : Option β} {mc : Option γ} (ha : XE X env a ma) (hb : XE X env b mb) (hc : XE X env c mc) (h1 : starEach [a, b, c] X.env = (false, eval a X.env) :: starEach [b, c] X.env := by rfl) (h2 : starEach [b, c] X.env = (false, eval b X.env) :: starEach [c] X.env := by rfl)
    (h3 : starEach [c] X.env = (false, eval c X.env) :: starEach [] X.env := by rfl) :
    XE X env (.Tuple [a, b, c] x1 pos) (ma.bind fun x => mb.bind fun y => mc.bind fun z => some (⟨x, y, z⟩ : T3 α β γ)) := by
  refine (x_tupA (f := fun p : α × β × γ × Unit => (⟨p.1, p.2.1, p.2.2.1⟩ : T3 α β γ)) (ds := fun p => [em p.1, em p.2.1, em p.2.2.1]) (a_dat ha (a_dat hb (a_dat hc a_nil h3) h2) h1) (fun _ => rfl) (fun _ => (by decide : 3 < 16777216))).is ?_
  cases ma with
  | none => rfl
  | some x =>
    cases mb with
    | none => rfl
    | some y => cases mc <;> rfl
/-- a tuple of items of one type -/
theorem x_tupV {es : List Expr} {x1 : Nat} {m : Option (List τ)} (h : XI X env es m) (hm : ∀ x, m = some x → x.length < 16777216) : XE X env (.Tuple es x1 pos) (m.bind fun d => some (⟨d⟩ : Vt τ)) := by
  refine x_of (pe_tup h) fun W0 W σ E x hx Q q => ?_
  obtain ⟨y, hy, hx⟩ := bind_some hx
  cases hx
  refine use_a E hy fun vs W1 l1 r1 => ?_
  have r := r1.items
  refine ⟨by have := r.length; rw [List.length_map] at this; exact Nat.le_of_lt (by rw [this]; exact sz_line (hm y hy)), fun p hp => ?_⟩
  refine q (.ref p) _ (l1.trans (Le.lay l1.ok (o := .tup vs) hp)) ?_
  exact .tup (SqT.of upd_same) (r.mono (Same.new (l1.ok.free hp)))

/-! ### items, lengths -/
theorem atI_rp {K : PySem.W.Frag} {H : Hp} {vs : List V} {ds : List D} {i : Int} {d : D} (r : RpA K H vs ds) (h : atI ds i = some d) : ∃ v, atI vs i = some v ∧ Rp K H v d := by
  unfold atI at h ⊢
  rw [r.length]
  obtain ⟨j, h1, h2⟩ := bind_some h
  obtain ⟨v, h3, h4⟩ := r.get h2
  exact ⟨v, by rw [h1]; exact h3, h4⟩
theorem atI_map {f : α → β} {xs : List α} {i : Int} {x : α} (h : atI xs i = some x) : atI (xs.map f) i = some (f x) := by
  unfold atI at h ⊢
  rw [List.length_map]
  obtain ⟨j, h1, h2⟩ := bind_some h
  rw [h1]
  show (xs.map f)[j]? = some (f x)
  rw [List.getElem?_map, h2]
  rfl
theorem x_ixQ {ma : Option (List τ)} {mi : Option Int} (ha : XQ X env a ma) (hi : XE X env b mi) (hs : PlainIx b := by exact fun _ _ => rfl) : XE X env (.Subscript a b pos) (ma.bind fun xs => mi.bind fun i => atI xs i) := by
  refine x_of (pe_ix ix_list ha hi hs) fun W0 W σ E z hz Q q => ?_
  obtain ⟨x, hx, hz⟩ := bind_some hz
  obtain ⟨y, hy, hz⟩ := bind_some hz
  refine use_q E hx fun p vs W1 l1 s1 r1 => ?_
  refine use_x (E.mono l1) hy fun v W2 l2 r2 => ?_
  cases r2
  obtain ⟨u, h1, h2⟩ := atI_rp r1 (atI_map (f := em) hz)
  exact ⟨p, vs, y, u, rfl, rfl, l2.h.seq s1, h1, q u W2 (l1.trans l2) (h2.mono l2.b)⟩
theorem x_ixV {ma : Option (Vt τ)} {mi : Option Int} (ha : XE X env a ma) (hi : XE X env b mi) (hs : PlainIx b := by exact fun _ _ => rfl) : XE X env (.Subscript a b pos) (ma.bind fun xs => mi.bind fun i => atI xs.l i) := by
  refine x_of (pe_ix ix_tup ha hi hs) fun W0 W σ E z hz Q q => ?_
  obtain ⟨x, hx, hz⟩ := bind_some hz
  obtain ⟨y, hy, hz⟩ := bind_some hz
  refine use_x E hx fun p W1 l1 r1 => ?_
  refine use_x (E.mono l1) hy fun v W2 l2 r2 => ?_
  cases r2
  have r1 : Rp X.K W1.b p (.tup (x.l.map em)) := r1
  cases r1 with
  | tup s1 r1 =>
    obtain ⟨u, h1, h2⟩ := atI_rp r1 (atI_map (f := em) hz)
    exact ⟨_, _, y, u, rfl, rfl, same_t (l1.ok.trans l2.h) s1, h1, q u W2 (l1.trans l2) (h2.mono l2.b)⟩
/-- an item of a tuple of known length: i its place, g what it is -/
theorem x_ixT {ma : Option α} {i : Int} {j : Nat} {p : Pos} {g : α → γ} (ha : XE X env a ma) (hd : ∀ x : α, ∃ ds, em x = .tup ds ∧ atI ds i = some (em (g x))) :
    XE X env (.Subscript a (.Constant (.int i) j p) pos) (ma.bind fun x => some (g x)) := by
  refine x_of (pe_ix ix_tup ha (x_int (env := env)) (fun _ _ => rfl)) fun W0 W σ E z hz Q q => ?_
  obtain ⟨x, hx, hz⟩ := bind_some hz
  cases hz
  refine use_x E hx fun p W1 l1 r1 => ?_
  refine use_x (E.mono l1) rfl fun v W2 l2 r2 => ?_
  cases r2
  obtain ⟨ds, e1, e2⟩ := hd x
  rw [e1] at r1
  cases r1 with
  | tup s1 r1 =>
    obtain ⟨u, h1, h2⟩ := atI_rp r1 e2
    exact ⟨_, _, i, u, rfl, rfl, same_t (l1.ok.trans l2.h) s1, h1, q u W2 (l1.trans l2) (h2.mono l2.b)⟩
def strAt (s : Str) (i : Int) : Option Str := if sz s.length then (atI s.cps.toList i).map fun c => ⟨#[c]⟩ else none
theorem x_ixS {ma : Option Str} {mi : Option Int} (ha : XE X env a ma) (hi : XE X env b mi) (hs : PlainIx b := by exact fun _ _ => rfl) : XE X env (.Subscript a b pos) (ma.bind fun xs => mi.bind fun i => strAt xs i) := by
  refine x_of (pe_ix ix_str ha hi hs) fun W0 W σ E z hz Q q => ?_
  obtain ⟨x, hx, hz⟩ := bind_some hz
  obtain ⟨y, hy, hz⟩ := bind_some hz
  refine use_x E hx fun p W1 l1 r1 => ?_
  refine use_x (E.mono l1) hy fun v W2 l2 r2 => ?_
  cases r1; cases r2
  unfold strAt at hz
  split at hz
  · rename_i hl
    cases hc : atI x.cps.toList y with
    | none => rw [hc] at hz; cases hz
    | some cc =>
      rw [hc] at hz
      cases hz
      exact ⟨x, y, cc, rfl, rfl, Nat.le_of_lt (sz_line hl), hc, q _ W2 (l1.trans l2) (.str _)⟩
  · cases hz
end
section
variable {X : Cx} {env : List SV} {e a b c : Expr} {es : List Expr} {pos p : Pos} [Em τ] [Em α] [Em β] [Em γ] {N : List Str} {sc : Scope} {fb : Str → Bool} {K : PySem.W.Frag} {mg : Str → Option Value} {P : Program} {w : World} {base : Heap} {k : Nat}
/-! ### built-ins by name -/
theorem x_cB {x : Str} {id : String} {r : List V → Hp → VK → Prop} {m : Option δ} {svs : δ → List SV} {f : δ → Option τ} (C : Cf X N sc fb K mg P w base k) (hc : CallR X (.builtin id) r) (ha : XA X env (e :: es) m svs)
    (hr : ∀ d y, f d = some y → ∀ (W : Wd) (vs : List V), Same W.b W.h → Args X.K W vs (svs d) → ∀ Q : VK, (∀ v W', Le W W' → Rp X.K W'.b v (em y) → Q v W'.h) → r vs W.h Q)
    (hm : mg x = none) (hv : bootBuiltins x = some (.builtin id) := by decide +kernel) (hg : glbB sc x = true := by decide +kernel) (hn : x ≠ "__name__" := by decide) (hdb : (x == ("__debug__" : Str)) = false := by decide)
    (he : starEach (e :: es) X.env = (false, eval e X.env) :: starEach es X.env := by rfl) (hpl : (backTo pos (starEach es X.env)).any (·.1) = false := by rfl) : XE X env (.Call (.Name x p) (e :: es) [] pos) (m.bind f) := by
  cases C
  refine x_of (pe_callB hc (glbB_ok hg) hm hv ha hn hdb he hpl) fun W0 W σ E z hz Q q => ?_
  obtain ⟨d, hd, hz⟩ := bind_some hz
  refine use_a E hd fun vs W1 l1 r1 => ?_
  exact hr d z hz W1 vs l1.ok r1 Q fun v W2 l2 r2 => q v W2 (l1.trans l2) r2
theorem x_cT {x : Str} {id : String} {r : List V → Hp → VK → Prop} {m : Option δ} {svs : δ → List SV} {f : δ → Option τ} (C : Cf X N sc fb K mg P w base k) (hc : CallR X (.type id) r) (ha : XA X env (e :: es) m svs)
    (hr : ∀ d y, f d = some y → ∀ (W : Wd) (vs : List V), Same W.b W.h → Args X.K W vs (svs d) → ∀ Q : VK, (∀ v W', Le W W' → Rp X.K W'.b v (em y) → Q v W'.h) → r vs W.h Q)
    (hm : mg x = none) (hv : bootBuiltins x = some (.type id) := by decide +kernel) (hg : glbB sc x = true := by decide +kernel) (hn : x ≠ "__name__" := by decide) (hdb : (x == ("__debug__" : Str)) = false := by decide)
    (he : starEach (e :: es) X.env = (false, eval e X.env) :: starEach es X.env := by rfl) (hpl : (backTo pos (starEach es X.env)).any (·.1) = false := by rfl) : XE X env (.Call (.Name x p) (e :: es) [] pos) (m.bind f) := by
  cases C
  refine x_of (pe_callTy hc (glbB_ok hg) hm hv ha hn hdb he hpl) fun W0 W σ E z hz Q q => ?_
  obtain ⟨d, hd, hz⟩ := bind_some hz
  refine use_a E hd fun vs W1 l1 r1 => ?_
  exact hr d z hz W1 vs l1.ok r1 Q fun v W2 l2 r2 => q v W2 (l1.trans l2) r2
end
end T

set_option Elab.async false
set_option linter.all false
set_option maxRecDepth 100000
set_option maxHeartbeats 4000000
namespace T
open PySem PySem.Spec PyProof.Rows L2
variable {τ α β γ δ ρ B S ι : Type}
/-! ### results, ends of a block -/
inductive RV where
  | dat (d : D)
  | own (ds : List D)
def ResR (K : PySem.W.Frag) (W0 W : Wd) (v : V) : RV → Prop
  | .dat d => Rp K W.b v d
  | .own ds => ∃ a vs, v = .ref a ∧ W.h a = some (.lst vs) ∧ W.b a = none ∧ W0.h a = none ∧ RpA K W.b vs ds
inductive Fl (ρ B S : Type) where
  | nx (s : S)
  | rt (r : ρ)
  | bk (b : B)
  | ct (b : B)
def tG (K : PySem.W.Frag) (env : List SV) (m : Option α) (Z : α → Wd → Hp → Ends → Prop) : TS := fun D σ H =>
  ∃ (W0 W : Wd) (B : Hp), W.h = H ∧ EnvR K W0 W env σ ∧ Same B W.b ∧ ∃ r, m = some r ∧ Z r W0 B D
/-- what must follow: the block's end with the state s | a return | .. -/
def ZN (K : PySem.W.Frag) (envJ : S → List SV) : S → Wd → Hp → Ends → Prop := fun s W0 B D => ∀ W' σ', Same B W'.b → EnvR K W0 W' (envJ s) σ' → D.nx σ' W'.h
def ZR (K : PySem.W.Frag) (res : ρ → RV) : ρ → Wd → Hp → Ends → Prop := fun r W0 _ D => ∀ v W', Le W0 W' → ResR K W0 W' v (res r) → D.rt v W'.h
/-- a def's whole body: the end without a return hands back None -/
def ZRn (K : PySem.W.Frag) (res : ρ → RV) : ρ → Wd → Hp → Ends → Prop := fun r W0 _ D => (∀ v W', Le W0 W' → ResR K W0 W' v (res r) → D.rt v W'.h) ∧ ∀ σ W', Le W0 W' → ResR K W0 W' .non (res r) → D.nx σ W'.h
def ZF (K : PySem.W.Frag) (res : ρ → RV) (envB : B → List SV) (envJ : S → List SV) : Fl ρ B S → Wd → Hp → Ends → Prop := fun f W0 B' D => match f with
  | .nx s => ∀ W' σ', Same B' W'.b → EnvR K W0 W' (envJ s) σ' → D.nx σ' W'.h
  | .rt r => ∀ v W', Le W0 W' → ResR K W0 W' v (res r) → D.rt v W'.h
  | .bk b => ∀ W' σ', Same B' W'.b → EnvR K W0 W' (envB b) σ' → D.bk σ' W'.h
  | .ct b => ∀ W' σ', Same B' W'.b → EnvR K W0 W' (envB b) σ' → D.ct σ' W'.h
/-- an early end: φ r is an end for Z where r is one for Z', whatever follows the block -/
def Early (φ : α → β) (Z' : α → Wd → Hp → Ends → Prop) (Z : β → Wd → Hp → Ends → Prop) : Prop := ∀ r W0 B D u, Z (φ r) W0 B D → Z' r W0 B { D with nx := u }
theorem early_r {K : PySem.W.Frag} {res : ρ → RV} : Early id (ZR K res) (ZR K res) := fun _ _ _ _ _ h => h
theorem early_rn {K : PySem.W.Frag} {res : ρ → RV} : Early id (ZR K res) (ZRn K res) := fun _ _ _ _ _ h => h.1
theorem early_rf {K : PySem.W.Frag} {res : ρ → RV} {envB : B → List SV} {envJ : S → List SV} : Early Fl.rt (ZR K res) (ZF K res envB envJ) := fun _ _ _ _ _ h => h
/-- break, continue -/
def ZB (K : PySem.W.Frag) (envB : B → List SV) : B → Wd → Hp → Ends → Prop := fun b W0 B' D => ∀ W' σ', Same B' W'.b → EnvR K W0 W' (envB b) σ' → D.bk σ' W'.h
def ZC (K : PySem.W.Frag) (envB : B → List SV) : B → Wd → Hp → Ends → Prop := fun b W0 B' D => ∀ W' σ', Same B' W'.b → EnvR K W0 W' (envB b) σ' → D.ct σ' W'.h
theorem early_bf {K : PySem.W.Frag} {res : ρ → RV} {envB : B → List SV} {envJ : S → List SV} : Early Fl.bk (ZB K envB) (ZF K res envB envJ) := fun _ _ _ _ _ h => h
theorem early_cf {K : PySem.W.Frag} {res : ρ → RV} {envB : B → List SV} {envJ : S → List SV} : Early Fl.ct (ZC K envB) (ZF K res envB envJ) := fun _ _ _ _ _ h => h
section
variable {X : Cx} {env env' : List SV} {e a b c : Expr} {st : Stmt} {rest : List Stmt} {pos p : Pos} [Em τ] [Em α] [Em β] [Em γ] {N : List Str} {sc : Scope} {fb : Str → Bool} {K : PySem.W.Frag} {mg : Str → Option Value} {P : Program} {w : World} {base : Heap} {k : Nat}
variable {Z : ρ → Wd → Hp → Ends → Prop}
abbrev GS (X : Cx) (env : List SV) (sts : List Stmt) (m : Option ρ) (Z : ρ → Wd → Hp → Ends → Prop) : Prop := PSs X sts (tG X.K env m Z)
theorem g_is {sts : List Stmt} {m m' : Option ρ} (h : GS X env sts m Z) (q : m = m' := by rfl) : GS X env sts m' Z := q ▸ h
theorem g_env {sts : List Stmt} {m : Option ρ} (h : GS X env' sts m Z) (q : EnvLe env env') : GS X env sts m Z := pssImp h fun D σ H ⟨W0, W, B, hH, E, sb, r, hr, z⟩ => ⟨W0, W, B, hH, E.weak q, sb, r, hr, z⟩
/-- a statement, then the rest -/
theorem g_of {t : TS} {u : ι → TS} {m : Option ρ} (h1 : PS X st t) (h2 : ∀ i, PSs X rest (u i))
    (kk : ∀ (W0 W : Wd) (B : Hp) (σ : St) (D : Ends) (r : ρ), EnvR X.K W0 W env σ → Same B W.b → m = some r → Z r W0 B D → t { D with nx := fun σ' H' => ∃ i, u i D σ' H' } σ W.h) : GS X env (st :: rest) m Z := by
  refine pssImp (pss_cons h1 (pssEx h2)) fun D σ H ⟨W0, W, B, hH, E, sb, r, hr, z⟩ => ?_
  subst hH
  exact kk W0 W B σ D r E sb hr z
theorem use_g {W0 W : Wd} {B : Hp} {σ : St} {m : Option ρ} {r : ρ} {D : Ends} (E : EnvR K W0 W env σ) (sb : Same B W.b) (h : m = some r) (z : Z r W0 B D) : tG K env m Z D σ W.h := ⟨W0, W, B, rfl, E, sb, r, h, z⟩

/-! ### assignments -/
theorem g_set (C : Cf X N sc fb K mg P w base k) (i : Nat) {n : Str} {p' : Pos} {me : Option τ} {f : τ → Option ρ} (he : XE X env e me) (hr : ∀ x, GS X (env.set i (.dat (em x))) rest (f x) Z)
    (hi : N[i]? = some n := by rfl) (hl : locB sc fb n = true := by decide +kernel) (hs : ∀ E : Env, swapsWith e (some (.Name n p')) pos.line E = pure false := by intro _; rfl) :
    GS X env (.Assign [.Name n p'] e pos :: rest) (me.bind f) Z := by
  cases C with
  | mk nd calm po rm =>
    refine g_of (ps_set nd hi (locB_ok hl) he (hs _) (locB_fn hl)) hr fun W0 W B σ D r E sb hm z => ?_
    · obtain ⟨x, hx, hm⟩ := bind_some hm
      exact use_x E hx fun v W1 l1 r1 => ⟨x, use_g ((E.mono l1).putD r1) (sb.trans l1.b) hm z⟩
theorem g_setL (C : Cf X N sc fb K mg P w base k) (i : Nat) {n : Str} {p' : Pos} {me : Option (List τ)} {f : List τ → Option ρ} (he : XL X env e me) (hr : ∀ x, GS X (env.set i (.own (x.map em))) rest (f x) Z)
    (hi : N[i]? = some n := by rfl) (hl : locB sc fb n = true := by decide +kernel) (hs : ∀ E : Env, swapsWith e (some (.Name n p')) pos.line E = pure false := by intro _; rfl) :
    GS X env (.Assign [.Name n p'] e pos :: rest) (me.bind f) Z := by
  cases C with
  | mk nd calm po rm =>
    refine g_of (ps_set nd hi (locB_ok hl) he (hs _) (locB_fn hl)) hr fun W0 W B σ D r E sb hm z => ?_
    · obtain ⟨x, hx, hm⟩ := bind_some hm
      exact use_l E hx fun a vs W1 l1 h0 h1 hb r1 => ⟨x, use_g (E.putL l1 h0 h1 hb r1) (sb.trans l1.b) hm z⟩
/-- y = x, x an owned list that is not asked any more -/
theorem g_move (C : Cf X N sc fb K mg P w base k) (i j : Nat) {n n' : Str} {p' p2 : Pos} {ds : List D} {m : Option ρ} (hj : env[j]? = some (.own ds) := by rfl) (hr : GS X ((env.set j .any).set i (.own ds)) rest m Z)
    (hi : N[i]? = some n := by rfl) (hl : locB sc fb n = true := by decide +kernel) (hi' : N[j]? = some n' := by rfl) (hv : visB sc n' = true := by decide +kernel)
    (hd : (n' == ("__debug__" : Str)) = false := by decide) (hc : (n' == ("__classdict__" : Str)) = false := by decide) :
    GS X env (.Assign [.Name n p'] (.Name n' p2) pos :: rest) m Z := by
  cases C with
  | mk nd calm po rm =>
    refine g_of (ι := Unit) (ps_set nd hi (locB_ok hl) (pe_var hi' (visB_ok hv) hd hc) rfl (locB_fn hl)) (fun _ => hr) fun W0 W B σ D r E sb hm z => ?_
    · obtain ⟨a, vs, h1, h2, h3, h0, r1⟩ := E.own hj
      refine ⟨_, h1, (), ?_⟩
      have E1 : EnvR X.K W0 W (env.set j .any) σ := by
        refine ⟨E.le, by rw [List.length_set]; exact E.len, fun x sv ex => ?_, fun x y dx dy n ex ey => ?_⟩
        · rcases set_get ex with ⟨rfl, hlt, rfl⟩ | ⟨_, ex⟩
          · exact ⟨_, h1, trivial⟩
          · exact E.slot x sv ex
        · rcases set_get ex with ⟨_, _, q⟩ | ⟨_, ex⟩
          · cases q
          · rcases set_get ey with ⟨_, _, q⟩ | ⟨_, ey⟩
            · cases q
            · exact E.apart x y dx dy n ex ey
      refine use_g (E1.put (sv := .own ds) ⟨a, vs, rfl, h2, h3, h0, r1⟩ fun es _ x dx nx ex zz => ?_) sb hm z
      rcases set_get ex with ⟨_, _, q⟩ | ⟨nj, ex⟩
      · cases q
      · exact E.apart x j dx ds nj ex hj (zz.trans h1.symm)
/-- an expression as a statement -/
theorem g_drop {me : Option τ} {f : τ → Option ρ} (he : XE X env e me) (hr : ∀ x, GS X env rest (f x) Z) (hs : ∀ E : Env, swapsWith e none pos.line E = pure false := by intro _; rfl) : GS X env (.Expr e pos :: rest) (me.bind f) Z :=
  g_of (ps_expr he (hs _)) hr fun W0 W B σ D r E sb hm z => by
    obtain ⟨x, hx, hm⟩ := bind_some hm
    exact use_x E hx fun v W1 l1 r1 => ⟨x, use_g (E.mono l1) (sb.trans l1.b) hm z⟩
theorem g_pass {m : Option ρ} (hr : GS X env rest m Z) : GS X env (.Pass pos :: rest) m Z :=
  g_of (ι := Unit) ps_pass (fun _ => hr) fun W0 W B σ D r E sb hm z => ⟨(), use_g E sb hm z⟩
/-! ### lists that change -/
def appP (xs : List τ) (x : τ) : Option (List τ) := if sz xs.length then some (xs ++ [x]) else none
theorem appP_some {xs ys : List τ} {x : τ} (h : appP xs x = some ys) : ys = xs ++ [x] ∧ sz xs.length := by
  unfold appP at h
  split at h
  · exact ⟨(Option.some.inj h).symm, by assumption⟩
  · cases h

/-- xs.append(e) -/
theorem g_append (C : Cf X N sc fb K mg P w base k) (i : Nat) {n : Str} {p1 apos p3 : Pos} {xs : List τ} {me : Option τ} {f : List τ → Option ρ} (he : XE X env e me) (hr : ∀ ys : List τ, GS X (env.set i (.own (ys.map em))) rest (f ys) Z)
    (hx : env[i]? = some (.own (xs.map em)) := by rfl) (hi : N[i]? = some n := by rfl) (hv : visB sc n = true := by decide +kernel)
    (hd : (n == ("__debug__" : Str)) = false := by decide) (hcd : (n == ("__classdict__" : Str)) = false := by decide)
    (hbase : ∀ E : Env, attributeBase (.Name n p1) "append" E (eval (.Name n p1) E) = eval (.Name n p1) E := by intro _; rfl)
    (hfew : ∀ E : Env, ((backTo p3 (starEach [e] E)).all (fun x => !x.1) && (backToKw p3 (keywordEach [] E)).all (fun x => x.1.isSome)
      && decide ([e].length + ([] : List Keyword).length + (if ([] : List Keyword).isEmpty then 0 else 1) < 30)) = true := by intro _; rfl)
    (hline : (apos.endLine == p3.line) = true := by rfl) (hs : ∀ E : Env, starEach [e] E = (false, eval e E) :: starEach [] E := by intro _; rfl) (hplain : ∀ E : Env, (backTo p3 (starEach ([] : List Expr) E)).any (·.1) = false := by intro _; rfl) :
    GS X env (.Expr (.Call (.Attribute (.Name n p1) "append" apos) [e] [] p3) pos :: rest) (me.bind fun x => (appP xs x).bind f) Z := by
  cases C
  refine g_of (ps_expr (pe_bm PySem.F.plainAttrs_list PySem.F.slot_list_append PySem.F.type_list_append mt_append (pe_var hi (visB_ok hv) hd hcd) (pa_cons he pa_nil (hs _)) (hbase _) (hfew _) hline (hs _) (hplain _)) rfl) hr fun W0 W B σ D r E sb hm z => ?_
  obtain ⟨x, hme, hm⟩ := bind_some hm
  obtain ⟨ys, hy, hm⟩ := bind_some hm
  obtain ⟨rfl, hz⟩ := appP_some hy
  obtain ⟨a, vs, h1, h2, h3, h0, r1⟩ := E.own hx
  refine ⟨_, h1, Or.inl ⟨rfl, _, SqL.of h2⟩, ?_⟩
  refine use_x E hme fun v W1 l1 rv => ?_
  have E1 := E.mono l1
  have hl : vs.length = xs.length := by have := r1.length; rwa [List.length_map] at this
  refine ⟨a, vs, v, rfl, rfl, l1.h _ _ h2, by rw [hl]; exact sz_line hz, xs ++ [x], ?_⟩
  refine use_g (E1.write (es := (xs ++ [x]).map em) hx h1 ?_) (sb.trans l1.b) hm z
  rw [List.map_append]
  exact (r1.mono l1.b).append (.cons rv .nil)
def setP (xs : List τ) (i : Int) (x : τ) : Option (List τ) := (ixN xs.length i).map fun j => xs.set j x
/-- xs[j] = e -/
theorem g_setItem (C : Cf X N sc fb K mg P w base k) (i : Nat) {n : Str} {p1 p2 : Pos} {xs : List τ} {me : Option τ} {mi : Option Int} {f : List τ → Option ρ} (he : XE X env e me) (hj : XE X env b mi)
    (hr : ∀ ys : List τ, GS X (env.set i (.own (ys.map em))) rest (f ys) Z)
    (hx : env[i]? = some (.own (xs.map em)) := by rfl) (hi : N[i]? = some n := by rfl) (hv : visB sc n = true := by decide +kernel)
    (hd : (n == ("__debug__" : Str)) = false := by decide) (hcd : (n == ("__classdict__" : Str)) = false := by decide)
    (ha : ∀ E : Env, ∀ v, assign (.Subscript (.Name n p1) b p2) E v = (do
      let ov ← holding [v] (eval (.Name n p1) E)
      let iv ← holding [v, ov] (eval b E)
      standAt p2
      holding [v, ov, iv] (setItem ov iv v)
      release [v, ov, iv] []) := by intro _ _; rfl)
    (hs : ∀ E : Env, swapsWithSole [.Subscript (.Name n p1) b p2] e pos.line E = pure false := by intro _; rfl) (hw : ∀ E : Env, swappedStores [.Subscript (.Name n p1) b p2] e E = pure none := by intro _; rfl)
    (h1 : ∀ E : Env, (assignEach [.Subscript (.Name n p1) b p2] E).map (·.2) = [assign (.Subscript (.Name n p1) b p2) E] := by intro _; rfl) :
    GS X env (.Assign [.Subscript (.Name n p1) b p2] e pos :: rest) (me.bind fun x => mi.bind fun j => (setP xs j x).bind f) Z := by
  cases C
  refine g_of (ps_asg he (pg_sub (pe_var hi (visB_ok hv) hd hcd) hj set_list (ha _)) (hs _) (hw _) (h1 _)) hr fun W0 W B σ D r E sb hm z => ?_
  obtain ⟨x, hme, hm⟩ := bind_some hm
  obtain ⟨j, hmj, hm⟩ := bind_some hm
  obtain ⟨ys, hy, hm⟩ := bind_some hm
  unfold setP at hy
  cases q : ixN xs.length j with
  | none => rw [q] at hy; cases hy
  | some t =>
    rw [q] at hy
    have hy : xs.set t x = ys := Option.some.inj hy
    subst hy
    refine use_x E hme fun v W1 l1 rv => ?_
    have E1 := E.mono l1
    obtain ⟨a, vs, h1, h2, h3, h0, r1⟩ := E1.own hx
    refine ⟨_, h1, ?_⟩
    refine use_x E1 hmj fun u W2 l2 ru => ?_
    cases ru
    have hl : vs.length = xs.length := by have := r1.length; rwa [List.length_map] at this
    refine ⟨a, vs, j, t, rfl, rfl, l2.h _ _ h2, by rw [hl]; exact q, xs.set t x, ?_⟩
    refine use_g ((E1.mono l2).write (es := (xs.set t x).map em) hx h1 ?_) ((sb.trans l1.b).trans l2.b) hm z
    rw [List.map_set]
    exact (r1.mono l2.b).set (rv.mono l2.b) t
/-- an owned list becomes data for good -/
theorem EnvR.freeze {W0 W : Wd} {σ : St} {i : Nat} {ds : List D} (E : EnvR K W0 W env σ) (hi : env[i]? = some (.own ds)) : ∃ W', W'.h = W.h ∧ Same W.b W'.b ∧ EnvR K W0 W' (env.set i (.dat (.lst ds))) σ := by
  obtain ⟨a, vs, h1, h2, h3, h0, r1⟩ := E.own hi
  have sb : Same W.b (upd W.b a (.lst vs)) := Same.new h3
  refine ⟨⟨upd W.b a (.lst vs), W.h⟩, rfl, sb, ⟨E.le.b.trans sb, E.le.h, fun c o q => ?_, fun c u q => ?_⟩, by rw [List.length_set]; exact E.len, fun j sj e => ?_, fun x y dx dy nn ex ey => ?_⟩
  · show upd W.b a _ c = _
    rw [upd_ne (ne_of_none q h0)]; exact E.le.f c o q
  · have q : upd W.b a (.lst vs) c = some u := q
    show W.h c = some u
    by_cases hc : c = a
    · subst hc; rw [upd_same] at q; exact h2.trans q
    · rw [upd_ne hc] at q; exact E.le.ok c u q
  · rcases set_get e with ⟨rfl, _, rfl⟩ | ⟨nj, e⟩
    · exact ⟨_, h1, _, rfl, .lst (SqL.of (show upd W.b a (.lst vs) a = _ from upd_same)) (r1.mono sb)⟩
    · obtain ⟨o, q1, q2⟩ := E.slot j sj e
      refine ⟨o, q1, ?_⟩
      cases sj with
      | any => trivial
      | dat d => obtain ⟨v, e1, r⟩ := q2; exact ⟨v, e1, r.mono sb⟩
      | bor d => exact q2
      | own d =>
        obtain ⟨c, us, e1, e2, e3, e0, r⟩ := q2
        subst e1
        have nc : c ≠ a := fun z => by
          subst z
          exact E.apart j i d ds nj e hi (q1.trans h1.symm)
        exact ⟨c, us, rfl, e2, by show upd W.b a _ c = _; rw [upd_ne nc]; exact e3, e0, r.mono sb⟩
  · rcases set_get ex with ⟨_, _, q⟩ | ⟨_, ex⟩
    · cases q
    · rcases set_get ey with ⟨_, _, q⟩ | ⟨_, ey⟩
      · cases q
      · exact E.apart x y dx dy nn ex ey
theorem g_freeze (i : Nat) {sts : List Stmt} {ds : List D} {m : Option ρ} (hi : env[i]? = some (.own ds)) (h : GS X (env.set i (.dat (.lst ds))) sts m Z) : GS X env sts m Z :=
  pssImp h fun D σ H ⟨W0, W, B, hH, E, sb, r, hr, z⟩ => by
    subst hH
    obtain ⟨W', e, sb', E'⟩ := E.freeze hi
    exact ⟨W0, W', B, e, E', sb.trans sb', r, hr, z⟩
/-! ### the end of a block, returns -/
theorem g_nil {envJ : ρ → List SV} {s : ρ} (h : EnvLe env (envJ s)) : GS X env [] (some s) (ZN X.K envJ) := pssImp pss_nil fun D σ H ⟨W0, W, B, hH, E, sb, r, hr, z⟩ => by
  subst hH
  cases hr
  exact z W σ sb (E.weak h)
theorem g_nilF {res : α → RV} {envB : B → List SV} {envJ : S → List SV} {s : S} (h : EnvLe env (envJ s)) : GS X env [] (some (Fl.nx s : Fl α B S)) (ZF X.K res envB envJ) := pssImp pss_nil fun D σ H ⟨W0, W, B, hH, E, sb, r, hr, z⟩ => by
  subst hH
  cases hr
  exact z W σ sb (E.weak h)
theorem g_nilR {res : ρ → RV} {r : ρ} (h : res r = .dat .non) : GS X env [] (some r) (ZRn X.K res) := pssImp pss_nil fun D σ H ⟨W0, W, B, hH, E, sb, r', hr, z⟩ => by
  subst hH
  cases hr
  exact z.2 σ W E.le (by rw [h]; exact .non)
theorem g_ret {φ : τ → ρ} {me : Option τ} (he : XE X env e me) (hz : ∀ x W0 B D, Z (φ x) W0 B D → ZR X.K (fun x : τ => RV.dat (em x)) x W0 B D) : GS X env (.Return (some e) pos :: rest) (me.bind fun x => some (φ x)) Z :=
  g_of (ι := Empty) (u := fun _ => tNever) (ps_ret he) (fun i => i.elim) fun W0 W B σ D r E sb hm z => by
    obtain ⟨x, hx, hm⟩ := bind_some hm
    cases hm
    exact use_x E hx fun v W1 l1 r1 => hz x W0 B D z v W1 (E.le.trans l1) r1
theorem g_retL {φ : List τ → ρ} {me : Option (List τ)} (he : XL X env e me) (hz : ∀ x W0 B D, Z (φ x) W0 B D → ZR X.K (fun x : List τ => RV.own (x.map em)) x W0 B D) : GS X env (.Return (some e) pos :: rest) (me.bind fun x => some (φ x)) Z :=
  g_of (ι := Empty) (u := fun _ => tNever) (ps_ret he) (fun i => i.elim) fun W0 W B σ D r E sb hm z => by
    obtain ⟨x, hx, hm⟩ := bind_some hm
    cases hm
    exact use_l E hx fun a vs W1 l1 h0 h1 hb r1 => hz x W0 B D z _ W1 (E.le.trans l1) ⟨a, vs, rfl, h1, hb, E.le.h.free h0, r1⟩
theorem g_retO (C : Cf X N sc fb K mg P w base k) (i : Nat) {n : Str} {p' : Pos} {x : List τ} {r : ρ} (hz : ∀ W0 B D, Z r W0 B D → ZR X.K (fun x : List τ => RV.own (x.map em)) x W0 B D)
    (hx : env[i]? = some (.own (x.map em)) := by rfl) (hi : N[i]? = some n := by rfl) (hv : visB sc n = true := by decide +kernel)
    (hd : (n == ("__debug__" : Str)) = false := by decide) (hcd : (n == ("__classdict__" : Str)) = false := by decide) : GS X env (.Return (some (.Name n p')) pos :: rest) (some r) Z := by
  cases C
  refine g_of (ι := Empty) (u := fun _ => tNever) (ps_ret (pe_var hi (visB_ok hv) hd hcd)) (fun i => i.elim) fun W0 W B σ D r E sb hm z => ?_
  cases hm
  obtain ⟨a, vs, h1, h2, h3, h0, r1⟩ := E.own hx
  exact ⟨_, h1, hz W0 B D z _ W E.le ⟨a, vs, rfl, h2, h3, h0, r1⟩⟩
theorem g_retN {r : ρ} (hz : ∀ W0 B D, Z r W0 B D → ZR X.K (fun _ : Unit => RV.dat .non) () W0 B D) : GS X env (.Return none pos :: rest) (some r) Z :=
  g_of (ι := Empty) (u := fun _ => tNever) ps_retN (fun i => i.elim) fun W0 W B σ D r E sb hm z => by
    cases hm
    exact hz W0 B D z _ W E.le .non
theorem g_break {b : B} {φ : B → ρ} {envB : B → List SV} (hz : ∀ b W0 B' D, Z (φ b) W0 B' D → ZB X.K envB b W0 B' D) (h : EnvLe env (envB b)) : GS X env (.Break pos :: rest) (some (φ b)) Z :=
  g_of (ι := Empty) (u := fun _ => tNever) ps_break (fun i => i.elim) fun W0 W B σ D r E sb hm z => by
    cases hm
    exact hz b W0 _ D z W σ sb (E.weak h)
theorem g_continue {b : B} {φ : B → ρ} {envB : B → List SV} (hz : ∀ b W0 B' D, Z (φ b) W0 B' D → ZC X.K envB b W0 B' D) (h : EnvLe env (envB b)) : GS X env (.Continue pos :: rest) (some (φ b)) Z :=
  g_of (ι := Empty) (u := fun _ => tNever) ps_continue (fun i => i.elim) fun W0 W B σ D r E sb hm z => by
    cases hm
    exact hz b W0 _ D z W σ sb (E.weak h)
/-! ### if -/
/-- the first way leaves -/
theorem g_ifX {Z' : α → Wd → Hp → Ends → Prop} {φ : α → ρ} {mc : Option Bool} {m1 : Option α} {m2 : Option ρ} {thn : List Stmt} (hc : XT X env c mc) (h1 : GS X env thn m1 Z') (hz : Early φ Z' Z) (h2 : GS X env rest m2 Z) :
    GS X env (.If c thn [] pos :: rest) (mc.bind fun x => if x = true then m1.bind fun r => some (φ r) else m2) Z :=
  g_of (ι := Unit) (ps_if hc h1 pss_nil) (fun _ => h2) fun W0 W B σ D r E sb hm z => by
    obtain ⟨x, hx, hm⟩ := bind_some hm
    refine use_t E hx fun W1 l1 => ?_
    cases x with
    | true =>
      obtain ⟨y, hy, hm⟩ := bind_some (show m1.bind (fun r => some (φ r)) = some r by simpa using hm)
      cases hm
      exact use_g (E.mono l1) (sb.trans l1.b) hy (hz y W0 _ D _ z)
    | false => exact ⟨(), use_g (E.mono l1) (sb.trans l1.b) (by simpa using hm) z⟩
/-- both ways leave -/
theorem g_ifXX {mc : Option Bool} {m1 m2 : Option ρ} {thn els : List Stmt} (hc : XT X env c mc) (h1 : GS X env thn m1 Z) (h2 : GS X env els m2 Z) (hz : ∀ r W0 B D u, Z r W0 B D → Z r W0 B { D with nx := u }) :
    GS X env (.If c thn els pos :: rest) (mc.bind fun x => if x = true then m1 else m2) Z :=
  g_of (ι := Empty) (u := fun _ => tNever) (ps_if hc h1 h2) (fun i => i.elim) fun W0 W B σ D r E sb hm z => by
    obtain ⟨x, hx, hm⟩ := bind_some hm
    refine use_t E hx fun W1 l1 => ?_
    cases x with
    | true => exact use_g (E.mono l1) (sb.trans l1.b) (by simpa using hm) (hz r W0 _ D _ z)
    | false => exact use_g (E.mono l1) (sb.trans l1.b) (by simpa using hm) (hz r W0 _ D _ z)
/-- both ways meet behind -/
theorem g_ifJ {envJ : S → List SV} {mc : Option Bool} {m1 m2 : Option S} {kk : S → Option ρ} {thn els : List Stmt} (hc : XT X env c mc) (h1 : GS X env thn m1 (ZN X.K envJ)) (h2 : GS X env els m2 (ZN X.K envJ))
    (hr : ∀ s, GS X (envJ s) rest (kk s) Z) : GS X env (.If c thn els pos :: rest) ((mc.bind fun x => if x = true then m1 else m2).bind kk) Z :=
  g_of (ps_if hc h1 h2) hr fun W0 W B σ D r E sb hm z => by
    obtain ⟨s, hs, hm⟩ := bind_some hm
    obtain ⟨x, hx, hs⟩ := bind_some hs
    refine use_t E hx fun W1 l1 => ?_
    cases x with
    | true => exact use_g (E.mono l1) (sb.trans l1.b) (by simpa using hs) fun W' σ' sb' E' => ⟨s, use_g E' sb' hm z⟩
    | false => exact use_g (E.mono l1) (sb.trans l1.b) (by simpa using hs) fun W' σ' sb' E' => ⟨s, use_g E' sb' hm z⟩
/-- ways that leave or meet: in a loop's body -/
def thenF (m : Option (Fl α B S)) (f : S → Option (Fl α B δ)) : Option (Fl α B δ) := m.bind fun x => match x with
  | .nx s => f s
  | .rt r => some (.rt r)
  | .bk b => some (.bk b)
  | .ct b => some (.ct b)
theorem g_ifF {res : α → RV} {envB : B → List SV} {envJ : S → List SV} {envE : δ → List SV} {mc : Option Bool} {m1 m2 : Option (Fl α B S)} {kk : S → Option (Fl α B δ)} {thn els : List Stmt} (hc : XT X env c mc)
    (h1 : GS X env thn m1 (ZF X.K res envB envJ)) (h2 : GS X env els m2 (ZF X.K res envB envJ)) (hr : ∀ s, GS X (envJ s) rest (kk s) (ZF X.K res envB envE)) :
    GS X env (.If c thn els pos :: rest) (thenF (mc.bind fun x => if x = true then m1 else m2) kk) (ZF X.K res envB envE) :=
  g_of (ps_if hc h1 h2) hr fun W0 W B σ D r E sb hm z => by
    obtain ⟨y, hy, hm⟩ := bind_some hm
    obtain ⟨x, hx, hy⟩ := bind_some hy
    have zz : ZF X.K res envB envJ y W0 B { D with nx := fun σ' H' => ∃ i, tG X.K (envJ i) (kk i) (ZF X.K res envB envE) D σ' H' } := by
      cases y with
      | nx s => exact fun W' σ' sb' E' => ⟨s, use_g E' sb' hm z⟩
      | rt r' => cases hm; exact z
      | bk b => cases hm; exact z
      | ct b => cases hm; exact z
    refine use_t E hx fun W1 l1 => ?_
    cases x with
    | true => exact use_g (E.mono l1) (sb.trans l1.b) (by simpa using hy) zz
    | false => exact use_g (E.mono l1) (sb.trans l1.b) (by simpa using hy) zz
end
end T

set_option Elab.async false
set_option linter.all false
set_option maxRecDepth 100000
set_option maxHeartbeats 4000000
namespace T
open PySem PySem.Spec PyProof.Rows L2
variable {τ α β γ δ ρ B S ι : Type}
/-! ### what is walked -/
structure Walk [Em τ] (K : PySem.W.Frag) (W0 W1 : Wd) (J : It) (xs : List τ) : Prop where
  item : ∀ (i : Nat) (x : τ) (W : Wd), xs[i]? = some x → Same W1.b W.b → Le W0 W → J.go i W.h ∧ ∀ v H', J.yld i W.h v H' → ∃ W', Le W W' ∧ W'.h = H' ∧ Rp K W'.b v (em x)
  stop : ∀ W : Wd, Same W1.b W.b → Le W0 W → J.stop xs.length W.h
def tW [Em τ] (K : PySem.W.Frag) (env : List SV) (m : Option (List τ)) : TI := fun σ H R =>
  ∃ W0 W : Wd, W.h = H ∧ EnvR K W0 W env σ ∧ ∃ x, m = some x ∧ ∀ J W', Le W W' → Walk K W0 W' J x → R J W'.h
abbrev XWk [Em τ] (X : Cx) (env : List SV) (tg e : Expr) (m : Option (List τ)) : Prop := PI X tg e (tW X.K env m)
/-- targets: is are the slots that are stored -/
def tGt [Em τ] (K : PySem.W.Frag) (env : List SV) (env' : τ → List SV) (is : List Nat) : TG := fun v σ H Q =>
  ∃ (W0 W : Wd) (x : τ), W.h = H ∧ EnvR K W0 W env σ ∧ Rp K W.b v (em x) ∧ ∀ σ', EnvR K W0 W (env' x) σ' → (∀ vs : List Nat, (∀ i ∈ is, i ∈ vs) → wipe σ' vs = wipe σ vs) → Q σ' W.h
abbrev XG [Em τ] (X : Cx) (env : List SV) (tg : Expr) (env' : τ → List SV) (is : List Nat) : Prop := PG X tg (tGt X.K env env' is)
theorem wipe_set {σ : St} {v : Option V} : ∀ {vs : List Nat} {i : Nat}, i ∈ vs → wipe (σ.set i v) vs = wipe σ vs
  | u :: vs, i, h => by
    by_cases hv : i ∈ vs
    · unfold wipe
      rw [wipe_set hv]
    · have e : i = u := by
        rcases List.mem_cons.mp h with e | e
        · exact e
        · exact absurd e hv
      subst e
      unfold wipe
      have aux : ∀ {ws : List Nat} {τ : St}, i ∉ ws → wipe (τ.set i v) ws = (wipe τ ws).set i v := by
        intro ws
        induction ws with
        | nil => intro τ _; rfl
        | cons z zs ih =>
          intro τ hz
          have h1 : i ≠ z := fun e => hz (e ▸ List.mem_cons_self)
          have h2 : i ∉ zs := fun e => hz (List.mem_cons_of_mem _ e)
          unfold wipe
          rw [ih h2, List.set_comm _ _ h1]
      rw [aux hv, List.set_set]
section
variable {X : Cx} {env env' : List SV} {e a b c tg : Expr} {st : Stmt} {body rest : List Stmt} {pos p p2 : Pos} [Em τ] [Em α] [Em β] [Em γ] {N : List Str} {sc : Scope} {fb : Str → Bool} {K : PySem.W.Frag} {mg : Str → Option Value} {P : Program} {w : World} {base : Heap} {k : Nat}
variable {Z : ρ → Wd → Hp → Ends → Prop}
theorem use_w {W0 W : Wd} {σ : St} {m : Option (List τ)} {x : List τ} {R : It → Hp → Prop} (E : EnvR K W0 W env σ) (h : m = some x) (q : ∀ J W', Le W W' → Walk K W0 W' J x → R J W'.h) : tW K env m σ W.h R := ⟨W0, W, rfl, E, x, h, q⟩
/-- a list that stands for good -/
theorem w_x {m : Option (List τ)} (h : XE X env e m) : XWk X env tg e m := by
  refine piImp (pi_list h) fun σ H R ⟨W0, W, hH, E, x, hx, q⟩ => ?_
  subst hH
  refine use_x E hx fun v W1 l1 r1 => ?_
  have r1 : Rp X.K W1.b v (.lst (x.map em)) := r1
  cases r1 with
  | @lst ad vs _ s1 r1 =>
    refine ⟨ad, rfl, ⟨_, l1.ok.seq s1⟩, q _ W1 l1 ⟨fun i y W2 hy sb l0 => ?_, fun W2 sb l0 => ?_⟩⟩
    · obtain ⟨u, h1, h2⟩ := r1.get (show (x.map em)[i]? = some (em y) by rw [List.getElem?_map, hy]; rfl)
      have s2 : SqL X.K W2.h ad vs := l0.ok.seq (sb.seq s1)
      refine ⟨⟨vs, u, s2, h1⟩, fun v' H' ⟨e1, e2⟩ => ?_⟩
      subst e1
      have := e2 _ s2
      rw [h1] at this
      cases this
      exact ⟨W2, Le.refl l0.ok, rfl, h2.mono sb⟩
    · refine ⟨vs, l0.ok.seq (sb.seq s1), ?_⟩
      have := r1.length
      rw [List.length_map] at this
      omega
theorem w_l {m : Option (List τ)} (h : XL X env e m) : XWk X env tg e m := w_x (x_l h)
/-- a list that was handed in -/
theorem w_bor (C : Cf X N sc fb K mg P w base k) (j : Nat) {n : Str} {x : List τ} (he : env[j]? = some (.bor (x.map em)) := by rfl) (hi : N[j]? = some n := by rfl) (hv : visB sc n = true := by decide +kernel)
    (hd : (n == ("__debug__" : Str)) = false := by decide) (hc : (n == ("__classdict__" : Str)) = false := by decide) : XWk X env tg (.Name n pos) (some x) := by
  cases C
  refine piImp (pi_list (pe_var hi (visB_ok hv) hd hc)) fun σ H R ⟨W0, W, hH, E, y, hy, q⟩ => ?_
  subst hH
  cases hy
  obtain ⟨o, h1, ad, vs, e1, s1, r1⟩ := E.slot j _ he
  subst e1
  refine ⟨_, h1, ad, rfl, ⟨vs, E.le.h.seq s1⟩, q _ W (Le.refl E.ok) ⟨fun i y W2 hy sb l0 => ?_, fun W2 sb l0 => ?_⟩⟩
  · obtain ⟨u, h1, h2⟩ := r1.get (show (x.map em)[i]? = some (em y) by rw [List.getElem?_map, hy]; rfl)
    have s2 : SqL X.K W2.h ad vs := l0.h.seq s1
    refine ⟨⟨vs, u, s2, h1⟩, fun v' H' ⟨e1, e2⟩ => ?_⟩
    subst e1
    have := e2 _ s2
    rw [h1] at this
    cases this
    exact ⟨W2, Le.refl l0.ok, rfl, h2.mono l0.b⟩
  · refine ⟨vs, l0.h.seq s1, ?_⟩
    have := r1.length
    rw [List.length_map] at this
    omega
theorem w_tup {m : Option (Vt τ)} (h : XE X env e m) : XWk X env tg e (m.bind fun t => some t.l) := by
  refine piImp (pi_tup h) fun σ H R ⟨W0, W, hH, E, x, hx, q⟩ => ?_
  subst hH
  obtain ⟨x', hx', hx⟩ := bind_some hx
  cases hx
  refine use_x E hx' fun v W1 l1 r1 => ?_
  have r1 : Rp X.K W1.b v (.tup (x'.l.map em)) := r1
  cases r1 with
  | @tup ad vs _ s1 r1 =>
    refine ⟨ad, rfl, ⟨_, same_t l1.ok s1⟩, q _ W1 l1 ⟨fun i y W2 hy sb l0 => ?_, fun W2 sb l0 => ?_⟩⟩
    · obtain ⟨u, h1, h2⟩ := r1.get (show (x'.l.map em)[i]? = some (em y) by rw [List.getElem?_map, hy]; rfl)
      have s2 : SqT X.K W2.h ad vs := same_t l0.ok (same_t sb s1)
      refine ⟨⟨vs, u, s2, h1⟩, fun v' H' ⟨e1, e2⟩ => ?_⟩
      subst e1
      have := e2 _ s2
      rw [h1] at this
      cases this
      exact ⟨W2, Le.refl l0.ok, rfl, h2.mono sb⟩
    · refine ⟨vs, same_t l0.ok (same_t sb s1), ?_⟩
      have := r1.length
      rw [List.length_map] at this
      omega
/-- the signs of a text -/
def signs (s : Str) : List Str := s.cps.toList.map fun c => ⟨#[c]⟩
theorem w_str {m : Option Str} (h : XE X env e m) : XWk X env tg e (m.bind fun s => some (signs s)) := by
  refine piImp (pi_str h) fun σ H R ⟨W0, W, hH, E, x, hx, q⟩ => ?_
  subst hH
  obtain ⟨s, hs, hx⟩ := bind_some hx
  cases hx
  refine use_x E hs fun v W1 l1 r1 => ?_
  cases r1
  refine ⟨s, rfl, q _ W1 l1 ⟨fun i y W2 hy sb l0 => ?_, fun W2 sb l0 => ?_⟩⟩
  · unfold signs at hy
    rw [List.getElem?_map] at hy
    cases hc : s.cps.toList[i]? with
    | none => rw [hc] at hy; cases hy
    | some cc =>
      rw [hc] at hy
      cases hy
      have hi : i < s.cps.size := by have := (List.getElem?_eq_some_iff.mp hc).1; simpa using this
      refine ⟨hi, fun v' H' ⟨e1, c', e2, e3⟩ => ?_⟩
      subst e1 e3
      have : c' = cc := by
        have h2 : s.cps.toList[i]? = some c' := by simpa using e2
        rw [hc] at h2; cases h2; rfl
      subst this
      exact ⟨W2, Le.refl l0.ok, rfl, .str _⟩
  · show s.cps.size ≤ (signs s).length
    unfold signs
    simp
/-- lo, lo + 1, .. -/
def rng (lo hi : Int) : List Int := (List.range (hi - lo).toNat).map fun (i : Nat) => lo + (i : Int)
def rngP (lo hi : Int) : Option (List Int) := if -4611686018427387904 ≤ lo ∧ lo < 4611686018427387904 ∧ -4611686018427387904 ≤ hi ∧ hi < 4611686018427387904 then some (rng lo hi) else none
theorem rng_get {lo hi : Int} {i : Nat} {y : Int} (h : (rng lo hi)[i]? = some y) : i < (hi - lo).toNat ∧ y = lo + i := by
  unfold rng at h
  rw [List.getElem?_map] at h
  cases hc : (List.range (hi - lo).toNat)[i]? with
  | none => rw [hc] at h; cases h
  | some j =>
    rw [hc] at h
    cases h
    obtain ⟨h1, h2⟩ := List.getElem?_eq_some_iff.mp hc
    rw [List.getElem_range] at h2
    subst h2
    exact ⟨by simpa using h1, rfl⟩
theorem walk_rng {W0 W1 : Wd} {lo hi : Int} : Walk (τ := Int) K W0 W1 (Itr lo (hi - lo).toNat) (rng lo hi) where
  item := fun i y W2 hy sb l0 => by
    obtain ⟨h1, rfl⟩ := rng_get hy
    exact ⟨h1, fun v H' ⟨e1, e2⟩ => ⟨W2, Le.refl l0.ok, e1.symm, e2 ▸ .int _⟩⟩
  stop := fun W2 sb l0 => by show (hi - lo).toNat ≤ (rng lo hi).length; unfold rng; simp
theorem w_rng1 (C : Cf X N sc fb K mg P w base k) {m : Option Int} (h : XE X env a m) (hm : mg "range" = none) (hg : glbB sc "range" = true := by decide +kernel)
    (hst : starEach [a] X.env = (false, eval a X.env) :: starEach [] X.env := by rfl) (hs : starEach [a] X.env = [(false, eval a X.env)] := by rfl) :
    XWk X env tg (.Call (.Name "range" p) [a] [] pos) (m.bind fun n => rngP 0 n) := by
  cases C
  refine piImp (pi_range1 (glbB_ok hg) hm (a_dat h a_nil hst) hs) fun σ H R ⟨W0, W, hH, E, x, hx, q⟩ => ?_
  subst hH
  obtain ⟨n, hn, hx⟩ := bind_some hx
  unfold rngP at hx
  split at hx
  · rename_i hr
    cases hx
    refine use_a E (x := (n, ())) (by rw [hn]; rfl) fun vs W1 l1 r1 => ?_
    cases r1 with
    | dat r1 r2 =>
      cases r2
      cases r1
      refine ⟨n, rfl, by omega, by omega, ?_⟩
      have := q (Itr 0 (n - 0).toNat) W1 l1 walk_rng
      simpa using this
  · cases hx
theorem w_rng2 (C : Cf X N sc fb K mg P w base k) {ma mb : Option Int} (h : XE X env a ma) (h' : XE X env b mb) (hm : mg "range" = none) (hg : glbB sc "range" = true := by decide +kernel)
    (hs : starEach [a, b] X.env = [(false, eval a X.env), (false, eval b X.env)] := by rfl) (hs2 : starEach [b] X.env = [(false, eval b X.env)] := by rfl)
    (h1 : starEach [a, b] X.env = (false, eval a X.env) :: starEach [b] X.env := by rfl) (h2 : starEach [b] X.env = (false, eval b X.env) :: starEach [] X.env := by rfl) :
    XWk X env tg (.Call (.Name "range" p) [a, b] [] pos) (ma.bind fun m => mb.bind fun n => rngP m n) := by
  cases C
  refine piImp (pi_range2 (glbB_ok hg) hm (a_dat h (a_dat h' a_nil h2) h1) hs hs2) fun σ H R ⟨W0, W, hH, E, x, hx, q⟩ => ?_
  subst hH
  obtain ⟨m, hm, hx⟩ := bind_some hx
  obtain ⟨n, hn, hx⟩ := bind_some hx
  unfold rngP at hx
  split at hx
  · rename_i hr
    cases hx
    refine use_a E (x := (m, n, ())) (by rw [hm, hn]; rfl) fun vs W1 l1 r1 => ?_
    cases r1 with
    | dat r1 r2 =>
      cases r2 with
      | dat r2 r3 =>
        cases r3
        cases r1
        cases r2
        exact ⟨m, n, rfl, ⟨by omega, by omega, by omega, by omega⟩, q (Itr m (n - m).toNat) W1 l1 walk_rng⟩
  · cases hx
/-- zip of two lists -/
theorem w_zip (C : Cf X N sc fb K mg P w base k) {elts : List Expr} {kk : Nat} {tpos : Pos} {ma : Option (List α)} {mb : Option (List β)} (h : XE X env a ma) (h' : XE X env b mb) (hm : mg "zip" = none) (hg : glbB sc "zip" = true := by decide +kernel)
    (h1 : starEach [a, b] X.env = (false, eval a X.env) :: starEach [b] X.env := by rfl) (h2 : starEach [b] X.env = (false, eval b X.env) :: starEach [] X.env := by rfl) (hpl : (backTo pos (starEach [b] X.env)).any (·.1) = false := by rfl) :
    XWk X env (.Tuple elts kk tpos) (.Call (.Name "zip" p) [a, b] [] pos) (ma.bind fun x => mb.bind fun y => some (x.zip y)) := by
  cases C
  refine piImp (pi_zip (glbB_ok hg) hm (a_dat h (a_dat h' a_nil h2) h1) h1 hpl) fun σ H R ⟨W0, W, hH, E, x, hx, q⟩ => ?_
  subst hH
  obtain ⟨xs, hxs, hx⟩ := bind_some hx
  obtain ⟨ys, hys, hx⟩ := bind_some hx
  cases hx
  refine use_a E (x := (xs, ys, ())) (by rw [hxs, hys]; rfl) fun vs W1 l1 r1 => ?_
  cases r1 with
  | dat r1 r2 =>
    cases r2 with
    | dat r2 r3 =>
      cases r3
      have r1 : Rp X.K W1.b _ (.lst (xs.map em)) := r1
      have r2 : Rp X.K W1.b _ (.lst (ys.map em)) := r2
      cases r1 with
      | lst s1 r1 =>
        cases r2 with
        | lst s2 r2 =>
          refine ⟨_, _, _, _, rfl, l1.ok.seq s1, l1.ok.seq s2, q _ W1 l1 ⟨fun i z W2 hz sb l0 => ?_, fun W2 sb l0 => ?_⟩⟩
          · have hz := List.getElem?_zip_eq_some.mp hz
            obtain ⟨u, g1, g2⟩ := r1.get (show (xs.map em)[i]? = some (em z.1) by rw [List.getElem?_map, hz.1]; rfl)
            obtain ⟨v, g3, g4⟩ := r2.get (show (ys.map em)[i]? = some (em z.2) by rw [List.getElem?_map, hz.2]; rfl)
            have q1 := l0.ok.seq (sb.seq s1)
            have q2 := l0.ok.seq (sb.seq s2)
            refine ⟨⟨_, _, u, v, q1, q2, g1, g3⟩, fun v' H' ⟨T, x', y', e1, e2, e3, e4, e5⟩ => ?_⟩
            have e4 := e4 _ q1
            have e5 := e5 _ q2
            rw [g1] at e4
            rw [g3] at e5
            cases e4; cases e5
            subst e1 e3
            have sbT : Same W2.b (upd W2.b T (.tup [u, v])) := Same.new (l0.ok.free e2)
            refine ⟨_, Le.lay l0.ok (o := .tup [u, v]) e2, rfl, ?_⟩
            exact .tup (SqT.of upd_same) (.cons ((g2.mono sb).mono sbT) (.cons ((g4.mono sb).mono sbT) .nil))
          · refine ⟨_, _, l0.ok.seq (sb.seq s1), l0.ok.seq (sb.seq s2), ?_⟩
            have h1 := r1.length
            have h2 := r2.length
            rw [List.length_map] at h1 h2
            rw [List.length_zip]
            omega
/-! ### targets -/
theorem gt_name (C : Cf X N sc fb K mg P w base k) (i : Nat) {n : Str} (hi : N[i]? = some n := by rfl) (hl : locB sc fb n = true := by decide +kernel) : XG (τ := τ) X env (.Name n pos) (fun x => env.set i (.dat (em x))) [i] := by
  cases C with
  | mk nd calm po rm =>
    refine pgImp (pg_name nd hi (locB_ok hl) (locB_fn hl)) fun v σ H Q ⟨W0, W, x, hH, E, r, q⟩ => ?_
    · subst hH
      exact q _ (E.putD r) fun vs h => wipe_set (h i (by simp))
/-- several names, one after another -/
def tGs (K : PySem.W.Frag) (env : List SV) (ds : δ → List D) (env' : δ → List SV) (is : List Nat) : TGs := fun vs σ H Q =>
  ∃ (W0 W : Wd) (x : δ), W.h = H ∧ EnvR K W0 W env σ ∧ RpA K W.b vs (ds x) ∧ ∀ σ', EnvR K W0 W (env' x) σ' → (∀ ws : List Nat, (∀ i ∈ is, i ∈ ws) → wipe σ' ws = wipe σ ws) → Q σ' W.h
theorem gs_nil : PGs X [] (tGs X.K env (fun _ : Unit => []) (fun _ => env) []) := ⟨fun pins s σ H vs us Q I r ⟨W0, W, x, hH, E, ra, q⟩ => by
  subst hH
  cases ra
  exact pgs_nil.run pins s σ _ [] us Q I r ⟨rfl, q σ E fun _ _ => rfl⟩⟩
theorem pgEx {ι : Type} {t : ι → TG} (h : ∀ i, PG X tg (t i)) : PG X tg (fun v σ H Q => ∃ i, t i v σ H Q) := ⟨fun pins s σ H v u Q I r ⟨i, q⟩ => (h i).run pins s σ H v u Q I r q⟩
theorem pgsEx {ι : Type} {tgs : List Expr} {t : ι → TGs} (h : ∀ i, PGs X tgs (t i)) : PGs X tgs (fun v σ H Q => ∃ i, t i v σ H Q) := ⟨fun pins s σ H v u Q I r ⟨i, q⟩ => (h i).run pins s σ H v u Q I r q⟩
theorem gs_cons {es : List Expr} {envX : τ → List SV} {is js : List Nat} {ds : δ → List D} {env' : τ → δ → List SV} (h1 : XG X env e envX is) (h2 : ∀ x, PGs X es (tGs X.K (envX x) ds (env' x) js))
    (hs : (assignEach (e :: es) X.env).map (·.2) = assign e X.env :: (assignEach es X.env).map (·.2) := by rfl) : PGs X (e :: es) (tGs X.K env (fun p : τ × δ => em p.1 :: ds p.2) (fun p => env' p.1 p.2) (is ++ js)) :=
  ⟨fun pins s σ H vs us Q I r ⟨W0, W, x, hH, E, ra, q⟩ => by
    subst hH
    cases ra with
    | cons r1 r2 =>
      refine (pgs_cons h1 (pgsEx h2) hs).run pins s σ _ _ us Q I r ⟨_, _, rfl, W0, W, x.1, rfl, E, r1, fun σ' E' hw => ⟨x.1, W0, W, x.2, rfl, E', r2, fun σ2 E2 hw2 => q σ2 E2 fun ws hws => ?_⟩⟩
      rw [hw2 ws fun i hi => hws i (List.mem_append_right _ hi), hw ws fun i hi => hws i (List.mem_append_left _ hi)]⟩
theorem gt_tup (C : Cf X N sc fb K mg P w base k) {es : List Expr} {kk n : Nat} {ds : δ → List D} {env' : δ → List SV} {is : List Nat} {f : τ → δ} (h : PGs X es (tGs X.K env ds env' is)) (hf : ∀ x : τ, em x = .tup (ds (f x))) (hl : ∀ x, (ds x).length = n)
    (hn : (assignEach es X.env).length = n := by rfl) (hst : (assignEach es X.env).findIdx? (·.1) = none := by rfl) : XG X env (.Tuple es kk pos) (fun x : τ => env' (f x)) is := by
  cases C with
  | mk nd calm po rm =>
    refine pgImp (pg_tup calm h hn hst) fun v σ H Q ⟨W0, W, x, hH, E, r, q⟩ => ?_
    subst hH
    rw [hf] at r
    cases r with
    | tup s1 r1 => exact ⟨_, _, rfl, same_t E.ok s1, by rw [r1.length, hl], W0, W, f x, rfl, E, r1, q⟩
theorem gt_pair (C : Cf X N sc fb K mg P w base k) (i j : Nat) {n m : Str} {kk : Nat} {p1 : Pos} (hi : N[i]? = some n := by rfl) (hl : locB sc fb n = true := by decide +kernel) (hj : N[j]? = some m := by rfl) (hl' : locB sc fb m = true := by decide +kernel)
    (hn : ∀ E : Env, (assignEach [.Name n p1, .Name m p2] E).length = 2 := by intro _; rfl) (hst : ∀ E : Env, (assignEach [.Name n p1, .Name m p2] E).findIdx? (·.1) = none := by intro _; rfl)
    (h1 : ∀ E : Env, (assignEach [.Name n p1, .Name m p2] E).map (·.2) = assign (.Name n p1) E :: (assignEach [.Name m p2] E).map (·.2) := by intro _; rfl)
    (h2 : ∀ E : Env, (assignEach [.Name m p2] E).map (·.2) = assign (.Name m p2) E :: (assignEach ([] : List Expr) E).map (·.2) := by intro _; rfl) :
    XG (τ := α × β) X env (.Tuple [.Name n p1, .Name m p2] kk pos) (fun x => (env.set i (.dat (em x.1))).set j (.dat (em x.2))) [i, j] :=
  gt_tup (τ := α × β) (δ := α × β × Unit) (f := fun x : α × β => (x.1, x.2, ())) C (gs_cons (gt_name C i hi hl) (fun x => gs_cons (gt_name C j hj hl') (fun y => gs_nil) (h2 _)) (h1 _)) (fun x => rfl) (fun _ => rfl) (hn _) (hst _)
/-! ### loops -/
def foldO (f : S → α → Option S) : S → List α → Option S
  | s, [] => some s
  | s, x :: xs => (f s x).bind fun s' => foldO f s' xs
inductive Lp (ρ S : Type) where
  | ret (r : ρ)
  | fin (s : S)
def Lp.go (φ : α → ρ) (kk : S → Option ρ) : Lp α S → Option ρ
  | .ret r => some (φ r)
  | .fin s => kk s
def loopO (f : S → α → Option (Fl ρ S S)) : S → List α → Option (Lp ρ S)
  | s, [] => some (.fin s)
  | s, x :: xs => (f s x).bind fun o => match o with
    | .nx s' => loopO f s' xs
    | .ct s' => loopO f s' xs
    | .bk s' => some (.fin s')
    | .rt r => some (.ret r)
theorem drop_cons {xs : List α} {i : Nat} (h : i < xs.length) : xs.drop i = xs[i] :: xs.drop (i + 1) := List.drop_eq_getElem_cons h
theorem g_for {mxs : Option (List τ)} {envL : S → List SV} {envX : S → τ → List SV} {is : List Nat} {f : S → τ → Option S} {s0 : S} {kk : S → Option ρ} (C : Cf X N sc fb K mg P w base k) (hi : XWk X env tg e mxs) (hg : ∀ s, XG X (envL s) tg (envX s) is)
    (h0 : EnvLe env (envL s0)) (hb : ∀ s x, GS X (envX s x) body (f s x) (ZN X.K envL)) (hr : ∀ s, GS X (envL s) rest (kk s) Z) (hf : ∀ E : Env, ∀ x, foldedSetIterable e E x = pure x := by intro _ _; rfl) :
    GS X env (.For tg e body [] pos :: rest) (mxs.bind fun xs => (foldO f s0 xs).bind kk) Z := by
  cases C with
  | mk nd calm po rm =>
    refine g_of (ps_for po calm hi (pgEx hg) (pssEx (ι := S × τ) fun q => hb q.1 q.2) (hf _)) hr fun W0 W B' σ D r E sb0 hm z => ?_
    obtain ⟨xs, hxs, hm⟩ := bind_some hm
    obtain ⟨sf, hsf, hm⟩ := bind_some hm
    refine use_w E hxs fun J W1 l1 wk => ?_
    have E1 := (E.mono l1).weak h0
    refine ⟨fun i n σ' H' => ∃ W2 s, W2.h = H' ∧ Same W1.b W2.b ∧ EnvR X.K W0 W2 (envL s) σ' ∧ foldO f s (xs.drop i) = some sf ∧ n = xs.length - i ∧ i ≤ xs.length, ⟨xs.length, W1, s0, rfl, Same.refl _, E1, hsf, rfl, Nat.zero_le _⟩, ?_⟩
    rintro i n σ' H' ⟨W2, s, rfl, sb, E2, hs, rfl, hle⟩
    by_cases hlt : i < xs.length
    · have hx : xs[i]? = some xs[i] := by simp [hlt]
      obtain ⟨g1, g2⟩ := wk.item i _ W2 hx sb E2.le
      rw [drop_cons hlt] at hs
      obtain ⟨s', hs1, hs2⟩ := bind_some hs
      refine .inr ⟨g1, fun σ3 H3 => ∃ W3, W3.h = H3 ∧ Same W1.b W3.b ∧ EnvR X.K W0 W3 (envL s') σ3, ?_, ?_⟩
      · rintro σ3 H3 ⟨W3, rfl, sb3, E3⟩
        exact ⟨xs.length - (i + 1), by omega, W3, s', rfl, sb3, E3, hs2, rfl, hlt⟩
      · intro v H3 hy
        obtain ⟨W3, l3, rfl, r3⟩ := g2 v H3 hy
        refine ⟨s, W0, W3, xs[i], rfl, E2.mono l3, r3, fun σ4 E4 _ => ⟨(s, xs[i]), ?_⟩⟩
        exact use_g (B := W1.b) E4 (sb.trans l3.b) hs1 fun W5 σ5 sb5 E5 => ⟨W5, rfl, sb5, E5⟩
    · have hi : i = xs.length := by omega
      subst hi
      rw [List.drop_length] at hs
      cases hs
      exact .inl ⟨wk.stop W2 sb E2.le, sf, use_g E2 ((sb0.trans l1.b).trans sb) hm z⟩
/-- .. that may be left, or return -/
theorem g_forF {mxs : Option (List τ)} {envL : S → List SV} {envX : S → τ → List SV} {is : List Nat} {res : α → RV} {f : S → τ → Option (Fl α S S)} {s0 : S} {φ : α → ρ} {kk : S → Option ρ} (C : Cf X N sc fb K mg P w base k) (hi : XWk X env tg e mxs) (hg : ∀ s, XG X (envL s) tg (envX s) is)
    (h0 : EnvLe env (envL s0)) (hb : ∀ s x, GS X (envX s x) body (f s x) (ZF X.K res envL envL)) (hz : ∀ r W0 B D, Z (φ r) W0 B D → ZR X.K res r W0 B D) (hr : ∀ s, GS X (envL s) rest (kk s) Z) (hf : ∀ E : Env, ∀ x, foldedSetIterable e E x = pure x := by intro _ _; rfl) :
    GS X env (.For tg e body [] pos :: rest) (mxs.bind fun xs => (loopO f s0 xs).bind (Lp.go φ kk)) Z := by
  cases C with
  | mk nd calm po rm =>
    refine g_of (ps_for po calm hi (pgEx hg) (pssEx (ι := S × τ) fun q => hb q.1 q.2) (hf _)) hr fun W0 W B' σ D r E sb0 hm z => ?_
    obtain ⟨xs, hxs, hm⟩ := bind_some hm
    obtain ⟨o, ho, hm⟩ := bind_some hm
    refine use_w E hxs fun J W1 l1 wk => ?_
    have E1 := (E.mono l1).weak h0
    refine ⟨fun i n σ' H' => ∃ W2 s, W2.h = H' ∧ Same W1.b W2.b ∧ EnvR X.K W0 W2 (envL s) σ' ∧ loopO f s (xs.drop i) = some o ∧ n = xs.length - i ∧ i ≤ xs.length, ⟨xs.length, W1, s0, rfl, Same.refl _, E1, ho, rfl, Nat.zero_le _⟩, ?_⟩
    rintro i n σ' H' ⟨W2, s, rfl, sb, E2, hs, rfl, hle⟩
    by_cases hlt : i < xs.length
    · have hx : xs[i]? = some xs[i] := by simp [hlt]
      obtain ⟨g1, g2⟩ := wk.item i _ W2 hx sb E2.le
      rw [drop_cons hlt] at hs
      obtain ⟨q, hs1, hs2⟩ := bind_some hs
      refine .inr ⟨g1, fun σ3 H3 => ∃ W3 s', W3.h = H3 ∧ Same W1.b W3.b ∧ EnvR X.K W0 W3 (envL s') σ3 ∧ loopO f s' (xs.drop (i + 1)) = some o, ?_, ?_⟩
      · rintro σ3 H3 ⟨W3, s', rfl, sb3, E3, h3⟩
        exact ⟨xs.length - (i + 1), by omega, W3, s', rfl, sb3, E3, h3, rfl, hlt⟩
      · intro v H3 hy
        obtain ⟨W3, l3, rfl, r3⟩ := g2 v H3 hy
        refine ⟨s, W0, W3, xs[i], rfl, E2.mono l3, r3, fun σ4 E4 _ => ⟨(s, xs[i]), ?_⟩⟩
        refine use_g (B := W1.b) E4 (sb.trans l3.b) hs1 ?_
        cases q with
        | nx s' => exact fun W5 σ5 sb5 E5 => ⟨W5, s', rfl, sb5, E5, hs2⟩
        | ct s' => exact fun W5 σ5 sb5 E5 => ⟨W5, s', rfl, sb5, E5, hs2⟩
        | bk s' =>
          cases hs2
          exact fun W5 σ5 sb5 E5 => ⟨s', use_g E5 ((sb0.trans l1.b).trans sb5) hm z⟩
        | rt r' =>
          cases hs2
          cases hm
          exact fun v W5 l5 r5 => hz r' W0 B' D z v W5 l5 r5
    · have hi : i = xs.length := by omega
      subst hi
      rw [List.drop_length] at hs
      cases hs
      exact .inl ⟨wk.stop W2 sb E2.le, s, use_g E2 ((sb0.trans l1.b).trans sb) hm z⟩
/-! ### while: n turns at most -/
def whileO (c : S → Option Bool) (f : S → Option S) : Nat → S → Option S
  | 0, _ => none
  | n + 1, s => (c s).bind fun b => if b = true then (f s).bind fun s' => whileO c f n s' else some s
def whileF (c : S → Option Bool) (f : S → Option (Fl ρ S S)) : Nat → S → Option (Lp ρ S)
  | 0, _ => none
  | n + 1, s => (c s).bind fun b => if b = true then (f s).bind fun o => match o with
      | .nx s' => whileF c f n s'
      | .ct s' => whileF c f n s'
      | .bk s' => some (.fin s')
      | .rt r => some (.ret r)
    else some (.fin s)
theorem g_while {envL : S → List SV} {c' : S → Option Bool} {f : S → Option S} {n : Nat} {s0 : S} {kk : S → Option ρ} (C : Cf X N sc fb K mg P w base k) (hc : ∀ s, XT X (envL s) c (c' s))
    (h0 : EnvLe env (envL s0)) (hb : ∀ s, GS X (envL s) body (f s) (ZN X.K envL)) (hr : ∀ s, GS X (envL s) rest (kk s) Z) :
    GS X env (.While c body [] pos :: rest) ((whileO c' f n s0).bind kk) Z := by
  cases C with
  | mk nd calm po rm =>
    refine g_of (ps_while po (ptEx hc) (pssEx hb)) hr fun W0 W B' σ D r E sb0 hm z => ?_
    obtain ⟨sf, hsf, hm⟩ := bind_some hm
    refine ⟨fun i σ' H' => ∃ W2 s, W2.h = H' ∧ Same B' W2.b ∧ EnvR X.K W0 W2 (envL s) σ' ∧ whileO c' f i s = some sf, ⟨n, W, s0, rfl, sb0, E.weak h0, hsf⟩, ?_⟩
    rintro i σ' H' ⟨W2, s, rfl, sb, E2, hs⟩
    cases i with
    | zero => cases hs
    | succ i =>
      obtain ⟨b, hb1, hs⟩ := bind_some hs
      refine ⟨s, use_t E2 hb1 fun W3 l3 => ?_⟩
      cases b with
      | true =>
        obtain ⟨s', h1, h2⟩ := bind_some (show (f s).bind (fun s' => whileO c' f i s') = some sf by simpa using hs)
        rw [if_pos rfl]
        refine ⟨fun σ3 H3 => ∃ W4, W4.h = H3 ∧ Same B' W4.b ∧ EnvR X.K W0 W4 (envL s') σ3, ?_, s, ?_⟩
        · rintro σ3 H3 ⟨W4, rfl, sb4, E4⟩
          exact ⟨i, Nat.lt_succ_self _, W4, s', rfl, sb4, E4, h2⟩
        · exact use_g (E2.mono l3) (sb.trans l3.b) h1 fun W5 σ5 sb5 E5 => ⟨W5, rfl, sb5, E5⟩
      | false =>
        rw [if_neg Bool.false_ne_true]
        have e : s = sf := Option.some.inj (by simpa using hs)
        subst e
        exact ⟨s, use_g (E2.mono l3) (sb.trans l3.b) hm z⟩
theorem g_whileF {envL : S → List SV} {c' : S → Option Bool} {res : α → RV} {f : S → Option (Fl α S S)} {n : Nat} {s0 : S} {φ : α → ρ} {kk : S → Option ρ} (C : Cf X N sc fb K mg P w base k) (hc : ∀ s, XT X (envL s) c (c' s))
    (h0 : EnvLe env (envL s0)) (hb : ∀ s, GS X (envL s) body (f s) (ZF X.K res envL envL)) (hz : ∀ r W0 B D, Z (φ r) W0 B D → ZR X.K res r W0 B D) (hr : ∀ s, GS X (envL s) rest (kk s) Z) :
    GS X env (.While c body [] pos :: rest) ((whileF c' f n s0).bind (Lp.go φ kk)) Z := by
  cases C with
  | mk nd calm po rm =>
    refine g_of (ps_while po (ptEx hc) (pssEx hb)) hr fun W0 W B' σ D r E sb0 hm z => ?_
    obtain ⟨o, ho, hm⟩ := bind_some hm
    refine ⟨fun i σ' H' => ∃ W2 s, W2.h = H' ∧ Same B' W2.b ∧ EnvR X.K W0 W2 (envL s) σ' ∧ whileF c' f i s = some o, ⟨n, W, s0, rfl, sb0, E.weak h0, ho⟩, ?_⟩
    rintro i σ' H' ⟨W2, s, rfl, sb, E2, hs⟩
    cases i with
    | zero => cases hs
    | succ i =>
      obtain ⟨b, hb1, hs⟩ := bind_some hs
      refine ⟨s, use_t E2 hb1 fun W3 l3 => ?_⟩
      cases b with
      | true =>
        rw [if_pos rfl] at hs
        obtain ⟨q, h1, h2⟩ := bind_some hs
        rw [if_pos rfl]
        refine ⟨fun σ3 H3 => ∃ W4 s', W4.h = H3 ∧ Same B' W4.b ∧ EnvR X.K W0 W4 (envL s') σ3 ∧ whileF c' f i s' = some o, ?_, s, ?_⟩
        · rintro σ3 H3 ⟨W4, s', rfl, sb4, E4, h4⟩
          exact ⟨i, Nat.lt_succ_self _, W4, s', rfl, sb4, E4, h4⟩
        · refine use_g (E2.mono l3) (sb.trans l3.b) h1 ?_
          cases q with
          | nx s' => exact fun W5 σ5 sb5 E5 => ⟨W5, s', rfl, sb5, E5, h2⟩
          | ct s' => exact fun W5 σ5 sb5 E5 => ⟨W5, s', rfl, sb5, E5, h2⟩
          | bk s' =>
            cases h2
            exact fun W5 σ5 sb5 E5 => ⟨s', use_g E5 sb5 hm z⟩
          | rt r' =>
            cases h2
            cases hm
            exact fun v W5 l5 r5 => hz r' W0 B' D z v W5 l5 r5
      | false =>
        rw [if_neg Bool.false_ne_true] at hs
        rw [if_neg Bool.false_ne_true]
        cases hs
        exact ⟨s, use_g (E2.mono l3) (sb.trans l3.b) hm z⟩
/-! ### list comprehensions -/
def lcO (c : α → Option Bool) (f : α → Option β) : List α → Option (List β)
  | [] => some []
  | x :: xs => (c x).bind fun b => if b = true then (f x).bind fun y => (lcO c f xs).bind fun ys => some (y :: ys) else lcO c f xs
def mapO (f : α → Option β) : List α → Option (List β)
  | [] => some []
  | x :: xs => (f x).bind fun y => (mapO f xs).bind fun ys => some (y :: ys)
def lcC (c : α → Option Bool) (f : α → Option β) (xs : List α) : Option (List β) := if sz xs.length then lcO c f xs else none
def mapC (f : α → Option β) (xs : List α) : Option (List β) := if sz xs.length then mapO f xs else none
theorem lcO_true {f : α → Option β} : ∀ xs : List α, lcO (fun _ => some true) f xs = mapO f xs
  | [] => rfl
  | x :: xs => by
    show (some true).bind _ = _
    rw [Option.bind_some, if_pos rfl]
    show (f x).bind _ = (f x).bind _
    rw [lcO_true xs]
theorem EnvR.wipe {W0 W : Wd} {σ : St} (E : EnvR K W0 W env σ) {vs : List Nat} (h : ∀ i ∈ vs, env[i]? = some .any) : EnvR K W0 W env (wipe σ vs) := by
  refine ⟨E.le, by rw [wipe_length]; exact E.len, fun i sv e => ?_, fun i j di dj n e1 e2 => ?_⟩
  · by_cases hi : i ∈ vs
    · rw [h i hi] at e
      cases e
      have hlt : i < (L2.wipe σ vs).length := by rw [wipe_length, E.len]; exact (List.getElem?_eq_some_iff.mp (h i hi)).1
      exact ⟨_, List.getElem?_eq_some_iff.mpr ⟨hlt, rfl⟩, trivial⟩
    · rw [wipe_out hi]
      exact E.slot i sv e
  · have hi : i ∉ vs := fun z => by rw [h i z] at e1; cases e1
    have hj : j ∉ vs := fun z => by rw [h j z] at e2; cases e2
    rw [wipe_out hi, wipe_out hj]
    exact E.apart i j di dj n e1 e2
/-- the place of a comprehension's block -/
theorem Cf.blk (C : Cf X N sc fb K mg P w base k) (s : Shared) (H : Hp) (scope : Scope) (cl : List (Str × Addr)) (C' : Addr) (fp : List Addr) :
    Cf (X.blk s H scope (compEnvC scope cl C' X.env) fp) N (relS scope sc) (fun x => scope.names.lookup x == some .cell) K mg P w base k := by
  cases C with
  | mk nd calm po rm =>
    exact Cf.mk (X := X.blk s H scope (compEnvC scope cl C' X.env) fp) nd calm PassesOwn.never rm
end
end T

set_option Elab.async false
set_option linter.all false
set_option maxRecDepth 100000
set_option maxHeartbeats 4000000
namespace T
open PySem PySem.Spec PyProof.Rows L2
variable {τ α β γ δ ρ B S ι : Type}
section
variable {X : Cx} {env env' : List SV} {e a b c tg iter elt : Expr} {st : Stmt} {es : List Expr} {body rest : List Stmt} {pos p p2 : Pos} [Em τ] [Em α] [Em β] [Em γ] {N : List Str} {sc : Scope} {fb : Str → Bool} {K : PySem.W.Frag} {mg : Str → Option Value} {P : Program} {w : World} {base : Heap} {k : Nat}
/-! ### list comprehensions -/
theorem lc_read {own : List (Str × Nat)} {mxs : Option (List α)} {envC : List SV} {envX : α → List SV} {is : List Nat} {c' : α → Option Bool} {f : α → Option β} (hw : ∀ i ∈ own.map (·.2), envC[i]? = some .any) (h0 : EnvLe env envC) (his : ∀ i ∈ is, i ∈ own.map (·.2)) :
    ∀ (σ : St) (H : Hp) (Q : VK), tL K env (mxs.bind fun xs => lcC c' f xs) σ H Q →
      tLc (tW K env mxs) (tGt K envC envX is) (fun σ H Q => ∃ x, tC' K (envX x) (c' x) σ H Q) (fun σ H Q => ∃ x, tX K (envX x) (f x) σ H Q) (own.map (·.2)) σ H Q := by
  intro σ H Q ⟨W0, W, hH, E, ys, hy, q⟩
  subst hH
  obtain ⟨xs, hxs, hy⟩ := bind_some hy
  unfold lcC at hy
  split at hy
  · rename_i hsz
    refine use_w E hxs fun J W1 l1 wk D0 hD => ?_
    have E1 := (E.mono l1).weak h0
    refine ⟨fun i m H => ∃ (W2 : Wd) (acc : List V) (dn rs : List β), W2.h = H ∧ Le W1 W2 ∧ W2.h D0 = some (.lst acc) ∧ W2.b D0 = none ∧ RpA K W2.b acc (dn.map em) ∧ lcO c' f (xs.drop i) = some rs ∧ ys = dn ++ rs ∧ dn.length ≤ i ∧ i ≤ xs.length ∧ m = xs.length - i,
      ⟨xs.length, ⟨W1.b, upd W1.h D0 (.lst [])⟩, [], [], ys, rfl, Le.layM l1.ok hD, upd_same, l1.ok.free hD, .nil, hy, rfl, Nat.le_refl _, Nat.zero_le _, rfl⟩, ?_⟩
    rintro i m H ⟨W2, acc, dn, rs, rfl, l2, d1, d2, ra, hl, hys, hdl, hle, rfl⟩
    by_cases hlt : i < xs.length
    · have hx : xs[i]? = some xs[i] := by simp [hlt]
      obtain ⟨g1, g2⟩ := wk.item i _ W2 hx l2.b (E1.le.trans l2)
      rw [drop_cons hlt] at hl
      obtain ⟨bb, hb1, hl⟩ := bind_some hl
      refine .inr ⟨g1, fun H' => ∃ (W3 : Wd) (acc' : List V) (dn' rs' : List β), W3.h = H' ∧ Le W1 W3 ∧ W3.h D0 = some (.lst acc') ∧ W3.b D0 = none ∧ RpA K W3.b acc' (dn'.map em) ∧ lcO c' f (xs.drop (i + 1)) = some rs' ∧ ys = dn' ++ rs' ∧ dn'.length ≤ i + 1, ?_, ?_⟩
      · rintro H' ⟨W3, acc', dn', rs', e1, e2, e3, e4, e5, e6, e7, e8⟩
        exact ⟨xs.length - (i + 1), by omega, W3, acc', dn', rs', e1, e2, e3, e4, e5, e6, e7, e8, hlt, rfl⟩
      · intro v H3 hyl
        obtain ⟨W3, l3, rfl, r3⟩ := g2 v H3 hyl
        have E3 := ((E1.mono l2).mono l3).wipe hw
        refine ⟨W0, W3, xs[i], rfl, E3, r3, fun σ4 E4 hwp => ⟨?_, ?_⟩⟩
        · rw [hwp _ his]
          have aux : ∀ {vs : List Nat} {τ : St}, L2.wipe (L2.wipe τ vs) vs = L2.wipe τ vs := by
            intro vs τ
            refine List.ext_getElem? fun j => ?_
            by_cases hj : j ∈ vs
            · have key : ∀ (ws : List Nat) (υ : St), j ∈ ws → (L2.wipe υ ws)[j]? = if j < υ.length then some none else none := by
                intro ws
                induction ws with
                | nil => intro υ h; simp at h
                | cons z zs ih =>
                  intro υ h
                  unfold L2.wipe
                  by_cases e : z = j
                  · subst e
                    by_cases hl : z < υ.length
                    · rw [List.getElem?_set_self (by rw [wipe_length]; exact hl), if_pos hl]
                    · rw [List.getElem?_eq_none (by rw [List.length_set, wipe_length]; omega), if_neg hl]
                  · rw [List.getElem?_set_ne e]
                    exact ih υ (by rcases List.mem_cons.mp h with q | q; exact absurd q.symm e; exact q)
              rw [key vs _ hj, key vs _ hj, wipe_length]
            · rw [wipe_out hj]
          exact aux
        · refine ⟨xs[i], use_t E4 hb1 fun W4 l4 => ?_⟩
          have l14 := (l2.trans l3).trans l4
          have d14 : W4.h D0 = some (.lst acc) := (l3.trans l4).h _ _ d1
          have b14 : W4.b D0 = none := ((l3.trans l4).f _ _ d1).trans d2
          cases bb with
          | false =>
            rw [if_neg Bool.false_ne_true] at hl ⊢
            exact ⟨W4, acc, dn, rs, rfl, l14, d14, b14, ra.mono (l3.trans l4).b, hl, hys, by omega⟩
          | true =>
            rw [if_pos rfl] at hl ⊢
            obtain ⟨y, hy1, hl⟩ := bind_some hl
            obtain ⟨rs', hl1, hl⟩ := bind_some hl
            cases hl
            refine ⟨xs[i], use_x (E4.mono l4) hy1 fun u W5 l5 r5 => ?_⟩
            have d15 : W5.h D0 = some (.lst acc) := l5.h _ _ d14
            have b15 : W5.b D0 = none := (l5.f _ _ d14).trans b14
            have l15 := l14.trans l5
            have hal : acc.length = dn.length := by have := ra.length; rwa [List.length_map] at this
            refine ⟨acc, d15, ?_, ⟨W5.b, upd W5.h D0 (.lst (acc ++ [u]))⟩, acc ++ [u], dn ++ [y], rs', rfl, ⟨l15.b, fun x o z => ?_, l15.f, fun x o z => ?_⟩, upd_same, b15, ?_, hl1, by rw [hys, List.append_assoc] <;> rfl, by rw [List.length_append, List.length_singleton]; omega⟩
            · exact Nat.lt_of_le_of_lt (by omega : acc.length ≤ xs.length) (sz_line hsz)
            · show upd W5.h D0 _ x = some o
              rw [upd_ne (ne_of_none z hD)]; exact l15.h x o z
            · show upd W5.h D0 _ x = some o
              rw [upd_ne (ne_of_none z b15)]; exact l15.ok x o z
            · rw [List.map_append]
              exact (ra.mono ((l3.trans l4).trans l5).b).append (.cons r5 .nil)
    · have hi' : i = xs.length := by omega
      subst hi'
      rw [List.drop_length] at hl
      cases hl
      rw [List.append_nil] at hys
      subst hys
      exact .inl ⟨wk.stop W2 l2.b (E1.le.trans l2), q D0 acc W2 (l1.trans l2) (l1.h.free hD) d1 d2 ra⟩
  · cases hy
/-- what a comprehension's parts are at any state that its block starts from -/
structure LcP (K : PySem.W.Frag) (tg elt : Expr) (ifs : List Expr) (scope : Scope) (envC : List SV) (envX : α → List SV) (is : List Nat) (c' : α → Option Bool) (f : α → Option β) (N : List Str) (sc : Scope) (mg : Str → Option Value) (P : Program) (w : World) (base : Heap) (k : Nat) : Prop where
  tgt : ∀ X', Cf X' N (relS scope sc) (fun x => scope.names.lookup x == some .cell) K mg P w base k → XG X' envC tg envX is
  tst : ∀ X', Cf X' N (relS scope sc) (fun x => scope.names.lookup x == some .cell) K mg P w base k → ∀ x, PTs X' ifs (tC' X'.K (envX x) (c' x))
  itm : ∀ X', Cf X' N (relS scope sc) (fun x => scope.names.lookup x == some .cell) K mg P w base k → ∀ x, XE X' (envX x) elt (f x)
theorem lc_gen {scope : Scope} {ifs : List Expr} {own : List (Str × Nat)} {mxs : Option (List α)} {envC : List SV} {envX : α → List SV} {is : List Nat} {c' : α → Option Bool} {f : α → Option β} (C : Cf X N sc fb K mg P w base k) (hi : XWk X env tg iter mxs)
    (L : LcP K tg elt ifs scope envC envX is c' f N sc mg P w base k) (ok : blkC N sc scope own = true) (hw : ∀ i ∈ own.map (·.2), envC[i]? = some .any) (h0 : EnvLe env envC) (his : ∀ i ∈ is, i ∈ own.map (·.2))
    (hf : ∀ E : Env, ∀ x, foldedSetIterable iter E x = pure x := by intro _ _; rfl) :
    XL X env (.ListComp elt [⟨tg, iter, ifs, 0⟩] scope pos) (mxs.bind fun xs => lcC c' f xs) := by
  have CC := C
  cases C with
  | mk nd calm po rm =>
    exact peImp (pe_lc (g := tGt X.K envC envX is) (tt := fun σ H Q => ∃ x, tC' X.K (envX x) (c' x) σ H Q) (te := fun σ H Q => ∃ x, tX X.K (envX x) (f x) σ H Q) calm nd hi (blkOk_by ok) (fun s H C' cl fp => L.tgt _ (CC.blk s H scope cl C' fp))
      (fun s H C' cl fp => ptsEx (t := fun x => tC' X.K (envX x) (c' x)) fun x => L.tst _ (CC.blk s H scope cl C' fp) x) (fun s H C' cl fp => peEx (t := fun x => tX X.K (envX x) (f x)) fun x => L.itm _ (CC.blk s H scope cl C' fp) x) (hf _)) (lc_read hw h0 his)
/-- y = [..], the name a local that no block captures, on one line -/
theorem g_setLc {ρ : Type} {Z : ρ → Wd → Hp → Ends → Prop} {scope : Scope} {ifs : List Expr} {own : List (Str × Nat)} {mxs : Option (List α)} {envC : List SV} {envX : α → List SV} {is : List Nat} {c' : α → Option Bool} {f : α → Option β} {kk : List β → Option ρ} {n : Str} {p' cp : Pos}
    (C : Cf X N sc fb K mg P w base k) (i : Nat) (hi : XWk X env tg iter mxs)
    (L : LcP K tg elt ifs scope envC envX is c' f N sc mg P w base k) (ok : blkC N sc scope own = true) (hw : ∀ i ∈ own.map (·.2), envC[i]? = some .any) (h0 : EnvLe env envC) (his : ∀ i ∈ is, i ∈ own.map (·.2))
    (hr : ∀ x, GS X (env.set i (.own (x.map em))) rest (kk x) Z)
    (hin : N[i]? = some n := by rfl) (hkd : sc.kind = .function := by rfl) (hl : sc.names.lookup n = some .local := by decide +kernel) (hln : (p'.line == cp.line) = true := by rfl) (hcl : (scope.names.any fun (m, k) => m == n && (k == .local || k == .cell)) = false := by decide +kernel)
    (hf : ∀ E : Env, ∀ x, foldedSetIterable iter E x = pure x := by intro _ _; rfl) :
    GS X env (.Assign [.Name n p'] (.ListComp elt [⟨tg, iter, ifs, 0⟩] scope cp) pos :: rest) ((mxs.bind fun xs => lcC c' f xs).bind kk) Z := by
  have CC := C
  cases C with
  | mk nd calm po rm =>
    refine g_of (ps_setLc (g := tGt X.K envC envX is) (tt := fun σ H Q => ∃ x, tC' X.K (envX x) (c' x) σ H Q) (te := fun σ H Q => ∃ x, tX X.K (envX x) (f x) σ H Q) calm nd hin hl (sw_true hkd hl hln hcl) hi (blkOk_by ok) (fun s H C' cl fp => L.tgt _ (CC.blk s H scope cl C' fp))
      (fun s H C' cl fp => ptsEx (t := fun x => tC' X.K (envX x) (c' x)) fun x => L.tst _ (CC.blk s H scope cl C' fp) x) (fun s H C' cl fp => peEx (t := fun x => tX X.K (envX x) (f x)) fun x => L.itm _ (CC.blk s H scope cl C' fp) x) (hf _)) hr fun W0 W B σ D r E sb hm z => ?_
    obtain ⟨x, hx, hm⟩ := bind_some hm
    exact lc_read hw h0 his σ W.h _ (use_l E hx fun a vs W1 l1 h0 h1 hb r1 => ⟨x, use_g (E.putL l1 h0 h1 hb r1) (sb.trans l1.b) hm z⟩)
theorem lcP_no {scope : Scope} {envC : List SV} {envX : α → List SV} {is : List Nat} {f : α → Option β}
    (hg : ∀ X', Cf X' N (relS scope sc) (fun x => scope.names.lookup x == some .cell) K mg P w base k → XG X' envC tg envX is)
    (he : ∀ X', Cf X' N (relS scope sc) (fun x => scope.names.lookup x == some .cell) K mg P w base k → ∀ x, XE X' (envX x) elt (f x)) : LcP K tg elt [] scope envC envX is (fun _ => some true) f N sc mg P w base k :=
  ⟨hg, fun X' C' x => ⟨fun pins s σ H Q I ⟨W0, W, hH, E, y, hy, q⟩ => by
    subst hH
    cases hy
    exact pts_nil.run pins s σ _ Q I (q W (Le.refl E.ok))⟩, he⟩
theorem lcP_if {scope : Scope} {envC : List SV} {envX : α → List SV} {is : List Nat} {c' : α → Option Bool} {f : α → Option β}
    (hg : ∀ X', Cf X' N (relS scope sc) (fun x => scope.names.lookup x == some .cell) K mg P w base k → XG X' envC tg envX is)
    (ht : ∀ X', Cf X' N (relS scope sc) (fun x => scope.names.lookup x == some .cell) K mg P w base k → ∀ x, XT X' (envX x) c (c' x))
    (he : ∀ X', Cf X' N (relS scope sc) (fun x => scope.names.lookup x == some .cell) K mg P w base k → ∀ x, XE X' (envX x) elt (f x)) : LcP K tg elt [c] scope envC envX is c' f N sc mg P w base k :=
  ⟨hg, fun X' C' x => pts_one (ht X' C' x), he⟩
theorem lcC_true {f : α → Option β} {xs : List α} : lcC (fun _ => some true) f xs = mapC f xs := by unfold lcC mapC; rw [lcO_true]
/-! ### defs -/
def spF {A : Type} (K : PySem.W.Frag) (svs : A → List SV) (m : A → Option ρ) (res : ρ → RV) : Sp := fun vs H Q _ =>
  ∃ (W : Wd) (a : A) (x : ρ), W.h = H ∧ Same W.b W.h ∧ Args K W vs (svs a) ∧ m a = some x ∧ ∀ v W', Le W W' → ResR K W W' v (res x) → Q v W'.h
/-- a call -/
theorem x_call {A : Type} {svs : A → List SV} {m : A → Option τ} {ma : Option A} {x : Str} {f : Addr} {fd : FuncData} {ps : List Str} {j : Nat} (C : Cf X N sc fb K mg P w base k) (G : FnOk P w K mg base CX0 j f fd ps (spF K svs m fun x => .dat (em x)))
    (hm : mg x = some (.ref f)) (hk : PySem.W.keepIn K (.ref f) = true) (hb : Binds K fd ps []) (ha : XA X env (e :: es) ma svs) (hj : j ≤ k := by decide) (hg : glbB sc x = true := by decide +kernel)
    (hdb : (x == ("__debug__" : Str)) = false := by decide) (he : starEach (e :: es) X.env = (false, eval e X.env) :: starEach es X.env := by rfl) (hpl : (backTo pos (starEach es X.env)).any (·.1) = false := by rfl) :
    XE X env (.Call (.Name x p) (e :: es) [] pos) (ma.bind m) := by
  cases C with
  | mk nd calm po rm =>
    refine x_of (pe_call G (rm.mono hj) (glbB_ok hg) hm hk hb .nil pass0 ha hdb he hpl) fun W0 W σ E z hz Q q => ?_
    obtain ⟨y, hy, hz⟩ := bind_some hz
    refine use_a E hy fun vs W1 l1 r1 => ?_
    rw [List.append_nil]
    exact ⟨W1, y, z, rfl, l1.ok, r1, hz, fun v W2 l2 r2 => q v W2 (l1.trans l2) r2⟩
theorem l_call {A : Type} {svs : A → List SV} {m : A → Option (List τ)} {ma : Option A} {x : Str} {f : Addr} {fd : FuncData} {ps : List Str} {j : Nat} (C : Cf X N sc fb K mg P w base k) (G : FnOk P w K mg base CX0 j f fd ps (spF K svs m fun x => .own (x.map em)))
    (hm : mg x = some (.ref f)) (hk : PySem.W.keepIn K (.ref f) = true) (hb : Binds K fd ps []) (ha : XA X env (e :: es) ma svs) (hj : j ≤ k := by decide) (hg : glbB sc x = true := by decide +kernel)
    (hdb : (x == ("__debug__" : Str)) = false := by decide) (he : starEach (e :: es) X.env = (false, eval e X.env) :: starEach es X.env := by rfl) (hpl : (backTo pos (starEach es X.env)).any (·.1) = false := by rfl) :
    XL X env (.Call (.Name x p) (e :: es) [] pos) (ma.bind m) := by
  cases C with
  | mk nd calm po rm =>
    refine l_of (pe_call G (rm.mono hj) (glbB_ok hg) hm hk hb .nil pass0 ha hdb he hpl) fun W0 W σ E z hz Q q => ?_
    obtain ⟨y, hy, hz⟩ := bind_some hz
    refine use_a E hy fun vs W1 l1 r1 => ?_
    rw [List.append_nil]
    refine ⟨W1, y, z, rfl, l1.ok, r1, hz, fun v W2 l2 r2 => ?_⟩
    obtain ⟨ad, us, e1, e2, e3, e4, e5⟩ := r2
    subst e1
    exact q ad us W2 (l1.trans l2) (l1.h.free e4) e2 e3 e5
def NoOwn (svs : List SV) : Prop := ∀ sv ∈ svs, ∀ ds, sv ≠ .own ds
theorem Args.slots {W : Wd} : ∀ {vs : List V} {svs : List SV}, Args K W vs svs → ∀ (i : Nat) (sv : SV), svs[i]? = some sv → ∃ v, vs[i]? = some v ∧ SlotR K W W (some v) sv
  | _, _, .nil, i, sv, e => by simp at e
  | _, _, .dat r t, 0, sv, e => by
    simp at e
    subst e
    exact ⟨_, rfl, _, rfl, r⟩
  | _, _, .bor s r t, 0, sv, e => by
    simp at e
    subst e
    exact ⟨_, rfl, _, _, rfl, s, r⟩
  | _, _, .dat r t, i + 1, sv, e => by
    obtain ⟨v, h1, h2⟩ := Args.slots t i sv (by simpa using e)
    exact ⟨v, by simpa using h1, h2⟩
  | _, _, .bor s r t, i + 1, sv, e => by
    obtain ⟨v, h1, h2⟩ := Args.slots t i sv (by simpa using e)
    exact ⟨v, by simpa using h1, h2⟩
theorem Args.noOwn {W : Wd} : ∀ {vs : List V} {svs : List SV}, Args K W vs svs → ∀ (i : Nat) (ds : List D), svs[i]? ≠ some (.own ds)
  | _, _, .nil, i, ds, e => by simp at e
  | _, _, .dat r t, 0, ds, e => by simp at e
  | _, _, .bor s r t, 0, ds, e => by simp at e
  | _, _, .dat r t, i + 1, ds, e => Args.noOwn t i ds (by simpa using e)
  | _, _, .bor s r t, i + 1, ds, e => Args.noOwn t i ds (by simpa using e)
/-- at a def's entry -/
theorem EnvR.start {W : Wd} (ok : Same W.b W.h) {vs : List V} {svs : List SV} (h : Args K W vs svs) {n : Nat} (hn : N.length - vs.length = n) : EnvR K W W (svs ++ List.replicate n .any) (start N vs) := by
  have hl := h.length
  refine ⟨Le.refl ok, ?_, fun i sv e => ?_, fun i j di dj _ e _ => ?_⟩
  · unfold L2.start
    rw [List.length_append, List.length_append, List.length_map, List.length_replicate, List.length_replicate, hl, ← hn, hl]
  · unfold L2.start
    by_cases hi : i < svs.length
    · rw [List.getElem?_append_left hi] at e
      obtain ⟨v, h1, h2⟩ := h.slots i sv e
      refine ⟨some v, ?_, h2⟩
      rw [List.getElem?_append_left (by rw [List.length_map, hl]; exact hi), List.getElem?_map, h1]
      rfl
    · rw [List.getElem?_append_right (by omega)] at e
      obtain ⟨h1, h2⟩ := List.getElem?_eq_some_iff.mp e
      rw [List.getElem_replicate] at h2
      subst h2
      rw [List.length_replicate] at h1
      refine ⟨none, ?_, trivial⟩
      rw [List.getElem?_append_right (by rw [List.length_map, hl]; omega), List.length_map, hl, List.getElem?_replicate]
      rw [if_pos (by rw [← hl, hn]; rw [← hl] at h1; exact h1)]
  · exfalso
    by_cases hi : i < svs.length
    · rw [List.getElem?_append_left hi] at e
      exact h.noOwn i di e
    · rw [List.getElem?_append_right (by omega)] at e
      obtain ⟨h1, h2⟩ := List.getElem?_eq_some_iff.mp e
      rw [List.getElem_replicate] at h2
      cases h2
/-- THE RULE of a def -/
theorem fn_mk {A : Type} {svs : A → List SV} {m : A → Option ρ} {res : ρ → RV} {x qual : Str} {st : Stmt} {f : Addr} {fd : FuncData} {ps : List Str} (F : Fun K x qual st f fd) (S : FnScope N ps (defScope st)) (n : Nat) (hn : N.length - ps.length = n) (hl : ∀ a, (svs a).length = ps.length)
    (body : ∀ X, Cf X N (defScope st) (fun _ => true) K mg P w base k → ∀ a, GS X (svs a ++ List.replicate n .any) (defBody st) (m a) (ZRn X.K res)) : FnOk P w K mg base CX0 (k + 1) f fd ps (spF K svs m res) := by
  refine F.ok S (fun vs H Q E h => ?_) (fun cdv A' outer s H vs Q E hr h => ?_)
  · obtain ⟨W, a, y, _, _, r, _⟩ := h
    rw [r.length, hl]
  · obtain ⟨W, a, y, hH, ok, r, hy, q⟩ := h
    subst hH
    refine ⟨_, body _ (Cf.mk S.nd rfl PassesOwn.never hr) a, W, W, W.b, rfl, EnvR.start ok r (by rw [r.length, hl]; exact hn), Same.refl _, y, hy, fun v W' l r' => q v W' l r', fun σ W' l r' => q _ W' l r'⟩
end
end T

set_option Elab.async false
set_option linter.all false
set_option maxRecDepth 100000
set_option maxHeartbeats 4000000
/-! rules at the layer's own level that HandS lacks -/
namespace T
open PySem PySem.Spec PyProof.Rows L2
section
variable {X : Cx}
/-! ### a text times a number -/
theorem op_mulS : OpR X (binaryOp .Mult) (fun x y H Q => ∃ (z : Str) (n : Int), x = .str z ∧ y = .int n ∧ MulOk z n ∧ Q (.str (Txt.mul z n)) H) := by
  intro pins s σ H x y v u Q I rx ry h
  obtain ⟨z, n, rfl, rfl, hk, q⟩ := h
  obtain ⟨t, rfl⟩ := rx
  obtain ⟨t', rfl⟩ := ry
  exact SB.mul hk fun t2 k => ⟨.str _, H, I.tok _, ⟨_, rfl⟩, q⟩
/-! ### list + list, whatever lists they are -/
def rCatQ (K : PySem.W.Frag) : R2 := fun x y H Q => ∃ l b xs zs, x = .ref l ∧ y = .ref b ∧ SqL K H l xs ∧ SqL K H b zs ∧ xs.length + zs.length ≤ sizeLine ∧ ∀ p, H p = none → Q (.ref p) (upd H p (.lst (xs ++ zs)))
theorem op_catQ : OpR X (binaryOp .Add) (rCatQ X.K) := by
  intro pins s σ H x y v u Q I rx ry h
  obtain ⟨l, b, xs, zs, rfl, rfl, hH, hB, hz, q⟩ := h
  cases rx
  cases ry
  obtain ⟨its, r, p1, hl⟩ := I.list hH
  obtain ⟨its2, r2, p2, hl2⟩ := I.list hB
  obtain ⟨⟨cls, dd, data, sl⟩, ho, hc, n, hd⟩ := p1.isList
  obtain ⟨⟨cls2, dd2, data2, sl2⟩, ho2, hc2, n2, hd2⟩ := p2.isList
  simp only at hc hd hc2 hd2
  subst hc hd hc2 hd2
  have e : its.toArray ++ its2.toArray = (its ++ its2).toArray := by simp
  refine concat_meets ⟨_, ho, rfl⟩ ⟨_, ho2, rfl⟩ noFill_list_add seq_list_add PySem.F.slot_list_add PySem.F.entry_list_add (PySem.F.args_list_add_2 _ _) (list_addW l b its.toArray its2.toArray n n2 dd dd2 sl sl2 (by rw [List.size_toArray, List.size_toArray, ← r.length, ← r2.length]; exact hz)) ⟨ho, ho2, ?_⟩
  rw [e]
  exact ⟨.ref _, _, I.lnew (t' := s.toks) (r.append r2) (by rw [List.length_append]; omega), rfl, q _ I.fresh⟩
/-! ### the least of three -/
theorem vals3 {x y z : V} {us : List Value} (r : Vals [x, y, z] us) : ∃ u v w', us = [u, v, w'] ∧ RelV x u ∧ RelV y v ∧ RelV z w' := by
  cases r with
  | cons r1 r =>
    cases r with
    | cons r2 r =>
      cases r with
      | cons r3 r =>
        cases r
        exact ⟨_, _, _, rfl, r1, r2, r3⟩
def min3 (a b c : Int) : Int := if b < a then (if c < b then c else b) else (if c < a then c else a)
theorem call_min3 (hc : X.calm = true) : CallR X (.builtin "min") (fun xs H Q => ∃ i j k, xs = [.int i, .int j, .int k] ∧ Q (.int (min3 i j k)) H) := by
  intro pins s σ H xs us Q I r h
  obtain ⟨i, j, k, rfl, q⟩ := h
  obtain ⟨u, v, w', rfl, ⟨t, rfl⟩, ⟨t', rfl⟩, ⟨t'', rfl⟩⟩ := vals3 r
  refine min_three_ints (I.ok.hd hc) fun h' tk hk => ⟨_, H, I.kept hk, ?_, q⟩
  unfold min3
  by_cases h1 : j < i
  · rw [if_pos h1, if_pos h1]
    by_cases h2 : k < j
    · rw [if_pos h2, if_pos h2]; exact ⟨_, rfl⟩
    · rw [if_neg h2, if_neg h2]; exact ⟨_, rfl⟩
  · rw [if_neg h1, if_neg h1]
    by_cases h2 : k < i
    · rw [if_pos h2, if_pos h2]; exact ⟨_, rfl⟩
    · rw [if_neg h2, if_neg h2]; exact ⟨_, rfl⟩
/-! ### s[::-1] -/
def revS (z : Str) : Str := ⟨z.cps.toList.reverse.toArray⟩
theorem picked_rev (z : Str) : ((Builtin.Str.strSliceIndices none none (-1) z.length).filterMap (z.cps[·]?)) = z.cps.toList.reverse := by
  have h1 : Builtin.Str.strSliceIndices none none (-1) z.length = sliceRange ((z.length : Int) - 1) (-1) (-1) := by
    first
    | rfl
    | simp [Builtin.Str.strSliceIndices]
  rw [h1, PySem.W.krv_sliceRange, PySem.W.krv_range, List.filterMap_reverse]
  have h2 := PySem.W.krv_all z.cps
  show ((List.range z.cps.size).filterMap (z.cps[·]?)).reverse = _
  rw [h2]
def tRevS (te : TE) : TE := fun σ H Q => te σ H fun x H1 => ∃ z, x = .str z ∧ z.length ≤ sizeLine ∧ Q (.str (revS z)) H1
theorem pe_revS {e : Expr} {te : TE} {k : Nat} {p1 p2 p3 pos : Pos} (he : PE X e te) : PE X (.Subscript e (.Slice none none (some (.UnaryOp .USub (.Constant (.int 1) k p1) p2)) p3) pos) (tRevS te) := by
  refine ⟨fun pins s σ H Q I h => ?_⟩
  refine Subscript_ (thn (he.run pins s σ H _ I h) fun v s1 ⟨x, H1, I1, r1, q1⟩ => ?_)
  obtain ⟨z, ex, hz, q⟩ := q1
  subst ex
  obtain ⟨t, rfl⟩ := r1
  have hst : PO X (some (.UnaryOp .USub (.Constant (.int 1) k p1) p2)) (tPart (tUn (rU fun i => .int (-i)) (tC (.int 1)))) := po_some (pe_un un_neg pe_int)
  refine wpAny_Slice (thn (po_none.run pins s1 σ H1 (fun o H2 => o = none ∧ H2 = H1) I1 ⟨rfl, rfl⟩) fun vl s2 ⟨l, H2, I2, pl, el, e2⟩ => ?_)
  subst el e2
  refine thn (po_none.run pins s2 σ H2 (fun o H3 => o = none ∧ H3 = H2) I2 ⟨rfl, rfl⟩) fun vu s3 ⟨u, H3, I3, pu, eu, e3⟩ => ?_
  subst eu e3
  refine thn (hst.run pins s3 σ H3 (fun o H4 => o = some (-1) ∧ H4 = H3) I3 ⟨1, rfl, -1, rfl, rfl, rfl⟩) fun vs s4 ⟨o, H4, I4, ps, eo, e4⟩ => ?_
  subst eo e4
  have I5 : Inv X pins σ H4 { s4 with heap := s4.heap.push { cls := .type "slice", data := .fields #[vl, vu, vs] } } := I4.kept (t' := s4.toks) fun b ob q => Heap.get?_push_of_some _ q
  obtain ⟨l, rfl, hl⟩ := IsPart.raw pl
  obtain ⟨u, rfl, hu⟩ := IsPart.raw pu
  obtain ⟨st, rfl, hst⟩ := IsPart.raw ps
  show wpAny (model X.prog X.w) X.A (subscriptTail e (.Slice none none (some (.UnaryOp .USub (.Constant (.int 1) k p1) p2)) p3) (.str z t) (.ref s4.heap.objs.size)) (EP X pins σ Q) X.xe { s4 with heap := s4.heap.push { cls := .type "slice", data := .fields #[partValue l, partValue u, partValue st] } }
  refine tail_any (T := "str") (ops := [.str z t, .ref s4.heap.objs.size]) (typeIs_str _ _ _) F.slot_str_getitem.lookup ?_ (by with_unfolding_all rfl)
  refine wpAny_getItem_str_slice (l := l) (u := u) (st := st) ⟨_, Heap.get?_push_size _ rfl, rfl, rfl⟩ (by rw [hst]; decide) ?_
  have e : sliceMade z t l u st = Made.str (revS z) := by
    unfold sliceMade slicePicked
    rw [hst, hl, hu]
    show (if ((-1 : Int) == 1 && _) = true then _ else Made.str ⟨((Builtin.Str.strSliceIndices none none (-1) z.length).filterMap (z.cps[·]?)).toArray⟩) = _
    rw [picked_rev]
    rfl
  rw [e]
  refine ⟨?_, .str _, H4, I5.tok _, ⟨_, rfl⟩, q⟩
  show z.cps.toList.reverse.toArray.size ≤ sizeLine
  rw [List.size_toArray, List.length_reverse, Array.length_toList]
  exact hz
/-! ### enumerate of a text -/
def Ites (x : Str) : It :=
  ⟨fun i _ => i < x.cps.size, fun i H v H' => ∃ T c, v = .ref T ∧ H T = none ∧ H' = upd H T (.tup [.int (i : Nat), .str ⟨#[c]⟩]) ∧ x.cps[i]? = some c, fun i _ => i = x.cps.size⟩
theorem turn_enumS {P : Program} {w : World} {K : PySem.W.Frag} {elts : List Expr} {kk : Nat} {tpos : Pos} (x : Str) (t : Tok) (e it : Addr) (hei : e ≠ it) (ty : String) (hty : ty = "str_ascii_iterator" ∨ ty = "str_iterator") :
    Turn P w K (.Tuple elts kk tpos) (Ites x) [e, it] e (fun i h => (∃ old, IsEnum h e it ((i : Nat) : Int) old) ∧ h.IsStrIter it ty x t i) where
  mem := by simp
  obj := fun i h st b hb => by
    obtain ⟨⟨old, he⟩, ⟨o, ho, hc, hd⟩⟩ := st
    have e' : b = e ∨ b = it := by simpa using hb
    rcases e' with z | z
    · rw [z]; exact ⟨_, he, fun v q => nomatch q⟩
    · rw [z]; exact ⟨o, ho, fun v q => by rw [hd] at q; cases q⟩
  keep := fun i h h' st k => let ⟨⟨old, he⟩, ⟨o, ho, hr⟩⟩ := st; ⟨⟨old, k e (by simp) _ he⟩, ⟨o, k it (by simp) _ ho, hr⟩⟩
  item := by
    intro X hP hw hK hc i pins s σ H E I hf st hg
    subst hP hw hK
    have D : Draws X.prog X.w X.A.in1 it [it] x.cps.size (SignAt x) (fun i h => h.IsStrIter it ty x t i) := by
      rcases hty with q | q
      · rw [q]; exact Draws.strAscii (A := X.A.in1) (I.ok.hd hc) it x t
      · rw [q]; exact Draws.strWide (A := X.A.in1) (I.ok.hd hc) it x t
    have W := WalksT.enumerateD D e hei (by simpa using hei) (by simp)
    have hel : e < s.heap.objs.size := by obtain ⟨⟨_, he⟩, _⟩ := st; exact Heap.lt_size he
    have hil : it < s.heap.objs.size := by obtain ⟨_, ⟨_, ho, _⟩⟩ := st; exact Heap.lt_size ho
    refine W.item i s _ _ hg st fun T vals h' tk hP hT hI hM hk => ?_
    obtain ⟨t', u, hS, rfl⟩ := hP
    obtain ⟨c, t2, hcx, rfl⟩ := hS
    refine ⟨_, rfl, W.go elts kk tpos i T { s with heap := h', toks := tk } _ _ hM fun h'' st' hk2 => ?_⟩
    have hTe : T ∉ [e, it] := W.apart _ _ _ hM
    have hT2 : h''.IsTuple T #[.int i t', .str ⟨#[c]⟩ t2] := by
      obtain ⟨o, h1, h2⟩ := hI
      exact ⟨o, hk2 T o hTe h1, h2⟩
    have new : ObjOk X.prog X.w (upd H T (.tup [.int (i : Nat), .str ⟨#[c]⟩])) h'' T (.tup [.int (i : Nat), .str ⟨#[c]⟩]) :=
      ⟨by show 2 ≤ sizeLine; decide, [.int i t', .str ⟨#[c]⟩ t2], .cons ⟨_, rfl⟩ (.cons ⟨_, rfl⟩ .nil), hT2⟩
    have I1 : Inv X pins σ (upd H T (.tup [.int (i : Nat), .str ⟨#[c]⟩])) { s with heap := h'', toks := tk } :=
      I.turnedNew (ch := [e, it]) (fun b ob hb q => hk2 b ob hb (hk b ob hb q)) hf hT new
    refine ⟨.ref T, _, I1, rfl, ⟨T, c, rfl, I.hok.fresh hT, rfl, hcx⟩, st', fun b hb => ?_⟩
    have hb' : b < s.heap.objs.size := by
      have e' : b = e ∨ b = it := by simpa using hb
      rcases e' with z | z
      · rw [z]; exact hel
      · rw [z]; exact hil
    rw [upd_ne (Nat.ne_of_lt (Nat.lt_of_lt_of_le hb' hT))]
    exact (hf b hb).1
  done := by
    intro X hP hw hK hc i pins s σ H E I hf st hg
    subst hP hw hK
    have hg : i = x.cps.size := hg
    subst hg
    have D : Draws X.prog X.w X.A.in1 it [it] x.cps.size (SignAt x) (fun i h => h.IsStrIter it ty x t i) := by
      rcases hty with q | q
      · rw [q]; exact Draws.strAscii (A := X.A.in1) (I.ok.hd hc) it x t
      · rw [q]; exact Draws.strWide (A := X.A.in1) (I.ok.hd hc) it x t
    have W := WalksT.enumerateD D e hei (by simpa using hei) (by simp)
    refine W.done s _ _ st fun h' tk hk => ⟨rfl, ?_⟩
    exact I.turnedL hk hf
  self := fun A i s Q E st h => let ⟨⟨_, he⟩, _⟩ := st; wpAny_pyIter_enum he h
def iEnumS (ta : TA) : TI := fun σ H R => ta σ H fun vs H1 => ∃ x, vs = [.str x] ∧ R (Ites x) H1
theorem pi_enumS {e : Expr} {ta : TA} {p pos tpos : Pos} {elts : List Expr} {kk : Nat} (hg : Gl X "enumerate") (hm : X.mg "enumerate" = none) (ha : PA X [e] ta) (hs : starEach [e] X.env = [(false, eval e X.env)] := by rfl) :
    PI X (.Tuple elts kk tpos) (.Call (.Name "enumerate" p) [e] [] pos) (iEnumS ta) := by
  refine ⟨fun pins s σ H R I h => ?_⟩
  refine Call_ (ld_blt I hg hm boot_enumerate (PyProof.Rows.callWith_type1 (thn (ha.run pos pins s σ H _ I h) fun us s1 ⟨vs, H1, I1, r1, q1⟩ => ?_) hs rfl))
  obtain ⟨x, ex, q⟩ := q1
  subst ex
  obtain ⟨u, rfl, t, rfl⟩ := vals1 r1
  refine call_enumerate_str fun h' he hit hsz hk => wpAny_pyIter_enum he ?_
  have I2 : Inv X pins σ H1 { s1 with heap := h' } := I1.kept (t' := s1.toks) hk
  have hty : strIterType x = "str_ascii_iterator" ∨ strIterType x = "str_iterator" := by
    unfold strIterType
    split
    · exact .inl rfl
    · exact .inr rfl
  refine ⟨s1.heap.objs.size + 1, [s1.heap.objs.size + 1, s1.heap.objs.size], _, _, H1, rfl, I2, turn_enumS x t (s1.heap.objs.size + 1) s1.heap.objs.size (Nat.succ_ne_self _) (strIterType x) hty, ⟨⟨.none, he⟩, hit⟩, fun b hb => ?_, q⟩
  have e' : b = s1.heap.objs.size + 1 ∨ b = s1.heap.objs.size := by simpa using hb
  have hle : s1.heap.objs.size ≤ b := by
    rcases e' with z | z
    · rw [z]; exact Nat.le_add_right _ _
    · rw [z]; exact Nat.le_refl _
  exact I1.fpOk hle (I1.hok.fresh hle)
end
end T

set_option Elab.async false
set_option linter.all false
set_option maxRecDepth 100000
set_option maxHeartbeats 4000000
namespace T
open PySem PySem.Spec PyProof.Rows L2
variable {τ α β γ δ ρ B S ι : Type}
section
variable {X : Cx} {env env' : List SV} {e a b c tg iter elt o : Expr} {st : Stmt} {es : List Expr} {body rest : List Stmt} {pos p p2 apos : Pos} [Em τ] [Em α] [Em β] [Em γ] {N : List Str} {sc : Scope} {fb : Str → Bool} {K : PySem.W.Frag} {mg : Str → Option Value} {P : Program} {w : World} {base : Heap} {k : Nat}
theorem use_ax {W0 W : Wd} {σ : St} {m : Option τ} {x : τ} {Q : List V → Hp → Prop} (E : EnvR K W0 W env σ) (hx : m = some x) (q : ∀ v W', Le W W' → Rp K W'.b v (em x) → Q [v] W'.h) : tA K env (m.bind fun x => (some ()).bind fun y => some (x, y)) (fun p => .dat (em p.1) :: (fun _ => []) p.2) σ W.h Q := by
  refine use_a E (x := (x, ())) (by rw [hx]; rfl) fun vs W1 l1 r1 => ?_
  cases r1 with
  | dat r1 r2 =>
    cases r2
    exact q _ W1 l1 r1
/-- one data argument -/
theorem x_cB1 {x : Str} {id : String} {r : List V → Hp → VK → Prop} {m : Option α} {f : α → Option τ} (C : Cf X N sc fb K mg P w base k) (hc : CallR X (.builtin id) r) (ha : XE X env e m)
    (hr : ∀ d y, f d = some y → ∀ (W : Wd) (v : V), Same W.b W.h → Rp X.K W.b v (em d) → ∀ Q : VK, (∀ v W', Le W W' → Rp X.K W'.b v (em y) → Q v W'.h) → r [v] W.h Q)
    (hm : mg x = none) (hv : bootBuiltins x = some (.builtin id) := by decide +kernel) (hg : glbB sc x = true := by decide +kernel) (hn : x ≠ "__name__" := by decide) (hdb : (x == ("__debug__" : Str)) = false := by decide)
    (he : ∀ E : Env, starEach [e] E = (false, eval e E) :: starEach [] E := by intro _; rfl) (hpl : ∀ E : Env, (backTo pos (starEach ([] : List Expr) E)).any (·.1) = false := by intro _; rfl) : XE X env (.Call (.Name x p) [e] [] pos) (m.bind f) := by
  cases C
  refine x_of (pe_callB hc (glbB_ok hg) hm hv (a_dat ha a_nil (he _)) hn hdb (he _) (hpl _)) fun W0 W σ E z hz Q q => ?_
  obtain ⟨d, hd, hz⟩ := bind_some hz
  exact use_ax E hd fun v W1 l1 r1 => hr d z hz W1 v l1.ok r1 Q fun v W2 l2 r2 => q v W2 (l1.trans l2) r2
theorem x_cT1 {x : Str} {id : String} {r : List V → Hp → VK → Prop} {m : Option α} {f : α → Option τ} (C : Cf X N sc fb K mg P w base k) (hc : CallR X (.type id) r) (ha : XE X env e m)
    (hr : ∀ d y, f d = some y → ∀ (W : Wd) (v : V), Same W.b W.h → Rp X.K W.b v (em d) → ∀ Q : VK, (∀ v W', Le W W' → Rp X.K W'.b v (em y) → Q v W'.h) → r [v] W.h Q)
    (hm : mg x = none) (hv : bootBuiltins x = some (.type id) := by decide +kernel) (hg : glbB sc x = true := by decide +kernel) (hn : x ≠ "__name__" := by decide) (hdb : (x == ("__debug__" : Str)) = false := by decide)
    (he : ∀ E : Env, starEach [e] E = (false, eval e E) :: starEach [] E := by intro _; rfl) (hpl : ∀ E : Env, (backTo pos (starEach ([] : List Expr) E)).any (·.1) = false := by intro _; rfl) : XE X env (.Call (.Name x p) [e] [] pos) (m.bind f) := by
  cases C
  refine x_of (pe_callTy hc (glbB_ok hg) hm hv (a_dat ha a_nil (he _)) hn hdb (he _) (hpl _)) fun W0 W σ E z hz Q q => ?_
  obtain ⟨d, hd, hz⟩ := bind_some hz
  exact use_ax E hd fun v W1 l1 r1 => hr d z hz W1 v l1.ok r1 Q fun v W2 l2 r2 => q v W2 (l1.trans l2) r2
/-- one list that is read -/
theorem paQ {m : Option (List τ)} (h : XQ X env e m) (hst : starEach [e] X.env = (false, eval e X.env) :: starEach [] X.env) : PA X [e] (fun σ H Q => ∃ W0 W : Wd, W.h = H ∧ EnvR X.K W0 W env σ ∧ ∃ x, m = some x ∧ ∀ a vs W', Le W W' → SqL X.K W'.h a vs → RpA X.K W'.b vs (x.map em) → Q [.ref a] W'.h) :=
  paImp (pa_cons h pa_nil hst) fun σ H Q ⟨W0, W, hH, E, x, hx, q⟩ => ⟨W0, W, hH, E, x, hx, fun a vs W' l s r => q a vs W' l s r⟩
theorem x_cBQ {x : Str} {id : String} {r : List V → Hp → VK → Prop} {m : Option (List α)} {f : List α → Option τ} (C : Cf X N sc fb K mg P w base k) (hc : CallR X (.builtin id) r) (ha : XQ X env e m)
    (hr : ∀ d y, f d = some y → ∀ (W : Wd) (a : Addr) (vs : List V), Same W.b W.h → SqL X.K W.h a vs → RpA X.K W.b vs (d.map em) → ∀ Q : VK, (∀ v W', Le W W' → Rp X.K W'.b v (em y) → Q v W'.h) → r [.ref a] W.h Q)
    (hm : mg x = none) (hv : bootBuiltins x = some (.builtin id) := by decide +kernel) (hg : glbB sc x = true := by decide +kernel) (hn : x ≠ "__name__" := by decide) (hdb : (x == ("__debug__" : Str)) = false := by decide)
    (he : ∀ E : Env, starEach [e] E = (false, eval e E) :: starEach [] E := by intro _; rfl) (hpl : ∀ E : Env, (backTo pos (starEach ([] : List Expr) E)).any (·.1) = false := by intro _; rfl) : XE X env (.Call (.Name x p) [e] [] pos) (m.bind f) := by
  cases C
  refine x_of (pe_callB hc (glbB_ok hg) hm hv (paQ ha (he _)) hn hdb (he _) (hpl _)) fun W0 W σ E z hz Q q => ?_
  obtain ⟨d, hd, hz⟩ := bind_some hz
  exact ⟨W0, W, rfl, E, d, hd, fun a vs W1 l1 s1 r1 => hr d z hz W1 a vs l1.ok s1 r1 Q fun v W2 l2 r2 => q v W2 (l1.trans l2) r2⟩
theorem x_cTQ {x : Str} {id : String} {r : List V → Hp → VK → Prop} {m : Option (List α)} {f : List α → Option τ} (C : Cf X N sc fb K mg P w base k) (hc : CallR X (.type id) r) (ha : XQ X env e m)
    (hr : ∀ d y, f d = some y → ∀ (W : Wd) (a : Addr) (vs : List V), Same W.b W.h → SqL X.K W.h a vs → RpA X.K W.b vs (d.map em) → ∀ Q : VK, (∀ v W', Le W W' → Rp X.K W'.b v (em y) → Q v W'.h) → r [.ref a] W.h Q)
    (hm : mg x = none) (hv : bootBuiltins x = some (.type id) := by decide +kernel) (hg : glbB sc x = true := by decide +kernel) (hn : x ≠ "__name__" := by decide) (hdb : (x == ("__debug__" : Str)) = false := by decide)
    (he : ∀ E : Env, starEach [e] E = (false, eval e E) :: starEach [] E := by intro _; rfl) (hpl : ∀ E : Env, (backTo pos (starEach ([] : List Expr) E)).any (·.1) = false := by intro _; rfl) : XE X env (.Call (.Name x p) [e] [] pos) (m.bind f) := by
  cases C
  refine x_of (pe_callTy hc (glbB_ok hg) hm hv (paQ ha (he _)) hn hdb (he _) (hpl _)) fun W0 W σ E z hz Q q => ?_
  obtain ⟨d, hd, hz⟩ := bind_some hz
  exact ⟨W0, W, rfl, E, d, hd, fun a vs W1 l1 s1 r1 => hr d z hz W1 a vs l1.ok s1 r1 Q fun v W2 l2 r2 => q v W2 (l1.trans l2) r2⟩
/-! ### len -/
def lenS (s : Str) : Option Int := if sz s.length then some (s.length : Int) else none
theorem x_lenS {m : Option Str} (C : Cf X N sc fb K mg P w base k) (h : XE X env e m) (hm : mg "len" = none) (hg : glbB sc "len" = true := by decide +kernel)
    (he : ∀ E : Env, starEach [e] E = (false, eval e E) :: starEach [] E := by intro _; rfl) : XE X env (.Call (.Name "len" p) [e] [] pos) (m.bind lenS) :=
  x_cB1 C call_len_str h (fun d y hy W v ok r Q q => by
    cases r
    unfold lenS at hy
    split at hy
    · rename_i hz
      cases hy
      exact ⟨d, rfl, Nat.le_of_lt (sz_line hz), q _ W (Le.refl ok) (.int _)⟩
    · cases hy) hm PySem.boot_len hg (by decide) (by decide) he
theorem x_lenQ {m : Option (List τ)} (C : Cf X N sc fb K mg P w base k) (h : XQ X env e m) (hm : mg "len" = none) (hg : glbB sc "len" = true := by decide +kernel)
    (he : ∀ E : Env, starEach [e] E = (false, eval e E) :: starEach [] E := by intro _; rfl) : XE X env (.Call (.Name "len" p) [e] [] pos) (m.bind fun xs => some (xs.length : Int)) :=
  x_cBQ C call_len_seq h (fun d y hy W a vs ok s r Q q => by
    cases hy
    have hl := r.length
    rw [List.length_map] at hl
    refine ⟨a, vs, rfl, .inl s, ?_⟩
    rw [hl]
    exact q _ W (Le.refl ok) (.int _)) hm PySem.boot_len hg (by decide) (by decide) he
theorem x_lenV {m : Option (Vt τ)} (C : Cf X N sc fb K mg P w base k) (h : XE X env e m) (hm : mg "len" = none) (hg : glbB sc "len" = true := by decide +kernel)
    (he : ∀ E : Env, starEach [e] E = (false, eval e E) :: starEach [] E := by intro _; rfl) : XE X env (.Call (.Name "len" p) [e] [] pos) (m.bind fun t => some (t.l.length : Int)) :=
  x_cB1 C call_len_seq h (fun d y hy W v ok r Q q => by
    cases hy
    have r : Rp X.K W.b v (.tup (d.l.map em)) := r
    cases r with
    | tup s r =>
      have hl := r.length
      rw [List.length_map] at hl
      refine ⟨_, _, rfl, .inr (same_t ok s), ?_⟩
      rw [hl]
      exact q _ W (Le.refl ok) (.int _)) hm PySem.boot_len hg (by decide) (by decide) he
/-! ### numbers -/
def absI (i : Int) : Int := if i < 0 then -i else i
theorem x_abs {m : Option Int} (C : Cf X N sc fb K mg P w base k) (h : XE X env e m) (hm : mg "abs" = none) (hg : glbB sc "abs" = true := by decide +kernel)
    (he : ∀ E : Env, starEach [e] E = (false, eval e E) :: starEach [] E := by intro _; rfl) : XE X env (.Call (.Name "abs" p) [e] [] pos) (m.bind fun i => some (absI i)) :=
  x_cB1 C call_abs h (fun d y hy W v ok r Q q => by
    cases hy
    cases r
    exact ⟨d, rfl, q _ W (Le.refl ok) (.int _)⟩) hm (by decide +kernel) hg (by decide) (by decide) he
theorem x_intI {m : Option Int} (C : Cf X N sc fb K mg P w base k) (h : XE X env e m) (hm : mg "int" = none) (hg : glbB sc "int" = true := by decide +kernel)
    (he : ∀ E : Env, starEach [e] E = (false, eval e E) :: starEach [] E := by intro _; rfl) : XE X env (.Call (.Name "int" p) [e] [] pos) (m.bind fun i => some i) :=
  x_cT1 C call_int1 h (fun d y hy W v ok r Q q => by
    cases hy
    cases r
    exact .inl ⟨d, rfl, q _ W (Le.refl ok) (.int _)⟩) hm (by decide +kernel) hg (by decide) (by decide) he
theorem x_intB {m : Option Bool} (C : Cf X N sc fb K mg P w base k) (h : XE X env e m) (hm : mg "int" = none) (hg : glbB sc "int" = true := by decide +kernel)
    (he : ∀ E : Env, starEach [e] E = (false, eval e E) :: starEach [] E := by intro _; rfl) : XE X env (.Call (.Name "int" p) [e] [] pos) (m.bind fun b => some (if b = true then (1 : Int) else 0)) :=
  x_cT1 C call_int1 h (fun d y hy W v ok r Q q => by
    cases hy
    cases r
    exact .inr ⟨d, rfl, q _ W (Le.refl ok) (.int _)⟩) hm (by decide +kernel) hg (by decide) (by decide) he
theorem Cf.calm (C : Cf X N sc fb K mg P w base k) : X.calm = true := by cases C; assumption
theorem x_min2 {ma mb : Option Int} (C : Cf X N sc fb K mg P w base k) (ha : XE X env a ma) (hb : XE X env b mb) (hm : mg "min" = none) (hg : glbB sc "min" = true := by decide +kernel)
    (h1 : starEach [a, b] X.env = (false, eval a X.env) :: starEach [b] X.env := by rfl) (h2 : starEach [b] X.env = (false, eval b X.env) :: starEach [] X.env := by rfl) (hpl : (backTo pos (starEach [b] X.env)).any (·.1) = false := by rfl) :
    XE X env (.Call (.Name "min" p) [a, b] [] pos) (ma.bind fun x => mb.bind fun y => some (if y < x then y else x)) :=
  (x_cB (f := fun p : Int × Int × Unit => some (if p.2.1 < p.1 then p.2.1 else p.1)) C (call_min2 C.calm) (a_dat ha (a_dat hb a_nil h2) h1) (fun d y hy W vs ok r Q q => by
    cases hy
    cases r with
    | dat r1 r => cases r with
      | dat r2 r =>
        cases r
        cases r1
        cases r2
        exact ⟨_, _, rfl, q _ W (Le.refl ok) (.int _)⟩) hm (by decide +kernel) hg (by decide) (by decide) h1 hpl).is (by cases ma with | none => rfl | some x => cases mb <;> rfl)
theorem x_max2 {ma mb : Option Int} (C : Cf X N sc fb K mg P w base k) (ha : XE X env a ma) (hb : XE X env b mb) (hm : mg "max" = none) (hg : glbB sc "max" = true := by decide +kernel)
    (h1 : starEach [a, b] X.env = (false, eval a X.env) :: starEach [b] X.env := by rfl) (h2 : starEach [b] X.env = (false, eval b X.env) :: starEach [] X.env := by rfl) (hpl : (backTo pos (starEach [b] X.env)).any (·.1) = false := by rfl) :
    XE X env (.Call (.Name "max" p) [a, b] [] pos) (ma.bind fun x => mb.bind fun y => some (if y > x then y else x)) :=
  (x_cB (f := fun p : Int × Int × Unit => some (if p.2.1 > p.1 then p.2.1 else p.1)) C (call_max2 C.calm) (a_dat ha (a_dat hb a_nil h2) h1) (fun d y hy W vs ok r Q q => by
    cases hy
    cases r with
    | dat r1 r => cases r with
      | dat r2 r =>
        cases r
        cases r1
        cases r2
        exact ⟨_, _, rfl, q _ W (Le.refl ok) (.int _)⟩) hm (by decide +kernel) hg (by decide) (by decide) h1 hpl).is (by cases ma with | none => rfl | some x => cases mb <;> rfl)
theorem x_min3 {ma mb mc : Option Int} (C : Cf X N sc fb K mg P w base k) (ha : XE X env a ma) (hb : XE X env b mb) (hcc : XE X env c mc) (hm : mg "min" = none) (hg : glbB sc "min" = true := by decide +kernel)
    (h1 : starEach [a, b, c] X.env = (false, eval a X.env) :: starEach [b, c] X.env := by rfl) (h2 : starEach [b, c] X.env = (false, eval b X.env) :: starEach [c] X.env := by rfl) (h3 : starEach [c] X.env = (false, eval c X.env) :: starEach [] X.env := by rfl)
    (hpl : (backTo pos (starEach [b, c] X.env)).any (·.1) = false := by rfl) :
    XE X env (.Call (.Name "min" p) [a, b, c] [] pos) (ma.bind fun x => mb.bind fun y => mc.bind fun z => some (min3 x y z)) :=
  (x_cB (f := fun p : Int × Int × Int × Unit => some (min3 p.1 p.2.1 p.2.2.1)) C (call_min3 C.calm) (a_dat ha (a_dat hb (a_dat hcc a_nil h3) h2) h1) (fun d y hy W vs ok r Q q => by
    cases hy
    cases r with
    | dat r1 r => cases r with
      | dat r2 r => cases r with
        | dat r3 r =>
          cases r
          cases r1
          cases r2
          cases r3
          exact ⟨_, _, _, rfl, q _ W (Le.refl ok) (.int _)⟩) hm (by decide +kernel) hg (by decide) (by decide) h1 hpl).is (by cases ma with
    | none => rfl
    | some x => cases mb with
      | none => rfl
      | some y => cases mc <;> rfl)
/-! ### texts -/
def catS (x y : Str) : Option Str := if x.length + y.length < 16777216 then some (x ++ y) else none
theorem x_addS {ma mb : Option Str} (ha : XE X env a ma) (hb : XE X env b mb) : XE X env (.BinOp a .Add b pos) (ma.bind fun x => mb.bind fun y => catS x y) :=
  x_bin op_add_str ha hb fun x y z hz W u v ok ru rv Q q => by
    unfold catS at hz
    split at hz
    · rename_i hs
      cases hz
      cases ru; cases rv
      exact ⟨x, y, rfl, rfl, Nat.le_of_lt (sz_line hs), q _ W (Le.refl ok) (.str _)⟩
    · cases hz
instance (z : Str) (n : Int) : Decidable (MulOk z n) := by unfold MulOk; infer_instance
def mulS (x : Str) (n : Int) : Option Str := if MulOk x n then some (Txt.mul x n) else none
theorem x_mulS {ma : Option Str} {mb : Option Int} (ha : XE X env a ma) (hb : XE X env b mb) : XE X env (.BinOp a .Mult b pos) (ma.bind fun x => mb.bind fun y => mulS x y) :=
  x_bin op_mulS ha hb fun x y z hz W u v ok ru rv Q q => by
    unfold mulS at hz
    split at hz
    · rename_i hs
      cases hz
      cases ru; cases rv
      exact ⟨x, y, rfl, rfl, hs, q _ W (Le.refl ok) (.str _)⟩
    · cases hz
def revP (z : Str) : Option Str := if sz z.length then some (revS z) else none
theorem x_revS {m : Option Str} {kk : Nat} {p1 p2 p3 : Pos} (h : XE X env e m) : XE X env (.Subscript e (.Slice none none (some (.UnaryOp .USub (.Constant (.int 1) kk p1) p2)) p3) pos) (m.bind revP) :=
  x_of (pe_revS h) fun W0 W σ E z hz Q q => by
    obtain ⟨d, hd, hz⟩ := bind_some hz
    unfold revP at hz
    split at hz
    · rename_i hs
      cases hz
      refine use_x E hd fun v W1 l1 r1 => ?_
      cases r1
      exact ⟨d, rfl, Nat.le_of_lt (sz_line hs), q _ W1 l1 (.str _)⟩
    · cases hz
/-- a part of a slice -/
def tOp (K : PySem.W.Frag) (env : List SV) (m : Option (Option Int)) : TO := fun σ H Q =>
  ∃ W0 W : Wd, W.h = H ∧ EnvR K W0 W env σ ∧ ∃ x, m = some x ∧ ∀ W', Le W W' → Q x W'.h
abbrev XO (X : Cx) (env : List SV) (e : Option Expr) (m : Option (Option Int)) : Prop := PO X e (tOp X.K env m)
theorem poImp {e : Option Expr} {t t' : TO} (h : PO X e t) (kk : ∀ σ H Q, t' σ H Q → t σ H Q) : PO X e t' := ⟨fun pins s σ H Q I q => h.run pins s σ H Q I (kk σ H Q q)⟩
theorem o_none : XO X env none (some none) := poImp po_none fun σ H Q ⟨W0, W, hH, E, x, hx, q⟩ => by
  subst hH
  cases hx
  exact q W (Le.refl E.ok)
theorem o_some {m : Option Int} (h : XE X env e m) : XO X env (some e) (m.bind fun i => some (some i)) := poImp (po_some h) fun σ H Q ⟨W0, W, hH, E, x, hx, q⟩ => by
  subst hH
  obtain ⟨i, hi, hx⟩ := bind_some hx
  cases hx
  refine use_x E hi fun v W1 l1 r1 => ?_
  cases r1
  exact ⟨i, rfl, q W1 l1⟩
theorem use_o {W0 W : Wd} {σ : St} {m : Option (Option Int)} {x : Option Int} {Q : Option Int → Hp → Prop} (E : EnvR K W0 W env σ) (h : m = some x) (q : ∀ W', Le W W' → Q x W'.h) : tOp K env m σ W.h Q := ⟨W0, W, rfl, E, x, h, q⟩
def cutP (z : Str) (lo hi : Option Int) : Option Str := if sz z.length then some (cutS z lo hi) else none
theorem x_cutS {lo hi : Option Expr} {m : Option Str} {ml mh : Option (Option Int)} (h : XE X env e m) (hl : XO X env lo ml) (hh : XO X env hi mh) : XE X env (.Subscript e (.Slice lo hi none p2) pos) (m.bind fun z => ml.bind fun l => mh.bind fun u => cutP z l u) :=
  x_of (pe_slice sl_str h hl hh) fun W0 W σ E z hz Q q => by
    obtain ⟨d, hd, hz⟩ := bind_some hz
    obtain ⟨l, hl, hz⟩ := bind_some hz
    obtain ⟨u, hu, hz⟩ := bind_some hz
    unfold cutP at hz
    split at hz
    · rename_i hs
      cases hz
      refine use_x E hd fun v W1 l1 r1 => ?_
      refine use_o (E.mono l1) hl fun W2 l2 => ?_
      refine use_o ((E.mono l1).mono l2) hu fun W3 l3 => ?_
      cases r1
      exact ⟨d, rfl, Nat.le_of_lt (sz_line hs), q _ W3 (l1.trans (l2.trans l3)) (.str _)⟩
    · cases hz
/-- the items of a slice -/
def cut (xs : List τ) (lo hi : Option Int) : List τ := (xs.drop (HT.sIx xs.length 0 lo)).take (HT.sIx xs.length xs.length hi - HT.sIx xs.length 0 lo)
theorem RpA.cut {H : Hp} {vs : List V} {ds : List D} (r : RpA K H vs ds) (lo hi : Option Int) : RpA K H (cutV vs lo hi) (T.cut ds lo hi) := by
  unfold cutV T.cut
  rw [r.length]
  exact (r.drop _).take _
theorem cut_map {f : α → β} {xs : List α} {lo hi : Option Int} : T.cut (xs.map f) lo hi = (T.cut xs lo hi).map f := by
  unfold T.cut
  rw [List.length_map, List.map_take, List.map_drop]
theorem l_cutQ {lo hi : Option Expr} {m : Option (List τ)} {ml mh : Option (Option Int)} (h : XQ X env e m) (hl : XO X env lo ml) (hh : XO X env hi mh) : XL X env (.Subscript e (.Slice lo hi none p2) pos) (m.bind fun z => ml.bind fun l => mh.bind fun u => some (T.cut z l u)) :=
  l_of (pe_slice sl_list h hl hh) fun W0 W σ E z hz Q q => by
    obtain ⟨d, hd, hz⟩ := bind_some hz
    obtain ⟨l, hl, hz⟩ := bind_some hz
    obtain ⟨u, hu, hz⟩ := bind_some hz
    cases hz
    refine use_q E hd fun a vs W1 l1 s1 r1 => ?_
    refine use_o (E.mono l1) hl fun W2 l2 => ?_
    refine use_o ((E.mono l1).mono l2) hu fun W3 l3 => ?_
    have l13 := l1.trans (l2.trans l3)
    refine ⟨a, vs, rfl, (l2.trans l3).h.seq s1, fun p hp => ?_⟩
    refine q p _ ⟨W3.b, upd W3.h p (.lst (cutV vs l u))⟩ (l13.trans (Le.layM l13.ok hp)) (l13.h.free hp) upd_same (l13.ok.free hp) ?_
    rw [← cut_map]
    exact (r1.mono (l2.trans l3).b).cut l u
/-! ### lists -/
def catL (x y : List τ) : Option (List τ) := if x.length + y.length < 16777216 then some (x ++ y) else none
theorem l_cat {ma mb : Option (List τ)} (ha : XQ X env a ma) (hb : XQ X env b mb) : XL X env (.BinOp a .Add b pos) (ma.bind fun x => mb.bind fun y => catL x y) :=
  l_of (pe_op op_catQ ha hb) fun W0 W σ E z hz Q q => by
    obtain ⟨x, hx, hz⟩ := bind_some hz
    obtain ⟨y, hy, hz⟩ := bind_some hz
    unfold catL at hz
    split at hz
    · rename_i hs
      cases hz
      refine use_q E hx fun a vs W1 l1 s1 r1 => ?_
      refine use_q (E.mono l1) hy fun b us W2 l2 s2 r2 => ?_
      have h1 := r1.length
      have h2 := r2.length
      rw [List.length_map] at h1 h2
      have l12 := l1.trans l2
      refine ⟨a, b, vs, us, rfl, rfl, l2.h.seq s1, s2, by rw [h1, h2]; exact Nat.le_of_lt (sz_line hs), fun p hp => ?_⟩
      refine q p _ ⟨W2.b, upd W2.h p (.lst (vs ++ us))⟩ (l12.trans (Le.layM l12.ok hp)) (l12.h.free hp) upd_same (l12.ok.free hp) ?_
      rw [List.map_append]
      exact (r1.mono l2.b).append r2
    · cases hz
/-- list(xs) -/
theorem l_copy {m : Option (List τ)} (C : Cf X N sc fb K mg P w base k) (h : XQ X env e m) (hm : mg "list" = none) (hg : glbB sc "list" = true := by decide +kernel)
    (he : ∀ E : Env, starEach [e] E = (false, eval e E) :: starEach [] E := by intro _; rfl) (hpl : ∀ E : Env, (backTo pos (starEach ([] : List Expr) E)).any (·.1) = false := by intro _; rfl) : XL X env (.Call (.Name "list" p) [e] [] pos) m := by
  cases C
  refine l_of (pe_callTy call_list_of (glbB_ok hg) hm (by decide +kernel) (paQ h (he _)) (by decide) (by decide) (he _) (hpl _)) fun W0 W σ E z hz Q q => ?_
  refine ⟨W0, W, rfl, E, z, hz, fun a vs W1 l1 s1 r1 => ⟨a, vs, rfl, .inl s1, fun p hp => ?_⟩⟩
  exact q p vs ⟨W1.b, upd W1.h p (.lst vs)⟩ (l1.trans (Le.layM l1.ok hp)) (l1.h.free hp) upd_same (l1.ok.free hp) r1
/-- tuple(xs) -/
theorem x_tupleQ {m : Option (List τ)} (C : Cf X N sc fb K mg P w base k) (h : XQ X env e m) (hm : mg "tuple" = none) (hg : glbB sc "tuple" = true := by decide +kernel)
    (he : ∀ E : Env, starEach [e] E = (false, eval e E) :: starEach [] E := by intro _; rfl) : XE X env (.Call (.Name "tuple" p) [e] [] pos) (m.bind fun xs => some (⟨xs⟩ : Vt τ)) :=
  x_cTQ C call_tuple_of h (fun d y hy W a vs ok s r Q q => by
    cases hy
    refine ⟨a, vs, rfl, .inl ⟨s, fun l hl => ?_⟩⟩
    exact q (.ref l) _ (Le.lay ok (o := .tup vs) hl) (.tup (SqT.of upd_same) (r.mono (Same.new (ok.free hl))))) hm (by decide +kernel) hg (by decide) (by decide) he
/-- list(range(..)) -/
def rngL (lo hi : Int) : Option (List Int) := if -4611686018427387904 ≤ lo ∧ lo < 4611686018427387904 ∧ -4611686018427387904 ≤ hi ∧ hi < 4611686018427387904 ∧ (hi - lo).toNat ≤ 16777216 then some (rng lo hi) else none
theorem rgV_eq (lo hi : Int) : RpA K H (rgV lo hi) ((rng lo hi).map em) := by
  unfold rgV rng
  generalize (List.range (hi - lo).toNat) = l
  induction l with
  | nil => exact .nil
  | cons i l ih => exact .cons (.int _) ih
theorem l_listRng1 {m : Option Int} {q1 : Pos} (C : Cf X N sc fb K mg P w base k) (h : XE X env a m) (hm : mg "list" = none) (hm2 : mg "range" = none) (hg : glbB sc "list" = true := by decide +kernel) (hg2 : glbB sc "range" = true := by decide +kernel)
    (na : starEach [a] X.env = (false, eval a X.env) :: starEach [] X.env := by rfl) (na2 : starEach [.Call (.Name "range" q1) [a] [] p2] X.env = (false, eval (.Call (.Name "range" q1) [a] [] p2) X.env) :: starEach [] X.env := by rfl) :
    XL X env (.Call (.Name "list" p) [.Call (.Name "range" q1) [a] [] p2] [] pos) (m.bind fun n => rngL 0 n) := by
  cases C with
  | mk nd calm po rm =>
    refine l_of (pe_listRg calm (glbB_ok hg) hm (prg_1 (glbB_ok hg2) hm2 h na) na2) fun W0 W σ E z hz Q q => ?_
    obtain ⟨n, hn, hz⟩ := bind_some hz
    unfold rngL at hz
    split at hz
    · rename_i hr
      cases hz
      unfold tLstRg tRg1
      refine use_x E hn fun v W1 l1 r1 => ?_
      cases r1
      refine ⟨n, rfl, ⟨by omega, by omega, by omega, by omega, by omega⟩, fun p hp => ?_⟩
      exact q p _ ⟨W1.b, upd W1.h p (.lst (rgV 0 n))⟩ (l1.trans (Le.layM l1.ok hp)) (l1.h.free hp) upd_same (l1.ok.free hp) (rgV_eq 0 n)
    · cases hz
/-- sep.join(xs) -/
def joinP (a : Str) (ys : List Str) : Option Str := if (ys.map (·.length)).sum + ys.length * a.length ≤ 16777216 then some (Txt.join a ys) else none
theorem vs_str : ∀ {H : Hp} {vs : List V} {ys : List Str}, RpA K H vs (ys.map em) → vs = ys.map V.str
  | _, _, [], .nil => rfl
  | _, _, _ :: _, .cons r t => by
    cases r
    rw [List.map_cons, vs_str t]
theorem x_join {ma : Option Str} {m : Option (List Str)} (ha : XE X env o ma) (h : XQ X env e m) (hs : ∀ E : Env, starEach [e] E = [(false, eval e E)] := by intro _; rfl)
    (hbase : ∀ E : Env, attributeBase o "join" E (eval o E) = eval o E := by intro _; rfl) (hline : (apos.endLine == pos.line) = true := by rfl) : XE X env (.Call (.Attribute o "join" apos) [e] [] pos) (ma.bind fun x => m.bind fun y => joinP x y) :=
  x_of (pe_join ha h (hs _) (hbase _) hline) fun W0 W σ E z hz Q q => by
    obtain ⟨x, hx, hz⟩ := bind_some hz
    obtain ⟨y, hy, hz⟩ := bind_some hz
    unfold joinP at hz
    split at hz
    · rename_i hl
      cases hz
      refine use_x E hx fun v W1 l1 r1 => ?_
      cases r1
      refine ⟨⟨x, rfl⟩, ?_⟩
      refine use_q (E.mono l1) hy fun a vs W2 l2 s2 r2 => ?_
      have e2 := vs_str r2
      subst e2
      exact ⟨x, a, y, rfl, rfl, .inl s2, hl, q _ W2 (l1.trans l2) (.str _)⟩
    · cases hz
/-- enumerate(text) -/
def enumS (s : Str) : List (Int × Str) := (List.range s.cps.size).zip (signs s) |>.map fun p => ((p.1 : Int), p.2)
theorem enumS_length (s : Str) : (enumS s).length = s.cps.size := by simp [enumS, signs]
theorem w_enumS (C : Cf X N sc fb K mg P w base k) {elts : List Expr} {kk : Nat} {tpos : Pos} {m : Option Str} (h : XE X env e m) (hm : mg "enumerate" = none) (hg : glbB sc "enumerate" = true := by decide +kernel)
    (he : ∀ E : Env, starEach [e] E = (false, eval e E) :: starEach [] E := by intro _; rfl) (hs : ∀ E : Env, starEach [e] E = [(false, eval e E)] := by intro _; rfl) :
    XWk X env (.Tuple elts kk tpos) (.Call (.Name "enumerate" p) [e] [] pos) (m.bind fun s => some (enumS s)) := by
  cases C
  refine piImp (pi_enumS (glbB_ok hg) hm (a_dat h a_nil (he _)) (hs _)) fun σ H R ⟨W0, W, hH, E, x, hx, q⟩ => ?_
  subst hH
  obtain ⟨s, hs, hx⟩ := bind_some hx
  cases hx
  refine use_ax E hs fun v W1 l1 r1 => ?_
  cases r1
  refine ⟨s, rfl, q _ W1 l1 ⟨fun i y W2 hy sb l0 => ?_, fun W2 sb l0 => ?_⟩⟩
  · have hi : i < s.cps.size := by have := (List.getElem?_eq_some_iff.mp hy).1; rwa [enumS_length] at this
    refine ⟨hi, fun v' H' ⟨T, c, e1, hT, e3, e2⟩ => ?_⟩
    subst e1 e3
    have hc : s.cps.toList[i]? = some c := by simpa using e2
    have : y = ((i : Int), (⟨#[c]⟩ : Str)) := by
      have h2 : (enumS s)[i]? = some ((i : Int), (⟨#[c]⟩ : Str)) := by
        unfold enumS signs
        rw [List.getElem?_map, List.zip_eq_zipWith, List.getElem?_zipWith, List.getElem?_range hi, List.getElem?_map, hc]
        rfl
      rw [h2] at hy
      exact (Option.some.inj hy).symm
    subst this
    exact ⟨_, Le.lay l0.ok (o := .tup [.int (i : Nat), .str ⟨#[c]⟩]) hT, rfl, .tup (SqT.of upd_same) (.cons (.int _) (.cons (.str _) .nil))⟩
  · exact enumS_length s
/-! ### isinstance -/
def isD (tn : String) : D → Bool
  | .non => tn == "NoneType"
  | .bl _ => tn == "bool" || tn == "int"
  | .int _ => tn == "int"
  | .str _ => tn == "str"
  | .tup _ => tn == "tuple"
  | .lst _ => tn == "list"
  | .ins _ _ _ => false
def tyD : D → Option String
  | .non => some "NoneType"
  | .bl _ => some "bool"
  | .int _ => some "int"
  | .str _ => some "str"
  | .tup _ => some "tuple"
  | .lst _ => some "list"
  | .ins _ _ _ => none
def isiP (tn : String) (d : D) : Option Bool := (tyD d).map fun _ => isD tn d
theorem tyx_of {H : Hp} {W : Wd} (ok : Same W.b W.h) {v : V} {d : D} {t : String} (r : Rp K W.b v d) (h : tyD d = some t) : TyX K W.h v (.type t) := by
  cases r with
  | non => cases h; exact .base .non
  | bl b => cases h; exact .base (.bl b)
  | int i => cases h; exact .base (.int i)
  | str s => cases h; exact .base (.str s)
  | tup s _ =>
    cases h
    rcases s with (s | ⟨o, s⟩) | ⟨o, its, n, s, hc, _⟩
    · exact .base (.tup (ok _ _ s))
    · exact .fTuple (ok _ _ s)
    · exact .kTuple s hc
  | lst s _ =>
    cases h
    rcases s with (s | ⟨o, s⟩) | ⟨o, its, n, s, hc, _⟩
    · exact .base (.lst (ok _ _ s))
    · exact .base (.frz (ok _ _ s))
    · exact .kList s hc
  | ins _ _ _ => cases h
/-- a built-in type's name as an argument -/
theorem x_isi {m : Option τ} {q1 : Pos} {t : Str} {tn : String} (C : Cf X N sc fb K mg P w base k) (h : XE X env a m) (hk : ∀ U : String, U ∈ ["NoneType", "bool", "int", "str", "tuple", "list"] → kitB U tn = some (match U with
      | "bool" => tn == "bool" || tn == "int"
      | U => tn == U))
    (hm : mg "isinstance" = none) (hm2 : mg t = none) (hv2 : bootBuiltins t = some (.type tn) := by decide +kernel) (hg : glbB sc "isinstance" = true := by decide +kernel) (hg2 : glbB sc t = true := by decide +kernel) (hn2 : t ≠ "__name__" := by decide) (hdb2 : (t == ("__debug__" : Str)) = false := by decide)
    (h1 : ∀ E : Env, starEach [a, .Name t q1] E = (false, eval a E) :: starEach [.Name t q1] E := by intro _; rfl) (h2 : ∀ E : Env, starEach [.Name t q1] E = (false, eval (.Name t q1) E) :: starEach [] E := by intro _; rfl)
    (hpl : ∀ E : Env, (backTo pos (starEach [.Name t q1] E)).any (·.1) = false := by intro _; rfl) :
    XE X env (.Call (.Name "isinstance" p) [a, .Name t q1] [] pos) (m.bind fun x => isiP tn (em x)) := by
  cases C
  refine x_of (pe_callB call_isi (glbB_ok hg) hm (by decide +kernel) (pa_cons h (pa_cons (pe_bltn (v := .ty tn) (glbB_ok hg2) hm2 hv2 rfl hn2 hdb2) pa_nil (h2 _)) (h1 _)) (by decide) (by decide) (h1 _) (hpl _)) fun W0 W σ E z hz Q q => ?_
  obtain ⟨x, hx, hz⟩ := bind_some hz
  refine use_x E hx fun v W1 l1 r1 => ?_
  unfold isiP at hz
  cases ht : tyD (em x) with
  | none => rw [ht] at hz; cases hz
  | some U =>
    rw [ht] at hz
    have hz : isD tn (em x) = z := Option.some.inj hz
    subst hz
    refine ⟨v, .ty tn, .type U, .type tn, isD tn (em x), rfl, .ty tn, tyx_of (H := W1.h) l1.ok r1 ht, kit_ty ?_, q _ W1 l1 (.bl _)⟩
    have mem : U ∈ ["NoneType", "bool", "int", "str", "tuple", "list"] := by
      revert ht
      cases em x <;> intro ht <;> cases ht <;> decide
    rw [hk U mem]
    revert ht
    cases em x <;> intro ht <;> cases ht <;> rfl
end
theorem kit_int : ∀ U : String, U ∈ ["NoneType", "bool", "int", "str", "tuple", "list"] → kitB U "int" = some (match U with
      | "bool" => "int" == "bool" || "int" == "int"
      | U => "int" == U) := by decide +kernel
theorem kit_bool : ∀ U : String, U ∈ ["NoneType", "bool", "int", "str", "tuple", "list"] → kitB U "bool" = some (match U with
      | "bool" => "bool" == "bool" || "bool" == "int"
      | U => "bool" == U) := by decide +kernel
theorem kit_str : ∀ U : String, U ∈ ["NoneType", "bool", "int", "str", "tuple", "list"] → kitB U "str" = some (match U with
      | "bool" => "str" == "bool" || "str" == "int"
      | U => "str" == U) := by decide +kernel
theorem kit_tuple : ∀ U : String, U ∈ ["NoneType", "bool", "int", "str", "tuple", "list"] → kitB U "tuple" = some (match U with
      | "bool" => "tuple" == "bool" || "tuple" == "int"
      | U => "tuple" == U) := by decide +kernel
theorem kit_list : ∀ U : String, U ∈ ["NoneType", "bool", "int", "str", "tuple", "list"] → kitB U "list" = some (match U with
      | "bool" => "list" == "bool" || "list" == "int"
      | U => "list" == U) := by decide +kernel
end T

set_option Elab.async false
set_option linter.all false
set_option maxRecDepth 100000
set_option maxHeartbeats 4000000
namespace T
open PySem PySem.Spec PyProof.Rows L2
variable {τ α β γ δ ρ B S ι : Type}
section
variable {X : Cx} {env env' : List SV} {e a b c tg iter elt o : Expr} {st : Stmt} {es : List Expr} {body rest : List Stmt} {pos p p2 p3 apos : Pos} [Em τ] [Em α] [Em β] [Em γ] {N : List Str} {sc : Scope} {fb : Str → Bool} {K : PySem.W.Frag} {mg : Str → Option Value} {P : Program} {w : World} {base : Heap} {k : Nat}
/-! ### written numbers -/
theorem x_mulCr {ma : Option Int} {c : Int} {j : Nat} (ha : XE X env a ma) (hc : c.natAbs < 18446744073709551616 := by decide) : XE X env (.BinOp a .Mult (.Constant (.int c) j p) pos) (ma.bind fun x => some (x * c)) :=
  (x_mul ha (x_int (i := c))).is (by
    cases ma with
    | none => rfl
    | some x =>
      show mulP x c = some (x * c)
      unfold mulP
      rw [if_pos (Or.inr (by omega))])
theorem x_mulCl {mb : Option Int} {c : Int} {j : Nat} (hb : XE X env b mb) (hc : c.natAbs < 18446744073709551616 := by decide) : XE X env (.BinOp (.Constant (.int c) j p) .Mult b pos) (mb.bind fun x => some (c * x)) :=
  (x_mul (x_int (i := c)) hb).is (by
    cases mb with
    | none => rfl
    | some x =>
      show mulP c x = some (c * x)
      unfold mulP
      rw [if_pos (Or.inl (by omega))])
theorem x_modC {ma : Option Int} {c : Int} {j : Nat} (ha : XE X env a ma) (hc : c ≠ 0 := by decide) : XE X env (.BinOp a .Mod (.Constant (.int c) j p) pos) (ma.bind fun x => some (x.fmod c)) :=
  (x_mod ha (x_int (i := c))).is (by
    cases ma with
    | none => rfl
    | some x =>
      show modP x c = some (x.fmod c)
      unfold modP
      rw [if_neg hc])
theorem x_divC {ma : Option Int} {c : Int} {j : Nat} (ha : XE X env a ma) (hc : c ≠ 0 ∧ c.natAbs < 1073741824 := by decide) : XE X env (.BinOp a .FloorDiv (.Constant (.int c) j p) pos) (ma.bind fun x => some (x.fdiv c)) :=
  (x_div ha (x_int (i := c))).is (by
    cases ma with
    | none => rfl
    | some x =>
      show divP x c = some (x.fdiv c)
      unfold divP
      rw [if_neg hc.1, if_pos hc.2])
theorem x_powC {c d r : Int} {i j : Nat} (hr : powP c d = some r := by decide +kernel) : XE X env (.BinOp (.Constant (.int c) i p) .Pow (.Constant (.int d) j p2) pos) (some r) :=
  (x_pow (x_int (i := c)) (x_int (i := d))).is hr
/-! ### comparisons as tests -/
theorem t_cmp {op : CmpOp} {r : R2} {ma : Option α} {mb : Option β} {f : α → β → Option Bool} (ho : OpR X (compareOp op) r) (ha : XE X env a ma) (hb : XE X env b mb) (hm : behindInMarks op b = false)
    (hr : ∀ x y z, f x y = some z → ∀ (W : Wd) (u v : V), Same W.b W.h → Rp X.K W.b u (em x) → Rp X.K W.b v (em y) → ∀ Q : VK, (∀ v W', Le W W' → Rp X.K W'.b v (em z) → Q v W'.h) → r u v W.h Q) :
    XT X env (.Compare a [op] [b] pos) (ma.bind fun x => mb.bind fun y => f x y) := by
  refine t_of (pt_cmpR ho ha hb hm) fun W0 W σ E z hz Q q => ?_
  obtain ⟨x, hx, hz⟩ := bind_some hz
  obtain ⟨y, hy, hz⟩ := bind_some hz
  unfold tTest L2.tOp
  refine use_x E hx fun u W1 l1 r1 => ?_
  refine use_x (E.mono l1) hy fun v W2 l2 r2 => ?_
  refine hr x y z hz W2 u v l2.ok (r1.mono l2.b) r2 _ fun v' W3 l3 r3 => ?_
  cases r3
  exact ⟨z, rfl, q W3 (l1.trans (l2.trans l3))⟩
theorem t_cmpI {op : CmpOp} {g : Int → Int → Bool} {ma mb : Option Int} (ho : OpR X (compareOp op) (rI0 fun i j => .bl (g i j))) (ha : XE X env a ma) (hb : XE X env b mb) (hm : behindInMarks op b = false) :
    XT X env (.Compare a [op] [b] pos) (ma.bind fun x => mb.bind fun y => some (g x y)) :=
  t_cmp ho ha hb hm fun x y z hz W u v ok ru rv Q q => by
    cases hz
    cases ru; cases rv
    exact ⟨x, y, rfl, rfl, q _ W (Le.refl ok) (.bl _)⟩
theorem t_lt {ma mb : Option Int} (ha : XE X env a ma) (hb : XE X env b mb) : XT X env (.Compare a [.Lt] [b] pos) (ma.bind fun x => mb.bind fun y => some (decide (x < y))) := t_cmpI op_lt ha hb (nomark _)
theorem t_le {ma mb : Option Int} (ha : XE X env a ma) (hb : XE X env b mb) : XT X env (.Compare a [.LtE] [b] pos) (ma.bind fun x => mb.bind fun y => some (decide (x ≤ y))) := t_cmpI op_le ha hb (nomark _)
theorem t_gt {ma mb : Option Int} (ha : XE X env a ma) (hb : XE X env b mb) : XT X env (.Compare a [.Gt] [b] pos) (ma.bind fun x => mb.bind fun y => some (decide (y < x))) := t_cmpI op_gt ha hb (nomark _)
theorem t_ge {ma mb : Option Int} (ha : XE X env a ma) (hb : XE X env b mb) : XT X env (.Compare a [.GtE] [b] pos) (ma.bind fun x => mb.bind fun y => some (decide (y ≤ x))) := t_cmpI op_ge ha hb (nomark _)
theorem t_eq {τ : Type} [Pl τ] {ma mb : Option τ} (ha : XE X env a ma) (hb : XE X env b mb) : XT X env (.Compare a [.Eq] [b] pos) (ma.bind fun x => mb.bind fun y => some (decide (x = y))) :=
  t_cmp op_eq ha hb (nomark _) fun x y z hz W u v ok ru rv Q q => by
    cases hz
    obtain ⟨h1, h2⟩ := Pl.eq ru rv
    refine ⟨h1, ?_⟩
    rw [show decide (u = v) = decide (x = y) from decide_eq_decide.mpr h2]
    exact q _ W (Le.refl ok) (.bl _)
theorem t_ne {τ : Type} [Pl τ] {ma mb : Option τ} (ha : XE X env a ma) (hb : XE X env b mb) : XT X env (.Compare a [.NotEq] [b] pos) (ma.bind fun x => mb.bind fun y => some (!decide (x = y))) :=
  t_cmp op_ne ha hb (nomark _) fun x y z hz W u v ok ru rv Q q => by
    cases hz
    obtain ⟨h1, h2⟩ := Pl.eq ru rv
    refine ⟨h1, ?_⟩
    rw [show decide (u = v) = decide (x = y) from decide_eq_decide.mpr h2]
    exact q _ W (Le.refl ok) (.bl _)
/-- a op b op' c over ints -/
def chI (g g' : Int → Int → Bool) (ma mb mc : Option Int) : Option Bool := ma.bind fun x => mb.bind fun y => if g x y = true then mc.bind fun z => some (g' y z) else some false
theorem x_chI {op op' : CmpOp} {g g' : Int → Int → Bool} {ma mb mc : Option Int} (ho : OpR X (compareOp op) (rI0 fun i j => .bl (g i j))) (ho' : OpR X (compareOp op') (rI0 fun i j => .bl (g' i j))) (ha : XE X env a ma) (hb : XE X env b mb) (hc : XE X env c mc)
    (hm : lastMarks [op, op'] [b, c] = false := by with_unfolding_all rfl) : XE X env (.Compare a [op, op'] [b, c] pos) (chI g g' ma mb mc) := by
  refine x_of (pe_chain ho ho' ha hb hc hm) fun W0 W σ E z hz Q q => ?_
  unfold chI at hz
  obtain ⟨x, hx, hz⟩ := bind_some hz
  obtain ⟨y, hy, hz⟩ := bind_some hz
  unfold tChain
  refine use_x E hx fun u W1 l1 r1 => ?_
  refine use_x (E.mono l1) hy fun v W2 l2 r2 => ?_
  cases r1; cases r2
  refine ⟨x, y, rfl, rfl, g x y, rfl, ?_⟩
  by_cases hg : g x y = true
  · rw [if_pos hg] at hz ⊢
    obtain ⟨t, ht, hz⟩ := bind_some hz
    cases hz
    refine use_x ((E.mono l1).mono l2) ht fun v W3 l3 r3 => ?_
    cases r3
    exact ⟨y, t, rfl, rfl, q _ W3 (l1.trans (l2.trans l3)) (.bl _)⟩
  · rw [if_neg hg] at hz ⊢
    cases hz
    exact q _ W2 (l1.trans l2) (.bl _)
theorem t_chI {op op' : CmpOp} {g g' : Int → Int → Bool} {ma mb mc : Option Int} (ho : OpR X (compareOp op) (rI0 fun i j => .bl (g i j))) (ho' : OpR X (compareOp op') (rI0 fun i j => .bl (g' i j))) (ha : XE X env a ma) (hb : XE X env b mb) (hc : XE X env c mc)
    (hm : lastMarks [op, op'] [b, c] = false := by with_unfolding_all rfl) : XT X env (.Compare a [op, op'] [b, c] pos) (chI g g' ma mb mc) := by
  refine t_of (pt_chain ho ho' ha hb hc hm) fun W0 W σ E z hz Q q => ?_
  unfold chI at hz
  obtain ⟨x, hx, hz⟩ := bind_some hz
  obtain ⟨y, hy, hz⟩ := bind_some hz
  unfold tTest tChain
  refine use_x E hx fun u W1 l1 r1 => ?_
  refine use_x (E.mono l1) hy fun v W2 l2 r2 => ?_
  cases r1; cases r2
  refine ⟨x, y, rfl, rfl, g x y, rfl, ?_⟩
  by_cases hg : g x y = true
  · rw [if_pos hg] at hz ⊢
    obtain ⟨t, ht, hz⟩ := bind_some hz
    cases hz
    refine use_x ((E.mono l1).mono l2) ht fun v W3 l3 r3 => ?_
    cases r3
    exact ⟨y, t, rfl, rfl, _, rfl, q W3 (l1.trans (l2.trans l3))⟩
  · rw [if_neg hg] at hz ⊢
    cases hz
    exact ⟨_, rfl, q W2 (l1.trans l2)⟩
theorem x_neg {m : Option Int} (h : XE X env a m) : XE X env (.UnaryOp .USub a pos) (m.bind fun i => some (-i)) :=
  x_of (pe_un un_neg h) fun W0 W σ E z hz Q q => by
    obtain ⟨x, hx, hz⟩ := bind_some hz
    cases hz
    refine use_x E hx fun u W1 l1 r1 => ?_
    cases r1
    exact ⟨x, rfl, q _ W1 l1 (.int _)⟩
/-- -3, written -/
theorem x_negL {i r : Int} {j : Nat} (h : -i = r := by rfl) : XE X env (.UnaryOp .USub (.Constant (.int i) j p) pos) (some r) := (x_neg x_int).is (by subst h; rfl)
/-! ### the slots of a block's own names -/
theorem own0 {Q : Nat → Prop} : ∀ i ∈ ([] : List (Str × Nat)).map (·.2), Q i := fun i h => by cases h
theorem ownS {Q : Nat → Prop} {n : Str} {j : Nat} {l : List (Str × Nat)} (h : Q j) (t : ∀ i ∈ l.map (·.2), Q i) : ∀ i ∈ ((n, j) :: l).map (·.2), Q i := fun i q => by
  rw [List.map_cons] at q
  rcases List.mem_cons.mp q with e | e
  · rw [e]; exact h
  · exact t i e
theorem is0 {Q : Nat → Prop} : ∀ i ∈ ([] : List Nat), Q i := fun i h => by cases h
theorem isS {Q : Nat → Prop} {j : Nat} {l : List Nat} (h : Q j) (t : ∀ i ∈ l, Q i) : ∀ i ∈ j :: l, Q i := fun i q => by
  rcases List.mem_cons.mp q with e | e
  · rw [e]; exact h
  · exact t i e
/-! ### a def as it stands at the top -/
structure Df (P : Program) (w : World) (K : PySem.W.Frag) (mg : Str → Option Value) (base : Heap) (j : Nat) (x : Str) (f : Addr) (fd : FuncData) (ps : List Str) (sp : Sp) : Prop where
  ok : FnOk P w K mg base CX0 j f fd ps sp
  mg : mg x = some (.ref f)
  kp : PySem.W.keepIn K (.ref f) = true
  bd : Binds K fd ps []
theorem x_callD {A : Type} {svs : A → List SV} {m : A → Option τ} {ma : Option A} {x : Str} {f : Addr} {fd : FuncData} {ps : List Str} {j : Nat} (C : Cf X N sc fb K mg P w base k) (G : Df P w K mg base j x f fd ps (spF K svs m fun x => .dat (em x)))
    (ha : XA X env (e :: es) ma svs) (hj : j ≤ k := by decide) (hg : glbB sc x = true := by decide +kernel)
    (hdb : (x == ("__debug__" : Str)) = false := by decide) (he : starEach (e :: es) X.env = (false, eval e X.env) :: starEach es X.env := by rfl) (hpl : (backTo pos (starEach es X.env)).any (·.1) = false := by rfl) :
    XE X env (.Call (.Name x p) (e :: es) [] pos) (ma.bind m) := x_call C G.ok G.mg G.kp G.bd ha hj hg hdb he hpl
theorem l_callD {A : Type} {svs : A → List SV} {m : A → Option (List τ)} {ma : Option A} {x : Str} {f : Addr} {fd : FuncData} {ps : List Str} {j : Nat} (C : Cf X N sc fb K mg P w base k) (G : Df P w K mg base j x f fd ps (spF K svs m fun x => .own (x.map em)))
    (ha : XA X env (e :: es) ma svs) (hj : j ≤ k := by decide) (hg : glbB sc x = true := by decide +kernel)
    (hdb : (x == ("__debug__" : Str)) = false := by decide) (he : starEach (e :: es) X.env = (false, eval e X.env) :: starEach es X.env := by rfl) (hpl : (backTo pos (starEach es X.env)).any (·.1) = false := by rfl) :
    XL X env (.Call (.Name x p) (e :: es) [] pos) (ma.bind m) := l_call C G.ok G.mg G.kp G.bd ha hj hg hdb he hpl
end
theorem hzD {K : PySem.W.Frag} {res : ρ → RV} : ∀ r W0 B D, ZRn K res r W0 B D → ZR K res r W0 B D := fun _ _ _ _ z => z.1
theorem hzO {K : PySem.W.Frag} {res : ρ → RV} {r : ρ} : ∀ W0 B D, ZRn K res r W0 B D → ZR K res r W0 B D := fun _ _ _ z => z.1
theorem hzI {K : PySem.W.Frag} {res : ρ → RV} : ∀ r W0 B D, ZR K res r W0 B D → ZR K res r W0 B D := fun _ _ _ _ z => z
/-! ### the law's own end -/
def spLaw (K : PySem.W.Frag) : Sp := fun vs H Q _ => ∃ (a : Addr) (ns : List Int), vs = [.ref a] ∧ SqL K H a (ns.map V.int) ∧ ns.length ≤ 63 ∧ ∀ H', Q (.bl true) H'
theorem ints_rp {K : PySem.W.Frag} {H : Hp} : ∀ ns : List Int, RpA K H (ns.map V.int) (ns.map em)
  | [] => .nil
  | n :: ns => .cons (.int n) (ints_rp ns)
theorem law_ok {P : Program} {w : World} {K : PySem.W.Frag} {mg : Str → Option Value} {base : Heap} {k : Nat} {f : Addr} {fd : FuncData} {m : List Int × Unit → Option Bool}
    (G : FnOk P w K mg base CX0 k f fd ["script"] (spF K (fun a : List Int × Unit => [.bor (a.1.map em)]) m fun x => .dat (em x))) (hm : ∀ ns : List Int, ns.length ≤ 63 → m (ns, ()) = some true) : FnOk P w K mg base CX0 k f fd ["script"] (spLaw K) := by
  refine G.imp fun vs H Q E h => ?_
  obtain ⟨a, ns, rfl, hS, hl, q⟩ := h
  exact ⟨⟨fun _ => none, H⟩, (ns, ()), true, rfl, (fun _ _ h => by cases h), .bor hS (ints_rp ns) .nil, hm ns hl, fun v W' l r => by cases r; exact q _⟩
theorem law_walk {l : PySem.W.OpenLaw} {k : Nat} {q : Program} {loose : List Str} {XP : (Str → Option Value) → Heap → Prop} {YP : World → Heap → Prop} {d : DefRec} {K : Params → PySem.W.Frag} (hn : l.most = some 63) (hdf : d.params.defaults = [])
    (hY : ∀ (w : World) (h : Heap), YP w h → (K w.params).In h) (hk : Room k callerA)
    (F : ∀ (w : World) (mg : Str → Option Value) (fa : Addr) (h : Heap), (K w.params).In h → h.Ns mainGlobals mg → mg d.name = some (.ref fa) →
      ∃ fd : FuncData, (∀ (s : Shared) (u : Value), BindsTo s fd ⟨[u], []⟩ [("script", u)]) ∧ ∀ base : Heap, (K w.params).In base → base.Ns mainGlobals mg → FnOk l.prog w (K w.params) mg base CX0 k fa fd ["script"] (spLaw (K w.params))) :
    PySem.W.WalkO q loose XP YP l.row.toRowW d [] (fun f vs => PySem.call f vs) :=
  L2.walk_of (n := 63) (k := k) (x := "script") (CX := fun _ => CX0) (sp := fun w => spLaw (K w.params)) hn (by decide) hdf hk hY F (fun _ _ a ns hl _ hS => ⟨a, ns, rfl, hS, hl, fun _ => rfl⟩) fun _ _ _ _ _ z => z
end T

set_option Elab.async false
set_option linter.all false
set_option maxRecDepth 100000
set_option maxHeartbeats 4000000
/-! TData: values of any kind (D), sequences, membership, lists that are multiplied or grow within, defs that call themselves. -/
namespace T
open PySem PySem.Spec PyProof.Rows L2
variable {τ α β γ δ ρ B S ι : Type}
section
variable {X : Cx} {env env' : List SV} {e a b c tg iter elt o : Expr} {st : Stmt} {es : List Expr} {body rest : List Stmt} {pos p p2 p3 apos : Pos} [Em τ] [Em α] [Em β] [Em γ] {N : List Str} {sc : Scope} {fb : Str → Bool} {K : PySem.W.Frag} {mg : Str → Option Value} {P : Program} {w : World} {base : Heap} {k : Nat}
variable {Z : ρ → Wd → Hp → Ends → Prop}
/-! ### data of any kind -/
def isN : D → Bool
  | .non => true
  | _ => false
def lenD : D → Option Int
  | .tup l => some l.length
  | .lst l => some l.length
  | _ => none
/-- == of two plain values of one kind -/
def eqD : D → D → Option Bool
  | .bl x, .bl y => some (decide (x = y))
  | .int x, .int y => some (decide (x = y))
  | .str x, .str y => some (decide (x = y))
  | _, _ => none
def itsD : D → Option (List D)
  | .tup l => some l
  | .lst l => some l
  | _ => none
def zipD : D → D → Option (List (D × D))
  | .tup l, .tup m => some (l.zip m)
  | .lst l, .lst m => some (l.zip m)
  | _, _ => none
theorem map_em (l : List D) : l.map em = l := by induction l with
  | nil => rfl
  | cons x l ih => rw [List.map_cons, ih]; rfl
theorem isN_rp {K : PySem.W.Frag} {H : Hp} {v : V} {d : D} (r : Rp K H v d) : decide (v = .non) = isN d := by
  cases r <;> rfl
theorem x_isN {m : Option τ} {j : Nat} (h : XE X env a m) : XE X env (.Compare a [.Is] [.Constant .none j p] pos) (m.bind fun x => some (isN (em x))) :=
  (x_cmp (b := .Constant .none j p) (ma := m) (mb := some ()) (f := fun x _ => some (isN (em x))) op_isN h x_non (nomark _) fun x y z hz W u v ok ru rv Q q => by
    cases hz
    cases rv
    refine ⟨rfl, ?_⟩
    rw [isN_rp ru]
    exact q _ W (Le.refl ok) (.bl _)).is (by cases m <;> rfl)
theorem t_isN {m : Option τ} {j : Nat} (h : XE X env a m) : XT X env (.Compare a [.Is] [.Constant .none j p] pos) (m.bind fun x => some (isN (em x))) :=
  (t_cmp (b := .Constant .none j p) (ma := m) (mb := some ()) (f := fun x _ => some (isN (em x))) op_isN h x_non (nomark _) fun x y z hz W u v ok ru rv Q q => by
    cases hz
    cases rv
    refine ⟨rfl, ?_⟩
    rw [isN_rp ru]
    exact q _ W (Le.refl ok) (.bl _)).is (by cases m <;> rfl)
theorem x_notN {m : Option τ} {j : Nat} (h : XE X env a m) : XE X env (.Compare a [.IsNot] [.Constant .none j p] pos) (m.bind fun x => some (!isN (em x))) :=
  (x_cmp (b := .Constant .none j p) (ma := m) (mb := some ()) (f := fun x _ => some (!isN (em x))) op_notN h x_non (nomark _) fun x y z hz W u v ok ru rv Q q => by
    cases hz
    cases rv
    refine ⟨rfl, ?_⟩
    rw [isN_rp ru]
    exact q _ W (Le.refl ok) (.bl _)).is (by cases m <;> rfl)
theorem t_notN {m : Option τ} {j : Nat} (h : XE X env a m) : XT X env (.Compare a [.IsNot] [.Constant .none j p] pos) (m.bind fun x => some (!isN (em x))) :=
  (t_cmp (b := .Constant .none j p) (ma := m) (mb := some ()) (f := fun x _ => some (!isN (em x))) op_notN h x_non (nomark _) fun x y z hz W u v ok ru rv Q q => by
    cases hz
    cases rv
    refine ⟨rfl, ?_⟩
    rw [isN_rp ru]
    exact q _ W (Le.refl ok) (.bl _)).is (by cases m <;> rfl)
theorem eqD_rp {K : PySem.W.Frag} {H : Hp} {u v : V} {d e : D} {z : Bool} (r : Rp K H u d) (q : Rp K H v e) (h : eqD d e = some z) : scal u v = true ∧ decide (u = v) = z := by
  cases r <;> cases q <;> first
    | (cases h; done)
    | (cases h; exact ⟨rfl, by simp⟩)
theorem x_eqD {ma mb : Option D} (ha : XE X env a ma) (hb : XE X env b mb) : XE X env (.Compare a [.Eq] [b] pos) (ma.bind fun x => mb.bind fun y => eqD x y) :=
  x_cmp op_eq ha hb (nomark _) fun x y z hz W u v ok ru rv Q q => by
    obtain ⟨h1, h2⟩ := eqD_rp ru rv hz
    refine ⟨h1, ?_⟩
    rw [h2]
    exact q _ W (Le.refl ok) (.bl _)
theorem t_eqD {ma mb : Option D} (ha : XE X env a ma) (hb : XE X env b mb) : XT X env (.Compare a [.Eq] [b] pos) (ma.bind fun x => mb.bind fun y => eqD x y) :=
  t_cmp op_eq ha hb (nomark _) fun x y z hz W u v ok ru rv Q q => by
    obtain ⟨h1, h2⟩ := eqD_rp ru rv hz
    refine ⟨h1, ?_⟩
    rw [h2]
    exact q _ W (Le.refl ok) (.bl _)
theorem x_lenD {m : Option D} (C : Cf X N sc fb K mg P w base k) (h : XE X env e m) (hm : mg "len" = none) (hg : glbB sc "len" = true := by decide +kernel)
    (he : ∀ E : Env, starEach [e] E = (false, eval e E) :: starEach [] E := by intro _; rfl) : XE X env (.Call (.Name "len" p) [e] [] pos) (m.bind lenD) :=
  x_cB1 C call_len_seq h (fun d y hy W v ok r Q q => by
    have r : Rp X.K W.b v d := r
    cases r with
    | tup s t =>
      cases hy
      refine ⟨_, _, rfl, .inr (same_t ok s), ?_⟩
      rw [t.length]
      exact q _ W (Le.refl ok) (.int _)
    | lst s t =>
      cases hy
      refine ⟨_, _, rfl, .inl (ok.seq s), ?_⟩
      rw [t.length]
      exact q _ W (Le.refl ok) (.int _)
    | _ => cases hy) hm PySem.boot_len hg (by decide) (by decide) he
/-! ### zip of tuples, of data -/
theorem walk_zipL {W0 W1 : Wd} {u v : Addr} {xs : List α} {ys : List β} {vs us : List V} (s1 : ∀ W : Wd, Same W1.b W.b → Le W0 W → SqL K W.h u vs) (s2 : ∀ W : Wd, Same W1.b W.b → Le W0 W → SqL K W.h v us) (r1 : RpA K W1.b vs (xs.map em)) (r2 : RpA K W1.b us (ys.map em)) : Walk K W0 W1 (Itz K u v) (xs.zip ys) where
  item := fun i y W2 hy sb l0 => by
    obtain ⟨x1, x2⟩ := y
    rw [List.zip_eq_zipWith, List.getElem?_zipWith] at hy
    cases h1 : xs[i]? with
    | none => rw [h1] at hy; simp at hy
    | some z1 =>
      cases h2 : ys[i]? with
      | none => rw [h1, h2] at hy; simp at hy
      | some z2 =>
        rw [h1, h2] at hy
        obtain ⟨rfl, rfl⟩ : z1 = x1 ∧ z2 = x2 := by simpa using hy
        obtain ⟨v1, e1, q1⟩ := r1.get (show (xs.map em)[i]? = some (em z1) by rw [List.getElem?_map, h1]; rfl)
        obtain ⟨v2, e2, q2⟩ := r2.get (show (ys.map em)[i]? = some (em z2) by rw [List.getElem?_map, h2]; rfl)
        have t1 := s1 W2 sb l0
        have t2 := s2 W2 sb l0
        refine ⟨⟨vs, us, v1, v2, t1, t2, e1, e2⟩, fun v' H' ⟨T', x, y, e3, hT, e4, h5, h6⟩ => ?_⟩
        subst e3 e4
        have g1 := h5 _ t1
        have g2 := h6 _ t2
        rw [e1] at g1
        rw [e2] at g2
        cases g1; cases g2
        exact ⟨_, Le.lay l0.ok (o := .tup [v1, v2]) hT, rfl, .tup (SqT.of upd_same) (.cons ((q1.mono sb).mono (Same.new (l0.ok.free hT))) (.cons ((q2.mono sb).mono (Same.new (l0.ok.free hT))) .nil))⟩
  stop := fun W2 sb l0 => by
    refine ⟨vs, us, s1 W2 sb l0, s2 W2 sb l0, ?_⟩
    have h1 := r1.length
    have h2 := r2.length
    rw [List.length_map] at h1 h2
    rw [List.length_zip, h1, h2]
    omega
theorem walk_zipT {W0 W1 : Wd} {u v : Addr} {xs : List α} {ys : List β} {vs us : List V} (s1 : ∀ W : Wd, Same W1.b W.b → Le W0 W → SqT K W.h u vs) (s2 : ∀ W : Wd, Same W1.b W.b → Le W0 W → SqT K W.h v us) (r1 : RpA K W1.b vs (xs.map em)) (r2 : RpA K W1.b us (ys.map em)) : Walk K W0 W1 (RZ.ItzT K u v) (xs.zip ys) where
  item := fun i y W2 hy sb l0 => by
    obtain ⟨x1, x2⟩ := y
    rw [List.zip_eq_zipWith, List.getElem?_zipWith] at hy
    cases h1 : xs[i]? with
    | none => rw [h1] at hy; simp at hy
    | some z1 =>
      cases h2 : ys[i]? with
      | none => rw [h1, h2] at hy; simp at hy
      | some z2 =>
        rw [h1, h2] at hy
        obtain ⟨rfl, rfl⟩ : z1 = x1 ∧ z2 = x2 := by simpa using hy
        obtain ⟨v1, e1, q1⟩ := r1.get (show (xs.map em)[i]? = some (em z1) by rw [List.getElem?_map, h1]; rfl)
        obtain ⟨v2, e2, q2⟩ := r2.get (show (ys.map em)[i]? = some (em z2) by rw [List.getElem?_map, h2]; rfl)
        have t1 := s1 W2 sb l0
        have t2 := s2 W2 sb l0
        refine ⟨⟨vs, us, v1, v2, t1, t2, e1, e2⟩, fun v' H' ⟨T', x, y, e3, hT, e4, h5, h6⟩ => ?_⟩
        subst e3 e4
        have g1 := h5 _ t1
        have g2 := h6 _ t2
        rw [e1] at g1
        rw [e2] at g2
        cases g1; cases g2
        exact ⟨_, Le.lay l0.ok (o := .tup [v1, v2]) hT, rfl, .tup (SqT.of upd_same) (.cons ((q1.mono sb).mono (Same.new (l0.ok.free hT))) (.cons ((q2.mono sb).mono (Same.new (l0.ok.free hT))) .nil))⟩
  stop := fun W2 sb l0 => by
    refine ⟨vs, us, s1 W2 sb l0, s2 W2 sb l0, ?_⟩
    have h1 := r1.length
    have h2 := r2.length
    rw [List.length_map] at h1 h2
    rw [List.length_zip, h1, h2]
    omega
theorem w_zipD (C : Cf X N sc fb K mg P w base k) {elts : List Expr} {kk : Nat} {tpos : Pos} {ma mb : Option D} (h : XE X env a ma) (h' : XE X env b mb) (hm : mg "zip" = none) (hg : glbB sc "zip" = true := by decide +kernel)
    (h1 : starEach [a, b] X.env = (false, eval a X.env) :: starEach [b] X.env := by rfl) (h2 : starEach [b] X.env = (false, eval b X.env) :: starEach [] X.env := by rfl) (hpl : (backTo pos (starEach [b] X.env)).any (·.1) = false := by rfl) :
    XWk X env (.Tuple elts kk tpos) (.Call (.Name "zip" p) [a, b] [] pos) (ma.bind fun x => mb.bind fun y => zipD x y) := by
  cases C
  refine piImp (RZ.pi_zipA (glbB_ok hg) hm (a_dat h (a_dat h' a_nil h2) h1) h1 hpl) fun σ H R ⟨W0, W, hH, E, x, hx, q⟩ => ?_
  subst hH
  obtain ⟨xs, hxs, hx⟩ := bind_some hx
  obtain ⟨ys, hys, hx⟩ := bind_some hx
  refine use_a E (x := (xs, ys, ())) (by rw [hxs, hys]; rfl) fun vs W1 l1 r1 => ?_
  cases r1 with
  | dat r1 r2 =>
    cases r2 with
    | dat r2 r3 =>
      cases r3
      have r1 : Rp X.K W1.b _ xs := r1
      have r2 : Rp X.K W1.b _ ys := r2
      cases r1 with
      | tup s1 t1 =>
        cases r2 with
        | tup s2 t2 =>
          cases hx
          exact ⟨_, _, _, _, rfl, .inr ⟨same_t l1.ok s1, same_t l1.ok s2, q _ W1 l1 (walk_zipT (fun W sb l => same_t l.ok (same_t sb s1)) (fun W sb l => same_t l.ok (same_t sb s2)) (by rw [map_em]; exact t1) (by rw [map_em]; exact t2))⟩⟩
        | _ => cases hx
      | lst s1 t1 =>
        cases r2 with
        | lst s2 t2 =>
          cases hx
          exact ⟨_, _, _, _, rfl, .inl ⟨l1.ok.seq s1, l1.ok.seq s2, q _ W1 l1 (walk_zipL (fun W sb l => l.ok.seq (sb.seq s1)) (fun W sb l => l.ok.seq (sb.seq s2)) (by rw [map_em]; exact t1) (by rw [map_em]; exact t2))⟩⟩
        | _ => cases hx
      | _ => cases hx
/-- two lists that are borrowed -/
theorem w_zipB (C : Cf X N sc fb K mg P w base k) (i j : Nat) {n m : Str} {p1 p2 : Pos} {elts : List Expr} {kk : Nat} {tpos : Pos} {xs : List α} {ys : List β} (hm : mg "zip" = none) (hi : env[i]? = some (.bor (xs.map em)) := by rfl) (hj : env[j]? = some (.bor (ys.map em)) := by rfl)
    (hni : N[i]? = some n := by rfl) (hv : visB sc n = true := by decide +kernel) (hd : (n == ("__debug__" : Str)) = false := by decide) (hcd : (n == ("__classdict__" : Str)) = false := by decide)
    (hnj : N[j]? = some m := by rfl) (hv' : visB sc m = true := by decide +kernel) (hd' : (m == ("__debug__" : Str)) = false := by decide) (hcd' : (m == ("__classdict__" : Str)) = false := by decide)
    (hg : glbB sc "zip" = true := by decide +kernel)
    (h1 : ∀ E : Env, starEach [.Name n p1, .Name m p2] E = (false, eval (.Name n p1) E) :: starEach [.Name m p2] E := by intro _; rfl) (h2 : ∀ E : Env, starEach [.Name m p2] E = (false, eval (.Name m p2) E) :: starEach [] E := by intro _; rfl) (hpl : ∀ E : Env, (backTo pos (starEach [.Name m p2] E)).any (·.1) = false := by intro _; rfl) :
    XWk X env (.Tuple elts kk tpos) (.Call (.Name "zip" p) [.Name n p1, .Name m p2] [] pos) (some (xs.zip ys)) := by
  cases C
  refine piImp (RZ.pi_zipA (glbB_ok hg) hm (pa_cons (pe_var hni (visB_ok hv) hd hcd) (pa_cons (pe_var hnj (visB_ok hv') hd' hcd') pa_nil (h2 _)) (h1 _)) (h1 _) (hpl _)) fun σ H R ⟨W0, W, hH, E, x, hx, q⟩ => ?_
  subst hH
  cases hx
  obtain ⟨o1, f1, u, vs, e1, s1, t1⟩ := E.slot i _ hi
  obtain ⟨o2, f2, v, us, e2, s2, t2⟩ := E.slot j _ hj
  subst e1
  subst e2
  refine ⟨_, f1, _, f2, _, _, _, _, rfl, .inl ⟨E.le.h.seq s1, E.le.h.seq s2, q _ W (Le.refl E.ok) (walk_zipL (fun W sb l => l.h.seq s1) (fun W sb l => l.h.seq s2) (t1.mono E.le.b) (t2.mono E.le.b))⟩⟩
/-! ### in, not in: items of one plain kind -/
theorem Pl.flat [Pl τ] {K : PySem.W.Frag} {H : Hp} {v : V} {x : τ} (h : ∀ x : τ, (∃ i, em x = .int i) ∨ (∃ i, em x = .bl i) ∨ ∃ i, em x = .str i) (r : Rp K H v (em x)) : flatV v = true := by
  rcases h x with ⟨i, e⟩ | ⟨i, e⟩ | ⟨i, e⟩
  all_goals
    rw [e] at r
    cases r
    rfl
class Fl1 (τ : Type) [Pl τ] : Prop where
  fl : ∀ x : τ, (∃ i, em x = .int i) ∨ (∃ i, em x = .bl i) ∨ ∃ i, em x = .str i
  eqv : ∀ {K : PySem.W.Frag} {H : Hp} {x y : τ} {u v : V}, Rp K H u (em x) → Rp K H v (em y) → eqV u v = decide (x = y)
instance : Fl1 Int := ⟨fun x => .inl ⟨x, rfl⟩, fun r q => by cases r; cases q; rfl⟩
instance : Fl1 Bool := ⟨fun x => .inr (.inl ⟨x, rfl⟩), fun {_ _ x y _ _} r q => by cases r; cases q; revert x y; decide⟩
instance : Fl1 Str := ⟨fun x => .inr (.inr ⟨x, rfl⟩), fun {_ _ x y _ _} r q => by cases r; cases q; show (x == y) = _; rfl⟩
def memB [Pl τ] (x : τ) (ys : List τ) : Bool := ys.any fun y => decide (y = x)
theorem memB_iff [Pl τ] {x : τ} {ys : List τ} : memB x ys = true ↔ x ∈ ys := by
  unfold memB
  simp
theorem inV_rp {τ : Type} [Pl τ] [Fl1 τ] {K : PySem.W.Frag} {H : Hp} {u : V} {x : τ} (r : Rp K H u (em x)) : ∀ {vs : List V} {ys : List τ}, RpA K H vs (ys.map em) → vs.all flatV = true ∧ inV u vs = memB x ys
  | [], [], .nil => ⟨rfl, rfl⟩
  | v :: vs, y :: ys, .cons q t => by
    obtain ⟨h1, h2⟩ := inV_rp r t
    refine ⟨by rw [List.all_cons, Pl.flat Fl1.fl q, h1]; rfl, ?_⟩
    unfold inV memB at h2 ⊢
    rw [List.any_cons, List.any_cons, h2, Fl1.eqv q r]
section
variable {τ : Type} [Pl τ] [Fl1 τ]
theorem q_in {neg : Bool} {op : CmpOp} (ho : OpR X (compareOp op) (rIn X.K neg)) {ma : Option τ} {mb : Option (List τ)} (ha : XE X env a ma) (hb : XQ X env b mb) (hmk : behindInMarks op b = false) :
    PE X (.Compare a [op] [b] pos) (fun σ H Q => ∃ W0 W : Wd, W.h = H ∧ EnvR X.K W0 W env σ ∧ ∃ x ys, ma = some x ∧ mb = some ys ∧ ∀ W', Le W W' → Q (.bl (if neg then !memB x ys else memB x ys)) W'.h) ∧
    PT X (.Compare a [op] [b] pos) (fun σ H Q => ∃ W0 W : Wd, W.h = H ∧ EnvR X.K W0 W env σ ∧ ∃ x ys, ma = some x ∧ mb = some ys ∧ ∀ W', Le W W' → Q (if neg then !memB x ys else memB x ys) W'.h) := by
  refine ⟨peImp (pe_cmpR ho ha hb hmk) fun σ H Q ⟨W0, W, hH, E, x, ys, hx, hy, q⟩ => ?_, ptImp (pt_cmpR ho ha hb hmk) fun σ H Q ⟨W0, W, hH, E, x, ys, hx, hy, q⟩ => ?_⟩
  · subst hH
    refine use_x E hx fun u W1 l1 r1 => ?_
    refine use_q (E.mono l1) hy fun ad vs W2 l2 s2 r2 => ?_
    obtain ⟨h1, h2⟩ := inV_rp (r1.mono l2.b) r2
    refine ⟨ad, vs, rfl, .inl s2, Pl.flat Fl1.fl r1, h1, ?_⟩
    rw [h2]
    exact q W2 (l1.trans l2)
  · subst hH
    unfold tTest L2.tOp
    refine use_x E hx fun u W1 l1 r1 => ?_
    refine use_q (E.mono l1) hy fun ad vs W2 l2 s2 r2 => ?_
    obtain ⟨h1, h2⟩ := inV_rp (r1.mono l2.b) r2
    refine ⟨ad, vs, rfl, .inl s2, Pl.flat Fl1.fl r1, h1, ?_⟩
    rw [h2]
    exact ⟨_, rfl, q W2 (l1.trans l2)⟩
theorem v_in {neg : Bool} {op : CmpOp} (ho : OpR X (compareOp op) (rIn X.K neg)) {ma : Option τ} {mb : Option (Vt τ)} (ha : XE X env a ma) (hb : XE X env b mb) (hmk : behindInMarks op b = false) :
    PE X (.Compare a [op] [b] pos) (fun σ H Q => ∃ W0 W : Wd, W.h = H ∧ EnvR X.K W0 W env σ ∧ ∃ x ys, ma = some x ∧ mb = some ys ∧ ∀ W', Le W W' → Q (.bl (if neg then !memB x ys.l else memB x ys.l)) W'.h) ∧
    PT X (.Compare a [op] [b] pos) (fun σ H Q => ∃ W0 W : Wd, W.h = H ∧ EnvR X.K W0 W env σ ∧ ∃ x ys, ma = some x ∧ mb = some ys ∧ ∀ W', Le W W' → Q (if neg then !memB x ys.l else memB x ys.l) W'.h) := by
  refine ⟨peImp (pe_cmpR ho ha hb hmk) fun σ H Q ⟨W0, W, hH, E, x, ys, hx, hy, q⟩ => ?_, ptImp (pt_cmpR ho ha hb hmk) fun σ H Q ⟨W0, W, hH, E, x, ys, hx, hy, q⟩ => ?_⟩
  · subst hH
    refine use_x E hx fun u W1 l1 r1 => ?_
    refine use_x (E.mono l1) hy fun v W2 l2 r2 => ?_
    have r2 : Rp X.K W2.b v (.tup (ys.l.map em)) := r2
    cases r2 with
    | tup s2 r2 =>
      obtain ⟨h1, h2⟩ := inV_rp (r1.mono l2.b) r2
      refine ⟨_, _, rfl, .inr (same_t l2.ok s2), Pl.flat Fl1.fl r1, h1, ?_⟩
      rw [h2]
      exact q W2 (l1.trans l2)
  · subst hH
    unfold tTest L2.tOp
    refine use_x E hx fun u W1 l1 r1 => ?_
    refine use_x (E.mono l1) hy fun v W2 l2 r2 => ?_
    have r2 : Rp X.K W2.b v (.tup (ys.l.map em)) := r2
    cases r2 with
    | tup s2 r2 =>
      obtain ⟨h1, h2⟩ := inV_rp (r1.mono l2.b) r2
      refine ⟨_, _, rfl, .inr (same_t l2.ok s2), Pl.flat Fl1.fl r1, h1, ?_⟩
      rw [h2]
      exact ⟨_, rfl, q W2 (l1.trans l2)⟩
theorem x_inQ {ma : Option τ} {mb : Option (List τ)} (ha : XE X env a ma) (hb : XQ X env b mb) (hmk : behindInMarks .In b = false := by rfl) : XE X env (.Compare a [.In] [b] pos) (ma.bind fun x => mb.bind fun y => some (memB x y)) :=
  x_of (q_in op_in_seq ha hb hmk).1 fun W0 W σ E z hz Q q => by
    obtain ⟨x, hx, hz⟩ := bind_some hz
    obtain ⟨y, hy, hz⟩ := bind_some hz
    cases hz
    exact ⟨W0, W, rfl, E, x, y, hx, hy, fun W' l => q _ W' l (.bl _)⟩
theorem t_inQ {ma : Option τ} {mb : Option (List τ)} (ha : XE X env a ma) (hb : XQ X env b mb) (hmk : behindInMarks .In b = false := by rfl) : XT X env (.Compare a [.In] [b] pos) (ma.bind fun x => mb.bind fun y => some (memB x y)) :=
  t_of (q_in op_in_seq ha hb hmk).2 fun W0 W σ E z hz Q q => by
    obtain ⟨x, hx, hz⟩ := bind_some hz
    obtain ⟨y, hy, hz⟩ := bind_some hz
    cases hz
    exact ⟨W0, W, rfl, E, x, y, hx, hy, q⟩
theorem x_ninQ {ma : Option τ} {mb : Option (List τ)} (ha : XE X env a ma) (hb : XQ X env b mb) (hmk : behindInMarks .NotIn b = false := by rfl) : XE X env (.Compare a [.NotIn] [b] pos) (ma.bind fun x => mb.bind fun y => some (!memB x y)) :=
  x_of (q_in op_notIn_seq ha hb hmk).1 fun W0 W σ E z hz Q q => by
    obtain ⟨x, hx, hz⟩ := bind_some hz
    obtain ⟨y, hy, hz⟩ := bind_some hz
    cases hz
    exact ⟨W0, W, rfl, E, x, y, hx, hy, fun W' l => q _ W' l (.bl _)⟩
theorem t_ninQ {ma : Option τ} {mb : Option (List τ)} (ha : XE X env a ma) (hb : XQ X env b mb) (hmk : behindInMarks .NotIn b = false := by rfl) : XT X env (.Compare a [.NotIn] [b] pos) (ma.bind fun x => mb.bind fun y => some (!memB x y)) :=
  t_of (q_in op_notIn_seq ha hb hmk).2 fun W0 W σ E z hz Q q => by
    obtain ⟨x, hx, hz⟩ := bind_some hz
    obtain ⟨y, hy, hz⟩ := bind_some hz
    cases hz
    exact ⟨W0, W, rfl, E, x, y, hx, hy, q⟩
theorem x_inV {ma : Option τ} {mb : Option (Vt τ)} (ha : XE X env a ma) (hb : XE X env b mb) (hmk : behindInMarks .In b = false := by rfl) : XE X env (.Compare a [.In] [b] pos) (ma.bind fun x => mb.bind fun y => some (memB x y.l)) :=
  x_of (v_in op_in_seq ha hb hmk).1 fun W0 W σ E z hz Q q => by
    obtain ⟨x, hx, hz⟩ := bind_some hz
    obtain ⟨y, hy, hz⟩ := bind_some hz
    cases hz
    exact ⟨W0, W, rfl, E, x, y, hx, hy, fun W' l => q _ W' l (.bl _)⟩
theorem t_inV {ma : Option τ} {mb : Option (Vt τ)} (ha : XE X env a ma) (hb : XE X env b mb) (hmk : behindInMarks .In b = false := by rfl) : XT X env (.Compare a [.In] [b] pos) (ma.bind fun x => mb.bind fun y => some (memB x y.l)) :=
  t_of (v_in op_in_seq ha hb hmk).2 fun W0 W σ E z hz Q q => by
    obtain ⟨x, hx, hz⟩ := bind_some hz
    obtain ⟨y, hy, hz⟩ := bind_some hz
    cases hz
    exact ⟨W0, W, rfl, E, x, y, hx, hy, q⟩
theorem x_ninV {ma : Option τ} {mb : Option (Vt τ)} (ha : XE X env a ma) (hb : XE X env b mb) (hmk : behindInMarks .NotIn b = false := by rfl) : XE X env (.Compare a [.NotIn] [b] pos) (ma.bind fun x => mb.bind fun y => some (!memB x y.l)) :=
  x_of (v_in op_notIn_seq ha hb hmk).1 fun W0 W σ E z hz Q q => by
    obtain ⟨x, hx, hz⟩ := bind_some hz
    obtain ⟨y, hy, hz⟩ := bind_some hz
    cases hz
    exact ⟨W0, W, rfl, E, x, y, hx, hy, fun W' l => q _ W' l (.bl _)⟩
theorem t_ninV {ma : Option τ} {mb : Option (Vt τ)} (ha : XE X env a ma) (hb : XE X env b mb) (hmk : behindInMarks .NotIn b = false := by rfl) : XT X env (.Compare a [.NotIn] [b] pos) (ma.bind fun x => mb.bind fun y => some (!memB x y.l)) :=
  t_of (v_in op_notIn_seq ha hb hmk).2 fun W0 W σ E z hz Q q => by
    obtain ⟨x, hx, hz⟩ := bind_some hz
    obtain ⟨y, hy, hz⟩ := bind_some hz
    cases hz
    exact ⟨W0, W, rfl, E, x, y, hx, hy, q⟩
end
/-! ### lists: times, insert -/
def repL (xs : List τ) (n : Int) : Option (List τ) := if -4611686018427387904 ≤ n ∧ n < 4611686018427387904 ∧ xs.length * n.toNat ≤ 16777216 then some (List.replicate n.toNat xs).flatten else none
theorem RpA.rep {H : Hp} {vs : List V} {ds : List D} (r : RpA K H vs ds) : ∀ n, RpA K H (List.replicate n vs).flatten (List.replicate n ds).flatten
  | 0 => .nil
  | n + 1 => by
    rw [List.replicate_succ, List.replicate_succ, List.flatten_cons, List.flatten_cons]
    exact r.append (RpA.rep r n)
theorem l_rep {ma : Option (List τ)} {mb : Option Int} (ha : XL X env a ma) (hb : XE X env b mb) : XL X env (.BinOp a .Mult b pos) (ma.bind fun x => mb.bind fun y => repL x y) :=
  l_of (pe_op op_rep ha hb) fun W0 W σ E z hz Q q => by
    obtain ⟨x, hx, hz⟩ := bind_some hz
    obtain ⟨y, hy, hz⟩ := bind_some hz
    unfold repL at hz
    split at hz
    · rename_i hs
      cases hz
      refine use_l E hx fun a vs W1 l1 h0 h1 hb r1 => ?_
      refine use_x (E.mono l1) hy fun u W2 l2 r2 => ?_
      cases r2
      have hl := r1.length
      rw [List.length_map] at hl
      have l12 := l1.trans l2
      refine ⟨a, y, vs, rfl, rfl, l2.h _ _ h1, by omega, by omega, by rw [hl]; exact hs.2.2, fun p hp => ?_⟩
      refine q p _ ⟨W2.b, upd W2.h p (.lst (List.replicate y.toNat vs).flatten)⟩ (l12.trans (Le.layM l12.ok hp)) (l12.h.free hp) upd_same (l12.ok.free hp) ?_
      rw [List.map_flatten, List.map_replicate]
      exact (r1.mono l2.b).rep _
    · cases hz
def insP (xs : List τ) (i : Int) (x : τ) : Option (List τ) := if sz xs.length ∧ 0 ≤ i ∧ i < 4611686018427387904 then some (xs.take i.toNat ++ [x] ++ xs.drop i.toNat) else none
/-- xs.insert(i, e) -/
theorem g_insert (C : Cf X N sc fb K mg P w base k) (i : Nat) {n : Str} {p1 apos p3 : Pos} {xs : List τ} {mi : Option Int} {me : Option τ} {f : List τ → Option ρ} (hj : XE X env b mi) (he : XE X env e me) (hr : ∀ ys : List τ, GS X (env.set i (.own (ys.map em))) rest (f ys) Z)
    (hx : env[i]? = some (.own (xs.map em)) := by rfl) (hi : N[i]? = some n := by rfl) (hv : visB sc n = true := by decide +kernel)
    (hd : (n == ("__debug__" : Str)) = false := by decide) (hcd : (n == ("__classdict__" : Str)) = false := by decide)
    (hbase : ∀ E : Env, attributeBase (.Name n p1) "insert" E (eval (.Name n p1) E) = eval (.Name n p1) E := by intro _; rfl)
    (hfew : ∀ E : Env, ((backTo p3 (starEach [b, e] E)).all (fun x => !x.1) && (backToKw p3 (keywordEach [] E)).all (fun x => x.1.isSome)
      && decide ([b, e].length + ([] : List Keyword).length + (if ([] : List Keyword).isEmpty then 0 else 1) < 30)) = true := by intro _; rfl)
    (hline : (apos.endLine == p3.line) = true := by rfl) (hs : ∀ E : Env, starEach [b, e] E = (false, eval b E) :: starEach [e] E := by intro _; rfl) (hs2 : ∀ E : Env, starEach [e] E = (false, eval e E) :: starEach [] E := by intro _; rfl)
    (hplain : ∀ E : Env, (backTo p3 (starEach ([e] : List Expr) E)).any (·.1) = false := by intro _; rfl) :
    GS X env (.Expr (.Call (.Attribute (.Name n p1) "insert" apos) [b, e] [] p3) pos :: rest) (mi.bind fun j => me.bind fun x => (insP xs j x).bind f) Z := by
  cases C
  refine g_of (ps_expr (pe_bm PySem.F.plainAttrs_list PySem.F.slot_list_insert PySem.F.type_list_insert mt_insert (pe_var hi (visB_ok hv) hd hcd) (pa_cons hj (pa_cons he pa_nil (hs2 _)) (hs _)) (hbase _) (hfew _) hline (hs _) (hplain _)) rfl) hr fun W0 W B σ D r E sb hm z => ?_
  obtain ⟨j, hmj, hm⟩ := bind_some hm
  obtain ⟨x, hme, hm⟩ := bind_some hm
  obtain ⟨ys, hy, hm⟩ := bind_some hm
  unfold insP at hy
  split at hy
  · rename_i hz
    cases hy
    obtain ⟨a, vs, h1, h2, h3, h0, r1⟩ := E.own hx
    refine ⟨_, h1, Or.inl ⟨rfl, _, SqL.of h2⟩, ?_⟩
    refine use_x E hmj fun vj W1 l1 rj => ?_
    cases rj
    refine use_x (E.mono l1) hme fun v W2 l2 rv => ?_
    have l12 := l1.trans l2
    have E1 := (E.mono l1).mono l2
    have hl : vs.length = xs.length := by have := r1.length; rwa [List.length_map] at this
    refine ⟨a, vs, j, v, rfl, rfl, l12.h _ _ h2, by rw [hl]; exact sz_line hz.1, hz.2.1, by omega, xs.take j.toNat ++ [x] ++ xs.drop j.toNat, ?_⟩
    refine use_g (E1.write (es := (xs.take j.toNat ++ [x] ++ xs.drop j.toNat).map em) hx h1 ?_) (sb.trans l12.b) hm z
    rw [List.map_append, List.map_append, List.map_take, List.map_drop]
    exact (((r1.mono l12.b).take _).append (.cons rv .nil)).append ((r1.mono l12.b).drop _)
  · cases hy
end
/-! ### a def that calls itself: level by level -/
theorem fn_none {A : Type} {P : Program} {w : World} {K : PySem.W.Frag} {mg : Str → Option Value} {base : Heap} {svs : A → List SV} {m : A → Option ρ} {res : ρ → RV} {f : Addr} {fd : FuncData} {ps : List Str} {k : Nat} (h : ∀ a, m a = none) : FnOk P w K mg base CX0 k f fd ps (spF K svs m res) :=
  ⟨fun vs H Q E q => (by obtain ⟨W, a, x, _, _, _, hx, _⟩ := q; rw [h a] at hx; cases hx), fun A outer s H args us vs Q E _ _ _ _ q => (by obtain ⟨W, a, x, _, _, _, hx, _⟩ := q; rw [h a] at hx; cases hx)⟩
end T

set_option Elab.async false
set_option linter.all false
set_option maxRecDepth 100000
set_option maxHeartbeats 8000000
namespace K02
open PySem PySem.Spec PyProof.Rows L2 T
/-! ### compare -/
def M_compare (p_winner : (Vt Int)) (p_loser : (Vt Int)) : Option (Vt Str) := (some ([] : (List Str))).bind fun v_row_1 => (((some p_winner).bind fun y_2 => some (List.length y_2.l : Int)).bind fun y_3 => rngP 0 y_3).bind fun y_6 => (foldO (fun (s_4 : (List Str)) (v_k_5 : Int) => ((((some p_winner).bind fun y_7 => (some v_k_5).bind fun y_8 => atI y_7.l y_8).bind fun y_11 => ((some p_loser).bind fun y_9 => (some v_k_5).bind fun y_10 => atI y_9.l y_10).bind fun y_12 => some (decide (y_11 = y_12))).bind fun c_25 => if c_25 = true then (some ("e" : Str)).bind fun y_15 => (appP s_4 y_15).bind fun v_row_14 => some v_row_14 else ((((some p_winner).bind fun y_16 => (some v_k_5).bind fun y_17 => atI y_16.l y_17).bind fun y_20 => ((some p_loser).bind fun y_18 => (some v_k_5).bind fun y_19 => atI y_18.l y_19).bind fun y_21 => some (decide (y_20 < y_21))).bind fun c_22 => if c_22 = true then some ("W" : Str) else some ("L" : Str)).bind fun y_24 => (appP s_4 y_24).bind fun v_row_23 => some v_row_23).bind fun s_13 : (List Str) => some s_13) v_row_1 y_6).bind fun s_4 => ((some s_4).bind fun y_26 => some (⟨y_26⟩ : Vt Str)).bind fun r_27 => some r_27
/-! ### fuse -/
def M_fuse (p_rows : (List (Vt Str))) : Option (Vt Str) := (some ([] : (List Str))).bind fun v_fused_28 => ((((some p_rows).bind fun y_29 => (some (0 : Int)).bind fun y_30 => atI y_29 y_30).bind fun y_31 => some (List.length y_31.l : Int)).bind fun y_32 => rngP 0 y_32).bind fun y_35 => (foldO (fun (s_33 : (List Str)) (v_k_34 : Int) => ((some p_rows).bind fun y_42 => lcC (fun _ : (Vt Str) => some true) (fun v_row_38 : (Vt Str) => (some v_row_38).bind fun y_39 => (some v_k_34).bind fun y_40 => atI y_39.l y_40) y_42).bind fun v_column_36 => (((some ("L" : Str)).bind fun y_43 => (some v_column_36).bind fun y_44 => some (memB y_43 y_44)).bind fun c_53 => if c_53 = true then (some ("L" : Str)).bind fun y_47 => (appP s_33 y_47).bind fun v_fused_46 => some v_fused_46 else (((some ("W" : Str)).bind fun y_48 => (some v_column_36).bind fun y_49 => some (memB y_48 y_49)).bind fun c_50 => if c_50 = true then some ("W" : Str) else some ("e" : Str)).bind fun y_52 => (appP s_33 y_52).bind fun v_fused_51 => some v_fused_51).bind fun s_45 : (List Str) => some s_45) v_fused_28 y_35).bind fun s_33 => ((some s_33).bind fun y_54 => some (⟨y_54⟩ : Vt Str)).bind fun r_55 => some r_55
/-! ### contradictory -/
def M_contradictory (p_row : (Vt Str)) : Option Bool := (andO ((some ("L" : Str)).bind fun y_56 => (some p_row).bind fun y_57 => some (memB y_56 y_57.l)) ((some ("W" : Str)).bind fun y_58 => (some p_row).bind fun y_59 => some (!memB y_58 y_59.l))).bind fun r_60 => some r_60
/-! ### _law_draws -/
def M__law_draws (p_script : (List Int)) (p_count : Int) : Option (List Int) := ((some p_script).bind fun y_67 => lcC (fun _ : Int => some true) (fun v_cell_63 : Int => ((some v_cell_63).bind fun y_64 => some y_64).bind fun y_65 => some (absI y_65)) y_67).bind fun v_cells_61 => ((((some v_cells_61).bind fun y_68 => some (List.length y_68 : Int)).bind fun y_69 => (some (0 : Int)).bind fun y_70 => some (decide (y_69 = y_70))).bind fun c_121 => if c_121 = true then (((some (0 : Int)).bind fun y_73 => (some []).bind fun y_74 => some (y_73 :: y_74)).bind lstP).bind fun v_cells_72 => some v_cells_72 else some v_cells_61).bind fun s_71 : (List Int) => ((some s_71).bind fun y_77 => some (List.length y_77 : Int)).bind fun v_many_76 => (some ([] : (List Int))).bind fun v_draws_78 => ((some p_count).bind fun y_79 => rngP 0 y_79).bind fun y_82 => (foldO (fun (s_80 : ((List Int) × (List Int))) (v_k_81 : Int) => ((some v_k_81).bind fun y_84 => (some v_many_76).bind fun y_85 => modP y_84 y_85).bind fun v_at_83 => ((some s_80.1).bind fun y_87 => (some v_at_83).bind fun y_88 => atI y_87 y_88).bind fun v_cell_86 => (((some v_cell_86).bind fun y_89 => (some (1000000000000000000 : Int)).bind fun y_90 => some (decide (y_90 ≤ y_89))).bind fun c_120 => if c_120 = true then (((some v_cell_86).bind fun y_92 => some y_92).bind fun y_93 => some (Int.fmod y_93 (1009 : Int))).bind fun y_101 => (appP s_80.2 y_101).bind fun v_draws_94 => ((some v_cell_86).bind fun y_95 => some (Int.fdiv y_95 (1009 : Int))).bind fun y_97 => (some v_at_83).bind fun y_98 => (setP s_80.1 y_98 y_97).bind fun v_cells_96 => some (v_cells_96, v_draws_94) else (((((some v_cell_86).bind fun y_103 => some (y_103 * (48271 : Int))).bind fun y_105 => ((some v_k_81).bind fun y_104 => some (y_104 * (69621 : Int))).bind fun y_106 => some (y_105 + y_106)).bind fun y_107 => (some (40503 : Int)).bind fun y_108 => some (y_107 + y_108)).bind fun y_109 => some (Int.fmod y_109 (2147483647 : Int))).bind fun v_mixed_102 => (((((some v_mixed_102).bind fun y_110 => (some v_mixed_102).bind fun y_111 => mulP y_110 y_111).bind fun y_113 => ((some v_cell_86).bind fun y_112 => some (y_112 * (16807 : Int))).bind fun y_114 => some (y_113 + y_114)).bind fun y_115 => (some v_k_81).bind fun y_116 => some (y_115 + y_116)).bind fun y_117 => some (Int.fmod y_117 (2147483629 : Int))).bind fun y_119 => (appP s_80.2 y_119).bind fun v_draws_118 => some (s_80.1, v_draws_118)).bind fun s_91 : ((List Int) × (List Int)) => some (s_91.1, s_91.2)) (s_71, v_draws_78) y_82).bind fun s_80 => some s_80.2
def m__law_draws (p_script : (List Int)) (p_count : Int) : Option (List Int) := (lcC (fun _ : Int => some true) (fun v_cell_63 : Int => some (absI v_cell_63)) p_script).bind fun v_cells_61 => (if (decide (((List.length v_cells_61 : Int)) = ((0 : Int)))) = true then let v_cells_72 := ([((0 : Int))] : (List Int)); some v_cells_72 else some v_cells_61).bind fun s_71 : (List Int) => let v_many_76 := (List.length s_71 : Int); let v_draws_78 := ([] : (List Int)); (rngP 0 p_count).bind fun y_82 => (foldO (fun (s_80 : ((List Int) × (List Int))) (v_k_81 : Int) => (modP v_k_81 v_many_76).bind fun v_at_83 => (atI s_80.1 v_at_83).bind fun v_cell_86 => (if (decide (((1000000000000000000 : Int)) ≤ v_cell_86)) = true then (appP s_80.2 ((Int.fmod v_cell_86 (1009 : Int)))).bind fun v_draws_94 => (setP s_80.1 v_at_83 ((Int.fdiv v_cell_86 (1009 : Int)))).bind fun v_cells_96 => some (v_cells_96, v_draws_94) else let v_mixed_102 := (Int.fmod ((((((v_cell_86 * (48271 : Int))) + ((v_k_81 * (69621 : Int))))) + ((40503 : Int)))) (2147483647 : Int)); ((((mulP v_mixed_102 v_mixed_102).bind fun y_113 => some ((y_113 + ((v_cell_86 * (16807 : Int)))))).bind fun y_115 => some ((y_115 + v_k_81))).bind fun y_117 => some ((Int.fmod y_117 (2147483629 : Int)))).bind fun y_119 => (appP s_80.2 y_119).bind fun v_draws_118 => some (s_80.1, v_draws_118)).bind fun s_91 : ((List Int) × (List Int)) => some (s_91.1, s_91.2)) (s_71, v_draws_78) y_82).bind fun s_80 => some s_80.2
theorem e__law_draws : M__law_draws = m__law_draws := rfl
/-! ### _law_same -/
def R__law_same : Nat → D → D → Option Bool
  | 0, _, _ => none
  | n + 1, p_actual, p_due => ((some p_due).bind fun y_122 => isiP "bool" (em y_122)).bind fun c_185 => if c_185 = true then ((andO ((some p_actual).bind fun y_123 => isiP "bool" (em y_123)) ((some p_actual).bind fun y_124 => (some p_due).bind fun y_125 => eqD y_124 y_125)).bind fun r_126 => some r_126).bind fun r_184 => some (id r_184) else ((some p_due).bind fun y_127 => isiP "int" (em y_127)).bind fun c_183 => if c_183 = true then ((andO ((some p_actual).bind fun y_128 => isiP "int" (em y_128)) (andO (((some p_actual).bind fun y_129 => isiP "bool" (em y_129)).bind fun y_130 => some (!y_130)) ((some p_actual).bind fun y_131 => (some p_due).bind fun y_132 => eqD y_131 y_132))).bind fun r_133 => some r_133).bind fun r_182 => some (id r_182) else ((some p_due).bind fun y_134 => isiP "str" (em y_134)).bind fun c_181 => if c_181 = true then ((andO ((some p_actual).bind fun y_135 => isiP "str" (em y_135)) ((some p_actual).bind fun y_136 => (some p_due).bind fun y_137 => eqD y_136 y_137)).bind fun r_138 => some r_138).bind fun r_180 => some (id r_180) else ((some p_due).bind fun y_139 => some (isN (em y_139))).bind fun c_179 => if c_179 = true then (((some p_actual).bind fun y_140 => some (isN (em y_140))).bind fun r_141 => some r_141).bind fun r_178 => some (id r_178) else (andO ((some p_due).bind fun y_142 => isiP "tuple" (em y_142)) (((some p_actual).bind fun y_143 => isiP "tuple" (em y_143)).bind fun y_144 => some (!y_144))).bind fun c_177 => if c_177 = true then ((some false).bind fun r_145 => some r_145).bind fun r_176 => some (id r_176) else (andO ((some p_due).bind fun y_146 => isiP "list" (em y_146)) (((some p_actual).bind fun y_147 => isiP "list" (em y_147)).bind fun y_148 => some (!y_148))).bind fun c_175 => if c_175 = true then ((some false).bind fun r_149 => some r_149).bind fun r_174 => some (id r_174) else (((some p_actual).bind fun y_150 => lenD y_150).bind fun y_152 => ((some p_due).bind fun y_151 => lenD y_151).bind fun y_153 => some (!decide (y_152 = y_153))).bind fun c_173 => if c_173 = true then ((some false).bind fun r_154 => some r_154).bind fun r_172 => some (id r_172) else ((some p_actual).bind fun y_155 => (some p_due).bind fun y_156 => zipD y_155 y_156).bind fun y_159 => (loopO (fun (s_157 : Unit) (v_one_158 : (D × D)) => (((((some v_one_158.1).bind fun y_162 => ((some v_one_158.2).bind fun y_160 => (some ()).bind fun y_161 => some (y_160, y_161)).bind fun y_163 => some (y_162, y_163)).bind (fun a : D × D × Unit => R__law_same n a.1 a.2.1)).bind fun y_166 => some (!y_166)).bind fun c_169 => if c_169 = true then ((some false).bind fun r_167 => some r_167).bind fun r_168 => some (Fl.rt r_168) else some (Fl.nx ()) : Option (Fl Bool Unit Unit))) () y_159).bind (Lp.go (fun x => x) fun s_157 : Unit => (some true).bind fun r_170 => some r_170)
/-! ### _law_compared -/
def M__law_compared (p_winner : (List Int)) (p_loser : (List Int)) : Option (Vt Str) := (some ([] : (List Str))).bind fun v_row_186 => (some (List.zip p_winner p_loser)).bind fun y_189 => (foldO (fun (s_187 : (List Str)) (v_one_188 : (Int × Int)) => (((some v_one_188.1).bind fun y_190 => (some v_one_188.2).bind fun y_191 => some (decide (y_190 < y_191))).bind fun c_203 => if c_203 = true then (some ("W" : Str)).bind fun y_194 => (appP s_187 y_194).bind fun v_row_193 => some v_row_193 else (((some v_one_188.1).bind fun y_195 => (some v_one_188.2).bind fun y_196 => some (decide (y_196 < y_195))).bind fun c_202 => if c_202 = true then (some ("L" : Str)).bind fun y_199 => (appP s_187 y_199).bind fun v_row_198 => some v_row_198 else (some ("e" : Str)).bind fun y_201 => (appP s_187 y_201).bind fun v_row_200 => some v_row_200).bind fun s_197 : (List Str) => some s_197).bind fun s_192 : (List Str) => some s_192) v_row_186 y_189).bind fun s_187 => ((some s_187).bind fun y_204 => some (⟨y_204⟩ : Vt Str)).bind fun r_205 => some r_205
/-! ### _law_fused -/
def M__law_fused (p_rows : (List (Vt Str))) (p_width : Int) : Option (Vt Str) := (some ([] : (List Str))).bind fun v_fused_206 => ((some p_width).bind fun y_207 => rngP 0 y_207).bind fun y_210 => (foldO (fun (s_208 : (List Str)) (v_place_209 : Int) => ((some p_rows).bind fun y_217 => lcC (fun _ : (Vt Str) => some true) (fun v_row_213 : (Vt Str) => (some v_row_213).bind fun y_214 => (some v_place_209).bind fun y_215 => atI y_214.l y_215) y_217).bind fun v_column_211 => (((some ("L" : Str)).bind fun y_218 => (some v_column_211).bind fun y_219 => some (memB y_218 y_219)).bind fun c_231 => if c_231 = true then (some ("L" : Str)).bind fun y_222 => (appP s_208 y_222).bind fun v_fused_221 => some v_fused_221 else (((some ("W" : Str)).bind fun y_223 => (some v_column_211).bind fun y_224 => some (memB y_223 y_224)).bind fun c_230 => if c_230 = true then (some ("W" : Str)).bind fun y_227 => (appP s_208 y_227).bind fun v_fused_226 => some v_fused_226 else (some ("e" : Str)).bind fun y_229 => (appP s_208 y_229).bind fun v_fused_228 => some v_fused_228).bind fun s_225 : (List Str) => some s_225).bind fun s_220 : (List Str) => some s_220) v_fused_206 y_210).bind fun s_208 => ((some s_208).bind fun y_232 => some (⟨y_232⟩ : Vt Str)).bind fun r_233 => some r_233
/-! ### law -/
def M_law (p_script : (List Int)) : Option Bool := (((some p_script).bind fun y_237 => ((some (60 : Int)).bind fun y_235 => (some ()).bind fun y_236 => some (y_235, y_236)).bind fun y_238 => some (y_237, y_238)).bind (fun a : (List Int) × Int × Unit => M__law_draws a.1 a.2.1)).bind fun v_draws_234 => ((some (1 : Int)).bind fun y_245 => (((some v_draws_234).bind fun y_242 => (some (0 : Int)).bind fun y_243 => atI y_242 y_243).bind fun y_244 => some (Int.fmod y_244 (6 : Int))).bind fun y_246 => some (y_245 + y_246)).bind fun v_width_241 => ((some (1 : Int)).bind fun y_251 => (((some v_draws_234).bind fun y_248 => (some (1 : Int)).bind fun y_249 => atI y_248 y_249).bind fun y_250 => some (Int.fmod y_250 (7 : Int))).bind fun y_252 => some (y_251 + y_252)).bind fun v_many_247 => ((((some (2 : Int)).bind fun y_260 => ((some (3 : Int)).bind fun y_258 => ((some (4 : Int)).bind fun y_256 => ((some (1000000000000 : Int)).bind fun y_254 => (some []).bind fun y_255 => some (y_254 :: y_255)).bind fun y_257 => some (y_256 :: y_257)).bind fun y_259 => some (y_258 :: y_259)).bind fun y_261 => some (y_260 :: y_261)).bind lstP).bind fun y_269 => (((some v_draws_234).bind fun y_266 => (some (2 : Int)).bind fun y_267 => atI y_266 y_267).bind fun y_268 => some (Int.fmod y_268 (4 : Int))).bind fun y_270 => atI y_269 y_270).bind fun v_high_253 => (some ([] : (List (Vt Str)))).bind fun v_rows_271 => ((some v_many_247).bind fun y_272 => rngP 0 y_272).bind fun y_275 => (loopO (fun (s_273 : (List (Vt Str))) (v_k_274 : Int) => ((some ([] : (List Int))).bind fun v_winner_276 => (some ([] : (List Int))).bind fun v_loser_277 => ((some v_width_241).bind fun y_278 => rngP 0 y_278).bind fun y_281 => (foldO (fun (s_279 : ((List Int) × (List Int))) (v_place_280 : Int) => ((((some v_draws_234).bind fun y_290 => ((some (4 : Int)).bind fun y_288 => ((((some v_k_274).bind fun y_283 => (some v_width_241).bind fun y_284 => mulP y_283 y_284).bind fun y_285 => (some v_place_280).bind fun y_286 => some (y_285 + y_286)).bind fun y_287 => some (Int.fmod y_287 (56 : Int))).bind fun y_289 => some (y_288 + y_289)).bind fun y_291 => atI y_290 y_291).bind fun y_293 => ((some v_k_274).bind fun y_292 => some (y_292 * (7919 : Int))).bind fun y_294 => some (y_293 + y_294)).bind fun y_304 => ((some (1 : Int)).bind fun y_302 => (((some v_draws_234).bind fun y_299 => (((some v_k_274).bind fun y_296 => ((some v_place_280).bind fun y_295 => some (y_295 * (7 : Int))).bind fun y_297 => some (y_296 + y_297)).bind fun y_298 => some (Int.fmod y_298 (60 : Int))).bind fun y_300 => atI y_299 y_300).bind fun y_301 => some (Int.fmod y_301 (1009 : Int))).bind fun y_303 => some (y_302 + y_303)).bind fun y_305 => mulP y_304 y_305).bind fun v_one_282 => ((((some v_draws_234).bind fun y_316 => ((some (4 : Int)).bind fun y_314 => (((((some v_k_274).bind fun y_307 => some (y_307 * (5 : Int))).bind fun y_309 => ((some v_place_280).bind fun y_308 => some (y_308 * (3 : Int))).bind fun y_310 => some (y_309 + y_310)).bind fun y_311 => (some (1 : Int)).bind fun y_312 => some (y_311 + y_312)).bind fun y_313 => some (Int.fmod y_313 (56 : Int))).bind fun y_315 => some (y_314 + y_315)).bind fun y_317 => atI y_316 y_317).bind fun y_319 => ((some v_place_280).bind fun y_318 => some (y_318 * (104729 : Int))).bind fun y_320 => some (y_319 + y_320)).bind fun y_330 => ((some (1 : Int)).bind fun y_328 => (((some v_draws_234).bind fun y_325 => ((((some v_k_274).bind fun y_321 => some (y_321 * (3 : Int))).bind fun y_322 => (some v_place_280).bind fun y_323 => some (y_322 + y_323)).bind fun y_324 => some (Int.fmod y_324 (60 : Int))).bind fun y_326 => atI y_325 y_326).bind fun y_327 => some (Int.fmod y_327 (1009 : Int))).bind fun y_329 => some (y_328 + y_329)).bind fun y_331 => mulP y_330 y_331).bind fun v_other_306 => (((some v_one_282).bind fun y_332 => some y_332).bind fun y_333 => (some v_high_253).bind fun y_334 => modP y_333 y_334).bind fun y_362 => (appP s_279.1 y_362).bind fun v_winner_335 => (((some v_other_306).bind fun y_336 => some y_336).bind fun y_337 => (some v_high_253).bind fun y_338 => modP y_337 y_338).bind fun y_361 => (appP s_279.2 y_361).bind fun v_loser_339 => ((((((some v_one_282).bind fun y_340 => (some v_other_306).bind fun y_341 => some (y_340 + y_341)).bind fun y_342 => some y_342).bind fun y_343 => some (Int.fmod y_343 (5 : Int))).bind fun y_344 => (some (2 : Int)).bind fun y_345 => some (decide (y_344 < y_345))).bind fun c_360 => if c_360 = true then (((some v_winner_335).bind fun y_347 => (some v_place_280).bind fun y_348 => atI y_347 y_348).bind fun y_353 => ((((some v_one_282).bind fun y_349 => (some v_other_306).bind fun y_350 => some (y_349 + y_350)).bind fun y_351 => some y_351).bind fun y_352 => some (Int.fmod y_352 (5 : Int))).bind fun y_354 => some (y_353 + y_354)).bind fun y_356 => (some v_place_280).bind fun y_357 => (setP v_loser_339 y_357 y_356).bind fun v_loser_355 => some v_loser_355 else some v_loser_339).bind fun s_346 : (List Int) => some (v_winner_335, s_346)) (v_winner_276, v_loser_277) y_281).bind fun s_279 => (((some s_279.1).bind fun y_366 => ((some s_279.2).bind fun y_364 => (some ()).bind fun y_365 => some (y_364, y_365)).bind fun y_367 => some (y_366, y_367)).bind (fun a : (List Int) × (List Int) × Unit => M__law_compared a.1 a.2.1)).bind fun v_row_363 => ((some (2 : Int)).bind fun y_370 => rngP 0 y_370).bind fun y_373 => (loopO (fun (s_371 : Unit) (v_turn_372 : Int) => (((((((((some s_279.1).bind fun y_374 => some (⟨y_374⟩ : Vt Int)).bind fun y_378 => (((some s_279.2).bind fun y_375 => some (⟨y_375⟩ : Vt Int)).bind fun y_376 => (some ()).bind fun y_377 => some (y_376, y_377)).bind fun y_379 => some (y_378, y_379)).bind (fun a : (Vt Int) × (Vt Int) × Unit => M_compare a.1 a.2.1)).bind fun y_382 => some (em y_382)).bind fun y_386 => (((some v_row_363).bind fun y_383 => some (em y_383)).bind fun y_384 => (some ()).bind fun y_385 => some (y_384, y_385)).bind fun y_387 => some (y_386, y_387)).bind (fun a : D × D × Unit => R__law_same 8 a.1 a.2.1)).bind fun y_390 => some (!y_390)).bind fun c_393 => if c_393 = true then ((some false).bind fun r_391 => some r_391).bind fun r_392 => some (Fl.rt r_392) else some (Fl.nx ()) : Option (Fl Bool Unit Unit))) () y_373).bind (Lp.go (Fl.rt) fun s_371 : Unit => ((((((((some s_279.2).bind fun y_394 => some (⟨y_394⟩ : Vt Int)).bind fun y_398 => (((some s_279.1).bind fun y_395 => some (⟨y_395⟩ : Vt Int)).bind fun y_396 => (some ()).bind fun y_397 => some (y_396, y_397)).bind fun y_399 => some (y_398, y_399)).bind (fun a : (Vt Int) × (Vt Int) × Unit => M_compare a.1 a.2.1)).bind fun y_402 => some (em y_402)).bind fun y_412 => (((((some s_279.2).bind fun y_405 => ((some s_279.1).bind fun y_403 => (some ()).bind fun y_404 => some (y_403, y_404)).bind fun y_406 => some (y_405, y_406)).bind (fun a : (List Int) × (List Int) × Unit => M__law_compared a.1 a.2.1)).bind fun y_409 => some (em y_409)).bind fun y_410 => (some ()).bind fun y_411 => some (y_410, y_411)).bind fun y_413 => some (y_412, y_413)).bind (fun a : D × D × Unit => R__law_same 8 a.1 a.2.1)).bind fun y_416 => some (!y_416)).bind fun c_442 => if c_442 = true then ((some false).bind fun r_417 => some r_417).bind fun r_441 => some (Fl.rt r_441) else (some v_row_363).bind fun y_440 => (appP s_273 y_440).bind fun v_rows_418 => (((((((some v_rows_418).bind fun y_419 => (some ()).bind fun y_420 => some (y_419, y_420)).bind (fun a : (List (Vt Str)) × Unit => M_fuse a.1)).bind fun y_422 => some (em y_422)).bind fun y_432 => (((((some v_rows_418).bind fun y_425 => ((some v_width_241).bind fun y_423 => (some ()).bind fun y_424 => some (y_423, y_424)).bind fun y_426 => some (y_425, y_426)).bind (fun a : (List (Vt Str)) × Int × Unit => M__law_fused a.1 a.2.1)).bind fun y_429 => some (em y_429)).bind fun y_430 => (some ()).bind fun y_431 => some (y_430, y_431)).bind fun y_433 => some (y_432, y_433)).bind (fun a : D × D × Unit => R__law_same 8 a.1 a.2.1)).bind fun y_436 => some (!y_436)).bind fun c_439 => if c_439 = true then ((some false).bind fun r_437 => some r_437).bind fun r_438 => some (Fl.rt r_438) else some (Fl.nx v_rows_418)) : Option (Fl Bool (List (Vt Str)) (List (Vt Str))))) v_rows_271 y_275).bind (Lp.go (fun x => x) fun s_273 : (List (Vt Str)) => (((((some v_draws_234).bind fun y_444 => (some (3 : Int)).bind fun y_445 => atI y_444 y_445).bind fun y_446 => some (Int.fmod y_446 (6 : Int))).bind fun y_447 => (some (1 : Int)).bind fun y_448 => some (decide (y_447 = y_448))).bind fun c_652 => if c_652 = true then ((some s_273).bind fun y_455 => (((some v_draws_234).bind fun y_451 => (some (4 : Int)).bind fun y_452 => atI y_451 y_452).bind fun y_453 => (some v_many_247).bind fun y_454 => modP y_453 y_454).bind fun y_456 => atI y_455 y_456).bind fun v_spare_450 => (((some (40 : Int)).bind fun y_460 => (((some v_draws_234).bind fun y_457 => (some (5 : Int)).bind fun y_458 => atI y_457 y_458).bind fun y_459 => some (Int.fmod y_459 (60 : Int))).bind fun y_461 => some (y_460 + y_461)).bind fun y_462 => rngP 0 y_462).bind fun y_465 => (foldO (fun (s_463 : (List (Vt Str))) (v_k_464 : Int) => (((some v_draws_234).bind fun y_466 => (some (6 : Int)).bind fun y_467 => atI y_466 y_467).bind fun y_471 => (((some s_463).bind fun y_468 => some (List.length y_468 : Int)).bind fun y_469 => (some (1 : Int)).bind fun y_470 => some (y_469 + y_470)).bind fun y_472 => modP y_471 y_472).bind fun y_493 => ((((((((some ("e" : Str)).bind fun y_473 => (some []).bind fun y_474 => some (y_473 :: y_474)).bind lstP).bind fun y_476 => (some v_width_241).bind fun y_477 => repL y_476 y_477).bind fun y_478 => some (⟨y_478⟩ : Vt Str)).bind fun y_481 => ((some v_spare_450).bind fun y_479 => (some []).bind fun y_480 => some (y_479 :: y_480)).bind fun y_482 => some (y_481 :: y_482)).bind lstP).bind fun y_490 => (((some v_k_464).bind fun y_487 => ((some v_draws_234).bind fun y_485 => (some (7 : Int)).bind fun y_486 => atI y_485 y_486).bind fun y_488 => some (y_487 + y_488)).bind fun y_489 => some (Int.fmod y_489 (2 : Int))).bind fun y_491 => atI y_490 y_491).bind fun y_494 => (insP s_463 y_493 y_494).bind fun v_rows_492 => some v_rows_492) s_273 y_465).bind fun s_463 => some s_463 else some s_273).bind fun s_449 : (List (Vt Str)) => (((some s_449).bind fun y_500 => ((some v_width_241).bind fun y_498 => (some ()).bind fun y_499 => some (y_498, y_499)).bind fun y_501 => some (y_500, y_501)).bind (fun a : (List (Vt Str)) × Int × Unit => M__law_fused a.1 a.2.1)).bind fun v_fused_497 => (some s_449).bind fun v_handed_504 => (orO (((((((some v_handed_504).bind fun y_530 => (some ()).bind fun y_531 => some (y_530, y_531)).bind (fun a : (List (Vt Str)) × Unit => M_fuse a.1)).bind fun y_533 => some (em y_533)).bind fun y_537 => (((some v_fused_497).bind fun y_534 => some (em y_534)).bind fun y_535 => (some ()).bind fun y_536 => some (y_535, y_536)).bind fun y_538 => some (y_537, y_538)).bind (fun a : D × D × Unit => R__law_same 8 a.1 a.2.1)).bind fun y_541 => some (!y_541)) (((((some v_handed_504).bind fun y_542 => some (em y_542)).bind fun y_546 => (((some s_449).bind fun y_543 => some (em y_543)).bind fun y_544 => (some ()).bind fun y_545 => some (y_544, y_545)).bind fun y_547 => some (y_546, y_547)).bind (fun a : D × D × Unit => R__law_same 8 a.1 a.2.1)).bind fun y_550 => some (!y_550))).bind fun c_651 => if c_651 = true then ((some false).bind fun r_551 => some r_551).bind fun r_650 => some (id r_650) else (((((((some v_handed_504).bind fun y_552 => (some ()).bind fun y_553 => some (y_552, y_553)).bind (fun a : (List (Vt Str)) × Unit => M_fuse a.1)).bind fun y_555 => some (em y_555)).bind fun y_559 => (((some v_fused_497).bind fun y_556 => some (em y_556)).bind fun y_557 => (some ()).bind fun y_558 => some (y_557, y_558)).bind fun y_560 => some (y_559, y_560)).bind (fun a : D × D × Unit => R__law_same 8 a.1 a.2.1)).bind fun y_563 => some (!y_563)).bind fun c_649 => if c_649 = true then ((some false).bind fun r_564 => some r_564).bind fun r_648 => some (id r_648) else (((some s_449).bind fun y_566 => (some none).bind fun y_567 => ((some (8 : Int)).bind fun y_565 => some (some y_565)).bind fun y_568 => some (T.cut y_566 y_567 y_568)).bind fun y_599 => (((some v_fused_497).bind fun y_593 => ((((((some ("e" : Str)).bind fun y_569 => (some []).bind fun y_570 => some (y_569 :: y_570)).bind lstP).bind fun y_572 => (some v_width_241).bind fun y_573 => repL y_572 y_573).bind fun y_574 => some (⟨y_574⟩ : Vt Str)).bind fun y_591 => ((((((some ("L" : Str)).bind fun y_575 => (some []).bind fun y_576 => some (y_575 :: y_576)).bind lstP).bind fun y_578 => (some v_width_241).bind fun y_579 => repL y_578 y_579).bind fun y_580 => some (⟨y_580⟩ : Vt Str)).bind fun y_589 => ((((((some ("W" : Str)).bind fun y_581 => (some []).bind fun y_582 => some (y_581 :: y_582)).bind lstP).bind fun y_584 => (some v_width_241).bind fun y_585 => repL y_584 y_585).bind fun y_586 => some (⟨y_586⟩ : Vt Str)).bind fun y_587 => (some []).bind fun y_588 => some (y_587 :: y_588)).bind fun y_590 => some (y_589 :: y_590)).bind fun y_592 => some (y_591 :: y_592)).bind fun y_594 => some (y_593 :: y_594)).bind lstP).bind fun y_600 => catL y_599 y_600).bind fun y_603 => (loopO (fun (s_601 : Unit) (v_row_602 : (Vt Str)) => (((some (2 : Int)).bind fun y_604 => rngP 0 y_604).bind fun y_607 => (loopO (fun (s_605 : Unit) (v_turn_606 : Int) => ((((((((some v_row_602).bind fun y_608 => (some ()).bind fun y_609 => some (y_608, y_609)).bind (fun a : (Vt Str) × Unit => M_contradictory a.1)).bind fun y_611 => some (em y_611)).bind fun y_619 => (((andO ((some ("L" : Str)).bind fun y_612 => (some v_row_602).bind fun y_613 => some (memB y_612 y_613.l)) ((some ("W" : Str)).bind fun y_614 => (some v_row_602).bind fun y_615 => some (!memB y_614 y_615.l))).bind fun y_616 => some (em y_616)).bind fun y_617 => (some ()).bind fun y_618 => some (y_617, y_618)).bind fun y_620 => some (y_619, y_620)).bind (fun a : D × D × Unit => R__law_same 8 a.1 a.2.1)).bind fun y_623 => some (!y_623)).bind fun c_626 => if c_626 = true then ((some false).bind fun r_624 => some r_624).bind fun r_625 => some (Fl.rt r_625) else some (Fl.nx ()) : Option (Fl Bool Unit Unit))) () y_607).bind (Lp.go (Fl.rt) fun s_605 : Unit => some (Fl.nx ())) : Option (Fl Bool Unit Unit))) () y_603).bind (Lp.go (fun x => x) fun s_601 : Unit => ((((((((some s_449).bind fun y_628 => (some ()).bind fun y_629 => some (y_628, y_629)).bind (fun a : (List (Vt Str)) × Unit => M_fuse a.1)).bind fun y_631 => (some ()).bind fun y_632 => some (y_631, y_632)).bind (fun a : (Vt Str) × Unit => M_contradictory a.1)).bind fun y_634 => some (em y_634)).bind fun y_642 => (((andO ((some ("L" : Str)).bind fun y_635 => (some v_fused_497).bind fun y_636 => some (memB y_635 y_636.l)) ((some ("W" : Str)).bind fun y_637 => (some v_fused_497).bind fun y_638 => some (!memB y_637 y_638.l))).bind fun y_639 => some (em y_639)).bind fun y_640 => (some ()).bind fun y_641 => some (y_640, y_641)).bind fun y_643 => some (y_642, y_643)).bind (fun a : D × D × Unit => R__law_same 8 a.1 a.2.1)).bind fun r_646 => some r_646))
end K02

set_option Elab.async false
set_option linter.all false
set_option maxRecDepth 100000
set_option maxHeartbeats 8000000
namespace K02
open PySem PySem.Spec PyProof.Rows L2 T
def top (i : Nat) : Stmt := PySem.Challenge.pw_saidback_k02_comparison_rows.main.body.getD i (.Pass ⟨0, 0, 0, 0⟩)
abbrev s_compare : Stmt := top 1
abbrev s_fuse : Stmt := top 2
abbrev s_contradictory : Stmt := top 3
abbrev s__law_draws : Stmt := top 5
abbrev s__law_same : Stmt := top 6
abbrev s__law_compared : Stmt := top 7
abbrev s__law_fused : Stmt := top 8
abbrev s_law : Stmt := top 9
structure Zs (mg : Str → Option Value) : Prop where
  z_abs : mg "abs" = none
  z_bool : mg "bool" = none
  z_int : mg "int" = none
  z_isinstance : mg "isinstance" = none
  z_len : mg "len" = none
  z_list : mg "list" = none
  z_range : mg "range" = none
  z_str : mg "str" = none
  z_tuple : mg "tuple" = none
  z_zip : mg "zip" = none
section
variable {P : Program} {w : World} {K : PySem.W.Frag} {mg : Str → Option Value} {base : Heap}
theorem ok_compare {f : Addr} {fd : FuncData} (F : Fun K "compare" "compare" s_compare f fd) (Z : Zs mg) : FnOk P w K mg base CX0 1 f fd ["winner", "loser"] (spF K (fun a : (Vt Int) × (Vt Int) × Unit => [.dat (em a.1), .dat (em a.2.1)]) (fun a : (Vt Int) × (Vt Int) × Unit => M_compare a.1 a.2.1) fun x : (Vt Str) => .dat (em x)) :=
  fn_mk (N := ["winner", "loser", "row", "k"]) F ⟨rfl, rfl, rfl, by decide +kernel, rfl, by decide +kernel, by decide +kernel⟩ 2 rfl (fun _ => rfl) fun X C ⟨p_winner, p_loser, _⟩ => (g_setL C 2 l_nil (fun v_row_1 => (g_for (envL := fun s_4 : (List Str) => [.dat (em (p_winner : (Vt Int))), .dat (em (p_loser : (Vt Int))), .own (List.map em (s_4 : (List Str))), .any]) C (w_rng1 C (x_lenV C (x_var C 0) Z.z_len) Z.z_range) (fun s_4 => (gt_name C 3)) (.same (.same (.same (.same .nil)))) (fun s_4 v_k_5 => (g_ifJ (envJ := fun s_13 : (List Str) => [.dat (em (p_winner : (Vt Int))), .dat (em (p_loser : (Vt Int))), .own (List.map em (s_13 : (List Str))), .dat (em (v_k_5 : Int))]) (t_eq (x_ixV (x_var C 0) (x_var C 3)) (x_ixV (x_var C 1) (x_var C 3))) (g_append C 2 x_str (fun v_row_14 => (g_nil (.same (.same (.same (.same .nil))))))) (g_append C 2 (x_if (t_lt (x_ixV (x_var C 0) (x_var C 3)) (x_ixV (x_var C 1) (x_var C 3))) x_str x_str) (fun v_row_23 => (g_nil (.same (.same (.same (.same .nil))))))) (fun s_13 => (g_nil (.same (.same (.same (.drop .nil)))))))) (fun s_4 => (g_ret (φ := fun x => x) (x_tupleQ C (q_own C 2) Z.z_tuple) (fun _ _ _ _ z => z.1))))))
theorem ok_fuse {f : Addr} {fd : FuncData} (F : Fun K "fuse" "fuse" s_fuse f fd) (Z : Zs mg) : FnOk P w K mg base CX0 1 f fd ["rows"] (spF K (fun a : (List (Vt Str)) × Unit => [.bor (List.map em a.1)]) (fun a : (List (Vt Str)) × Unit => M_fuse a.1) fun x : (Vt Str) => .dat (em x)) :=
  fn_mk (N := ["rows", "fused", "k", "column", "row"]) F ⟨rfl, rfl, rfl, by decide +kernel, rfl, by decide +kernel, by decide +kernel⟩ 4 rfl (fun _ => rfl) fun X C ⟨p_rows, _⟩ => (g_setL C 1 l_nil (fun v_fused_28 => (g_for (envL := fun s_33 : (List Str) => [.bor (List.map em (p_rows : (List (Vt Str)))), .own (List.map em (s_33 : (List Str))), .any, .any, .any]) C (w_rng1 C (x_lenV C (x_ixQ (q_bor C 0) x_int) Z.z_len) Z.z_range) (fun s_33 => (gt_name C 2)) (.same (.same (.same (.same (.same .nil))))) (fun s_33 v_k_34 => (g_setLc (own := [("row", 4)]) (envC := [.bor (List.map em (p_rows : (List (Vt Str)))), .own (List.map em (s_33 : (List Str))), .dat (em (v_k_34 : Int)), .any, .any]) C 3 (w_bor C 0) (lcP_no (fun X_41 C_37 => (gt_name C_37 4)) (fun X_41 C_37 v_row_38 => (x_ixV (x_var C_37 4) (x_var C_37 2)))) (by decide +kernel) (ownS rfl own0) (.same (.same (.same (.same (.same .nil))))) (by decide) (hr := fun v_column_36 => (g_ifJ (envJ := fun s_45 : (List Str) => [.bor (List.map em (p_rows : (List (Vt Str)))), .own (List.map em (s_45 : (List Str))), .dat (em (v_k_34 : Int)), .own (List.map em (v_column_36 : (List Str))), .any]) (t_inQ x_str (q_own C 3)) (g_append C 1 x_str (fun v_fused_46 => (g_nil (.same (.same (.same (.same (.same .nil)))))))) (g_append C 1 (x_if (t_inQ x_str (q_own C 3)) x_str x_str) (fun v_fused_51 => (g_nil (.same (.same (.same (.same (.same .nil)))))))) (fun s_45 => (g_nil (.same (.same (.drop (.drop (.same .nil))))))))))) (fun s_33 => (g_ret (φ := fun x => x) (x_tupleQ C (q_own C 1) Z.z_tuple) (fun _ _ _ _ z => z.1))))))
theorem ok_contradictory {f : Addr} {fd : FuncData} (F : Fun K "contradictory" "contradictory" s_contradictory f fd) (Z : Zs mg) : FnOk P w K mg base CX0 1 f fd ["row"] (spF K (fun a : (Vt Str) × Unit => [.dat (em a.1)]) (fun a : (Vt Str) × Unit => M_contradictory a.1) fun x : Bool => .dat (em x)) :=
  fn_mk (N := ["row"]) F ⟨rfl, rfl, rfl, by decide +kernel, rfl, by decide +kernel, by decide +kernel⟩ 0 rfl (fun _ => rfl) fun X C ⟨p_row, _⟩ => (g_ret (φ := fun x => x) (x_and (x_inV x_str (x_var C 0)) (x_one (x_ninV x_str (x_var C 0)))) (fun _ _ _ _ z => z.1))
theorem ok__law_draws {f : Addr} {fd : FuncData} (F : Fun K "_law_draws" "_law_draws" s__law_draws f fd) (Z : Zs mg) : FnOk P w K mg base CX0 1 f fd ["script", "count"] (spF K (fun a : (List Int) × Int × Unit => [.bor (List.map em a.1), .dat (em a.2.1)]) (fun a : (List Int) × Int × Unit => M__law_draws a.1 a.2.1) fun x : (List Int) => .own (List.map em x)) :=
  fn_mk (N := ["script", "count", "cells", "many", "draws", "k", "at", "cell", "mixed"]) F ⟨rfl, rfl, rfl, by decide +kernel, rfl, by decide +kernel, by decide +kernel⟩ 7 rfl (fun _ => rfl) fun X C ⟨p_script, p_count, _⟩ => (g_setLc (own := [("cell", 7)]) (envC := [.bor (List.map em (p_script : (List Int))), .dat (em (p_count : Int)), .any, .any, .any, .any, .any, .any, .any]) C 2 (w_bor C 0) (lcP_no (fun X_66 C_62 => (gt_name C_62 7)) (fun X_66 C_62 v_cell_63 => (x_abs C_62 (x_intI C_62 (x_var C_62 7) Z.z_int) Z.z_abs))) (by decide +kernel) (ownS rfl own0) (.same (.same (.same (.same (.same (.same (.same (.same (.same .nil))))))))) (by decide) (hr := fun v_cells_61 => (g_ifJ (envJ := fun s_71 : (List Int) => [.bor (List.map em (p_script : (List Int))), .dat (em (p_count : Int)), .own (List.map em (s_71 : (List Int))), .any, .any, .any, .any, .any, .any]) (t_eq (x_lenQ C (q_own C 2) Z.z_len) x_int) (g_setL C 2 (l_lst (i_cons x_int i_nil)) (fun v_cells_72 => (g_nil (.same (.same (.same (.same (.same (.same (.same (.same (.same .nil)))))))))))) (g_nil (.same (.same (.same (.same (.same (.same (.same (.same (.same .nil)))))))))) (fun s_71 => (g_set C 3 (x_lenQ C (q_own C 2) Z.z_len) (fun v_many_76 => (g_setL C 4 l_nil (fun v_draws_78 => (g_for (envL := fun s_80 : ((List Int) × (List Int)) => [.bor (List.map em (p_script : (List Int))), .dat (em (p_count : Int)), .own (List.map em (s_80.1 : (List Int))), .dat (em (v_many_76 : Int)), .own (List.map em (s_80.2 : (List Int))), .any, .any, .any, .any]) C (w_rng1 C (x_var C 1) Z.z_range) (fun s_80 => (gt_name C 5)) (.same (.same (.same (.same (.same (.same (.same (.same (.same .nil))))))))) (fun s_80 v_k_81 => (g_set C 6 (x_mod (x_var C 5) (x_var C 3)) (fun v_at_83 => (g_set C 7 (x_ixQ (q_own C 2) (x_var C 6)) (fun v_cell_86 => (g_ifJ (envJ := fun s_91 : ((List Int) × (List Int)) => [.bor (List.map em (p_script : (List Int))), .dat (em (p_count : Int)), .own (List.map em (s_91.1 : (List Int))), .dat (em (v_many_76 : Int)), .own (List.map em (s_91.2 : (List Int))), .dat (em (v_k_81 : Int)), .dat (em (v_at_83 : Int)), .dat (em (v_cell_86 : Int)), .any]) (t_ge (x_var C 7) (x_powC)) (g_append C 4 (x_modC (x_intI C (x_var C 7) Z.z_int)) (fun v_draws_94 => (g_setItem C 2 (x_divC (x_var C 7)) (x_var C 6) (fun v_cells_96 => (g_nil (.same (.same (.same (.same (.same (.same (.same (.same (.same .nil)))))))))))))) (g_set C 8 (x_modC (x_add (x_add (x_mulCr (x_var C 7)) (x_mulCr (x_var C 5))) x_int)) (fun v_mixed_102 => (g_append C 4 (x_modC (x_add (x_add (x_mul (x_var C 8) (x_var C 8)) (x_mulCr (x_var C 7))) (x_var C 5))) (fun v_draws_118 => (g_nil (.same (.same (.same (.same (.same (.same (.same (.same (.drop .nil)))))))))))))) (fun s_91 => (g_nil (.same (.same (.same (.same (.same (.drop (.drop (.drop (.same .nil))))))))))))))))) (fun s_80 => (g_retO C 4 (fun _ _ _ z => z.1))))))))))))
theorem ok__law_same {f : Addr} {fd : FuncData} (F : Fun K "_law_same" "_law_same" s__law_same f fd) (Z : Zs mg) (hmg : mg "_law_same" = some (.ref f)) (hkp : PySem.W.keepIn K (.ref f) = true) (hbd : Binds K fd ["actual", "due"] []) : ∀ n, FnOk P w K mg base CX0 (n + 1) f fd ["actual", "due"] (spF K (fun a : D × D × Unit => [.dat (em a.1), .dat (em a.2.1)]) (fun a : D × D × Unit => R__law_same n a.1 a.2.1) fun x : Bool => .dat (em x))
  | 0 => fn_none fun _ => rfl
  | n + 1 => by
    have D__law_same : Df P w K mg base (n + 1) "_law_same" f fd ["actual", "due"] (spF K (fun a : D × D × Unit => [.dat (em a.1), .dat (em a.2.1)]) (fun a : D × D × Unit => R__law_same n a.1 a.2.1) fun x : Bool => .dat (em x)) := ⟨ok__law_same F Z hmg hkp hbd n, hmg, hkp, hbd⟩
    exact fn_mk (N := ["actual", "due", "one", "other"]) F ⟨rfl, rfl, rfl, by decide +kernel, rfl, by decide +kernel, by decide +kernel⟩ 2 rfl (fun _ => rfl) fun X C ⟨p_actual, p_due, _⟩ => (g_ifX (φ := id) (t_x (x_isi C (x_var C 1) kit_bool Z.z_isinstance Z.z_bool)) (g_ret (φ := fun x => x) (x_and (x_isi C (x_var C 0) kit_bool Z.z_isinstance Z.z_bool) (x_one (x_eqD (x_var C 0) (x_var C 1)))) (fun _ _ _ _ z => z)) early_rn (g_ifX (φ := id) (t_x (x_isi C (x_var C 1) kit_int Z.z_isinstance Z.z_int)) (g_ret (φ := fun x => x) (x_and (x_isi C (x_var C 0) kit_int Z.z_isinstance Z.z_int) (x_and (x_not (x_isi C (x_var C 0) kit_bool Z.z_isinstance Z.z_bool)) (x_one (x_eqD (x_var C 0) (x_var C 1))))) (fun _ _ _ _ z => z)) early_rn (g_ifX (φ := id) (t_x (x_isi C (x_var C 1) kit_str Z.z_isinstance Z.z_str)) (g_ret (φ := fun x => x) (x_and (x_isi C (x_var C 0) kit_str Z.z_isinstance Z.z_str) (x_one (x_eqD (x_var C 0) (x_var C 1)))) (fun _ _ _ _ z => z)) early_rn (g_ifX (φ := id) (t_isN (x_var C 1)) (g_ret (φ := fun x => x) (x_isN (x_var C 0)) (fun _ _ _ _ z => z)) early_rn (g_ifX (φ := id) (t_w (w_and (t_x (x_isi C (x_var C 1) kit_tuple Z.z_isinstance Z.z_tuple)) (w_and1 (t_not (t_x (x_isi C (x_var C 0) kit_tuple Z.z_isinstance Z.z_tuple)))))) (g_ret (φ := fun x => x) x_bl (fun _ _ _ _ z => z)) early_rn (g_ifX (φ := id) (t_w (w_and (t_x (x_isi C (x_var C 1) kit_list Z.z_isinstance Z.z_list)) (w_and1 (t_not (t_x (x_isi C (x_var C 0) kit_list Z.z_isinstance Z.z_list)))))) (g_ret (φ := fun x => x) x_bl (fun _ _ _ _ z => z)) early_rn (g_ifX (φ := id) (t_ne (x_lenD C (x_var C 0) Z.z_len) (x_lenD C (x_var C 1) Z.z_len)) (g_ret (φ := fun x => x) x_bl (fun _ _ _ _ z => z)) early_rn (g_forF (envL := fun s_157 : Unit => [.dat (em (p_actual : D)), .dat (em (p_due : D)), .any, .any]) (res := fun x : Bool => .dat (em x)) (φ := fun x => x) C (w_zipD C (x_var C 0) (x_var C 1) Z.z_zip) (fun s_157 => (gt_pair C 2 3)) (.same (.same (.same (.same .nil)))) (fun s_157 v_one_158 => (g_ifX (φ := Fl.rt) (t_not (t_x (x_callD C D__law_same (a_dat (x_var C 2) (a_dat (x_var C 3) a_nil)) (hj := Nat.le_refl _)))) (g_ret (φ := fun x => x) x_bl (fun _ _ _ _ z => z)) early_rf (g_nilF (.same (.same (.drop (.drop .nil))))))) hzD (fun s_157 => (g_ret (φ := fun x => x) x_bl (fun _ _ _ _ z => z.1)))))))))))
theorem ok__law_compared {f : Addr} {fd : FuncData} (F : Fun K "_law_compared" "_law_compared" s__law_compared f fd) (Z : Zs mg) : FnOk P w K mg base CX0 1 f fd ["winner", "loser"] (spF K (fun a : (List Int) × (List Int) × Unit => [.bor (List.map em a.1), .bor (List.map em a.2.1)]) (fun a : (List Int) × (List Int) × Unit => M__law_compared a.1 a.2.1) fun x : (Vt Str) => .dat (em x)) :=
  fn_mk (N := ["winner", "loser", "row", "one", "other"]) F ⟨rfl, rfl, rfl, by decide +kernel, rfl, by decide +kernel, by decide +kernel⟩ 3 rfl (fun _ => rfl) fun X C ⟨p_winner, p_loser, _⟩ => (g_setL C 2 l_nil (fun v_row_186 => (g_for (envL := fun s_187 : (List Str) => [.bor (List.map em (p_winner : (List Int))), .bor (List.map em (p_loser : (List Int))), .own (List.map em (s_187 : (List Str))), .any, .any]) C (w_zipB C 0 1 Z.z_zip) (fun s_187 => (gt_pair C 3 4)) (.same (.same (.same (.same (.same .nil))))) (fun s_187 v_one_188 => (g_ifJ (envJ := fun s_192 : (List Str) => [.bor (List.map em (p_winner : (List Int))), .bor (List.map em (p_loser : (List Int))), .own (List.map em (s_192 : (List Str))), .dat (em (v_one_188.1 : Int)), .dat (em (v_one_188.2 : Int))]) (t_lt (x_var C 3) (x_var C 4)) (g_append C 2 x_str (fun v_row_193 => (g_nil (.same (.same (.same (.same (.same .nil)))))))) (g_ifJ (envJ := fun s_197 : (List Str) => [.bor (List.map em (p_winner : (List Int))), .bor (List.map em (p_loser : (List Int))), .own (List.map em (s_197 : (List Str))), .dat (em (v_one_188.1 : Int)), .dat (em (v_one_188.2 : Int))]) (t_gt (x_var C 3) (x_var C 4)) (g_append C 2 x_str (fun v_row_198 => (g_nil (.same (.same (.same (.same (.same .nil)))))))) (g_append C 2 x_str (fun v_row_200 => (g_nil (.same (.same (.same (.same (.same .nil)))))))) (fun s_197 => (g_nil (.same (.same (.same (.same (.same .nil)))))))) (fun s_192 => (g_nil (.same (.same (.same (.drop (.drop .nil))))))))) (fun s_187 => (g_ret (φ := fun x => x) (x_tupleQ C (q_own C 2) Z.z_tuple) (fun _ _ _ _ z => z.1))))))
theorem ok__law_fused {f : Addr} {fd : FuncData} (F : Fun K "_law_fused" "_law_fused" s__law_fused f fd) (Z : Zs mg) : FnOk P w K mg base CX0 1 f fd ["rows", "width"] (spF K (fun a : (List (Vt Str)) × Int × Unit => [.bor (List.map em a.1), .dat (em a.2.1)]) (fun a : (List (Vt Str)) × Int × Unit => M__law_fused a.1 a.2.1) fun x : (Vt Str) => .dat (em x)) :=
  fn_mk (N := ["rows", "width", "fused", "place", "column", "row"]) F ⟨rfl, rfl, rfl, by decide +kernel, rfl, by decide +kernel, by decide +kernel⟩ 4 rfl (fun _ => rfl) fun X C ⟨p_rows, p_width, _⟩ => (g_setL C 2 l_nil (fun v_fused_206 => (g_for (envL := fun s_208 : (List Str) => [.bor (List.map em (p_rows : (List (Vt Str)))), .dat (em (p_width : Int)), .own (List.map em (s_208 : (List Str))), .any, .any, .any]) C (w_rng1 C (x_var C 1) Z.z_range) (fun s_208 => (gt_name C 3)) (.same (.same (.same (.same (.same (.same .nil)))))) (fun s_208 v_place_209 => (g_setLc (own := [("row", 5)]) (envC := [.bor (List.map em (p_rows : (List (Vt Str)))), .dat (em (p_width : Int)), .own (List.map em (s_208 : (List Str))), .dat (em (v_place_209 : Int)), .any, .any]) C 4 (w_bor C 0) (lcP_no (fun X_216 C_212 => (gt_name C_212 5)) (fun X_216 C_212 v_row_213 => (x_ixV (x_var C_212 5) (x_var C_212 3)))) (by decide +kernel) (ownS rfl own0) (.same (.same (.same (.same (.same (.same .nil)))))) (by decide) (hr := fun v_column_211 => (g_ifJ (envJ := fun s_220 : (List Str) => [.bor (List.map em (p_rows : (List (Vt Str)))), .dat (em (p_width : Int)), .own (List.map em (s_220 : (List Str))), .dat (em (v_place_209 : Int)), .own (List.map em (v_column_211 : (List Str))), .any]) (t_inQ x_str (q_own C 4)) (g_append C 2 x_str (fun v_fused_221 => (g_nil (.same (.same (.same (.same (.same (.same .nil))))))))) (g_ifJ (envJ := fun s_225 : (List Str) => [.bor (List.map em (p_rows : (List (Vt Str)))), .dat (em (p_width : Int)), .own (List.map em (s_225 : (List Str))), .dat (em (v_place_209 : Int)), .own (List.map em (v_column_211 : (List Str))), .any]) (t_inQ x_str (q_own C 4)) (g_append C 2 x_str (fun v_fused_226 => (g_nil (.same (.same (.same (.same (.same (.same .nil))))))))) (g_append C 2 x_str (fun v_fused_228 => (g_nil (.same (.same (.same (.same (.same (.same .nil))))))))) (fun s_225 => (g_nil (.same (.same (.same (.same (.same (.same .nil))))))))) (fun s_220 => (g_nil (.same (.same (.same (.drop (.drop (.same .nil)))))))))))) (fun s_208 => (g_ret (φ := fun x => x) (x_tupleQ C (q_own C 2) Z.z_tuple) (fun _ _ _ _ z => z.1))))))
theorem ok_law {f : Addr} {fd : FuncData} (F : Fun K "law" "law" s_law f fd) (Z : Zs mg) {f__law_compared : Addr} {fd__law_compared : FuncData} {f__law_draws : Addr} {fd__law_draws : FuncData} {f__law_fused : Addr} {fd__law_fused : FuncData} {f__law_same : Addr} {fd__law_same : FuncData} {f_compare : Addr} {fd_compare : FuncData} {f_contradictory : Addr} {fd_contradictory : FuncData} {f_fuse : Addr} {fd_fuse : FuncData} (D__law_compared : Df P w K mg base 1 "_law_compared" f__law_compared fd__law_compared ["winner", "loser"] (spF K (fun a : (List Int) × (List Int) × Unit => [.bor (List.map em a.1), .bor (List.map em a.2.1)]) (fun a : (List Int) × (List Int) × Unit => M__law_compared a.1 a.2.1) fun x : (Vt Str) => .dat (em x))) (D__law_draws : Df P w K mg base 1 "_law_draws" f__law_draws fd__law_draws ["script", "count"] (spF K (fun a : (List Int) × Int × Unit => [.bor (List.map em a.1), .dat (em a.2.1)]) (fun a : (List Int) × Int × Unit => M__law_draws a.1 a.2.1) fun x : (List Int) => .own (List.map em x))) (D__law_fused : Df P w K mg base 1 "_law_fused" f__law_fused fd__law_fused ["rows", "width"] (spF K (fun a : (List (Vt Str)) × Int × Unit => [.bor (List.map em a.1), .dat (em a.2.1)]) (fun a : (List (Vt Str)) × Int × Unit => M__law_fused a.1 a.2.1) fun x : (Vt Str) => .dat (em x))) (D__law_same : Df P w K mg base 9 "_law_same" f__law_same fd__law_same ["actual", "due"] (spF K (fun a : D × D × Unit => [.dat (em a.1), .dat (em a.2.1)]) (fun a : D × D × Unit => R__law_same 8 a.1 a.2.1) fun x : Bool => .dat (em x))) (D_compare : Df P w K mg base 1 "compare" f_compare fd_compare ["winner", "loser"] (spF K (fun a : (Vt Int) × (Vt Int) × Unit => [.dat (em a.1), .dat (em a.2.1)]) (fun a : (Vt Int) × (Vt Int) × Unit => M_compare a.1 a.2.1) fun x : (Vt Str) => .dat (em x))) (D_contradictory : Df P w K mg base 1 "contradictory" f_contradictory fd_contradictory ["row"] (spF K (fun a : (Vt Str) × Unit => [.dat (em a.1)]) (fun a : (Vt Str) × Unit => M_contradictory a.1) fun x : Bool => .dat (em x))) (D_fuse : Df P w K mg base 1 "fuse" f_fuse fd_fuse ["rows"] (spF K (fun a : (List (Vt Str)) × Unit => [.bor (List.map em a.1)]) (fun a : (List (Vt Str)) × Unit => M_fuse a.1) fun x : (Vt Str) => .dat (em x))) : FnOk P w K mg base CX0 10 f fd ["script"] (spF K (fun a : (List Int) × Unit => [.bor (List.map em a.1)]) (fun a : (List Int) × Unit => M_law a.1) fun x : Bool => .dat (em x)) :=
  fn_mk (N := ["script", "draws", "width", "many", "high", "rows", "k", "fused", "handed", "row", "winner", "loser", "place", "turn", "spare", "one", "other"]) F ⟨rfl, rfl, rfl, by decide +kernel, rfl, by decide +kernel, by decide +kernel⟩ 16 rfl (fun _ => rfl) fun X C ⟨p_script, _⟩ => (g_setL C 1 (l_callD C D__law_draws (a_bor (q_bor C 0) (a_dat x_int a_nil))) (fun v_draws_234 => (g_set C 2 (x_add x_int (x_modC (x_ixQ (q_own C 1) x_int))) (fun v_width_241 => (g_set C 3 (x_add x_int (x_modC (x_ixQ (q_own C 1) x_int))) (fun v_many_247 => (g_set C 4 (x_ixQ (q_l (l_lst (i_cons x_int (i_cons x_int (i_cons x_int (i_cons (x_powC) i_nil)))))) (x_modC (x_ixQ (q_own C 1) x_int))) (fun v_high_253 => (g_setL C 5 l_nil (fun v_rows_271 => (g_forF (envL := fun s_273 : (List (Vt Str)) => [.bor (List.map em (p_script : (List Int))), .own (List.map em (v_draws_234 : (List Int))), .dat (em (v_width_241 : Int)), .dat (em (v_many_247 : Int)), .dat (em (v_high_253 : Int)), .own (List.map em (s_273 : (List (Vt Str)))), .any, .any, .any, .any, .any, .any, .any, .any, .any, .any, .any]) (res := fun x : Bool => .dat (em x)) (φ := fun x => x) C (w_rng1 C (x_var C 3) Z.z_range) (fun s_273 => (gt_name C 6)) (.same (.same (.same (.same (.same (.same (.same (.same (.same (.same (.same (.same (.same (.same (.same (.same (.same .nil))))))))))))))))) (fun s_273 v_k_274 => (g_setL C 10 l_nil (fun v_winner_276 => (g_setL C 11 l_nil (fun v_loser_277 => (g_for (envL := fun s_279 : ((List Int) × (List Int)) => [.bor (List.map em (p_script : (List Int))), .own (List.map em (v_draws_234 : (List Int))), .dat (em (v_width_241 : Int)), .dat (em (v_many_247 : Int)), .dat (em (v_high_253 : Int)), .own (List.map em (s_273 : (List (Vt Str)))), .dat (em (v_k_274 : Int)), .any, .any, .any, .own (List.map em (s_279.1 : (List Int))), .own (List.map em (s_279.2 : (List Int))), .any, .any, .any, .any, .any]) C (w_rng1 C (x_var C 2) Z.z_range) (fun s_279 => (gt_name C 12)) (.same (.same (.same (.same (.same (.same (.same (.same (.same (.same (.same (.same (.same (.same (.same (.same (.same .nil))))))))))))))))) (fun s_279 v_place_280 => (g_set C 15 (x_mul (x_add (x_ixQ (q_own C 1) (x_add x_int (x_modC (x_add (x_mul (x_var C 6) (x_var C 2)) (x_var C 12))))) (x_mulCr (x_var C 6))) (x_add x_int (x_modC (x_ixQ (q_own C 1) (x_modC (x_add (x_var C 6) (x_mulCr (x_var C 12)))))))) (fun v_one_282 => (g_set C 16 (x_mul (x_add (x_ixQ (q_own C 1) (x_add x_int (x_modC (x_add (x_add (x_mulCr (x_var C 6)) (x_mulCr (x_var C 12))) x_int)))) (x_mulCr (x_var C 12))) (x_add x_int (x_modC (x_ixQ (q_own C 1) (x_modC (x_add (x_mulCr (x_var C 6)) (x_var C 12))))))) (fun v_other_306 => (g_append C 10 (x_mod (x_intI C (x_var C 15) Z.z_int) (x_var C 4)) (fun v_winner_335 => (g_append C 11 (x_mod (x_intI C (x_var C 16) Z.z_int) (x_var C 4)) (fun v_loser_339 => (g_ifJ (envJ := fun s_346 : (List Int) => [.bor (List.map em (p_script : (List Int))), .own (List.map em (v_draws_234 : (List Int))), .dat (em (v_width_241 : Int)), .dat (em (v_many_247 : Int)), .dat (em (v_high_253 : Int)), .own (List.map em (s_273 : (List (Vt Str)))), .dat (em (v_k_274 : Int)), .any, .any, .any, .own (List.map em (v_winner_335 : (List Int))), .own (List.map em (s_346 : (List Int))), .dat (em (v_place_280 : Int)), .any, .any, .dat (em (v_one_282 : Int)), .dat (em (v_other_306 : Int))]) (t_lt (x_modC (x_intI C (x_add (x_var C 15) (x_var C 16)) Z.z_int)) x_int) (g_setItem C 11 (x_add (x_ixQ (q_own C 10) (x_var C 12)) (x_modC (x_intI C (x_add (x_var C 15) (x_var C 16)) Z.z_int))) (x_var C 12) (fun v_loser_355 => (g_nil (.same (.same (.same (.same (.same (.same (.same (.same (.same (.same (.same (.same (.same (.same (.same (.same (.same .nil)))))))))))))))))))) (g_nil (.same (.same (.same (.same (.same (.same (.same (.same (.same (.same (.same (.same (.same (.same (.same (.same (.same .nil)))))))))))))))))) (fun s_346 => (g_nil (.same (.same (.same (.same (.same (.same (.same (.same (.same (.same (.same (.same (.drop (.same (.same (.drop (.drop .nil))))))))))))))))))))))))))))) (fun s_279 => (g_set C 9 (x_callD C D__law_compared (a_bor (q_own C 10) (a_bor (q_own C 11) a_nil))) (fun v_row_363 => (g_forF (envL := fun s_371 : Unit => [.bor (List.map em (p_script : (List Int))), .own (List.map em (v_draws_234 : (List Int))), .dat (em (v_width_241 : Int)), .dat (em (v_many_247 : Int)), .dat (em (v_high_253 : Int)), .own (List.map em (s_273 : (List (Vt Str)))), .dat (em (v_k_274 : Int)), .any, .any, .dat (em (v_row_363 : (Vt Str))), .own (List.map em (s_279.1 : (List Int))), .own (List.map em (s_279.2 : (List Int))), .any, .any, .any, .any, .any]) (res := fun x : Bool => .dat (em x)) (φ := Fl.rt) C (w_rng1 C x_int Z.z_range) (fun s_371 => (gt_name C 13)) (.same (.same (.same (.same (.same (.same (.same (.same (.same (.same (.same (.same (.same (.same (.same (.same (.same .nil))))))))))))))))) (fun s_371 v_turn_372 => (g_ifX (φ := Fl.rt) (t_not (t_x (x_callD C D__law_same (a_dat (x_D (x_callD C D_compare (a_dat (x_tupleQ C (q_own C 10) Z.z_tuple) (a_dat (x_tupleQ C (q_own C 11) Z.z_tuple) a_nil)))) (a_dat (x_D (x_var C 9)) a_nil))))) (g_ret (φ := fun x => x) x_bl (fun _ _ _ _ z => z)) early_rf (g_nilF (.same (.same (.same (.same (.same (.same (.same (.same (.same (.same (.same (.same (.same (.drop (.same (.same (.same .nil)))))))))))))))))))) (fun _ _ _ _ z => z) (fun s_371 => (g_ifX (φ := Fl.rt) (t_not (t_x (x_callD C D__law_same (a_dat (x_D (x_callD C D_compare (a_dat (x_tupleQ C (q_own C 11) Z.z_tuple) (a_dat (x_tupleQ C (q_own C 10) Z.z_tuple) a_nil)))) (a_dat (x_D (x_callD C D__law_compared (a_bor (q_own C 11) (a_bor (q_own C 10) a_nil)))) a_nil))))) (g_ret (φ := fun x => x) x_bl (fun _ _ _ _ z => z)) early_rf (g_append C 5 (x_var C 9) (fun v_rows_418 => (g_ifX (φ := Fl.rt) (t_not (t_x (x_callD C D__law_same (a_dat (x_D (x_callD C D_fuse (a_bor (q_l (l_copy C (q_own C 5) Z.z_list)) a_nil))) (a_dat (x_D (x_callD C D__law_fused (a_bor (q_own C 5) (a_dat (x_var C 2) a_nil)))) a_nil))))) (g_ret (φ := fun x => x) x_bl (fun _ _ _ _ z => z)) early_rf (g_nilF (.same (.same (.same (.same (.same (.same (.drop (.same (.same (.drop (.drop (.drop (.same (.same (.same (.same (.same .nil))))))))))))))))))))))))))))))))) hzD (fun s_273 => (g_ifJ (envJ := fun s_449 : (List (Vt Str)) => [.bor (List.map em (p_script : (List Int))), .own (List.map em (v_draws_234 : (List Int))), .dat (em (v_width_241 : Int)), .dat (em (v_many_247 : Int)), .dat (em (v_high_253 : Int)), .own (List.map em (s_449 : (List (Vt Str)))), .any, .any, .any, .any, .any, .any, .any, .any, .any, .any, .any]) (t_eq (x_modC (x_ixQ (q_own C 1) x_int)) x_int) (g_set C 14 (x_ixQ (q_own C 5) (x_mod (x_ixQ (q_own C 1) x_int) (x_var C 3))) (fun v_spare_450 => (g_for (envL := fun s_463 : (List (Vt Str)) => [.bor (List.map em (p_script : (List Int))), .own (List.map em (v_draws_234 : (List Int))), .dat (em (v_width_241 : Int)), .dat (em (v_many_247 : Int)), .dat (em (v_high_253 : Int)), .own (List.map em (s_463 : (List (Vt Str)))), .any, .any, .any, .any, .any, .any, .any, .any, .dat (em (v_spare_450 : (Vt Str))), .any, .any]) C (w_rng1 C (x_add x_int (x_modC (x_ixQ (q_own C 1) x_int))) Z.z_range) (fun s_463 => (gt_name C 6)) (.same (.same (.same (.same (.same (.same (.same (.same (.same (.same (.same (.same (.same (.same (.same (.same (.same .nil))))))))))))))))) (fun s_463 v_k_464 => (g_insert C 5 (x_mod (x_ixQ (q_own C 1) x_int) (x_add (x_lenQ C (q_own C 5) Z.z_len) x_int)) (x_ixQ (q_l (l_lst (i_cons (x_tupleQ C (q_l (l_rep (l_lst (i_cons x_str i_nil)) (x_var C 2))) Z.z_tuple) (i_cons (x_var C 14) i_nil)))) (x_modC (x_add (x_var C 6) (x_ixQ (q_own C 1) x_int)))) (fun v_rows_492 => (g_nil (.same (.same (.same (.same (.same (.same (.drop (.same (.same (.same (.same (.same (.same (.same (.same (.same (.same .nil))))))))))))))))))))) (fun s_463 => (g_nil (.same (.same (.same (.same (.same (.same (.same (.same (.same (.same (.same (.same (.same (.same (.drop (.same (.same .nil)))))))))))))))))))))) (g_nil (.same (.same (.same (.same (.same (.same (.same (.same (.same (.same (.same (.same (.same (.same (.same (.same (.same .nil)))))))))))))))))) (fun s_449 => (g_set C 7 (x_callD C D__law_fused (a_bor (q_own C 5) (a_dat (x_var C 2) a_nil))) (fun v_fused_497 => (g_setL C 8 (l_copy C (q_own C 5) Z.z_list) (fun v_handed_504 => (g_freeze 8 rfl (g_freeze 5 rfl (g_ifX (φ := id) (t_w (w_or (t_not (t_x (x_callD C D__law_same (a_dat (x_D (x_callD C D_fuse (a_bor (q_x (x_var C 8)) a_nil))) (a_dat (x_D (x_var C 7)) a_nil))))) (w_or1 (t_not (t_x (x_callD C D__law_same (a_dat (x_D (x_var C 8)) (a_dat (x_D (x_var C 5)) a_nil)))))))) (g_ret (φ := fun x => x) x_bl (fun _ _ _ _ z => z)) early_rn (g_ifX (φ := id) (t_not (t_x (x_callD C D__law_same (a_dat (x_D (x_callD C D_fuse (a_bor (q_x (x_var C 8)) a_nil))) (a_dat (x_D (x_var C 7)) a_nil))))) (g_ret (φ := fun x => x) x_bl (fun _ _ _ _ z => z)) early_rn (g_forF (envL := fun s_601 : Unit => [.bor (List.map em (p_script : (List Int))), .own (List.map em (v_draws_234 : (List Int))), .dat (em (v_width_241 : Int)), .dat (em (v_many_247 : Int)), .dat (em (v_high_253 : Int)), .dat (em (s_449 : (List (Vt Str)))), .any, .dat (em (v_fused_497 : (Vt Str))), .dat (em (v_handed_504 : (List (Vt Str)))), .any, .any, .any, .any, .any, .any, .any, .any]) (res := fun x : Bool => .dat (em x)) (φ := fun x => x) C (w_l (l_cat (q_l (l_cutQ (q_x (x_var C 5)) o_none (o_some x_int))) (q_l (l_lst (i_cons (x_var C 7) (i_cons (x_tupleQ C (q_l (l_rep (l_lst (i_cons x_str i_nil)) (x_var C 2))) Z.z_tuple) (i_cons (x_tupleQ C (q_l (l_rep (l_lst (i_cons x_str i_nil)) (x_var C 2))) Z.z_tuple) (i_cons (x_tupleQ C (q_l (l_rep (l_lst (i_cons x_str i_nil)) (x_var C 2))) Z.z_tuple) i_nil)))))))) (fun s_601 => (gt_name C 9)) (.same (.same (.same (.same (.same (.same (.same (.same (.same (.same (.same (.same (.same (.same (.same (.same (.same .nil))))))))))))))))) (fun s_601 v_row_602 => (g_forF (envL := fun s_605 : Unit => [.bor (List.map em (p_script : (List Int))), .own (List.map em (v_draws_234 : (List Int))), .dat (em (v_width_241 : Int)), .dat (em (v_many_247 : Int)), .dat (em (v_high_253 : Int)), .dat (em (s_449 : (List (Vt Str)))), .any, .dat (em (v_fused_497 : (Vt Str))), .dat (em (v_handed_504 : (List (Vt Str)))), .dat (em (v_row_602 : (Vt Str))), .any, .any, .any, .any, .any, .any, .any]) (res := fun x : Bool => .dat (em x)) (φ := Fl.rt) C (w_rng1 C x_int Z.z_range) (fun s_605 => (gt_name C 13)) (.same (.same (.same (.same (.same (.same (.same (.same (.same (.same (.same (.same (.same (.same (.same (.same (.same .nil))))))))))))))))) (fun s_605 v_turn_606 => (g_ifX (φ := Fl.rt) (t_not (t_x (x_callD C D__law_same (a_dat (x_D (x_callD C D_contradictory (a_dat (x_var C 9) a_nil))) (a_dat (x_D (x_and (x_inV x_str (x_var C 9)) (x_one (x_ninV x_str (x_var C 9))))) a_nil))))) (g_ret (φ := fun x => x) x_bl (fun _ _ _ _ z => z)) early_rf (g_nilF (.same (.same (.same (.same (.same (.same (.same (.same (.same (.same (.same (.same (.same (.drop (.same (.same (.same .nil)))))))))))))))))))) (fun _ _ _ _ z => z) (fun s_605 => (g_nilF (.same (.same (.same (.same (.same (.same (.same (.same (.same (.drop (.same (.same (.same (.same (.same (.same (.same .nil))))))))))))))))))))) hzD (fun s_601 => (g_ret (φ := fun x => x) (x_callD C D__law_same (a_dat (x_D (x_callD C D_contradictory (a_dat (x_callD C D_fuse (a_bor (q_l (l_copy C (q_x (x_var C 5)) Z.z_list)) a_nil)) a_nil))) (a_dat (x_D (x_and (x_inV x_str (x_var C 7)) (x_one (x_ninV x_str (x_var C 7))))) a_nil))) (fun _ _ _ _ z => z.1))))))))))))))))))))))))))
end
end K02

set_option Elab.async false
set_option linter.all false
set_option maxRecDepth 100000
set_option maxHeartbeats 4000000
namespace T
open PySem PySem.Spec PyProof.Rows L2
variable {τ α β γ δ ρ B S ι : Type}
/-! ### loops that succeed -/
theorem foldO_inv {f : S → α → Option S} (Inv : Nat → S → Prop) : ∀ (xs : List α) (n : Nat) (s0 : S), Inv n s0 → (∀ i x s, xs[i]? = some x → Inv (n + i) s → ∃ s', f s x = some s' ∧ Inv (n + i + 1) s') → ∃ s', foldO f s0 xs = some s' ∧ Inv (n + xs.length) s'
  | [], n, s0, h0, _ => ⟨s0, rfl, h0⟩
  | x :: xs, n, s0, h0, st => by
    obtain ⟨s1, e1, h1⟩ := st 0 x s0 rfl h0
    obtain ⟨s2, e2, h2⟩ := foldO_inv Inv xs (n + 1) s1 h1 fun i y s hy hs => by
      obtain ⟨s', a, b⟩ := st (i + 1) y s hy (by rw [show n + (i + 1) = n + 1 + i by omega]; exact hs)
      exact ⟨s', a, by rw [show n + 1 + i + 1 = n + (i + 1) + 1 by omega]; exact b⟩
    refine ⟨s2, ?_, by rw [List.length_cons, show n + (xs.length + 1) = n + 1 + xs.length by omega]; exact h2⟩
    show (f s0 x).bind _ = _
    rw [e1]
    exact e2
theorem foldO_ok {f : S → α → Option S} {xs : List α} {s0 : S} (Inv : Nat → S → Prop) (h0 : Inv 0 s0) (st : ∀ i x s, xs[i]? = some x → Inv i s → ∃ s', f s x = some s' ∧ Inv (i + 1) s') : ∃ s', foldO f s0 xs = some s' ∧ Inv xs.length s' := by
  obtain ⟨s', a, b⟩ := foldO_inv Inv xs 0 s0 h0 fun i x s hx hs => by
    rw [Nat.zero_add] at hs ⊢
    exact st i x s hx hs
  rw [Nat.zero_add] at b
  exact ⟨s', a, b⟩
/-- a loop that never leaves -/
theorem loopO_inv {f : S → α → Option (Fl ρ S S)} (Inv : Nat → S → Prop) : ∀ (xs : List α) (n : Nat) (s0 : S), Inv n s0 → (∀ i x s, xs[i]? = some x → Inv (n + i) s → ∃ s', (f s x = some (.nx s') ∨ f s x = some (.ct s')) ∧ Inv (n + i + 1) s') → ∃ s', loopO f s0 xs = some (.fin s') ∧ Inv (n + xs.length) s'
  | [], n, s0, h0, _ => ⟨s0, rfl, h0⟩
  | x :: xs, n, s0, h0, st => by
    obtain ⟨s1, e1, h1⟩ := st 0 x s0 rfl h0
    obtain ⟨s2, e2, h2⟩ := loopO_inv Inv xs (n + 1) s1 h1 fun i y s hy hs => by
      obtain ⟨s', a, b⟩ := st (i + 1) y s hy (by rw [show n + (i + 1) = n + 1 + i by omega]; exact hs)
      exact ⟨s', a, by rw [show n + 1 + i + 1 = n + (i + 1) + 1 by omega]; exact b⟩
    refine ⟨s2, ?_, by rw [List.length_cons, show n + (xs.length + 1) = n + 1 + xs.length by omega]; exact h2⟩
    show (f s0 x).bind _ = _
    rcases e1 with e1 | e1
    · rw [e1]; exact e2
    · rw [e1]; exact e2
theorem loopO_ok {f : S → α → Option (Fl ρ S S)} {xs : List α} {s0 : S} (Inv : Nat → S → Prop) (h0 : Inv 0 s0) (st : ∀ i x s, xs[i]? = some x → Inv i s → ∃ s', (f s x = some (.nx s') ∨ f s x = some (.ct s')) ∧ Inv (i + 1) s') : ∃ s', loopO f s0 xs = some (.fin s') ∧ Inv xs.length s' := by
  obtain ⟨s', a, b⟩ := loopO_inv Inv xs 0 s0 h0 fun i x s hx hs => by
    rw [Nat.zero_add] at hs ⊢
    exact st i x s hx hs
  rw [Nat.zero_add] at b
  exact ⟨s', a, b⟩
/-- a loop that goes on or hands back one value -/
theorem loopO_any {f : S → α → Option (Fl ρ S S)} (Inv : S → Prop) (R : ρ → Prop) : ∀ (xs : List α) (s0 : S), Inv s0 → (∀ x s, x ∈ xs → Inv s → ∃ o, f s x = some o ∧ match o with | .nx s' => Inv s' | .ct s' => Inv s' | .bk s' => Inv s' | .rt r => R r) → ∃ o, loopO f s0 xs = some o ∧ match o with | .fin s' => Inv s' | .ret r => R r
  | [], s0, h0, _ => ⟨_, rfl, h0⟩
  | x :: xs, s0, h0, st => by
    obtain ⟨o, e1, h1⟩ := st x s0 (List.mem_cons_self) h0
    show ∃ o', (f s0 x).bind _ = some o' ∧ _
    rw [e1]
    cases o with
    | nx s' => exact loopO_any Inv R xs s' h1 fun y s hy hs => st y s (List.mem_cons_of_mem _ hy) hs
    | ct s' => exact loopO_any Inv R xs s' h1 fun y s hy hs => st y s (List.mem_cons_of_mem _ hy) hs
    | bk s' => exact ⟨_, rfl, h1⟩
    | rt r => exact ⟨_, rfl, h1⟩
theorem lcO_t {f : α → Option β} : ∀ xs : List α, lcO (fun _ => some true) f xs = mapO f xs
  | [] => rfl
  | x :: xs => by
    show (some true).bind _ = _
    rw [Option.bind_some, if_pos rfl]
    show (f x).bind _ = (f x).bind _
    rw [lcO_t xs]
theorem lcC_t {f : α → Option β} {xs : List α} : lcC (fun _ => some true) f xs = mapC f xs := by unfold lcC mapC; rw [lcO_t]
/-- not by rfl: a plain rewriting -/
theorem bsm (x : α) (f : α → Option β) : (some x).bind f = f x := by
  generalize h : (some x).bind f = y
  rw [Option.bind_some] at h
  exact h.symm
theorem basm (m : Option α) (f : α → Option β) (g : β → Option γ) : (m.bind f).bind g = m.bind fun x => (f x).bind g := by
  cases m with
  | none => rfl
  | some x => rw [bsm, bsm]
/-- it answers, and P holds of the answer -/
def Ok (m : Option α) (P : α → Prop) : Prop := ∃ r, m = some r ∧ P r
theorem Ok.bind {m : Option α} {f : α → Option β} {P : α → Prop} {Q : β → Prop} (h : Ok m P) (k : ∀ a, P a → Ok (f a) Q) : Ok (m.bind f) Q := by
  obtain ⟨a, rfl, p⟩ := h
  exact k a p
theorem Ok.one {m : Option α} {f : α → Option β} {a : α} {Q : β → Prop} (h : m = some a) (k : Ok (f a) Q) : Ok (m.bind f) Q := by
  subst h
  exact k
theorem Ok.some {a : α} {P : α → Prop} (h : P a) : Ok (Option.some a) P := ⟨a, rfl, h⟩
theorem Ok.eq {m : Option α} {a : α} {P : α → Prop} (e : m = Option.some a) (h : P a) : Ok m P := ⟨a, e, h⟩
theorem Ok.imp {m : Option α} {P Q : α → Prop} (h : Ok m P) (k : ∀ a, P a → Q a) : Ok m Q := let ⟨a, e, p⟩ := h; ⟨a, e, k a p⟩
theorem Ok.ite {c : Prop} [Decidable c] {m n : Option α} {P : α → Prop} (h1 : c → Ok m P) (h2 : ¬ c → Ok n P) : Ok (if c then m else n) P := by
  by_cases h : c
  · rw [if_pos h]; exact h1 h
  · rw [if_neg h]; exact h2 h
theorem Ok.get {m : Option α} {a : α} (h : Ok m fun x => x = a) : m = Option.some a := by obtain ⟨b, e, rfl⟩ := h; exact e
theorem Ok.fold {f : S → α → Option S} {xs : List α} {s0 : S} {P : S → Prop} (Inv : Nat → S → Prop) (h0 : Inv 0 s0) (st : ∀ i x s, xs[i]? = Option.some x → Inv i s → Ok (f s x) (Inv (i + 1))) (hp : ∀ s, Inv xs.length s → P s) : Ok (foldO f s0 xs) P := by
  obtain ⟨s', a, b⟩ := foldO_ok Inv h0 st
  exact ⟨s', a, hp s' b⟩
theorem mapO_ok {f : α → Option β} {P : Nat → α → β → Prop} : ∀ (xs : List α) (n : Nat), (∀ i x, xs[i]? = some x → ∃ y, f x = some y ∧ P (n + i) x y) → ∃ ys, mapO f xs = some ys ∧ ys.length = xs.length ∧ ∀ i x y, xs[i]? = some x → ys[i]? = some y → P (n + i) x y
  | [], n, _ => ⟨[], rfl, rfl, fun i x y h => by simp at h⟩
  | x :: xs, n, st => by
    obtain ⟨y, e, p⟩ := st 0 x rfl
    obtain ⟨ys, e2, hl, p2⟩ := mapO_ok (P := P) xs (n + 1) fun i z hz => by
      obtain ⟨y', a, b⟩ := st (i + 1) z hz
      exact ⟨y', a, by rw [show n + 1 + i = n + (i + 1) by omega]; exact b⟩
    refine ⟨y :: ys, ?_, by rw [List.length_cons, List.length_cons, hl], fun i z w hz hw => ?_⟩
    · show (f x).bind _ = _
      rw [e]
      show (mapO f xs).bind _ = _
      rw [e2]
      rfl
    · cases i with
      | zero => cases hz; cases hw; exact p
      | succ i => have := p2 i z w hz hw; rwa [show n + 1 + i = n + (i + 1) by omega] at this
theorem lcC_ok {f : α → Option β} {P : Nat → α → β → Prop} {xs : List α} (hz : xs.length < 16777216) (st : ∀ i x, xs[i]? = some x → ∃ y, f x = some y ∧ P i x y) : ∃ ys, lcC (fun _ => some true) f xs = some ys ∧ ys.length = xs.length ∧ ∀ i x y, xs[i]? = some x → ys[i]? = some y → P i x y := by
  obtain ⟨ys, a, b, c⟩ := mapO_ok (P := P) xs 0 fun i x hx => by rw [Nat.zero_add]; exact st i x hx
  refine ⟨ys, ?_, b, fun i x y h1 h2 => by have := c i x y h1 h2; rwa [Nat.zero_add] at this⟩
  rw [lcC_t]
  unfold mapC
  rw [if_pos (show sz xs.length from hz)]
  exact a
/-- a plain map -/
theorem mapO_map {f : α → Option β} {g : α → β} : ∀ {xs : List α}, (∀ x ∈ xs, f x = some (g x)) → mapO f xs = some (xs.map g)
  | [], _ => rfl
  | x :: xs, h => by
    show (f x).bind _ = _
    rw [h x List.mem_cons_self]
    show (mapO f xs).bind _ = _
    rw [mapO_map fun y hy => h y (List.mem_cons_of_mem _ hy)]
    rfl
theorem lcC_map {f : α → Option β} {g : α → β} {xs : List α} (hz : xs.length < 16777216) (h : ∀ x ∈ xs, f x = some (g x)) : lcC (fun _ => some true) f xs = some (xs.map g) := by
  rw [lcC_t]
  unfold mapC
  rw [if_pos (show sz xs.length from hz), mapO_map h]
theorem lcO_filter {c : α → Option Bool} {f : α → Option β} {p : α → Bool} {g : α → β} : ∀ {xs : List α}, (∀ x ∈ xs, c x = some (p x)) → (∀ x ∈ xs, p x = true → f x = some (g x)) → lcO c f xs = some ((xs.filter p).map g)
  | [], _, _ => rfl
  | x :: xs, h, h' => by
    show (c x).bind _ = _
    rw [h x List.mem_cons_self]
    show (if p x = true then (f x).bind (fun y => (lcO c f xs).bind fun ys => some (y :: ys)) else lcO c f xs) = _
    rw [lcO_filter (fun y hy => h y (List.mem_cons_of_mem _ hy)) fun y hy => h' y (List.mem_cons_of_mem _ hy)]
    by_cases hp : p x = true
    · rw [if_pos hp, h' x List.mem_cons_self hp, List.filter_cons_of_pos hp]
      rfl
    · rw [if_neg hp, List.filter_cons_of_neg hp]
theorem lcC_filter {c : α → Option Bool} {f : α → Option β} {p : α → Bool} {g : α → β} {xs : List α} (hz : xs.length < 16777216) (h : ∀ x ∈ xs, c x = some (p x)) (h' : ∀ x ∈ xs, p x = true → f x = some (g x)) : lcC c f xs = some ((xs.filter p).map g) := by
  unfold lcC
  rw [if_pos (show sz xs.length from hz), lcO_filter h h']
/-! ### ranges, items -/
theorem rngP_eq {n : Int} (h : n ≤ 16777216) (h0 : 0 ≤ n) : rngP 0 n = some (rng 0 n) := by
  unfold rngP
  rw [if_pos (by omega)]
theorem rng_len (n : Nat) : (rng 0 (n : Int)).length = n := by unfold rng; simp
theorem rng_nat {n : Nat} {i : Nat} {x : Int} (h : (rng 0 (n : Int))[i]? = some x) : i < n ∧ x = (i : Int) := by
  obtain ⟨h1, h2⟩ := rng_get h
  exact ⟨by omega, by omega⟩
theorem rng_mem {a b x : Int} (h : x ∈ rng a b) : a ≤ x ∧ x < b := by
  unfold rng at h
  simp only [List.mem_map, List.mem_range] at h
  obtain ⟨i, h1, rfl⟩ := h
  omega
theorem rngL_eq {n : Nat} (h : n ≤ 16777216) : rngL 0 (n : Int) = some ((List.range n).map fun i : Nat => (i : Int)) := by
  unfold rngL
  rw [if_pos (by omega)]
  unfold rng
  simp
theorem atI_nat {xs : List α} {i : Int} {j : Nat} (h : i = (j : Int)) (hj : j < xs.length) : atI xs i = some xs[j] := by
  subst h
  unfold atI ixN
  rw [if_pos (by omega)]
  simp [hj]
theorem atI_of {xs : List α} {i : Int} (h0 : 0 ≤ i) (h1 : i < xs.length) : ∃ x, atI xs i = some x ∧ x ∈ xs ∧ xs[i.toNat]? = some x := by
  have hj : i.toNat < xs.length := by omega
  exact ⟨xs[i.toNat], atI_nat (by omega) hj, List.getElem_mem _, List.getElem?_eq_getElem hj⟩
theorem setP_of {xs : List α} {i : Int} {x : α} (h0 : 0 ≤ i) (h1 : i < xs.length) : setP xs i x = some (xs.set i.toNat x) := by
  unfold setP ixN
  rw [if_pos h0, if_pos h1]
  rfl
theorem appP_eq {xs : List α} {x : α} (h : xs.length < 16777216) : appP xs x = some (xs ++ [x]) := by unfold appP; rw [if_pos (show sz xs.length from h)]
theorem catL_eq {xs ys : List α} (h : xs.length + ys.length < 16777216) : catL xs ys = some (xs ++ ys) := by unfold catL; rw [if_pos h]
theorem lstP_eq {xs : List α} (h : xs.length < 16777216) : lstP xs = some xs := by unfold lstP; rw [if_pos (show sz xs.length from h)]
theorem modP_eq {x y : Int} (h : y ≠ 0) : modP x y = some (x.fmod y) := by unfold modP; rw [if_neg h]
theorem divP_eq {x y : Int} (h : y ≠ 0) (h2 : y.natAbs < 1073741824) : divP x y = some (x.fdiv y) := by unfold divP; rw [if_neg h, if_pos h2]
theorem mulP_eq {x y : Int} (h : x.natAbs < 18446744073709551616 ∨ y.natAbs < 18446744073709551616) : mulP x y = some (x * y) := by unfold mulP; rw [if_pos (by omega)]
theorem lenS_eq {s : Str} (h : s.length < 16777216) : lenS s = some (s.length : Int) := by unfold lenS; rw [if_pos (show sz s.length from h)]
theorem fmod_lo {x y : Int} (h : 0 < y) : 0 ≤ x.fmod y := Int.fmod_nonneg_of_pos _ h
theorem fmod_hi {x y : Int} (h : 0 < y) : x.fmod y < y := Int.fmod_lt_of_pos _ h
theorem fmod_emod {x y : Int} (h : 0 ≤ y) : x.fmod y = x % y := Int.fmod_eq_emod_of_nonneg _ h
theorem fdiv_ediv {x y : Int} (h : 0 ≤ y) : x.fdiv y = x / y := Int.fdiv_eq_ediv_of_nonneg _ h
theorem andO_some (x : Bool) (y : Option Bool) : andO (some x) y = if x = true then y else some false := rfl
theorem orO_some (x : Bool) (y : Option Bool) : orO (some x) y = if x = true then some true else y := rfl
/-! ### texts -/
theorem slen (s : Str) : s.length = s.cps.toList.length := by simp [Str.length]
theorem strAt_eq {s : Str} {i : Int} {j : Nat} (h : i = (j : Int)) (hj : j < s.cps.toList.length) (hz : s.length < 16777216) : strAt s i = some ⟨#[s.cps.toList[j]]⟩ := by
  unfold strAt
  rw [if_pos (show sz s.length from hz), atI_nat h hj]
  rfl
theorem strAt_of {s : Str} {i : Int} (h0 : 0 ≤ i) (h1 : i < s.length) (hz : s.length < 16777216) : Ok (strAt s i) fun c => c.length = 1 ∧ ∃ q, c = ⟨#[q]⟩ ∧ q ∈ s.cps.toList ∧ s.cps.toList[i.toNat]? = some q := by
  have hj : i.toNat < s.cps.toList.length := by rw [slen] at h1; omega
  exact Ok.eq (strAt_eq (j := i.toNat) (by omega) hj hz) ⟨rfl, _, rfl, List.getElem_mem _, List.getElem?_eq_getElem hj⟩
theorem sIx_le' (n d : Nat) (h : d ≤ n) (o : Option Int) : HT.sIx n d o ≤ n ∨ ∃ v, o = some v ∧ v < 0 := by
  cases o with
  | none => exact .inl h
  | some v =>
    by_cases hv : v < 0
    · exact .inr ⟨v, rfl, hv⟩
    · left
      unfold HT.sIx
      simp only [hv, if_false]
      exact Nat.min_le_right _ _
theorem cutS_len (z : Str) (lo hi : Option Int) : (cutS z lo hi).length ≤ z.length := by
  rw [slen, slen]
  unfold cutS
  simp only [List.length_take, List.length_drop]
  omega
theorem cutP_eq {z : Str} {lo hi : Option Int} (h : z.length < 16777216) : cutP z lo hi = some (cutS z lo hi) := by unfold cutP; rw [if_pos (show sz z.length from h)]
theorem cutS_to (z : Str) (k : Nat) : (cutS z none (some (k : Int))).cps.toList = z.cps.toList.take k := by
  unfold cutS
  rw [HT.sIx_none, HT.sIx_nat]
  show ((z.cps.toList.drop 0).take (min k z.length - 0)) = _
  rw [List.drop_zero, Nat.sub_zero, slen, Nat.min_comm, List.take_eq_take_min (i := k), Nat.min_comm]
theorem cutS_from (z : Str) (k : Nat) : (cutS z (some (k : Int)) none).cps.toList = z.cps.toList.drop k := by
  unfold cutS
  rw [HT.sIx_none, HT.sIx_nat]
  show ((z.cps.toList.drop (min k z.length)).take (z.length - min k z.length)) = _
  rw [List.take_of_length_le (by rw [List.length_drop, ← slen]; omega), slen]
  by_cases h : k ≤ z.cps.toList.length
  · rw [Nat.min_eq_left h]
  · rw [Nat.min_eq_right (by omega), List.drop_of_length_le (Nat.le_refl _), List.drop_of_length_le (by omega)]
theorem revP_eq {z : Str} (h : z.length < 16777216) : revP z = some (revS z) := by unfold revP; rw [if_pos (show sz z.length from h)]
theorem revS_len (z : Str) : (revS z).length = z.length := by rw [slen, slen]; simp [revS]
theorem append_len (x y : Str) : (x ++ y).length = x.length + y.length := by rw [slen, slen, slen, ← List.length_append, ← TL.tl_append]
theorem catS_eq {x y : Str} (h : x.length + y.length < 16777216) : catS x y = some (x ++ y) := by unfold catS; rw [if_pos h]
theorem joinP_ones {ys : List Str} (h : ∀ y ∈ ys, y.length = 1) (hz : ys.length ≤ 16777216) : Ok (joinP "" ys) fun s => s.length = ys.length := by
  have hs : (ys.map (·.length)).sum = ys.length := by
    clear hz
    induction ys with
    | nil => rfl
    | cons y ys ih =>
      rw [List.map_cons, List.sum_cons, ih fun z hz => h z (List.mem_cons_of_mem _ hz), h y List.mem_cons_self, List.length_cons]
      omega
  have he : ("" : Str).length = 0 := by decide +kernel
  unfold joinP
  rw [if_pos (by rw [hs, he, Nat.mul_zero]; exact hz)]
  refine Ok.some ?_
  show (Builtin.Str.glued "" ys).length = _
  rw [size_glued, hs, he, Nat.mul_zero]
  rfl
theorem mulS_ok {x : Str} {n : Int} {L M : Nat} (hx : x.length ≤ L) (h0 : 0 ≤ n) (hn : n ≤ (M : Int)) (hM : M ≤ 16777216) (hLM : L * M ≤ 16777216) : Ok (mulS x n) fun s => s = Txt.mul x n ∧ s.length ≤ L * M := by
  unfold mulS
  rw [if_pos (PyProof.Rows.mulOk_of L M hx hn (by omega) hM hLM)]
  exact Ok.some ⟨rfl, len_mul_leN hx hn⟩
/-! ### the draws that most laws begin with -/
def drawsM (p_script : (List Int)) (p_count : Int) : Option (List Int) := (lcC (fun _ : Int => some true) (fun v_cell_55 : Int => some (absI v_cell_55)) p_script).bind fun v_cells_53 => (if (decide (((List.length v_cells_53 : Int)) = ((0 : Int)))) = true then let v_cells_64 := ([((0 : Int))] : (List Int)); some v_cells_64 else some v_cells_53).bind fun s_63 : (List Int) => let v_many_68 := (List.length s_63 : Int); let v_draws_70 := ([] : (List Int)); (rngP 0 p_count).bind fun y_74 => (foldO (fun (s_72 : ((List Int) × (List Int))) (v_k_73 : Int) => (modP v_k_73 v_many_68).bind fun v_at_75 => (atI s_72.1 v_at_75).bind fun v_cell_78 => (if (decide (((1000000000000000000 : Int)) ≤ v_cell_78)) = true then (appP s_72.2 ((Int.fmod v_cell_78 (1009 : Int)))).bind fun v_draws_86 => (setP s_72.1 v_at_75 ((Int.fdiv v_cell_78 (1009 : Int)))).bind fun v_cells_88 => some (v_cells_88, v_draws_86) else let v_mixed_94 := (Int.fmod ((((((v_cell_78 * (48271 : Int))) + ((v_k_73 * (69621 : Int))))) + ((40503 : Int)))) (2147483647 : Int)); ((((mulP v_mixed_94 v_mixed_94).bind fun y_105 => some ((y_105 + ((v_cell_78 * (16807 : Int)))))).bind fun y_107 => some ((y_107 + v_k_73))).bind fun y_109 => some ((Int.fmod y_109 (2147483629 : Int)))).bind fun y_111 => (appP s_72.2 y_111).bind fun v_draws_110 => some (s_72.1, v_draws_110)).bind fun s_83 : ((List Int) × (List Int)) => some (s_83.1, s_83.2)) (s_63, v_draws_70) y_74).bind fun s_72 => some s_72.2
theorem draws_ok {script : List Int} {n : Nat} (hs : script.length ≤ 63) (hn : n ≤ 100000) : Ok (drawsM script (n : Int)) fun ds => ds.length = n ∧ ∀ d ∈ ds, 0 ≤ d ∧ d < 2147483629 := by
  unfold drawsM
  refine Ok.one (lcC_map (g := absI) (by omega) fun x hx => rfl) ?_
  refine Ok.bind (P := fun cells => 0 < cells.length ∧ cells.length ≤ 63) (Ok.ite (fun h => Ok.some ⟨by decide, by decide⟩) fun h => Ok.some ⟨?_, by rw [List.length_map]; exact hs⟩) ?_
  · simp at h
    rw [List.length_map]
    exact List.length_pos_iff.mpr h
  rintro cells ⟨p0, p1⟩
  refine Ok.one (rngP_eq (by omega) (by omega)) ?_
  refine Ok.bind (P := fun s => s.1.length = cells.length ∧ s.2.length = n ∧ ∀ d ∈ s.2, 0 ≤ d ∧ d < 2147483629) ?_ fun s h => Ok.some h.2
  refine Ok.fold (fun i s => s.1.length = cells.length ∧ s.2.length = i ∧ ∀ d ∈ s.2, 0 ≤ d ∧ d < 2147483629) ⟨rfl, rfl, fun d h => by cases h⟩ ?_ fun s h => by rw [rng_len] at h; exact h
  rintro i x ⟨cs, ds⟩ hx ⟨q1, q2, q3⟩
  obtain ⟨hi, rfl⟩ := rng_nat hx
  refine Ok.one (modP_eq (by omega)) ?_
  have m0 := fmod_lo (x := (i : Int)) (show (0 : Int) < (cells.length : Int) by omega)
  have m1 := fmod_hi (x := (i : Int)) (show (0 : Int) < (cells.length : Int) by omega)
  obtain ⟨cell, e1, _⟩ := atI_of (xs := cs) m0 (by rw [q1]; exact m1)
  refine Ok.one e1 ?_
  have app : ∀ d : Int, 0 ≤ d → d < 2147483629 → ∀ d' ∈ ds ++ [d], 0 ≤ d' ∧ d' < 2147483629 := fun d a b d' h => by
    rcases List.mem_append.mp h with h | h
    · exact q3 d' h
    · rw [List.mem_singleton.mp h]; exact ⟨a, b⟩
  refine Ok.bind (P := fun s => s.1.length = cells.length ∧ s.2.length = i + 1 ∧ ∀ d ∈ s.2, 0 ≤ d ∧ d < 2147483629) (Ok.ite (fun h => ?_) fun h => ?_) fun s h => Ok.some h
  · refine Ok.one (appP_eq (by show ds.length < _; have q2 : ds.length = i := q2; omega)) (Ok.one (setP_of m0 (by show _ < (cs.length : Int); have q1 : cs.length = cells.length := q1; rw [q1]; exact m1)) (Ok.some ⟨?_, ?_, ?_⟩))
    · show (cs.set _ _).length = _
      rw [List.length_set]; exact q1
    · show (ds ++ _).length = _
      rw [List.length_append]; exact congrArg (· + 1) q2
    · exact app _ (fmod_lo (by decide)) (Int.lt_trans (fmod_hi (by decide)) (by decide))
  · have b0 := fmod_lo (x := cell * 48271 + (i : Int) * 69621 + 40503) (show (0 : Int) < 2147483647 by decide)
    have b1 := fmod_hi (x := cell * 48271 + (i : Int) * 69621 + 40503) (show (0 : Int) < 2147483647 by decide)
    refine Ok.one (a := ?v) ?e ?_
    case e =>
      rw [mulP_eq (Or.inl (by omega))]
      rfl
    refine Ok.one (appP_eq (by show ds.length < _; have q2 : ds.length = i := q2; omega)) (Ok.some ⟨q1, ?_, ?_⟩)
    · show (ds ++ _).length = _
      rw [List.length_append]; exact congrArg (· + 1) q2
    · exact app _ (fmod_lo (by decide)) (fmod_hi (by decide))
/-! ### loops that never leave -/
theorem Ok.loop {f : S → α → Option (Fl ρ S S)} {xs : List α} {s0 : S} {φ : ρ → β} {kk : S → Option β} {P : β → Prop} (Inv : Nat → S → Prop) (h0 : Inv 0 s0)
    (st : ∀ i x s, xs[i]? = Option.some x → Inv i s → Ok (f s x) fun o => ∃ s', (o = .nx s' ∨ o = .ct s') ∧ Inv (i + 1) s') (hk : ∀ s, Inv xs.length s → Ok (kk s) P) : Ok ((loopO f s0 xs).bind (Lp.go φ kk)) P := by
  obtain ⟨s', e, h⟩ := loopO_ok (f := f) (xs := xs) (s0 := s0) Inv h0 fun i x s hx hs => by
    obtain ⟨o, e1, s', e2, h⟩ := st i x s hx hs
    rcases e2 with rfl | rfl
    · exact ⟨s', .inl e1, h⟩
    · exact ⟨s', .inr e1, h⟩
  rw [e]
  exact hk s' h
/-- a loop whose turns change nothing -/
theorem Ok.loop0 {f : Unit → α → Option (Fl ρ Unit Unit)} {xs : List α} {φ : ρ → β} {kk : Unit → Option β} {P : β → Prop} (st : ∀ x, x ∈ xs → f () x = Option.some (Fl.nx ())) (hk : Ok (kk ()) P) : Ok ((loopO f () xs).bind (Lp.go φ kk)) P :=
  Ok.loop (fun _ _ => True) trivial (fun i x s hx _ => Ok.eq (st x (List.mem_of_getElem? hx)) ⟨(), .inl rfl, trivial⟩) fun s _ => hk
/-! ### the comparison that most laws make -/
def sameM : Nat → D → D → Option Bool
  | 0, _, _ => none
  | n + 1, p_actual, p_due => ((some p_due).bind fun y_122 => isiP "bool" (em y_122)).bind fun c_185 => if c_185 = true then ((andO ((some p_actual).bind fun y_123 => isiP "bool" (em y_123)) ((some p_actual).bind fun y_124 => (some p_due).bind fun y_125 => eqD y_124 y_125)).bind fun r_126 => some r_126).bind fun r_184 => some (id r_184) else ((some p_due).bind fun y_127 => isiP "int" (em y_127)).bind fun c_183 => if c_183 = true then ((andO ((some p_actual).bind fun y_128 => isiP "int" (em y_128)) (andO (((some p_actual).bind fun y_129 => isiP "bool" (em y_129)).bind fun y_130 => some (!y_130)) ((some p_actual).bind fun y_131 => (some p_due).bind fun y_132 => eqD y_131 y_132))).bind fun r_133 => some r_133).bind fun r_182 => some (id r_182) else ((some p_due).bind fun y_134 => isiP "str" (em y_134)).bind fun c_181 => if c_181 = true then ((andO ((some p_actual).bind fun y_135 => isiP "str" (em y_135)) ((some p_actual).bind fun y_136 => (some p_due).bind fun y_137 => eqD y_136 y_137)).bind fun r_138 => some r_138).bind fun r_180 => some (id r_180) else ((some p_due).bind fun y_139 => some (isN (em y_139))).bind fun c_179 => if c_179 = true then (((some p_actual).bind fun y_140 => some (isN (em y_140))).bind fun r_141 => some r_141).bind fun r_178 => some (id r_178) else (andO ((some p_due).bind fun y_142 => isiP "tuple" (em y_142)) (((some p_actual).bind fun y_143 => isiP "tuple" (em y_143)).bind fun y_144 => some (!y_144))).bind fun c_177 => if c_177 = true then ((some false).bind fun r_145 => some r_145).bind fun r_176 => some (id r_176) else (andO ((some p_due).bind fun y_146 => isiP "list" (em y_146)) (((some p_actual).bind fun y_147 => isiP "list" (em y_147)).bind fun y_148 => some (!y_148))).bind fun c_175 => if c_175 = true then ((some false).bind fun r_149 => some r_149).bind fun r_174 => some (id r_174) else (((some p_actual).bind fun y_150 => lenD y_150).bind fun y_152 => ((some p_due).bind fun y_151 => lenD y_151).bind fun y_153 => some (!decide (y_152 = y_153))).bind fun c_173 => if c_173 = true then ((some false).bind fun r_154 => some r_154).bind fun r_172 => some (id r_172) else ((some p_actual).bind fun y_155 => (some p_due).bind fun y_156 => zipD y_155 y_156).bind fun y_159 => (loopO (fun (s_157 : Unit) (v_one_158 : (D × D)) => (((((some v_one_158.1).bind fun y_162 => ((some v_one_158.2).bind fun y_160 => (some ()).bind fun y_161 => some (y_160, y_161)).bind fun y_163 => some (y_162, y_163)).bind (fun a : D × D × Unit => sameM n a.1 a.2.1)).bind fun y_166 => some (!y_166)).bind fun c_169 => if c_169 = true then ((some false).bind fun r_167 => some r_167).bind fun r_168 => some (Fl.rt r_168) else some (Fl.nx ()) : Option (Fl Bool Unit Unit))) () y_159).bind (Lp.go (fun x => x) fun s_157 : Unit => (some true).bind fun r_170 => some r_170)
/-- data of lists, tuples and plain values, of a depth below n -/
def okD : Nat → D → Prop
  | 0, _ => False
  | n + 1, .tup l => ∀ x ∈ l, okD n x
  | n + 1, .lst l => ∀ x ∈ l, okD n x
  | _ + 1, .ins _ _ _ => False
  | _ + 1, _ => True
theorem same_its {f : D × D → Option Bool} : ∀ {l : List D}, (∀ x ∈ l, f (x, x) = some true) → ∃ s, loopO (fun (_ : Unit) (p : D × D) => (f p).bind fun x => if (!x) = true then some (Fl.rt false) else some (Fl.nx ())) () (l.zip l) = some (Lp.fin (ρ := Bool) s)
  | [], _ => ⟨(), rfl⟩
  | x :: l, h => by
    obtain ⟨s, e⟩ := same_its (f := f) fun y hy => h y (List.mem_cons_of_mem _ hy)
    refine ⟨s, ?_⟩
    rw [List.zip_cons_cons]
    show ((f (x, x)).bind _).bind _ = _
    rw [h x List.mem_cons_self]
    exact e
theorem same_refl : ∀ (n : Nat) (d : D), okD n d → sameM n d d = some true
  | 0, _, h => h.elim
  | n + 1, d, h => by
    unfold sameM
    simp only [bsm, basm]
    cases d with
    | non => rfl
    | bl b => simp [isiP, isD, tyD, em, Em.em, eqD, andO]
    | int b => simp [isiP, isD, tyD, em, Em.em, eqD, andO]
    | str b => simp [isiP, isD, tyD, em, Em.em, eqD, andO]
    | ins _ _ _ => exact h.elim
    | tup l =>
      obtain ⟨s, e⟩ := same_its (l := l) (f := fun p => sameM n p.1 p.2) fun x hx => same_refl n x (h x hx)
      simp only [show isiP "bool" (em (D.tup l)) = some false from rfl, show isiP "int" (em (D.tup l)) = some false from rfl, show isiP "str" (em (D.tup l)) = some false from rfl, show isiP "tuple" (em (D.tup l)) = some true from rfl, show isiP "list" (em (D.tup l)) = some false from rfl,
        show isN (em (D.tup l)) = false from rfl, show lenD (D.tup l) = some (l.length : Int) from rfl, show zipD (D.tup l) (D.tup l) = some (l.zip l) from rfl, bsm, andO_some, Bool.false_eq_true, if_false, if_true, Bool.not_true, decide_true]
      rw [e]
      rfl
    | lst l =>
      obtain ⟨s, e⟩ := same_its (l := l) (f := fun p => sameM n p.1 p.2) fun x hx => same_refl n x (h x hx)
      simp only [show isiP "bool" (em (D.lst l)) = some false from rfl, show isiP "int" (em (D.lst l)) = some false from rfl, show isiP "str" (em (D.lst l)) = some false from rfl, show isiP "tuple" (em (D.lst l)) = some false from rfl, show isiP "list" (em (D.lst l)) = some true from rfl,
        show isN (em (D.lst l)) = false from rfl, show lenD (D.lst l) = some (l.length : Int) from rfl, show zipD (D.lst l) (D.lst l) = some (l.zip l) from rfl, bsm, andO_some, Bool.false_eq_true, if_false, if_true, Bool.not_true, decide_true]
      rw [e]
      rfl
/-! ### loops that append -/
theorem fold_rng {f : List β → Int → Option (List β)} {g : Nat → β} {n : Nat} (h : ∀ (i : Nat) (s : List β), i < n → s.length = i → f s (i : Int) = some (s ++ [g i])) : foldO f [] (rng 0 (n : Int)) = some ((List.range n).map g) := by
  refine Ok.get (Ok.fold (fun i s => s = (List.range i).map g) rfl ?_ fun s h => by rw [rng_len] at h; exact h)
  rintro i x s hx rfl
  obtain ⟨hi, rfl⟩ := rng_nat hx
  refine Ok.eq (h i _ hi (by simp)) ?_
  rw [List.range_succ, List.map_append]
  rfl
theorem fold_map {f : List β → α → Option (List β)} {g : α → β} {xs : List α} (hz : xs.length ≤ 16777216) (h : ∀ (s : List β) x, x ∈ xs → s.length < xs.length → f s x = some (s ++ [g x])) : foldO f [] xs = some (xs.map g) := by
  refine Ok.get (Ok.fold (fun i s => s = (xs.take i).map g) rfl ?_ fun s h => by rw [List.take_length] at h; exact h)
  rintro i x s hx rfl
  obtain ⟨hi, e⟩ := List.getElem?_eq_some_iff.mp hx
  refine Ok.eq (h _ x (List.mem_of_getElem? hx) (by rw [List.length_map, List.length_take]; omega)) ?_
  rw [List.take_add_one, List.map_append, hx]
  rfl
theorem okD_em [Em τ] {n : Nat} {l : List τ} (h : ∀ x ∈ l, okD n (em x)) : ∀ x ∈ l.map em, okD n x := fun x hx => by
  obtain ⟨y, hy, rfl⟩ := List.mem_map.mp hx
  exact h y hy
theorem okD_vt [Em τ] {n : Nat} {l : Vt τ} (h : ∀ x ∈ l.l, okD n (em x)) : okD (n + 1) (em l) := okD_em h
theorem okD_list [Em τ] {n : Nat} {l : List τ} (h : ∀ x ∈ l, okD n (em x)) : okD (n + 1) (em l) := okD_em h
theorem rngP_nat {n : Nat} (h : n ≤ 16777216) : rngP 0 (n : Int) = some (rng 0 (n : Int)) := rngP_eq (by omega) (by omega)
end T

set_option Elab.async false
set_option linter.all false
set_option maxRecDepth 100000
set_option maxHeartbeats 4000000
namespace K02
open PySem PySem.Spec PyProof.Rows L2 T
theorem e_same : ∀ n, R__law_same n = sameM n
  | 0 => rfl
  | n + 1 => by
    funext a b
    rw [R__law_same, sameM, e_same n]
def cmpc (x y : Int) : Str := if x = y then ("e" : Str) else if x < y then ("W" : Str) else ("L" : Str)
theorem compare_eq {ws ls : List Int} (h : ws.length = ls.length) (hz : ws.length ≤ 1000) : M_compare ⟨ws⟩ ⟨ls⟩ = some ⟨(ws.zip ls).map fun p => cmpc p.1 p.2⟩ := by
  unfold M_compare
  simp only [bsm, basm]
  rw [show rngP 0 ((ws.length : Nat) : Int) = some (rng 0 ((ws.length : Nat) : Int)) from rngP_nat (by omega)]
  simp only [bsm]
  rw [fold_rng (g := fun i => cmpc (ws.getD i 0) (ls.getD i 0)) fun i s hi hs => ?_]
  · simp only [bsm]
    congr 2
    apply List.ext_getElem
    · simp [h]
    · intro i h1 h2
      simp only [List.length_map, List.length_range] at h1
      simp [h1, h ▸ h1]
  · rw [atI_nat rfl hi, atI_nat rfl (by omega)]
    simp only [bsm]
    have e1 : ws.getD i 0 = ws[i] := by simp [hi]
    have e2 : ls.getD i 0 = ls[i]'(by omega) := by simp [h ▸ hi]
    rw [e1, e2]
    have hl : s.length < 16777216 := by omega
    unfold cmpc
    by_cases q : ws[i] = ls[i]'(by omega)
    · rw [if_pos (by simpa using q), if_pos q, appP_eq hl]
      rfl
    · rw [if_neg (by simpa using q), if_neg q]
      by_cases q2 : ws[i] < ls[i]'(by omega)
      · rw [if_pos (by simpa using q2), if_pos q2]
        simp only [bsm]
        rw [appP_eq hl]
        rfl
      · rw [if_neg (by simpa using q2), if_neg q2]
        simp only [bsm]
        rw [appP_eq hl]
        rfl
theorem compared_eq {ws ls : List Int} (hz : ws.length ≤ 1000) : M__law_compared ws ls = some ⟨(ws.zip ls).map fun p => cmpc p.1 p.2⟩ := by
  unfold M__law_compared
  simp only [bsm, basm]
  have hzl : (ws.zip ls).length ≤ 1000 := by rw [List.length_zip]; omega
  rw [fold_map (g := fun p : Int × Int => cmpc p.1 p.2) (by omega) fun s x hx hs => ?_]
  · simp only [bsm]
  · have hl : s.length < 16777216 := by omega
    unfold cmpc
    by_cases q : x.1 < x.2
    · rw [if_pos (by simpa using q), if_neg (by omega), if_pos q, appP_eq hl]
      rfl
    · rw [if_neg (by simpa using q)]
      by_cases q2 : x.2 < x.1
      · rw [if_pos (by simpa using q2), if_neg (by omega), if_neg q, appP_eq hl]
        rfl
      · rw [if_neg (by simpa using q2), if_pos (by omega), appP_eq hl]
        rfl
def col (rows : List (Vt Str)) (i : Nat) : List Str := rows.map fun r => r.l.getD i ("e" : Str)
def fz (rows : List (Vt Str)) (i : Nat) : Str := if memB ("L" : Str) (col rows i) = true then ("L" : Str) else if memB ("W" : Str) (col rows i) = true then ("W" : Str) else ("e" : Str)
def Rect (rows : List (Vt Str)) (w : Nat) : Prop := ∀ r ∈ rows, r.l.length = w
theorem col_eq {rows : List (Vt Str)} {w i : Nat} (h : Rect rows w) (hi : i < w) (hz : rows.length < 16777216) : lcC (fun _ : Vt Str => some true) (fun y => atI y.l (i : Int)) rows = some (col rows i) :=
  lcC_map hz fun r hr => by
    have := h r hr
    rw [atI_nat rfl (by omega)]
    simp [this, hi]
theorem fused_eq {rows : List (Vt Str)} {w : Nat} (h : Rect rows w) (hw : w ≤ 1000) (hz : rows.length < 16777216) : M__law_fused rows (w : Int) = some ⟨(List.range w).map (fz rows)⟩ := by
  unfold M__law_fused
  simp only [bsm, basm]
  rw [show rngP 0 (w : Int) = some (rng 0 (w : Int)) from rngP_nat (by omega)]
  simp only [bsm]
  rw [fold_rng (g := fz rows) fun i s hi hs => ?_]
  · simp only [bsm]
  · rw [col_eq h hi hz]
    simp only [bsm]
    have hl : s.length < 16777216 := by omega
    unfold fz
    by_cases q : memB ("L" : Str) (col rows i) = true
    · rw [if_pos q, if_pos q, appP_eq hl]; rfl
    · rw [if_neg q, if_neg q]
      by_cases q2 : memB ("W" : Str) (col rows i) = true
      · rw [if_pos q2, if_pos q2, appP_eq hl]; rfl
      · rw [if_neg q2, if_neg q2, appP_eq hl]; rfl
theorem fuse_eq {rows : List (Vt Str)} {w : Nat} (h : Rect rows w) (h0 : 0 < rows.length) (hw : w ≤ 1000) (hz : rows.length < 16777216) : M_fuse rows = some ⟨(List.range w).map (fz rows)⟩ := by
  unfold M_fuse
  simp only [bsm, basm]
  rw [show atI rows 0 = some rows[0] from atI_nat (j := 0) rfl h0]
  simp only [bsm]
  rw [h _ (List.getElem_mem h0)]
  rw [show rngP 0 (w : Int) = some (rng 0 (w : Int)) from rngP_nat (by omega)]
  simp only [bsm]
  rw [fold_rng (g := fz rows) fun i s hi hs => ?_]
  · simp only [bsm]
  · rw [col_eq h hi hz]
    simp only [bsm]
    have hl : s.length < 16777216 := by omega
    unfold fz
    by_cases q : memB ("L" : Str) (col rows i) = true
    · rw [if_pos q, if_pos q, appP_eq hl]; rfl
    · rw [if_neg q, if_neg q]
      by_cases q2 : memB ("W" : Str) (col rows i) = true
      · rw [if_pos q2, if_pos q2]
        simp only [bsm]
        rw [appP_eq hl]; rfl
      · rw [if_neg q2, if_neg q2]
        simp only [bsm]
        rw [appP_eq hl]; rfl
theorem same_row (r : Vt Str) : R__law_same 8 (em r) (em r) = some true := by
  rw [e_same]
  exact same_refl 8 _ (okD_vt (n := 7) fun x _ => trivial)
theorem same_rows (r : List (Vt Str)) : R__law_same 8 (em r) (em r) = some true := by
  rw [e_same]
  exact same_refl 8 _ (okD_list (n := 7) fun x _ => okD_vt (n := 6) fun x _ => trivial)
theorem same_bool (b : Bool) : R__law_same 8 (em b) (em b) = some true := by
  rw [e_same]
  exact same_refl 8 _ trivial
def cd (r : Vt Str) : Bool := memB ("L" : Str) r.l && !memB ("W" : Str) r.l
theorem and_cd (r : Vt Str) : andO (some (memB (Str.ofString "L") r.l)) (some (!memB (Str.ofString "W") r.l)) = some (cd r) := by
  unfold cd
  rw [andO_some]
  show _ = some (memB (Str.ofString "L") r.l && !memB (Str.ofString "W") r.l)
  cases memB (Str.ofString "L") r.l <;> rfl
theorem contra_eq (r : Vt Str) : M_contradictory r = some (cd r) := by
  unfold M_contradictory
  simp only [bsm, basm, and_cd]
theorem law_true (ns : List Int) (hl : ns.length ≤ 63) : M_law ns = some true := by
  refine Ok.get ?_
  unfold M_law
  rw [e__law_draws]
  simp only [basm, bsm, contra_eq, and_cd, same_bool]
  have dr : Ok (m__law_draws ns 60) _ := draws_ok (n := 60) hl (by decide)
  refine dr.bind ?_
  rintro ds ⟨dl, dd⟩
  have at0 : ∀ i : Int, 0 ≤ i → i < 60 → Ok (atI ds i) fun d => 0 ≤ d ∧ d < 2147483629 := fun i h hj => by
    obtain ⟨d, e, m, _⟩ := atI_of (xs := ds) (i := i) h (by rw [dl]; exact hj)
    exact ⟨d, e, dd d m⟩
  refine (at0 0 (by decide) (by decide)).bind fun d0 _ => ?_
  refine (at0 1 (by decide) (by decide)).bind fun d1 _ => ?_
  have w0 := fmod_lo (x := d0) (show (0 : Int) < 6 by decide)
  have w1 := fmod_hi (x := d0) (show (0 : Int) < 6 by decide)
  obtain ⟨w, hw⟩ : ∃ w : Nat, 1 + d0.fmod 6 = (w : Int) := ⟨(1 + d0.fmod 6).toNat, by omega⟩
  have m0 := fmod_lo (x := d1) (show (0 : Int) < 7 by decide)
  have m1 := fmod_hi (x := d1) (show (0 : Int) < 7 by decide)
  obtain ⟨m, hm⟩ : ∃ m : Nat, 1 + d1.fmod 7 = (m : Int) := ⟨(1 + d1.fmod 7).toNat, by omega⟩
  have hw6 : 1 ≤ w ∧ w ≤ 6 := by omega
  have hm7 : 1 ≤ m ∧ m ≤ 7 := by omega
  rw [hw, hm]
  refine Ok.one (lstP_eq (by decide)) ?_
  refine (at0 2 (by decide) (by decide)).bind fun d2 _ => ?_
  have h0 := fmod_lo (x := d2) (show (0 : Int) < 4 by decide)
  have h1 := fmod_hi (x := d2) (show (0 : Int) < 4 by decide)
  generalize d2.fmod 4 = r at h0 h1 ⊢
  refine Ok.bind (P := fun s : Int => 0 < s) ?_ fun high hh => ?_
  · have : r = 0 ∨ r = 1 ∨ r = 2 ∨ r = 3 := by omega
    rcases this with rfl | rfl | rfl | rfl
    all_goals exact ⟨_, rfl, by decide⟩
  refine Ok.one (rngP_nat (by omega)) ?_
  refine Ok.loop (fun i (rows : List (Vt Str)) => rows.length = i ∧ Rect rows w) ⟨rfl, fun r h => by cases h⟩ ?_ ?_
  · rintro k kk rows hk ⟨rl, rr⟩
    obtain ⟨hkm, rfl⟩ := rng_nat hk
    refine Ok.one (rngP_nat (by omega)) ?_
    refine Ok.bind (P := fun s : List Int × List Int => s.1.length = w ∧ s.2.length = w) (Ok.fold (fun i (s : List Int × List Int) => s.1.length = i ∧ s.2.length = i) ⟨rfl, rfl⟩ ?_ fun s h => by rw [rng_len] at h; exact h) ?_
    · rintro p pp ⟨wn, ls⟩ hp ⟨q1, q2⟩
      obtain ⟨hpw, rfl⟩ := rng_nat hp
      have q1 : wn.length = p := q1
      have q2 : ls.length = p := q2
      refine Ok.one (mulP_eq (Or.inr (by omega))) ?_
      refine (at0 _ (Int.add_nonneg (by decide) (fmod_lo (by decide))) (by have := fmod_hi (x := (k : Int) * w + (p : Int)) (show (0 : Int) < 56 by decide); omega)).bind fun a1 b1 => ?_
      refine (at0 _ (fmod_lo (by decide)) (fmod_hi (by decide))).bind fun a2 b2 => ?_
      refine Ok.one (mulP_eq (Or.inl (by omega))) ?_
      refine (at0 _ (Int.add_nonneg (by decide) (fmod_lo (by decide))) (by have := fmod_hi (x := (k : Int) * 5 + (p : Int) * 3 + 1) (show (0 : Int) < 56 by decide); omega)).bind fun a3 b3 => ?_
      refine (at0 _ (fmod_lo (by decide)) (fmod_hi (by decide))).bind fun a4 b4 => ?_
      refine Ok.one (mulP_eq (Or.inl (by omega))) ?_
      refine Ok.one (modP_eq (by omega)) ?_
      refine Ok.one (appP_eq (by show wn.length < _; omega)) ?_
      refine Ok.one (modP_eq (by omega)) ?_
      refine Ok.one (appP_eq (by show ls.length < _; omega)) ?_
      refine Ok.bind (P := fun l : List Int => l.length = p + 1) (Ok.ite (fun _ => ?_) fun _ => Ok.some ?_) fun l hl => Ok.some ⟨?_, hl⟩
      · obtain ⟨x, e, _⟩ := atI_of (xs := wn ++ [((a1 + (k : Int) * 7919) * (1 + a2.fmod 1009)).fmod high]) (i := (p : Int)) (by omega) (by rw [List.length_append, List.length_singleton]; omega)
        refine Ok.one e ?_
        refine Ok.one (setP_of (by omega) (by show (p : Int) < ((ls ++ _).length : Int); rw [List.length_append, List.length_singleton]; omega)) (Ok.some ?_)
        show (List.set (ls ++ _) _ _).length = p + 1
        rw [List.length_set, List.length_append, List.length_singleton]; omega
      · show (ls ++ _).length = p + 1
        rw [List.length_append, List.length_singleton]; omega
      · show (wn ++ _).length = _
        rw [List.length_append, List.length_singleton]; omega
    · rintro ⟨wn, ls⟩ ⟨q1, q2⟩
      have q1 : wn.length = w := q1
      have q2 : ls.length = w := q2
      show Ok ((M__law_compared wn ls).bind _) _
      rw [compared_eq (by omega), compare_eq (by omega) (by omega), compare_eq (by omega) (by omega), compared_eq (by omega)]
      simp only [bsm, same_row, Bool.not_true, Bool.false_eq_true, if_false]
      refine Ok.one (rngP_nat (n := 2) (by decide)) ?_
      refine Ok.loop0 (fun _ _ => rfl) ?_
      refine Ok.one (appP_eq (by omega)) ?_
      have rr2 : Rect (rows ++ [⟨(wn.zip ls).map fun p => cmpc p.1 p.2⟩]) w := fun r h => by
        rcases List.mem_append.mp h with h | h
        · exact rr r h
        · rw [List.mem_singleton.mp h]
          show (List.map _ (wn.zip ls)).length = w
          rw [List.length_map, List.length_zip]; omega
      rw [fuse_eq rr2 (by simp) (by omega) (by simp; omega), fused_eq rr2 (by omega) (by simp; omega)]
      simp only [bsm, same_row, Bool.not_true, Bool.false_eq_true, if_false]
      refine Ok.some ⟨_, .inl rfl, ?_, rr2⟩
      rw [List.length_append, List.length_singleton]; omega
  · rintro rows ⟨rl, rr⟩
    rw [rng_len] at rl
    refine (at0 3 (by decide) (by decide)).bind fun d3 _ => ?_
    have times : ∀ s : Str, repL [s] (w : Int) = some (List.replicate w s) := fun s => by
      unfold repL
      rw [if_pos (by simp; omega)]
      simp
    refine Ok.bind (P := fun rows : List (Vt Str) => 0 < rows.length ∧ rows.length ≤ 200 ∧ Rect rows w) (Ok.ite (fun _ => ?_) fun _ => Ok.some ⟨by omega, by omega, rr⟩) ?_
    · refine (at0 4 (by decide) (by decide)).bind fun d4 _ => ?_
      refine Ok.one (modP_eq (by omega)) ?_
      obtain ⟨sp, e, em, _⟩ := atI_of (xs := rows) (i := d4.fmod (m : Int)) (fmod_lo (by omega)) (by rw [rl]; exact fmod_hi (by omega))
      refine Ok.one e ?_
      refine (at0 5 (by decide) (by decide)).bind fun d5 _ => ?_
      have c0 := fmod_lo (x := d5) (show (0 : Int) < 60 by decide)
      have c1 := fmod_hi (x := d5) (show (0 : Int) < 60 by decide)
      obtain ⟨c, hc⟩ : ∃ c : Nat, 40 + d5.fmod 60 = (c : Int) := ⟨(40 + d5.fmod 60).toNat, by omega⟩
      rw [hc]
      refine Ok.one (rngP_nat (by omega)) ?_
      refine Ok.bind (P := fun rows : List (Vt Str) => 0 < rows.length ∧ rows.length ≤ 200 ∧ Rect rows w) (Ok.fold (fun i (s : List (Vt Str)) => s.length = m + i ∧ Rect s w) ⟨rl, rr⟩ ?_ fun s h => by rw [rng_len] at h; exact ⟨by omega, by omega, h.2⟩) fun s h => Ok.some h
      rintro i x s hx ⟨q1, q2⟩
      obtain ⟨hi, rfl⟩ := rng_nat hx
      refine (at0 6 (by decide) (by decide)).bind fun d6 _ => ?_
      refine Ok.one (modP_eq (by omega)) ?_
      refine Ok.one (lstP_eq (by decide)) ?_
      refine Ok.one (times _) ?_
      refine Ok.one (lstP_eq (by simp only [List.length_cons, List.length_nil]; omega)) ?_
      refine (at0 7 (by decide) (by decide)).bind fun d7 _ => ?_
      have z0 := fmod_lo (x := (i : Int) + d7) (show (0 : Int) < 2 by decide)
      have z1 := fmod_hi (x := (i : Int) + d7) (show (0 : Int) < 2 by decide)
      obtain ⟨nr, f, fm, _⟩ := atI_of (xs := [(⟨List.replicate w (Str.ofString "e")⟩ : Vt Str), sp]) (i := ((i : Int) + d7).fmod 2) z0 (by simpa using z1)
      refine Ok.one f ?_
      have nrw : nr.l.length = w := by
        simp only [List.mem_cons, List.not_mem_nil, or_false] at fm
        rcases fm with rfl | rfl
        · simp
        · exact rr _ em
      have p0 := fmod_lo (x := d6) (y := (s.length : Int) + 1) (by omega)
      have p1 := fmod_hi (x := d6) (y := (s.length : Int) + 1) (by omega)
      generalize d6.fmod ((s.length : Int) + 1) = pl at p0 p1 ⊢
      refine Ok.one (a := s.take pl.toNat ++ [nr] ++ s.drop pl.toNat) ?_ (Ok.some ⟨?_, ?_⟩)
      · unfold insP
        rw [if_pos ⟨by unfold sz; omega, p0, by omega⟩]
      · simp only [List.length_append, List.length_take, List.length_drop, List.length_singleton]
        omega
      · intro r hr
        simp only [List.mem_append, List.mem_singleton] at hr
        rcases hr with (hr | hr) | hr
        · exact q2 r (List.mem_of_mem_take hr)
        · rw [hr]; exact nrw
        · exact q2 r (List.mem_of_mem_drop hr)
    · rintro rows ⟨l0, l1, rr⟩
      rw [fused_eq rr (by omega) (by omega), fuse_eq rr l0 (by omega) (by omega)]
      simp only [bsm, same_row, same_rows, orO_some, Bool.not_true, Bool.false_eq_true, if_false]
      refine Ok.one (lstP_eq (by decide)) ?_
      refine Ok.one (times _) ?_
      refine Ok.one (lstP_eq (by decide)) ?_
      refine Ok.one (times _) ?_
      refine Ok.one (lstP_eq (by decide)) ?_
      refine Ok.one (times _) ?_
      refine Ok.one (lstP_eq (by simp only [List.length_cons, List.length_nil]; omega)) ?_
      have cl : (T.cut rows none (some 8)).length ≤ rows.length := by
        unfold T.cut
        rw [List.length_take, List.length_drop]; omega
      refine Ok.one (catL_eq (by simp only [List.length_cons, List.length_nil]; omega)) ?_
      refine Ok.loop0 (fun row _ => ?_) ?_
      · exact Ok.get (Ok.one (rngP_nat (n := 2) (by decide)) (Ok.loop0 (fun _ _ => rfl) (Ok.some rfl)))
      · rw [same_bool]
        exact Ok.some rfl
end K02

set_option Elab.async false
set_option linter.all false
set_option maxRecDepth 100000
set_option maxHeartbeats 8000000
namespace K02
open PySem PySem.Spec PyProof.Rows L2 T
theorem all_mk {l : PySem.W.OpenLaw} {w : World} {K : PySem.W.Frag} {h : Heap} {mg : Str → Option Value} {fa f_compare f_fuse f_contradictory f__law_draws f__law_same f__law_compared f__law_fused f_law : Addr} (X : K.In h) (G : h.Ns mainGlobals mg) (hfa : mg "law" = some (.ref fa))
    {od_compare an_compare : Option Addr} {sl_compare : Array (Option Value)} {oc_compare kV_compare dc_compare pm_compare cd_compare ct_compare : Value}
    {od_fuse an_fuse : Option Addr} {sl_fuse : Array (Option Value)} {oc_fuse kV_fuse dc_fuse pm_fuse cd_fuse ct_fuse : Value}
    {od_contradictory an_contradictory : Option Addr} {sl_contradictory : Array (Option Value)} {oc_contradictory kV_contradictory dc_contradictory pm_contradictory cd_contradictory ct_contradictory : Value}
    {od__law_draws an__law_draws : Option Addr} {sl__law_draws : Array (Option Value)} {oc__law_draws kV__law_draws dc__law_draws pm__law_draws cd__law_draws ct__law_draws : Value}
    {od__law_same an__law_same : Option Addr} {sl__law_same : Array (Option Value)} {oc__law_same kV__law_same dc__law_same pm__law_same cd__law_same ct__law_same : Value}
    {od__law_compared an__law_compared : Option Addr} {sl__law_compared : Array (Option Value)} {oc__law_compared kV__law_compared dc__law_compared pm__law_compared cd__law_compared ct__law_compared : Value}
    {od__law_fused an__law_fused : Option Addr} {sl__law_fused : Array (Option Value)} {oc__law_fused kV__law_fused dc__law_fused pm__law_fused cd__law_fused ct__law_fused : Value}
    {od_law an_law : Option Addr} {sl_law : Array (Option Value)} {oc_law kV_law dc_law pm_law cd_law ct_law : Value}
    (a_compare : PySem.W.nsIn K mainGlobals "compare" = some (some (.ref f_compare))) (l_compare : K.lookup f_compare = some ⟨oc_compare, od_compare, .func (PySem.W.fnOf "compare" "compare" (defArgs s_compare) (defBody s_compare) (defScope s_compare) .none kV_compare dc_compare pm_compare an_compare cd_compare ct_compare), sl_compare⟩) (c_compare : PySem.W.codeIn K cd_compare "compare" = true) (k_compare : PySem.W.keepIn K (.ref f_compare) = true)
    (a_fuse : PySem.W.nsIn K mainGlobals "fuse" = some (some (.ref f_fuse))) (l_fuse : K.lookup f_fuse = some ⟨oc_fuse, od_fuse, .func (PySem.W.fnOf "fuse" "fuse" (defArgs s_fuse) (defBody s_fuse) (defScope s_fuse) .none kV_fuse dc_fuse pm_fuse an_fuse cd_fuse ct_fuse), sl_fuse⟩) (c_fuse : PySem.W.codeIn K cd_fuse "fuse" = true) (k_fuse : PySem.W.keepIn K (.ref f_fuse) = true)
    (a_contradictory : PySem.W.nsIn K mainGlobals "contradictory" = some (some (.ref f_contradictory))) (l_contradictory : K.lookup f_contradictory = some ⟨oc_contradictory, od_contradictory, .func (PySem.W.fnOf "contradictory" "contradictory" (defArgs s_contradictory) (defBody s_contradictory) (defScope s_contradictory) .none kV_contradictory dc_contradictory pm_contradictory an_contradictory cd_contradictory ct_contradictory), sl_contradictory⟩) (c_contradictory : PySem.W.codeIn K cd_contradictory "contradictory" = true) (k_contradictory : PySem.W.keepIn K (.ref f_contradictory) = true)
    (a__law_draws : PySem.W.nsIn K mainGlobals "_law_draws" = some (some (.ref f__law_draws))) (l__law_draws : K.lookup f__law_draws = some ⟨oc__law_draws, od__law_draws, .func (PySem.W.fnOf "_law_draws" "_law_draws" (defArgs s__law_draws) (defBody s__law_draws) (defScope s__law_draws) .none kV__law_draws dc__law_draws pm__law_draws an__law_draws cd__law_draws ct__law_draws), sl__law_draws⟩) (c__law_draws : PySem.W.codeIn K cd__law_draws "_law_draws" = true) (k__law_draws : PySem.W.keepIn K (.ref f__law_draws) = true)
    (a__law_same : PySem.W.nsIn K mainGlobals "_law_same" = some (some (.ref f__law_same))) (l__law_same : K.lookup f__law_same = some ⟨oc__law_same, od__law_same, .func (PySem.W.fnOf "_law_same" "_law_same" (defArgs s__law_same) (defBody s__law_same) (defScope s__law_same) .none kV__law_same dc__law_same pm__law_same an__law_same cd__law_same ct__law_same), sl__law_same⟩) (c__law_same : PySem.W.codeIn K cd__law_same "_law_same" = true) (k__law_same : PySem.W.keepIn K (.ref f__law_same) = true)
    (a__law_compared : PySem.W.nsIn K mainGlobals "_law_compared" = some (some (.ref f__law_compared))) (l__law_compared : K.lookup f__law_compared = some ⟨oc__law_compared, od__law_compared, .func (PySem.W.fnOf "_law_compared" "_law_compared" (defArgs s__law_compared) (defBody s__law_compared) (defScope s__law_compared) .none kV__law_compared dc__law_compared pm__law_compared an__law_compared cd__law_compared ct__law_compared), sl__law_compared⟩) (c__law_compared : PySem.W.codeIn K cd__law_compared "_law_compared" = true) (k__law_compared : PySem.W.keepIn K (.ref f__law_compared) = true)
    (a__law_fused : PySem.W.nsIn K mainGlobals "_law_fused" = some (some (.ref f__law_fused))) (l__law_fused : K.lookup f__law_fused = some ⟨oc__law_fused, od__law_fused, .func (PySem.W.fnOf "_law_fused" "_law_fused" (defArgs s__law_fused) (defBody s__law_fused) (defScope s__law_fused) .none kV__law_fused dc__law_fused pm__law_fused an__law_fused cd__law_fused ct__law_fused), sl__law_fused⟩) (c__law_fused : PySem.W.codeIn K cd__law_fused "_law_fused" = true) (k__law_fused : PySem.W.keepIn K (.ref f__law_fused) = true)
    (a_law : PySem.W.nsIn K mainGlobals "law" = some (some (.ref f_law))) (l_law : K.lookup f_law = some ⟨oc_law, od_law, .func (PySem.W.fnOf "law" "law" (defArgs s_law) (defBody s_law) (defScope s_law) .none kV_law dc_law pm_law an_law cd_law ct_law), sl_law⟩) (c_law : PySem.W.codeIn K cd_law "law" = true) (k_law : PySem.W.keepIn K (.ref f_law) = true)
    (z_abs : PySem.W.nsIn K mainGlobals "abs" = some none)
    (z_bool : PySem.W.nsIn K mainGlobals "bool" = some none)
    (z_int : PySem.W.nsIn K mainGlobals "int" = some none)
    (z_isinstance : PySem.W.nsIn K mainGlobals "isinstance" = some none)
    (z_len : PySem.W.nsIn K mainGlobals "len" = some none)
    (z_list : PySem.W.nsIn K mainGlobals "list" = some none)
    (z_range : PySem.W.nsIn K mainGlobals "range" = some none)
    (z_str : PySem.W.nsIn K mainGlobals "str" = some none)
    (z_tuple : PySem.W.nsIn K mainGlobals "tuple" = some none)
    (z_zip : PySem.W.nsIn K mainGlobals "zip" = some none)
    : ∃ fd : FuncData, (∀ (s : Shared) (v : Value), BindsTo s fd ⟨[v], []⟩ [("script", v)]) ∧ ∀ base : Heap, K.In base → base.Ns mainGlobals mg → FnOk l.prog w K mg base CX0 10 fa fd ["script"] (spLaw K) := by
  have e := hfa.symm.trans (PySem.W.mg_of X G a_law)
  cases e
  have Z : Zs mg := ⟨PySem.W.mg_none_of X G z_abs, PySem.W.mg_none_of X G z_bool, PySem.W.mg_none_of X G z_int, PySem.W.mg_none_of X G z_isinstance, PySem.W.mg_none_of X G z_len, PySem.W.mg_none_of X G z_list, PySem.W.mg_none_of X G z_range, PySem.W.mg_none_of X G z_str, PySem.W.mg_none_of X G z_tuple, PySem.W.mg_none_of X G z_zip⟩
  have F_compare := fun_mk (st := s_compare) l_compare c_compare k_compare
  have b_compare := F_compare.binds (ps := ["winner", "loser"]) fun _ _ _ _ _ _ us hl => match us, hl with | [_, _], _ => rfl
  have F_fuse := fun_mk (st := s_fuse) l_fuse c_fuse k_fuse
  have b_fuse := F_fuse.binds (ps := ["rows"]) fun _ _ _ _ _ _ us hl => match us, hl with | [_], _ => rfl
  have F_contradictory := fun_mk (st := s_contradictory) l_contradictory c_contradictory k_contradictory
  have b_contradictory := F_contradictory.binds (ps := ["row"]) fun _ _ _ _ _ _ us hl => match us, hl with | [_], _ => rfl
  have F__law_draws := fun_mk (st := s__law_draws) l__law_draws c__law_draws k__law_draws
  have b__law_draws := F__law_draws.binds (ps := ["script", "count"]) fun _ _ _ _ _ _ us hl => match us, hl with | [_, _], _ => rfl
  have F__law_same := fun_mk (st := s__law_same) l__law_same c__law_same k__law_same
  have b__law_same := F__law_same.binds (ps := ["actual", "due"]) fun _ _ _ _ _ _ us hl => match us, hl with | [_, _], _ => rfl
  have F__law_compared := fun_mk (st := s__law_compared) l__law_compared c__law_compared k__law_compared
  have b__law_compared := F__law_compared.binds (ps := ["winner", "loser"]) fun _ _ _ _ _ _ us hl => match us, hl with | [_, _], _ => rfl
  have F__law_fused := fun_mk (st := s__law_fused) l__law_fused c__law_fused k__law_fused
  have b__law_fused := F__law_fused.binds (ps := ["rows", "width"]) fun _ _ _ _ _ _ us hl => match us, hl with | [_, _], _ => rfl
  have F_law := fun_mk (st := s_law) l_law c_law k_law
  refine ⟨PySem.W.fnOf "law" "law" (defArgs s_law) (defBody s_law) (defScope s_law) .none kV_law dc_law pm_law an_law cd_law ct_law, fun s v => .of_eq rfl, fun base _ _ => ?_⟩
  have D_compare : Df l.prog w K mg base 1 "compare" f_compare _ ["winner", "loser"] (spF K (fun a : (Vt Int) × (Vt Int) × Unit => [.dat (em a.1), .dat (em a.2.1)]) (fun a : (Vt Int) × (Vt Int) × Unit => M_compare a.1 a.2.1) fun x : (Vt Str) => .dat (em x)) := ⟨ok_compare F_compare Z, PySem.W.mg_of X G a_compare, k_compare, b_compare⟩
  have D_fuse : Df l.prog w K mg base 1 "fuse" f_fuse _ ["rows"] (spF K (fun a : (List (Vt Str)) × Unit => [.bor (List.map em a.1)]) (fun a : (List (Vt Str)) × Unit => M_fuse a.1) fun x : (Vt Str) => .dat (em x)) := ⟨ok_fuse F_fuse Z, PySem.W.mg_of X G a_fuse, k_fuse, b_fuse⟩
  have D_contradictory : Df l.prog w K mg base 1 "contradictory" f_contradictory _ ["row"] (spF K (fun a : (Vt Str) × Unit => [.dat (em a.1)]) (fun a : (Vt Str) × Unit => M_contradictory a.1) fun x : Bool => .dat (em x)) := ⟨ok_contradictory F_contradictory Z, PySem.W.mg_of X G a_contradictory, k_contradictory, b_contradictory⟩
  have D__law_draws : Df l.prog w K mg base 1 "_law_draws" f__law_draws _ ["script", "count"] (spF K (fun a : (List Int) × Int × Unit => [.bor (List.map em a.1), .dat (em a.2.1)]) (fun a : (List Int) × Int × Unit => M__law_draws a.1 a.2.1) fun x : (List Int) => .own (List.map em x)) := ⟨ok__law_draws F__law_draws Z, PySem.W.mg_of X G a__law_draws, k__law_draws, b__law_draws⟩
  have D__law_same : Df l.prog w K mg base 9 "_law_same" f__law_same _ ["actual", "due"] (spF K (fun a : D × D × Unit => [.dat (em a.1), .dat (em a.2.1)]) (fun a : D × D × Unit => R__law_same 8 a.1 a.2.1) fun x : Bool => .dat (em x)) := ⟨ok__law_same F__law_same Z (PySem.W.mg_of X G a__law_same) k__law_same b__law_same 8, PySem.W.mg_of X G a__law_same, k__law_same, b__law_same⟩
  have D__law_compared : Df l.prog w K mg base 1 "_law_compared" f__law_compared _ ["winner", "loser"] (spF K (fun a : (List Int) × (List Int) × Unit => [.bor (List.map em a.1), .bor (List.map em a.2.1)]) (fun a : (List Int) × (List Int) × Unit => M__law_compared a.1 a.2.1) fun x : (Vt Str) => .dat (em x)) := ⟨ok__law_compared F__law_compared Z, PySem.W.mg_of X G a__law_compared, k__law_compared, b__law_compared⟩
  have D__law_fused : Df l.prog w K mg base 1 "_law_fused" f__law_fused _ ["rows", "width"] (spF K (fun a : (List (Vt Str)) × Int × Unit => [.bor (List.map em a.1), .dat (em a.2.1)]) (fun a : (List (Vt Str)) × Int × Unit => M__law_fused a.1 a.2.1) fun x : (Vt Str) => .dat (em x)) := ⟨ok__law_fused F__law_fused Z, PySem.W.mg_of X G a__law_fused, k__law_fused, b__law_fused⟩
  exact law_ok (m := fun a => M_law a.1) (ok_law F_law Z D__law_compared D__law_draws D__law_fused D__law_same D_compare D_contradictory D_fuse) fun ns hl => law_true ns hl
end K02
open PySem PySem.W PyProof.Rows
set_option maxRecDepth 100000 in
set_option maxHeartbeats 0 in
theorem PySem.Challenge.cw_saidback_k02_comparison_rows_holds : PySem.Challenge.rw_saidback_k02_comparison_rows.Holds := by
  w_on; o_law; k_head; (case hw => w_witness2)
  k_fill
  refine T.law_walk (k := 10) (l := PySem.Challenge.rw_saidback_k02_comparison_rows) rfl rfl (fun w h Y => PySem.W.kIn_of Y) ⟨rfl, by decide, by decide⟩ ?F
  case F =>
    intro w mg fa h KX G hmg
    refine' K02.all_mk KX G hmg ?a_compare ?l_compare ?c_compare ?k_compare ?a_fuse ?l_fuse ?c_fuse ?k_fuse ?a_contradictory ?l_contradictory ?c_contradictory ?k_contradictory ?a__law_draws ?l__law_draws ?c__law_draws ?k__law_draws ?a__law_same ?l__law_same ?c__law_same ?k__law_same ?a__law_compared ?l__law_compared ?c__law_compared ?k__law_compared ?a__law_fused ?l__law_fused ?c__law_fused ?k__law_fused ?a_law ?l_law ?c_law ?k_law ?z_abs ?z_bool ?z_int ?z_isinstance ?z_len ?z_list ?z_range ?z_str ?z_tuple ?z_zip
    (case a_compare => k_is); (case l_compare => k_is); (case c_compare => k_is); (case k_compare => k_is)
    (case a_fuse => k_is); (case l_fuse => k_is); (case c_fuse => k_is); (case k_fuse => k_is)
    (case a_contradictory => k_is); (case l_contradictory => k_is); (case c_contradictory => k_is); (case k_contradictory => k_is)
    (case a__law_draws => k_is); (case l__law_draws => k_is); (case c__law_draws => k_is); (case k__law_draws => k_is)
    (case a__law_same => k_is); (case l__law_same => k_is); (case c__law_same => k_is); (case k__law_same => k_is)
    (case a__law_compared => k_is); (case l__law_compared => k_is); (case c__law_compared => k_is); (case k__law_compared => k_is)
    (case a__law_fused => k_is); (case l__law_fused => k_is); (case c__law_fused => k_is); (case k__law_fused => k_is)
    (case a_law => k_is); (case l_law => k_is); (case c_law => k_is); (case k_law => k_is)
    (case z_abs => k_is)
    (case z_bool => k_is)
    (case z_int => k_is)
    (case z_isinstance => k_is)
    (case z_len => k_is)
    (case z_list => k_is)
    (case z_range => k_is)
    (case z_str => k_is)
    (case z_tuple => k_is)
    (case z_zip => k_is)
#print axioms PySem.Challenge.cw_saidback_k02_comparison_rows_holds

