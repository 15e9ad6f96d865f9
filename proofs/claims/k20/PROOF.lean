import PyProof.Rows.All
import Wide.All
import OpenK.AllK
import Wide.FinOn
import HandS.ForMost
import HandS.ForExc
import KE.KRevSl
import PyProof.Draws
import HandS.IsInst
import HandS.Conv
import HandS.Style
import HandS.Zip
import HandS.More
import HandS.TupLe
import HandS.Deep
import KE.LtSeq
import KE.DataCmp
import HandS.HeadHook3
import PySem.Challenge.RW_saidback_k20_sizes_and_order_of_terms
set_option Elab.async false
set_option linter.all false
set_option maxRecDepth 100000
set_option maxHeartbeats 4000000
/-! TCore: typed refinement over HandS. A def's mirror is a Lean function in Option; its walk is put together from the rules below. -/
namespace T
open PySem PySem.Spec PyProof.Rows L2

/-! ### data -/
inductive D where
  | non
  | bl (b : Bool)
  | int (i : Int)
  | str (s : Str)
  | tup (xs : List D)
  | lst (xs : List D)
  | ins (C : Addr) (fs : List Str) (ds : List D)

mutual
inductive Rp (K : PySem.W.Frag) (H : Hp) : V → D → Prop
  | non : Rp K H .non .non
  | bl (b : Bool) : Rp K H (.bl b) (.bl b)
  | int (i : Int) : Rp K H (.int i) (.int i)
  | str (x : Str) : Rp K H (.str x) (.str x)
  | tup {a : Addr} {vs : List V} {ds : List D} : SqT K H a vs → RpA K H vs ds → Rp K H (.ref a) (.tup ds)
  | lst {a : Addr} {vs : List V} {ds : List D} : SqL K H a vs → RpA K H vs ds → Rp K H (.ref a) (.lst ds)
  | ins {a C dx : Addr} {vs : List (Str × V)} {fs : List Str} {ds : List D} : H a = some (.ins C dx vs) → vs.map (·.1) = fs → RpA K H (vs.map (·.2)) ds → Rp K H (.ref a) (.ins C fs ds)
inductive RpA (K : PySem.W.Frag) (H : Hp) : List V → List D → Prop
  | nil : RpA K H [] []
  | cons {v : V} {vs : List V} {d : D} {ds : List D} : Rp K H v d → RpA K H vs ds → RpA K H (v :: vs) (d :: ds)
end
theorem same_t {K : PySem.W.Frag} {H H' : Hp} {a : Addr} {xs : List V} (e : Same H H') (h : SqT K H a xs) : SqT K H' a xs := by
  rcases h with (h | ⟨o, h⟩) | h
  · exact .inl (.inl (e _ _ h))
  · exact .inl (.inr ⟨o, e _ _ h⟩)
  · exact .inr h
mutual
theorem Rp.mono {K : PySem.W.Frag} {H H' : Hp} (e : Same H H') : ∀ (d : D) (v : V), Rp K H v d → Rp K H' v d
  | .non, _, h => by cases h; exact .non
  | .bl _, _, h => by cases h; exact .bl _
  | .int _, _, h => by cases h; exact .int _
  | .str _, _, h => by cases h; exact .str _
  | .tup ds, _, h => by
    cases h with
    | tup h1 h2 => exact .tup (same_t e h1) (RpA.mono e ds _ h2)
  | .lst ds, _, h => by
    cases h with
    | lst h1 h2 => exact .lst (e.seq h1) (RpA.mono e ds _ h2)
  | .ins C fs ds, _, h => by
    cases h with
    | ins h1 h2 h3 => exact .ins (e _ _ h1) h2 (RpA.mono e ds _ h3)
theorem RpA.mono {K : PySem.W.Frag} {H H' : Hp} (e : Same H H') : ∀ (ds : List D) (vs : List V), RpA K H vs ds → RpA K H' vs ds
  | [], _, h => by cases h; exact .nil
  | d :: ds, _, h => by
    cases h with
    | cons h1 h2 => exact .cons (Rp.mono e d _ h1) (RpA.mono e ds _ h2)
end
section
variable {K : PySem.W.Frag} {H H' : Hp}
theorem RpA.length : ∀ {vs : List V} {ds : List D}, RpA K H vs ds → vs.length = ds.length
  | _, _, .nil => rfl
  | _, _, .cons _ t => by rw [List.length_cons, List.length_cons, RpA.length t]
theorem RpA.append : ∀ {vs ws : List V} {ds es : List D}, RpA K H vs ds → RpA K H ws es → RpA K H (vs ++ ws) (ds ++ es)
  | _, _, _, _, .nil, h => h
  | _, _, _, _, .cons r t, h => .cons r (RpA.append t h)
theorem RpA.get : ∀ {vs : List V} {ds : List D} {i : Nat} {d : D}, RpA K H vs ds → ds[i]? = some d → ∃ v, vs[i]? = some v ∧ Rp K H v d
  | _, _, _, _, .nil, e => by simp at e
  | _, _, 0, d, .cons r _, e => by simp at e; subst e; exact ⟨_, rfl, r⟩
  | _, _, i + 1, d, .cons _ t, e => by
    obtain ⟨v, h1, h2⟩ := RpA.get (i := i) (d := d) t (by simpa using e)
    exact ⟨v, by simpa using h1, h2⟩
theorem RpA.getV : ∀ {vs : List V} {ds : List D} {i : Nat} {v : V}, RpA K H vs ds → vs[i]? = some v → ∃ d, ds[i]? = some d ∧ Rp K H v d
  | _, _, _, _, .nil, e => by simp at e
  | _, _, 0, d, .cons r _, e => by simp at e; subst e; exact ⟨_, rfl, r⟩
  | _, _, i + 1, d, .cons _ t, e => by
    obtain ⟨v, h1, h2⟩ := RpA.getV (i := i) (v := d) t (by simpa using e)
    exact ⟨v, by simpa using h1, h2⟩
theorem RpA.set {v : V} {d : D} (r : Rp K H v d) : ∀ {vs : List V} {ds : List D} (i : Nat), RpA K H vs ds → RpA K H (vs.set i v) (ds.set i d)
  | _, _, _, .nil => .nil
  | _, _, 0, .cons _ t => .cons r t
  | _, _, i + 1, .cons q t => .cons q (RpA.set r i t)
theorem RpA.take : ∀ {vs : List V} {ds : List D} (n : Nat), RpA K H vs ds → RpA K H (vs.take n) (ds.take n)
  | _, _, 0, _ => .nil
  | _, _, _ + 1, .nil => .nil
  | _, _, n + 1, .cons r t => .cons r (RpA.take n t)
theorem RpA.drop : ∀ {vs : List V} {ds : List D} (n : Nat), RpA K H vs ds → RpA K H (vs.drop n) (ds.drop n)
  | _, _, 0, r => r
  | _, _, _ + 1, .nil => .nil
  | _, _, n + 1, .cons _ t => RpA.drop n t
theorem RpA.reverse {vs : List V} {ds : List D} (h : RpA K H vs ds) : RpA K H vs.reverse ds.reverse := by
  induction vs generalizing ds with
  | nil => cases h; exact .nil
  | cons v vs ih =>
    cases h with
    | cons r t =>
      rw [List.reverse_cons, List.reverse_cons]
      exact (ih t).append (.cons r .nil)
theorem Rp.int_iff {v : V} {i : Int} : Rp K H v (.int i) ↔ v = .int i := ⟨fun h => by cases h; rfl, fun h => h ▸ .int _⟩
theorem Rp.str_iff {v : V} {i : Str} : Rp K H v (.str i) ↔ v = .str i := ⟨fun h => by cases h; rfl, fun h => h ▸ .str _⟩
theorem Rp.bl_iff {v : V} {i : Bool} : Rp K H v (.bl i) ↔ v = .bl i := ⟨fun h => by cases h; rfl, fun h => h ▸ .bl _⟩
end

/-! ### typed data -/
class Em (τ : Type) where
  em : τ → D
abbrev em {τ : Type} [Em τ] (x : τ) : D := Em.em x

instance : Em Int := ⟨.int⟩
instance : Em Bool := ⟨.bl⟩
instance : Em Str := ⟨.str⟩
instance : Em D := ⟨id⟩
instance : Em Unit := ⟨fun _ => .non⟩
instance {α : Type} [Em α] : Em (List α) := ⟨fun xs => .lst (xs.map em)⟩
instance {α β : Type} [Em α] [Em β] : Em (α × β) := ⟨fun p => .tup [em p.1, em p.2]⟩
instance {α : Type} [Em α] : Em (Option α) := ⟨fun o => match o with | none => .non | some x => em x⟩
/-- a tuple of any length, its items of one type -/
structure Vt (α : Type) where
  l : List α
instance {α : Type} [Em α] : Em (Vt α) := ⟨fun t => .tup (t.l.map em)⟩
structure T3 (α β γ : Type) where
  a : α
  b : β
  c : γ
instance {α β γ : Type} [Em α] [Em β] [Em γ] : Em (T3 α β γ) := ⟨fun t => .tup [em t.a, em t.b, em t.c]⟩
structure T4 (α β γ δ : Type) where
  a : α
  b : β
  c : γ
  d : δ
instance {α β γ δ : Type} [Em α] [Em β] [Em γ] [Em δ] : Em (T4 α β γ δ) := ⟨fun t => .tup [em t.a, em t.b, em t.c, em t.d]⟩
structure T5 (α β γ δ ε : Type) where
  a : α
  b : β
  c : γ
  d : δ
  e : ε
instance {α β γ δ ε : Type} [Em α] [Em β] [Em γ] [Em δ] [Em ε] : Em (T5 α β γ δ ε) := ⟨fun t => .tup [em t.a, em t.b, em t.c, em t.d, em t.e]⟩

/-! ### worlds: b what is frozen for good (data leans on it alone), h all that is tracked -/
structure Wd where
  b : Hp
  h : Hp
structure Le (W W' : Wd) : Prop where
  b : Same W.b W'.b
  h : Same W.h W'.h
  f : ∀ a o, W.h a = some o → W'.b a = W.b a
  ok : Same W'.b W'.h
theorem Le.refl {W : Wd} (ok : Same W.b W.h) : Le W W := ⟨Same.refl _, Same.refl _, fun _ _ _ => rfl, ok⟩
theorem Le.trans {W W1 W2 : Wd} (a : Le W W1) (c : Le W1 W2) : Le W W2 := ⟨a.b.trans c.b, a.h.trans c.h, fun x o h => (c.f x o (a.h x o h)).trans (a.f x o h), c.ok⟩
theorem Same.new {H : Hp} {p : Addr} {o : HO} (h : H p = none) : Same H (upd H p o) := fun a u e => by
  rw [upd_ne (ne_of_none e h)]
  exact e
/-- a new object, frozen at once -/
theorem Le.lay {W : Wd} (ok : Same W.b W.h) {p : Addr} {o : HO} (h : W.h p = none) : Le W ⟨upd W.b p o, upd W.h p o⟩ := by
  have hb : W.b p = Option.none := ok.free h
  refine ⟨Same.new hb, Same.new h, fun a u e => upd_ne (ne_of_none e h), fun a u e => ?_⟩
  have e : upd W.b p o a = some u := e
  show upd W.h p o a = some u
  by_cases ha : a = p
  · subst ha; rw [upd_same] at e ⊢; exact e
  · rw [upd_ne ha] at e ⊢; exact ok a u e
/-- a new object that may still change -/
theorem Le.layM {W : Wd} (ok : Same W.b W.h) {p : Addr} {o : HO} (h : W.h p = none) : Le W ⟨W.b, upd W.h p o⟩ :=
  ⟨Same.refl _, Same.new h, fun a u e => rfl, ok.trans (Same.new h)⟩
/-- what was laid so is frozen -/
theorem Le.freeze {W W' : Wd} (ok : Same W.b W.h) (l : Le W W') {p : Addr} {o : HO} (h0 : W.h p = none) (h : W'.h p = some o) (hb : W'.b p = none) : Le W ⟨upd W'.b p o, W'.h⟩ := by
  refine ⟨l.b.trans (Same.new hb), l.h, fun a u e => ?_, fun a u e => ?_⟩
  · show upd W'.b p o a = W.b a
    rw [upd_ne (ne_of_none e h0)]; exact l.f a u e
  · have e : upd W'.b p o a = some u := e
    by_cases ha : a = p
    · subst ha; rw [upd_same] at e; exact h.trans e
    · rw [upd_ne ha] at e; exact l.ok a u e

/-! ### slots -/
inductive SV where
  | any
  | dat (d : D)
  | own (ds : List D)
  | bor (ds : List D)
def SlotR (K : PySem.W.Frag) (W0 W : Wd) (o : Option V) : SV → Prop
  | .any => True
  | .dat d => ∃ v, o = some v ∧ Rp K W.b v d
  | .own ds => ∃ a vs, o = some (.ref a) ∧ W.h a = some (.lst vs) ∧ W.b a = none ∧ W0.h a = none ∧ RpA K W.b vs ds
  | .bor ds => ∃ a vs, o = some (.ref a) ∧ SqL K W0.h a vs ∧ RpA K W0.b vs ds
structure EnvR (K : PySem.W.Frag) (W0 W : Wd) (env : List SV) (σ : L2.St) : Prop where
  le : Le W0 W
  len : σ.length = env.length
  slot : ∀ (i : Nat) (sv : SV), env[i]? = some sv → ∃ o, σ[i]? = some o ∧ SlotR K W0 W o sv
  apart : ∀ (i j : Nat) (di dj : List D), i ≠ j → env[i]? = some (.own di) → env[j]? = some (.own dj) → σ[i]? ≠ σ[j]?
section
variable {K : PySem.W.Frag} {W0 W W' : Wd} {env : List SV} {σ : L2.St}
theorem EnvR.ok (E : EnvR K W0 W env σ) : Same W.b W.h := E.le.ok
theorem SlotR.mono {o : Option V} {sv : SV} (l : Le W W') (h : SlotR K W0 W o sv) : SlotR K W0 W' o sv := by
  cases sv with
  | any => trivial
  | dat d => obtain ⟨v, e, r⟩ := h; exact ⟨v, e, r.mono l.b⟩
  | own ds => obtain ⟨a, vs, e, h1, h2, h0, r⟩ := h; exact ⟨a, vs, e, l.h _ _ h1, (l.f _ _ h1).trans h2, h0, r.mono l.b⟩
  | bor ds => exact h
theorem EnvR.mono (E : EnvR K W0 W env σ) (l : Le W W') : EnvR K W0 W' env σ :=
  ⟨E.le.trans l, E.len, fun i sv e => let ⟨o, h1, h2⟩ := E.slot i sv e; ⟨o, h1, h2.mono l⟩, E.apart⟩
theorem EnvR.dat {i : Nat} {d : D} (E : EnvR K W0 W env σ) (h : env[i]? = some (.dat d)) : ∃ v, σ[i]? = some (some v) ∧ Rp K W.b v d := by
  obtain ⟨o, h1, v, e, r⟩ := E.slot i _ h
  subst e
  exact ⟨v, h1, r⟩
theorem EnvR.own {i : Nat} {ds : List D} (E : EnvR K W0 W env σ) (h : env[i]? = some (.own ds)) : ∃ a vs, σ[i]? = some (some (.ref a)) ∧ W.h a = some (.lst vs) ∧ W.b a = none ∧ W0.h a = none ∧ RpA K W.b vs ds := by
  obtain ⟨o, h1, a, vs, e, r⟩ := E.slot i _ h
  subst e
  exact ⟨a, vs, h1, r⟩
theorem EnvR.bor {i : Nat} {ds : List D} (E : EnvR K W0 W env σ) (h : env[i]? = some (.bor ds)) : ∃ a vs, σ[i]? = some (some (.ref a)) ∧ SqL K W.h a vs ∧ RpA K W.b vs ds := by
  obtain ⟨o, h1, a, vs, e, r1, r2⟩ := E.slot i _ h
  subst e
  exact ⟨a, vs, h1, E.le.h.seq r1, r2.mono E.le.b⟩
theorem set_get {α : Type} {l : List α} {i j : Nat} {x y : α} (h : (l.set i x)[j]? = some y) : (j = i ∧ i < l.length ∧ y = x) ∨ (j ≠ i ∧ l[j]? = some y) := by
  by_cases e : j = i
  · subst e
    have hl : j < l.length := by have := (List.getElem?_eq_some_iff.mp h).1; rwa [List.length_set] at this
    rw [List.getElem?_set_self hl] at h
    exact .inl ⟨rfl, hl, (Option.some.inj h).symm⟩
  · rw [List.getElem?_set_ne (Ne.symm e)] at h
    exact .inr ⟨e, h⟩
/-- a slot gets a value that no owned slot has, or data -/
theorem EnvR.put {i : Nat} {v : V} {sv : SV} (E : EnvR K W0 W env σ) (r : SlotR K W0 W (some v) sv) (ap : ∀ ds, sv = .own ds → ∀ j dj, j ≠ i → env[j]? = some (.own dj) → σ[j]? ≠ some (some v)) :
    EnvR K W0 W (env.set i sv) (σ.set i (some v)) := by
  refine ⟨E.le, by rw [List.length_set, List.length_set]; exact E.len, fun j sj e => ?_, fun j k dj dk n e1 e2 => ?_⟩
  · rcases set_get e with ⟨rfl, hl, rfl⟩ | ⟨n, e⟩
    · exact ⟨_, List.getElem?_set_self (by rw [E.len]; exact hl), r⟩
    · rw [List.getElem?_set_ne (Ne.symm n)]; exact E.slot j sj e
  · rcases set_get e1 with ⟨rfl, hl, e1'⟩ | ⟨n1, e1'⟩
    · rcases set_get e2 with ⟨e', _, _⟩ | ⟨n2, e2'⟩
      · exact absurd e'.symm n
      · rw [List.getElem?_set_self (by rw [E.len]; exact hl), List.getElem?_set_ne (Ne.symm n2)]
        exact fun z => ap dj e1'.symm k dk n2 e2' z.symm
    · rcases set_get e2 with ⟨rfl, hl, e2'⟩ | ⟨n2, e2'⟩
      · rw [List.getElem?_set_self (by rw [E.len]; exact hl), List.getElem?_set_ne (Ne.symm n1)]
        exact fun z => ap dk e2'.symm j dj n1 e1' z
      · rw [List.getElem?_set_ne (Ne.symm n1), List.getElem?_set_ne (Ne.symm n2)]
        exact E.apart j k dj dk n e1' e2'
theorem EnvR.putD {i : Nat} {v : V} {d : D} (E : EnvR K W0 W env σ) (r : Rp K W.b v d) : EnvR K W0 W (env.set i (.dat d)) (σ.set i (some v)) :=
  E.put ⟨v, rfl, r⟩ fun _ e => by cases e
/-- a new list -/
theorem EnvR.putL {i : Nat} {a : Addr} {vs : List V} {ds : List D} (E : EnvR K W0 W env σ) (l : Le W W') (h0 : W.h a = none) (h1 : W'.h a = some (.lst vs)) (h2 : W'.b a = none) (r : RpA K W'.b vs ds) :
    EnvR K W0 W' (env.set i (.own ds)) (σ.set i (some (.ref a))) := by
  refine (E.mono l).put ⟨a, vs, rfl, h1, h2, E.le.h.free h0, r⟩ fun es _ j dj _ ej z => ?_
  obtain ⟨c, ws, e1, e2, _⟩ := E.own ej
  rw [e1] at z
  injection z with z; injection z with z; injection z with z
  subst z
  rw [h0] at e2; cases e2
/-- an owned list changes -/
theorem EnvR.write {i : Nat} {a : Addr} {vs : List V} {ds es : List D} (E : EnvR K W0 W env σ) (hi : env[i]? = some (.own ds)) (hs : σ[i]? = some (some (.ref a))) (r : RpA K W.b vs es) :
    EnvR K W0 ⟨W.b, upd W.h a (.lst vs)⟩ (env.set i (.own es)) σ := by
  obtain ⟨a', ws, e1, e2, e3, e0, e4⟩ := E.own hi
  rw [hs] at e1
  injection e1 with e1; injection e1 with e1; injection e1 with e1
  subst e1
  have hl : i < env.length := (List.getElem?_eq_some_iff.mp hi).1
  refine ⟨⟨E.le.b, fun c u z => ?_, E.le.f, fun c u z => ?_⟩, by rw [List.length_set]; exact E.len, fun j sj e => ?_, fun j k dj dk n h1 h2 => ?_⟩
  · show upd W.h a _ c = some u
    rw [upd_ne (ne_of_none z e0)]; exact E.le.h c u z
  · show upd W.h a _ c = some u
    rw [upd_ne (ne_of_none z e3)]; exact E.le.ok c u z
  · rcases set_get e with ⟨rfl, _, rfl⟩ | ⟨n, e⟩
    · exact ⟨_, hs, a, vs, rfl, upd_same, e3, e0, r⟩
    · obtain ⟨o, h1, h2⟩ := E.slot j sj e
      refine ⟨o, h1, ?_⟩
      cases sj with
      | any => trivial
      | dat d => exact h2
      | bor d => exact h2
      | own d =>
        obtain ⟨c, us, q1, q2, q3⟩ := h2
        subst q1
        have nc : c ≠ a := fun z => by
          subst z
          exact E.apart j i d ds n e hi (h1.trans hs.symm)
        exact ⟨c, us, rfl, by show upd W.h a _ c = _; rw [upd_ne nc]; exact q2, q3⟩
  · have h1' : ∃ d, env[j]? = some (.own d) := by
      rcases set_get h1 with ⟨rfl, _, _⟩ | ⟨_, q⟩
      · exact ⟨_, hi⟩
      · exact ⟨_, q⟩
    have h2' : ∃ d, env[k]? = some (.own d) := by
      rcases set_get h2 with ⟨rfl, _, _⟩ | ⟨_, q⟩
      · exact ⟨_, hi⟩
      · exact ⟨_, q⟩
    obtain ⟨_, h1'⟩ := h1'
    obtain ⟨_, h2'⟩ := h2'
    exact E.apart j k _ _ n h1' h2'
end
/-- what may be forgotten -/
inductive EnvLe : List SV → List SV → Prop
  | nil : EnvLe [] []
  | same {x : SV} {a b : List SV} : EnvLe a b → EnvLe (x :: a) (x :: b)
  | drop {x : SV} {a b : List SV} : EnvLe a b → EnvLe (x :: a) (.any :: b)
theorem EnvLe.len : ∀ {a b : List SV}, EnvLe a b → a.length = b.length
  | _, _, .nil => rfl
  | _, _, .same h => by rw [List.length_cons, List.length_cons, EnvLe.len h]
  | _, _, .drop h => by rw [List.length_cons, List.length_cons, EnvLe.len h]
theorem EnvLe.get : ∀ {a b : List SV} {i : Nat} {sv : SV}, EnvLe a b → b[i]? = some sv → ∃ sw, a[i]? = some sw ∧ (sw = sv ∨ sv = .any)
  | _, _, _, _, .nil, e => by simp at e
  | _, _, 0, sv, .same h, e => ⟨_, rfl, .inl (by simpa using e)⟩
  | _, _, 0, sv, .drop h, e => ⟨_, rfl, .inr (by simpa using e.symm)⟩
  | _, _, i + 1, sv, .same h, e => by
    obtain ⟨sw, h1, h2⟩ := EnvLe.get (i := i) (sv := sv) h (by simpa using e)
    exact ⟨sw, by simpa using h1, h2⟩
  | _, _, i + 1, sv, .drop h, e => by
    obtain ⟨sw, h1, h2⟩ := EnvLe.get (i := i) (sv := sv) h (by simpa using e)
    exact ⟨sw, by simpa using h1, h2⟩
theorem EnvR.weak {K : PySem.W.Frag} {W0 W : Wd} {env env' : List SV} {σ : L2.St} (E : EnvR K W0 W env σ) (l : EnvLe env env') : EnvR K W0 W env' σ := by
  refine ⟨E.le, E.len.trans l.len, fun i sv e => ?_, fun i j di dj n e1 e2 => ?_⟩
  · obtain ⟨sw, h1, h2⟩ := l.get e
    obtain ⟨o, q1, q2⟩ := E.slot i sw h1
    rcases h2 with rfl | rfl
    · exact ⟨o, q1, q2⟩
    · exact ⟨o, q1, trivial⟩
  · obtain ⟨sw, h1, h2⟩ := l.get e1
    obtain ⟨sw', h1', h2'⟩ := l.get e2
    rcases h2 with rfl | h2
    · rcases h2' with rfl | h2'
      · exact E.apart i j di dj n h1 h1'
      · cases h2'
    · cases h2
end T

set_option Elab.async false
set_option linter.all false
set_option maxRecDepth 100000
set_option maxHeartbeats 4000000
namespace T
open PySem PySem.Spec PyProof.Rows L2
abbrev St := L2.St

/-! ### what is known of the place where code runs -/
def visB (sc : Scope) (x : Str) : Bool := match sc.names.lookup x with
  | some .local => true
  | some .cell => true
  | some .free => true
  | _ => false
def glbB (sc : Scope) (x : Str) : Bool := match sc.names.lookup x with
  | some .globalImplicit => true
  | _ => false
def locB (sc : Scope) (fb : Str → Bool) (x : Str) : Bool := match sc.names.lookup x with
  | some .local => true
  | some .cell => fb x
  | _ => false
theorem visB_ok {sc : Scope} {x : Str} (h : visB sc x = true) : Vis sc x := by
  unfold visB at h
  split at h <;> first | exact .inl (by assumption) | exact .inr (.inl (by assumption)) | exact .inr (.inr (by assumption)) | cases h
theorem glbB_ok {sc : Scope} {x : Str} (h : glbB sc x = true) : sc.names.lookup x = some .globalImplicit := by
  unfold glbB at h
  split at h <;> first | assumption | cases h
theorem locB_ok {sc : Scope} {fb : Str → Bool} {x : Str} (h : locB sc fb x = true) : Loc sc x := by
  unfold locB at h
  split at h <;> first | exact .inl (by assumption) | exact .inr (by assumption) | cases h
theorem locB_fn {sc : Scope} {fb : Str → Bool} {x : Str} (h : locB sc fb x = true) : fb x = true ∨ sc.names.lookup x = some .local := by
  unfold locB at h
  split at h <;> first | exact .inr (by assumption) | exact .inl h | cases h
inductive Cf (X : Cx) : List Str → Scope → (Str → Bool) → PySem.W.Frag → (Str → Option Value) → Program → World → Heap → Nat → Prop
  | mk {k : Nat} (nd : X.N.Nodup) (calm : X.calm = true) (po : PassesOwn (model X.prog X.w) X.A X.env X.xe) (rm : Room k X.A) :
    Cf X X.N X.env.scope X.fn X.K X.mg X.prog X.w X.base k

/-! ### readings, weakened -/
section
variable {X : Cx}
theorem peImp {e : Expr} {t t' : TE} (h : PE X e t) (k : ∀ σ H Q, t' σ H Q → t σ H Q) : PE X e t' := ⟨fun pins s σ H Q I q => h.run pins s σ H Q I (k σ H Q q)⟩
theorem ptImp {e : Expr} {t t' : TT} (h : PT X e t) (k : ∀ σ H Q, t' σ H Q → t σ H Q) : PT X e t' := ⟨fun pins s σ H Q I q => h.run pins s σ H Q I (k σ H Q q)⟩
theorem pwImp {e : Expr} {t t' : TT} (h : PW X e t) (k : ∀ σ H Q, t' σ H Q → t σ H Q) : PW X e t' := ⟨fun wh pins s σ H Q I q => h.run wh pins s σ H Q I (k σ H Q q)⟩
theorem paImp {es : List Expr} {t t' : TA} (h : PA X es t) (k : ∀ σ H Q, t' σ H Q → t σ H Q) : PA X es t' := ⟨fun p pins s σ H Q I q => h.run p pins s σ H Q I (k σ H Q q)⟩
theorem psImp {st : Stmt} {t t' : TS} (h : PS X st t) (k : ∀ D σ H, t' D σ H → t D σ H) : PS X st t' := ⟨fun pins s σ H D I q => h.run pins s σ H D I (k D σ H q)⟩
theorem pssImp {st : List Stmt} {t t' : TS} (h : PSs X st t) (k : ∀ D σ H, t' D σ H → t D σ H) : PSs X st t' := ⟨fun pins s σ H D I q => h.run pins s σ H D I (k D σ H q)⟩
theorem piImp {tg it : Expr} {t t' : TI} (h : PI X tg it t) (k : ∀ σ H R, t' σ H R → t σ H R) : PI X tg it t' := ⟨fun pins s σ H R I q => h.run pins s σ H R I (k σ H R q)⟩
theorem pgImp {tg : Expr} {t t' : TG} (h : PG X tg t) (k : ∀ v σ H Q, t' v σ H Q → t v σ H Q) : PG X tg t' := ⟨fun pins s σ H v u Q I r q => h.run pins s σ H v u Q I r (k v σ H Q q)⟩
theorem peEx {ι : Type} {e : Expr} {t : ι → TE} (h : ∀ i, PE X e (t i)) : PE X e (fun σ H Q => ∃ i, t i σ H Q) := ⟨fun pins s σ H Q I ⟨i, q⟩ => (h i).run pins s σ H Q I q⟩
theorem ptEx {ι : Type} {e : Expr} {t : ι → TT} (h : ∀ i, PT X e (t i)) : PT X e (fun σ H Q => ∃ i, t i σ H Q) := ⟨fun pins s σ H Q I ⟨i, q⟩ => (h i).run pins s σ H Q I q⟩
theorem ptsEx {ι : Type} {e : List Expr} {t : ι → TT} (h : ∀ i, PTs X e (t i)) : PTs X e (fun σ H Q => ∃ i, t i σ H Q) := ⟨fun pins s σ H Q I ⟨i, q⟩ => (h i).run pins s σ H Q I q⟩
theorem pssEx {ι : Type} {e : List Stmt} {t : ι → TS} (h : ∀ i, PSs X e (t i)) : PSs X e (fun D σ H => ∃ i, t i D σ H) := ⟨fun pins s σ H D I ⟨i, q⟩ => (h i).run pins s σ H D I q⟩
end

/-! ### the canonical readings -/
variable {τ α β γ δ : Type}
theorem bind_some {m : Option α} {f : α → Option β} {y : β} (h : m.bind f = some y) : ∃ x, m = some x ∧ f x = some y := by
  cases m with
  | none => cases h
  | some x => exact ⟨x, rfl, h⟩
def tX [Em τ] (K : PySem.W.Frag) (env : List SV) (m : Option τ) : TE := fun σ H Q =>
  ∃ W0 W : Wd, W.h = H ∧ EnvR K W0 W env σ ∧ ∃ x, m = some x ∧ ∀ v W', Le W W' → Rp K W'.b v (em x) → Q v W'.h
/-- a list that may be read -/
def tQ [Em τ] (K : PySem.W.Frag) (env : List SV) (m : Option (List τ)) : TE := fun σ H Q =>
  ∃ W0 W : Wd, W.h = H ∧ EnvR K W0 W env σ ∧ ∃ x, m = some x ∧ ∀ a vs W', Le W W' → SqL K W'.h a vs → RpA K W'.b vs (x.map em) → Q (.ref a) W'.h
/-- a new list -/
def tL [Em τ] (K : PySem.W.Frag) (env : List SV) (m : Option (List τ)) : TE := fun σ H Q =>
  ∃ W0 W : Wd, W.h = H ∧ EnvR K W0 W env σ ∧ ∃ x, m = some x ∧ ∀ a vs W', Le W W' → W.h a = none → W'.h a = some (.lst vs) → W'.b a = none → RpA K W'.b vs (x.map em) → Q (.ref a) W'.h
def tC' (K : PySem.W.Frag) (env : List SV) (m : Option Bool) : TT := fun σ H Q =>
  ∃ W0 W : Wd, W.h = H ∧ EnvR K W0 W env σ ∧ ∃ x, m = some x ∧ ∀ W', Le W W' → Q x W'.h
inductive Args (K : PySem.W.Frag) (W : Wd) : List V → List SV → Prop
  | nil : Args K W [] []
  | dat {v : V} {d : D} {vs : List V} {svs : List SV} : Rp K W.b v d → Args K W vs svs → Args K W (v :: vs) (.dat d :: svs)
  | bor {a : Addr} {ws : List V} {ds : List D} {vs : List V} {svs : List SV} : SqL K W.h a ws → RpA K W.b ws ds → Args K W vs svs → Args K W (.ref a :: vs) (.bor ds :: svs)
theorem Args.mono {K : PySem.W.Frag} {W W' : Wd} (l : Le W W') : ∀ {vs : List V} {svs : List SV}, Args K W vs svs → Args K W' vs svs
  | _, _, .nil => .nil
  | _, _, .dat r t => .dat (r.mono l.b) (Args.mono l t)
  | _, _, .bor s r t => .bor (l.h.seq s) (r.mono l.b) (Args.mono l t)
def tA (K : PySem.W.Frag) (env : List SV) (m : Option α) (svs : α → List SV) : TA := fun σ H Q =>
  ∃ W0 W : Wd, W.h = H ∧ EnvR K W0 W env σ ∧ ∃ x, m = some x ∧ ∀ vs W', Le W W' → Args K W' vs (svs x) → Q vs W'.h
abbrev XE [Em τ] (X : Cx) (env : List SV) (e : Expr) (m : Option τ) : Prop := PE X e (tX X.K env m)
abbrev XQ [Em τ] (X : Cx) (env : List SV) (e : Expr) (m : Option (List τ)) : Prop := PE X e (tQ X.K env m)
abbrev XL [Em τ] (X : Cx) (env : List SV) (e : Expr) (m : Option (List τ)) : Prop := PE X e (tL X.K env m)
abbrev XT (X : Cx) (env : List SV) (e : Expr) (m : Option Bool) : Prop := PT X e (tC' X.K env m)
abbrev XA (X : Cx) (env : List SV) (es : List Expr) (m : Option α) (svs : α → List SV) : Prop := PA X es (tA X.K env m svs)

section
variable {X : Cx} {env : List SV} {e a b c : Expr} {pos : Pos} [Em τ] [Em α] [Em β] [Em γ]
/-- the shape of most rules -/
theorem x_of {t : TE} {m : Option τ} (h : PE X e t)
    (k : ∀ (W0 W : Wd) (σ : St), EnvR X.K W0 W env σ → ∀ x, m = some x → ∀ Q : VK, (∀ v W', Le W W' → Rp X.K W'.b v (em x) → Q v W'.h) → t σ W.h Q) : XE X env e m :=
  peImp h fun σ H Q ⟨W0, W, hH, E, x, hx, q⟩ => by subst hH; exact k W0 W σ E x hx Q q
theorem q_of {t : TE} {m : Option (List τ)} (h : PE X e t)
    (k : ∀ (W0 W : Wd) (σ : St), EnvR X.K W0 W env σ → ∀ x, m = some x → ∀ Q : VK, (∀ a vs W', Le W W' → SqL X.K W'.h a vs → RpA X.K W'.b vs (x.map em) → Q (.ref a) W'.h) → t σ W.h Q) : XQ X env e m :=
  peImp h fun σ H Q ⟨W0, W, hH, E, x, hx, q⟩ => by subst hH; exact k W0 W σ E x hx Q q
theorem l_of {t : TE} {m : Option (List τ)} (h : PE X e t)
    (k : ∀ (W0 W : Wd) (σ : St), EnvR X.K W0 W env σ → ∀ x, m = some x → ∀ Q : VK, (∀ a vs W', Le W W' → W.h a = none → W'.h a = some (.lst vs) → W'.b a = none → RpA X.K W'.b vs (x.map em) → Q (.ref a) W'.h) → t σ W.h Q) : XL X env e m :=
  peImp h fun σ H Q ⟨W0, W, hH, E, x, hx, q⟩ => by subst hH; exact k W0 W σ E x hx Q q
theorem t_of {t : TT} {m : Option Bool} (h : PT X e t)
    (k : ∀ (W0 W : Wd) (σ : St), EnvR X.K W0 W env σ → ∀ x, m = some x → ∀ Q : Bool → Hp → Prop, (∀ W', Le W W' → Q x W'.h) → t σ W.h Q) : XT X env e m :=
  ptImp h fun σ H Q ⟨W0, W, hH, E, x, hx, q⟩ => by subst hH; exact k W0 W σ E x hx Q q
variable {K : PySem.W.Frag} {W0 W : Wd} {σ : St}
theorem use_x {m : Option τ} {x : τ} {Q : VK} (E : EnvR K W0 W env σ) (h : m = some x) (q : ∀ v W', Le W W' → Rp K W'.b v (em x) → Q v W'.h) : tX K env m σ W.h Q := ⟨W0, W, rfl, E, x, h, q⟩
theorem use_q {m : Option (List τ)} {x : List τ} {Q : VK} (E : EnvR K W0 W env σ) (h : m = some x) (q : ∀ a vs W', Le W W' → SqL K W'.h a vs → RpA K W'.b vs (x.map em) → Q (.ref a) W'.h) : tQ K env m σ W.h Q := ⟨W0, W, rfl, E, x, h, q⟩
theorem use_l {m : Option (List τ)} {x : List τ} {Q : VK} (E : EnvR K W0 W env σ) (h : m = some x) (q : ∀ a vs W', Le W W' → W.h a = none → W'.h a = some (.lst vs) → W'.b a = none → RpA K W'.b vs (x.map em) → Q (.ref a) W'.h) : tL K env m σ W.h Q := ⟨W0, W, rfl, E, x, h, q⟩
theorem use_t {m : Option Bool} {x : Bool} {Q : Bool → Hp → Prop} (E : EnvR K W0 W env σ) (h : m = some x) (q : ∀ W', Le W W' → Q x W'.h) : tC' K env m σ W.h Q := ⟨W0, W, rfl, E, x, h, q⟩
theorem use_a {m : Option δ} {svs : δ → List SV} {x : δ} {Q : List V → Hp → Prop} (E : EnvR K W0 W env σ) (h : m = some x) (q : ∀ vs W', Le W W' → Args K W' vs (svs x) → Q vs W'.h) : tA K env m svs σ W.h Q := ⟨W0, W, rfl, E, x, h, q⟩
theorem XE.is {m m' : Option τ} (h : XE X env e m) (q : m = m') : XE X env e m' := q ▸ h
theorem XT.is {m m' : Option Bool} (h : XT X env e m) (q : m = m') : XT X env e m' := q ▸ h

/-! ### constants, names -/
theorem x_int {i : Int} {j : Nat} : XE X env (.Constant (.int i) j pos) (some i) := x_of pe_int fun W0 W σ E x hx Q q => by cases hx; exact q _ W (Le.refl E.ok) (.int _)
theorem x_bl {i : Bool} {j : Nat} : XE X env (.Constant (.bool i) j pos) (some i) := x_of pe_bl fun W0 W σ E x hx Q q => by cases hx; exact q _ W (Le.refl E.ok) (.bl _)
theorem x_str {i : Str} {j : Nat} : XE X env (.Constant (.str i) j pos) (some i) := x_of pe_str fun W0 W σ E x hx Q q => by cases hx; exact q _ W (Le.refl E.ok) (.str _)
theorem x_non {j : Nat} : XE X env (.Constant .none j pos) (some ()) := x_of pe_non fun W0 W σ E x hx Q q => by cases hx; exact q _ W (Le.refl E.ok) .non
theorem x_nonO {j : Nat} : XE X env (.Constant .none j pos) (some (none : Option τ)) := x_of pe_non fun W0 W σ E x hx Q q => by cases hx; exact q _ W (Le.refl E.ok) .non
theorem x_some {m : Option τ} (h : XE X env e m) : XE X env e (m.bind fun x => some (some x)) := x_of h fun W0 W σ E x hx Q q => by
  obtain ⟨y, rfl, hy⟩ := bind_some hx
  cases hy
  exact use_x E rfl q
theorem x_D {m : Option τ} (h : XE X env e m) : XE X env e (m.bind fun x => some (em x)) := x_of h fun W0 W σ E x hx Q q => by
  obtain ⟨y, rfl, hy⟩ := bind_some hx
  cases hy
  exact use_x E rfl q
variable {N : List Str} {sc : Scope} {fb : Str → Bool} {mg : Str → Option Value} {P : Program} {w : World} {base : Heap} {k : Nat}
theorem Cf.n (C : Cf X N sc fb K mg P w base k) : X.N = N := by cases C; rfl
theorem x_var (C : Cf X N sc fb K mg P w base k) (i : Nat) {n : Str} {x : τ} (he : env[i]? = some (.dat (em x)) := by rfl) (hi : N[i]? = some n := by rfl) (hv : visB sc n = true := by decide +kernel)
    (hd : (n == ("__debug__" : Str)) = false := by decide) (hc : (n == ("__classdict__" : Str)) = false := by decide) : XE X env (.Name n pos) (some x) := by
  cases C
  refine x_of (pe_var hi (visB_ok hv) hd hc) fun W0 W σ E y hy Q q => ?_
  cases hy
  obtain ⟨v, h1, r⟩ := E.dat he
  exact ⟨v, h1, q v W (Le.refl E.ok) r⟩
theorem q_own (C : Cf X N sc fb K mg P w base k) (i : Nat) {n : Str} {x : List τ} (he : env[i]? = some (.own (x.map em)) := by rfl) (hi : N[i]? = some n := by rfl) (hv : visB sc n = true := by decide +kernel)
    (hd : (n == ("__debug__" : Str)) = false := by decide) (hc : (n == ("__classdict__" : Str)) = false := by decide) : XQ X env (.Name n pos) (some x) := by
  cases C
  refine q_of (pe_var hi (visB_ok hv) hd hc) fun W0 W σ E y hy Q q => ?_
  cases hy
  obtain ⟨a, vs, h1, h2, h3, h0, r⟩ := E.own he
  exact ⟨_, h1, q a vs W (Le.refl E.ok) (SqL.of h2) r⟩
theorem q_bor (C : Cf X N sc fb K mg P w base k) (i : Nat) {n : Str} {x : List τ} (he : env[i]? = some (.bor (x.map em)) := by rfl) (hi : N[i]? = some n := by rfl) (hv : visB sc n = true := by decide +kernel)
    (hd : (n == ("__debug__" : Str)) = false := by decide) (hc : (n == ("__classdict__" : Str)) = false := by decide) : XQ X env (.Name n pos) (some x) := by
  cases C
  refine q_of (pe_var hi (visB_ok hv) hd hc) fun W0 W σ E y hy Q q => ?_
  cases hy
  obtain ⟨a, vs, h1, h2, r⟩ := E.bor he
  exact ⟨_, h1, q a vs W (Le.refl E.ok) h2 r⟩
/-- from one kind of list to another -/
theorem q_x {m : Option (List τ)} (h : XE X env e m) : XQ X env e m := q_of h fun W0 W σ E x hx Q q => use_x E hx fun v W' l r => by
  have r : Rp X.K W'.b v (.lst (x.map em)) := r
  cases r with
  | lst h1 h2 => exact q _ _ W' l (l.ok.seq h1) h2
theorem q_l {m : Option (List τ)} (h : XL X env e m) : XQ X env e m := q_of h fun W0 W σ E x hx Q q => use_l E hx fun a vs W' l h0 h1 hb r => q a vs W' l (SqL.of h1) r
theorem x_l {m : Option (List τ)} (h : XL X env e m) : XE X env e m := x_of h fun W0 W σ E x hx Q q => use_l E hx fun a vs W' l h0 h1 hb r => by
  refine q (.ref a) ⟨upd W'.b a (.lst vs), W'.h⟩ (Le.freeze E.ok l h0 h1 hb) ?_
  exact .lst (SqL.of (show upd W'.b a (.lst vs) a = some (.lst vs) from upd_same)) (r.mono (Same.new hb))

/-! ### operators -/
theorem x_bin {op : Operator} {r : R2} {ma : Option α} {mb : Option β} {f : α → β → Option γ} (ho : OpR X (binaryOp op) r) (ha : XE X env a ma) (hb : XE X env b mb)
    (hr : ∀ x y z, f x y = some z → ∀ (W : Wd) (u v : V), Same W.b W.h → Rp X.K W.b u (em x) → Rp X.K W.b v (em y) → ∀ Q : VK, (∀ v W', Le W W' → Rp X.K W'.b v (em z) → Q v W'.h) → r u v W.h Q) :
    XE X env (.BinOp a op b pos) (ma.bind fun x => mb.bind fun y => f x y) := by
  refine x_of (pe_op ho ha hb) fun W0 W σ E z hz Q q => ?_
  obtain ⟨x, hx, hz⟩ := bind_some hz
  obtain ⟨y, hy, hz⟩ := bind_some hz
  refine use_x E hx fun u W1 l1 r1 => ?_
  refine use_x (E.mono l1) hy fun v W2 l2 r2 => ?_
  exact hr x y z hz W2 u v l2.ok (r1.mono l2.b) r2 Q fun v' W3 l3 r3 => q v' W3 (l1.trans (l2.trans l3)) r3
theorem x_cmp {op : CmpOp} {r : R2} {ma : Option α} {mb : Option β} {f : α → β → Option γ} (ho : OpR X (compareOp op) r) (ha : XE X env a ma) (hb : XE X env b mb) (hm : behindInMarks op b = false)
    (hr : ∀ x y z, f x y = some z → ∀ (W : Wd) (u v : V), Same W.b W.h → Rp X.K W.b u (em x) → Rp X.K W.b v (em y) → ∀ Q : VK, (∀ v W', Le W W' → Rp X.K W'.b v (em z) → Q v W'.h) → r u v W.h Q) :
    XE X env (.Compare a [op] [b] pos) (ma.bind fun x => mb.bind fun y => f x y) := by
  refine x_of (pe_cmpR ho ha hb hm) fun W0 W σ E z hz Q q => ?_
  obtain ⟨x, hx, hz⟩ := bind_some hz
  obtain ⟨y, hy, hz⟩ := bind_some hz
  refine use_x E hx fun u W1 l1 r1 => ?_
  refine use_x (E.mono l1) hy fun v W2 l2 r2 => ?_
  exact hr x y z hz W2 u v l2.ok (r1.mono l2.b) r2 Q fun v' W3 l3 r3 => q v' W3 (l1.trans (l2.trans l3)) r3
/-- ints, without a condition -/
theorem x_binI {op : Operator} {g : Int → Int → Int} {ma mb : Option Int} (ho : OpR X (binaryOp op) (rI0 fun i j => .int (g i j))) (ha : XE X env a ma) (hb : XE X env b mb) :
    XE X env (.BinOp a op b pos) (ma.bind fun x => mb.bind fun y => some (g x y)) :=
  x_bin ho ha hb fun x y z hz W u v ok ru rv Q q => by
    cases hz
    cases ru; cases rv
    exact ⟨x, y, rfl, rfl, q _ W (Le.refl ok) (.int _)⟩
theorem x_binIc {op : Operator} {Cn : Int → Int → Prop} {g : Int → Int → Int} {f : Int → Int → Option Int} {ma mb : Option Int} (ho : OpR X (binaryOp op) (rI Cn fun i j => .int (g i j)))
    (hf : ∀ x y z, f x y = some z → Cn x y ∧ g x y = z) (ha : XE X env a ma) (hb : XE X env b mb) :
    XE X env (.BinOp a op b pos) (ma.bind fun x => mb.bind fun y => f x y) :=
  x_bin ho ha hb fun x y z hz W u v ok ru rv Q q => by
    obtain ⟨h1, h2⟩ := hf x y z hz
    subst h2
    cases ru; cases rv
    exact ⟨x, y, rfl, rfl, h1, q _ W (Le.refl ok) (.int _)⟩
theorem x_cmpI {op : CmpOp} {g : Int → Int → Bool} {ma mb : Option Int} (ho : OpR X (compareOp op) (rI0 fun i j => .bl (g i j))) (ha : XE X env a ma) (hb : XE X env b mb) (hm : behindInMarks op b = false) :
    XE X env (.Compare a [op] [b] pos) (ma.bind fun x => mb.bind fun y => some (g x y)) :=
  x_cmp ho ha hb hm fun x y z hz W u v ok ru rv Q q => by
    cases hz
    cases ru; cases rv
    exact ⟨x, y, rfl, rfl, q _ W (Le.refl ok) (.bl _)⟩
end
/-- what the arithmetic of the model carries -/
def mulP (x y : Int) : Option Int := if (-18446744073709551616 < x ∧ x < 18446744073709551616) ∨ (-18446744073709551616 < y ∧ y < 18446744073709551616) then some (x * y) else none
def modP (x y : Int) : Option Int := if y = 0 then none else some (x.fmod y)
def divP (x y : Int) : Option Int := if y = 0 then none else if y.natAbs < 1073741824 then some (x.fdiv y) else none
def powP (x y : Int) : Option Int := if 0 ≤ y ∧ y ≤ 1000000 ∧ x.natAbs < 18446744073709551616 then some (x ^ y.toNat) else none
section
variable {X : Cx} {env : List SV} {e a b c : Expr} {pos : Pos} [Em τ] [Em α] [Em β] [Em γ]
theorem x_add {ma mb : Option Int} (ha : XE X env a ma) (hb : XE X env b mb) : XE X env (.BinOp a .Add b pos) (ma.bind fun x => mb.bind fun y => some (x + y)) := x_binI op_add ha hb
theorem x_sub {ma mb : Option Int} (ha : XE X env a ma) (hb : XE X env b mb) : XE X env (.BinOp a .Sub b pos) (ma.bind fun x => mb.bind fun y => some (x - y)) := x_binI op_sub ha hb
theorem x_mul {ma mb : Option Int} (ha : XE X env a ma) (hb : XE X env b mb) : XE X env (.BinOp a .Mult b pos) (ma.bind fun x => mb.bind fun y => mulP x y) :=
  x_binIc op_mul (fun x y z h => by
    unfold mulP at h
    split at h
    · exact ⟨by unfold CMul; omega, Option.some.inj h⟩
    · cases h) ha hb
theorem x_mod {ma mb : Option Int} (ha : XE X env a ma) (hb : XE X env b mb) : XE X env (.BinOp a .Mod b pos) (ma.bind fun x => mb.bind fun y => modP x y) :=
  x_binIc op_modN (fun x y z h => by
    unfold modP at h
    split at h
    · cases h
    · exact ⟨by assumption, Option.some.inj h⟩) ha hb
theorem x_div {ma mb : Option Int} (ha : XE X env a ma) (hb : XE X env b mb) : XE X env (.BinOp a .FloorDiv b pos) (ma.bind fun x => mb.bind fun y => divP x y) :=
  x_binIc op_fdivN (fun x y z h => by
    unfold divP at h
    split at h
    · cases h
    · split at h
      · exact ⟨⟨by assumption, by assumption⟩, Option.some.inj h⟩
      · cases h) ha hb
theorem x_pow {ma mb : Option Int} (ha : XE X env a ma) (hb : XE X env b mb) : XE X env (.BinOp a .Pow b pos) (ma.bind fun x => mb.bind fun y => powP x y) :=
  x_binIc op_pow (fun x y z h => by
    unfold powP at h
    split at h
    · rename_i q
      exact ⟨⟨q.1, q.2.1, by simpa using q.2.2⟩, Option.some.inj h⟩
    · cases h) ha hb
theorem x_lt {ma mb : Option Int} (ha : XE X env a ma) (hb : XE X env b mb) : XE X env (.Compare a [.Lt] [b] pos) (ma.bind fun x => mb.bind fun y => some (decide (x < y))) := x_cmpI op_lt ha hb (nomark _)
theorem x_le {ma mb : Option Int} (ha : XE X env a ma) (hb : XE X env b mb) : XE X env (.Compare a [.LtE] [b] pos) (ma.bind fun x => mb.bind fun y => some (decide (x ≤ y))) := x_cmpI op_le ha hb (nomark _)
theorem x_gt {ma mb : Option Int} (ha : XE X env a ma) (hb : XE X env b mb) : XE X env (.Compare a [.Gt] [b] pos) (ma.bind fun x => mb.bind fun y => some (decide (y < x))) := x_cmpI op_gt ha hb (nomark _)
theorem x_ge {ma mb : Option Int} (ha : XE X env a ma) (hb : XE X env b mb) : XE X env (.Compare a [.GtE] [b] pos) (ma.bind fun x => mb.bind fun y => some (decide (y ≤ x))) := x_cmpI op_ge ha hb (nomark _)
/-- ==, != of two of one plain kind -/
class Pl (τ : Type) extends Em τ where
  dec : DecidableEq τ
  eq : ∀ {K : PySem.W.Frag} {H : Hp} {x y : τ} {u v : V}, Rp K H u (em x) → Rp K H v (em y) → scal u v = true ∧ (u = v ↔ x = y)
instance : Pl Int := { dec := inferInstance, eq := fun r q => by cases r; cases q; exact ⟨rfl, by simp⟩ }
instance : Pl Bool := { dec := inferInstance, eq := fun r q => by cases r; cases q; exact ⟨rfl, by simp⟩ }
instance : Pl Str := { dec := inferInstance, eq := fun r q => by cases r; cases q; exact ⟨rfl, by simp⟩ }
instance {τ : Type} [Pl τ] : DecidableEq τ := Pl.dec
theorem x_eq {τ : Type} [Pl τ] {ma mb : Option τ} (ha : XE X env a ma) (hb : XE X env b mb) : XE X env (.Compare a [.Eq] [b] pos) (ma.bind fun x => mb.bind fun y => some (decide (x = y))) :=
  x_cmp op_eq ha hb (nomark _) fun x y z hz W u v ok ru rv Q q => by
    cases hz
    obtain ⟨h1, h2⟩ := Pl.eq ru rv
    refine ⟨h1, ?_⟩
    rw [show decide (u = v) = decide (x = y) from decide_eq_decide.mpr h2]
    exact q _ W (Le.refl ok) (.bl _)
theorem x_ne {τ : Type} [Pl τ] {ma mb : Option τ} (ha : XE X env a ma) (hb : XE X env b mb) : XE X env (.Compare a [.NotEq] [b] pos) (ma.bind fun x => mb.bind fun y => some (!decide (x = y))) :=
  x_cmp op_ne ha hb (nomark _) fun x y z hz W u v ok ru rv Q q => by
    cases hz
    obtain ⟨h1, h2⟩ := Pl.eq ru rv
    refine ⟨h1, ?_⟩
    rw [show decide (u = v) = decide (x = y) from decide_eq_decide.mpr h2]
    exact q _ W (Le.refl ok) (.bl _)
/-! ### tests -/
theorem t_x {m : Option Bool} (h : XE X env e m) (he : ∀ whole, isTrue e X.env whole = (do let v ← whole; standAt e.pos; holding [v] (truthy v)) := by intro _; rfl) : XT X env e m :=
  t_of (pt_val h he) fun W0 W σ E x hx Q q => use_x E hx fun v W' l r => by
    cases r
    exact ⟨x, rfl, q W' l⟩
end
end T

set_option Elab.async false
set_option linter.all false
set_option maxRecDepth 100000
set_option maxHeartbeats 4000000
namespace T
open PySem PySem.Spec PyProof.Rows L2
variable {τ α β γ δ : Type}
section
variable {X : Cx} {env : List SV} {e a b c : Expr} {pos : Pos} [Em τ] [Em α] [Em β] [Em γ]
/-! ### and, or, not, if else -/
theorem t_not {m : Option Bool} (h : XT X env a m) : XT X env (.UnaryOp .Not a pos) (m.bind fun x => some (!x)) :=
  t_of (pt_not h) fun W0 W σ E x hx Q q => by
    obtain ⟨y, hy, hx⟩ := bind_some hx
    cases hx
    exact use_t E hy fun W' l => q W' l
theorem x_not {m : Option Bool} (h : XE X env a m) : XE X env (.UnaryOp .Not a pos) (m.bind fun x => some (!x)) :=
  x_of (pe_not h) fun W0 W σ E x hx Q q => by
    obtain ⟨y, hy, hx⟩ := bind_some hx
    cases hx
    exact use_x E hy fun v W' l r => by
      cases r
      exact ⟨y, rfl, q _ W' l (.bl _)⟩
/-- a and b, lazily -/
def andO (x y : Option Bool) : Option Bool := x.bind fun b => if b = true then y else some false
def orO (x y : Option Bool) : Option Bool := x.bind fun b => if b = true then some true else y
abbrev XW (X : Cx) (env : List SV) (e : Expr) (m : Option Bool) : Prop := PW X e (tC' X.K env m)
theorem w_and1 {m : Option Bool} (h : XT X env a m) : XW X env (.BoolOp .And [a] pos) m := pw_and1 h
theorem w_or1 {m : Option Bool} (h : XT X env a m) : XW X env (.BoolOp .Or [a] pos) m := pw_or1 h
theorem w_and {ma mb : Option Bool} {rest : List Expr} (ha : XT X env a ma) (hb : XW X env (.BoolOp .And (b :: rest) pos) mb) : XW X env (.BoolOp .And (a :: b :: rest) pos) (andO ma mb) := by
  refine pwImp (pw_and ha hb) fun σ H Q ⟨W0, W, hH, E, x, hx, q⟩ => ?_
  subst hH
  obtain ⟨y, hy, hx⟩ := bind_some hx
  refine use_t E hy fun W1 l1 => ?_
  cases y with
  | true => exact use_t (E.mono l1) (by simpa using hx) fun W2 l2 => q W2 (l1.trans l2)
  | false =>
    have e : false = x := Option.some.inj (by simpa using hx)
    subst e
    exact q W1 l1
theorem w_or {ma mb : Option Bool} {rest : List Expr} (ha : XT X env a ma) (hb : XW X env (.BoolOp .Or (b :: rest) pos) mb) : XW X env (.BoolOp .Or (a :: b :: rest) pos) (orO ma mb) := by
  refine pwImp (pw_or ha hb) fun σ H Q ⟨W0, W, hH, E, x, hx, q⟩ => ?_
  subst hH
  obtain ⟨y, hy, hx⟩ := bind_some hx
  refine use_t E hy fun W1 l1 => ?_
  cases y with
  | false => exact use_t (E.mono l1) (by simpa using hx) fun W2 l2 => q W2 (l1.trans l2)
  | true =>
    have e : true = x := Option.some.inj (by simpa using hx)
    subst e
    exact q W1 l1
theorem t_w {m : Option Bool} (h : XW X env e m) : XT X env e m := h.pt
theorem x_one {op : BoolOp} {m : Option Bool} (h : XE X env a m) : XE X env (.BoolOp op [a] pos) m := pe_one h
theorem x_and {ma mb : Option Bool} {rest : List Expr} (ha : XE X env a ma) (hb : XE X env (.BoolOp .And (b :: rest) pos) mb) : XE X env (.BoolOp .And (a :: b :: rest) pos) (andO ma mb) := by
  refine x_of (pe_and ha hb) fun W0 W σ E x hx Q q => ?_
  obtain ⟨y, hy, hx⟩ := bind_some hx
  refine use_x E hy fun v W1 l1 r => ?_
  cases r
  refine ⟨y, rfl, ?_⟩
  cases y with
  | true => exact use_x (E.mono l1) (by simpa using hx) fun v W2 l2 r2 => q v W2 (l1.trans l2) r2
  | false =>
    have e : false = x := Option.some.inj (by simpa using hx)
    subst e
    exact q _ W1 l1 (.bl _)
theorem x_or {ma mb : Option Bool} {rest : List Expr} (ha : XE X env a ma) (hb : XE X env (.BoolOp .Or (b :: rest) pos) mb) : XE X env (.BoolOp .Or (a :: b :: rest) pos) (orO ma mb) := by
  refine x_of (pe_or ha hb) fun W0 W σ E x hx Q q => ?_
  obtain ⟨y, hy, hx⟩ := bind_some hx
  refine use_x E hy fun v W1 l1 r => ?_
  cases r
  refine ⟨y, rfl, ?_⟩
  cases y with
  | false => exact use_x (E.mono l1) (by simpa using hx) fun v W2 l2 r2 => q v W2 (l1.trans l2) r2
  | true =>
    have e : true = x := Option.some.inj (by simpa using hx)
    subst e
    exact q _ W1 l1 (.bl _)
theorem x_if {mc : Option Bool} {ma mb : Option τ} (hc : XT X env c mc) (ha : XE X env a ma) (hb : XE X env b mb) : XE X env (.IfExp c a b pos) (mc.bind fun x => if x = true then ma else mb) := by
  refine x_of (pe_ifExp hc ha hb) fun W0 W σ E x hx Q q => ?_
  obtain ⟨y, hy, hx⟩ := bind_some hx
  refine use_t E hy fun W1 l1 => ?_
  cases y with
  | true => exact use_x (E.mono l1) (by simpa using hx) fun v W2 l2 r2 => q v W2 (l1.trans l2) r2
  | false => exact use_x (E.mono l1) (by simpa using hx) fun v W2 l2 r2 => q v W2 (l1.trans l2) r2
/-! ### arguments, displays -/
theorem a_nil : XA X env [] (some ()) (fun _ => []) := paImp pa_nil fun σ H Q ⟨W0, W, hH, E, x, hx, q⟩ => by
  subst hH
  exact q [] W (Le.refl E.ok) .nil
theorem a_dat {es : List Expr} {m : Option τ} {ms : Option δ} {svs : δ → List SV} (h : XE X env e m) (hs : XA X env es ms svs) (hst : starEach (e :: es) X.env = (false, eval e X.env) :: starEach es X.env := by rfl) :
    XA X env (e :: es) (m.bind fun x => ms.bind fun y => some (x, y)) (fun p => .dat (em p.1) :: svs p.2) := by
  refine paImp (pa_cons h hs hst) fun σ H Q ⟨W0, W, hH, E, z, hz, q⟩ => ?_
  subst hH
  obtain ⟨x, hx, hz⟩ := bind_some hz
  obtain ⟨y, hy, hz⟩ := bind_some hz
  cases hz
  refine use_x E hx fun v W1 l1 r1 => ?_
  refine use_a (E.mono l1) hy fun vs W2 l2 r2 => ?_
  exact q _ W2 (l1.trans l2) (.dat (r1.mono l2.b) r2)
theorem a_bor {es : List Expr} {m : Option (List τ)} {ms : Option δ} {svs : δ → List SV} (h : XQ X env e m) (hs : XA X env es ms svs) (hst : starEach (e :: es) X.env = (false, eval e X.env) :: starEach es X.env := by rfl) :
    XA X env (e :: es) (m.bind fun x => ms.bind fun y => some (x, y)) (fun p => .bor (p.1.map em) :: svs p.2) := by
  refine paImp (pa_cons h hs hst) fun σ H Q ⟨W0, W, hH, E, z, hz, q⟩ => ?_
  subst hH
  obtain ⟨x, hx, hz⟩ := bind_some hz
  obtain ⟨y, hy, hz⟩ := bind_some hz
  cases hz
  refine use_q E hx fun a vs W1 l1 s1 r1 => ?_
  refine use_a (E.mono l1) hy fun us W2 l2 r2 => ?_
  exact q _ W2 (l1.trans l2) (.bor (l2.h.seq s1) (r1.mono l2.b) r2)
/-- items of one type, as data -/
abbrev XI [Em τ] (X : Cx) (env : List SV) (es : List Expr) (m : Option (List τ)) : Prop := PA X es (tA X.K env m fun xs => xs.map fun x => SV.dat (em x))
theorem i_nil : XI (τ := τ) X env [] (some []) := paImp pa_nil fun σ H Q ⟨W0, W, hH, E, x, hx, q⟩ => by
  subst hH
  cases hx
  exact q [] W (Le.refl E.ok) .nil
theorem i_cons {es : List Expr} {m : Option τ} {ms : Option (List τ)} (h : XE X env e m) (hs : XI X env es ms) (hst : starEach (e :: es) X.env = (false, eval e X.env) :: starEach es X.env := by rfl) :
    XI X env (e :: es) (m.bind fun x => ms.bind fun y => some (x :: y)) := by
  refine paImp (pa_cons h hs hst) fun σ H Q ⟨W0, W, hH, E, z, hz, q⟩ => ?_
  subst hH
  obtain ⟨x, hx, hz⟩ := bind_some hz
  obtain ⟨y, hy, hz⟩ := bind_some hz
  cases hz
  refine use_x E hx fun v W1 l1 r1 => ?_
  refine use_a (E.mono l1) hy fun vs W2 l2 r2 => ?_
  exact q _ W2 (l1.trans l2) (.dat (r1.mono l2.b) r2)
theorem Args.items {K : PySem.W.Frag} {W : Wd} : ∀ {vs : List V} {xs : List τ}, Args K W vs (xs.map fun x => SV.dat (em x)) → RpA K W.b vs (xs.map em)
  | _, [], .nil => .nil
  | _, _ :: _, .dat r t => .cons r (Args.items t)
theorem Args.dats {K : PySem.W.Frag} {W : Wd} : ∀ {vs : List V} {ds : List D}, Args K W vs (ds.map SV.dat) → RpA K W.b vs ds
  | _, [], .nil => .nil
  | _, _ :: _, .dat r t => .cons r (Args.dats t)
theorem Args.length {K : PySem.W.Frag} {W : Wd} : ∀ {vs : List V} {svs : List SV}, Args K W vs svs → vs.length = svs.length
  | _, _, .nil => rfl
  | _, _, .dat _ t => by rw [List.length_cons, List.length_cons, Args.length t]
  | _, _, .bor _ _ t => by rw [List.length_cons, List.length_cons, Args.length t]
def sz (n : Nat) : Prop := n < 16777216
instance (n : Nat) : Decidable (sz n) := inferInstanceAs (Decidable (n < 16777216))
theorem sz_line {n : Nat} (h : sz n) : n < sizeLine := by rw [sizeLine_eq]; exact h
def lstP (xs : List τ) : Option (List τ) := if sz xs.length then some xs else none
theorem lstP_some {xs ys : List τ} (h : lstP xs = some ys) : ys = xs ∧ sz xs.length := by
  unfold lstP at h
  split at h
  · exact ⟨(Option.some.inj h).symm, by assumption⟩
  · cases h
/-- [a, b, ..] -/
theorem l_lst {es : List Expr} {m : Option (List τ)} (h : XI X env es m) (hl : es.length < 16777216 := by decide) : XL X env (.List es pos) (m.bind lstP) := by
  refine l_of (pe_lst h) fun W0 W σ E x hx Q q => ?_
  obtain ⟨y, hy, hx⟩ := bind_some hx
  obtain ⟨rfl, hz⟩ := lstP_some hx
  refine use_a E hy fun vs W1 l1 r1 => ?_
  have r := r1.items
  refine ⟨by have := r.length; rw [List.length_map] at this; exact Nat.le_of_lt (by rw [this]; exact sz_line hz), fun p hp => ?_⟩
  exact q p vs ⟨W1.b, upd W1.h p (.lst vs)⟩ (l1.trans (Le.layM l1.ok hp)) (l1.h.free hp) upd_same (l1.ok.free hp) r
theorem l_nil : XL (τ := τ) X env (.List [] pos) (some []) := by
  refine l_of (pe_lst pa_nil) fun W0 W σ E x hx Q q => ?_
  cases hx
  refine ⟨by rw [sizeLine_eq]; decide, fun p hp => ?_⟩
  exact q p [] ⟨W.b, upd W.h p (.lst [])⟩ (Le.layM E.ok hp) hp upd_same (E.ok.free hp) .nil
/-- a written display of at least one item -/
theorem l_lst1 {es : List Expr} {m : Option (List τ)} (h : XI X env es m) (hm : ∀ x, m = some x → x.length < 16777216) : XL X env (.List es pos) m := by
  refine l_of (pe_lst h) fun W0 W σ E x hx Q q => ?_
  refine use_a E hx fun vs W1 l1 r1 => ?_
  have r := r1.items
  refine ⟨by have := r.length; rw [List.length_map] at this; exact Nat.le_of_lt (by rw [this]; exact sz_line (hm x hx)), fun p hp => ?_⟩
  exact q p vs ⟨W1.b, upd W1.h p (.lst vs)⟩ (l1.trans (Le.layM l1.ok hp)) (l1.h.free hp) upd_same (l1.ok.free hp) r
/-- (a, b, ..): items by their own types -/
theorem x_tupA {es : List Expr} {x1 : Nat} {m : Option δ} {ds : δ → List D} {f : δ → τ} (h : XA X env es m (fun d => (ds d).map SV.dat)) (hf : ∀ d, em (f d) = .tup (ds d)) (hl : ∀ d, (ds d).length < 16777216) :
    XE X env (.Tuple es x1 pos) (m.bind fun d => some (f d)) := by
  refine x_of (pe_tup h) fun W0 W σ E x hx Q q => ?_
  obtain ⟨y, hy, hx⟩ := bind_some hx
  cases hx
  refine use_a E hy fun vs W1 l1 r1 => ?_
  have r : RpA X.K W1.b vs (ds y) := by
    exact Args.dats r1
  refine ⟨by rw [r.length]; exact Nat.le_of_lt (sz_line (hl y)), fun p hp => ?_⟩
  refine q (.ref p) _ (l1.trans (Le.lay l1.ok (o := .tup vs) hp)) ?_
  rw [hf]
  exact .tup (SqT.of upd_same) (r.mono (Same.new (l1.ok.free hp)))
theorem x_tup2 {x1 : Nat} {ma : Option α} {mb : Option β} (ha : XE X env a ma) (hb : XE X env b mb) (h1 : starEach [a, b] X.env = (false, eval a X.env) :: starEach [b] X.env := by rfl) (h2 : starEach [b] X.env = (false, eval b X.env) :: starEach [] X.env := by rfl) :
    XE X env (.Tuple [a, b] x1 pos) (ma.bind fun x => mb.bind fun y => some (x, y)) := by
  refine (x_tupA (f := fun p : α × β × Unit => (p.1, p.2.1)) (ds := fun p => [em p.1, em p.2.1]) (a_dat ha (a_dat hb a_nil h2) h1) (fun _ => rfl) (fun _ => (by decide : 2 < 16777216))).is ?_
  cases ma with
  | none => rfl
  | some x => cases mb <;> rfl
theorem x_tup3 {x1 : Nat} {ma : Option α} {mb : Option β} {mc : Option γ} (ha : XE X env a ma) (hb : XE X env b mb) (hc : XE X env c mc) (h1 : starEach [a, b, c] X.env = (false, eval a X.env) :: starEach [b, c] X.env := by rfl) (h2 : starEach [b, c] X.env = (false, eval b X.env) :: starEach [c] X.env := by rfl)
    (h3 : starEach [c] X.env = (false, eval c X.env) :: starEach [] X.env := by rfl) :
    XE X env (.Tuple [a, b, c] x1 pos) (ma.bind fun x => mb.bind fun y => mc.bind fun z => some (⟨x, y, z⟩ : T3 α β γ)) := by
  refine (x_tupA (f := fun p : α × β × γ × Unit => (⟨p.1, p.2.1, p.2.2.1⟩ : T3 α β γ)) (ds := fun p => [em p.1, em p.2.1, em p.2.2.1]) (a_dat ha (a_dat hb (a_dat hc a_nil h3) h2) h1) (fun _ => rfl) (fun _ => (by decide : 3 < 16777216))).is ?_
  cases ma with
  | none => rfl
  | some x =>
    cases mb with
    | none => rfl
    | some y => cases mc <;> rfl
/-- a tuple of items of one type -/
theorem x_tupV {es : List Expr} {x1 : Nat} {m : Option (List τ)} (h : XI X env es m) (hm : ∀ x, m = some x → x.length < 16777216) : XE X env (.Tuple es x1 pos) (m.bind fun d => some (⟨d⟩ : Vt τ)) := by
  refine x_of (pe_tup h) fun W0 W σ E x hx Q q => ?_
  obtain ⟨y, hy, hx⟩ := bind_some hx
  cases hx
  refine use_a E hy fun vs W1 l1 r1 => ?_
  have r := r1.items
  refine ⟨by have := r.length; rw [List.length_map] at this; exact Nat.le_of_lt (by rw [this]; exact sz_line (hm y hy)), fun p hp => ?_⟩
  refine q (.ref p) _ (l1.trans (Le.lay l1.ok (o := .tup vs) hp)) ?_
  exact .tup (SqT.of upd_same) (r.mono (Same.new (l1.ok.free hp)))

/-! ### items, lengths -/
theorem atI_rp {K : PySem.W.Frag} {H : Hp} {vs : List V} {ds : List D} {i : Int} {d : D} (r : RpA K H vs ds) (h : atI ds i = some d) : ∃ v, atI vs i = some v ∧ Rp K H v d := by
  unfold atI at h ⊢
  rw [r.length]
  obtain ⟨j, h1, h2⟩ := bind_some h
  obtain ⟨v, h3, h4⟩ := r.get h2
  exact ⟨v, by rw [h1]; exact h3, h4⟩
theorem atI_map {f : α → β} {xs : List α} {i : Int} {x : α} (h : atI xs i = some x) : atI (xs.map f) i = some (f x) := by
  unfold atI at h ⊢
  rw [List.length_map]
  obtain ⟨j, h1, h2⟩ := bind_some h
  rw [h1]
  show (xs.map f)[j]? = some (f x)
  rw [List.getElem?_map, h2]
  rfl
theorem x_ixQ {ma : Option (List τ)} {mi : Option Int} (ha : XQ X env a ma) (hi : XE X env b mi) (hs : PlainIx b := by exact fun _ _ => rfl) : XE X env (.Subscript a b pos) (ma.bind fun xs => mi.bind fun i => atI xs i) := by
  refine x_of (pe_ix ix_list ha hi hs) fun W0 W σ E z hz Q q => ?_
  obtain ⟨x, hx, hz⟩ := bind_some hz
  obtain ⟨y, hy, hz⟩ := bind_some hz
  refine use_q E hx fun p vs W1 l1 s1 r1 => ?_
  refine use_x (E.mono l1) hy fun v W2 l2 r2 => ?_
  cases r2
  obtain ⟨u, h1, h2⟩ := atI_rp r1 (atI_map (f := em) hz)
  exact ⟨p, vs, y, u, rfl, rfl, l2.h.seq s1, h1, q u W2 (l1.trans l2) (h2.mono l2.b)⟩
theorem x_ixV {ma : Option (Vt τ)} {mi : Option Int} (ha : XE X env a ma) (hi : XE X env b mi) (hs : PlainIx b := by exact fun _ _ => rfl) : XE X env (.Subscript a b pos) (ma.bind fun xs => mi.bind fun i => atI xs.l i) := by
  refine x_of (pe_ix ix_tup ha hi hs) fun W0 W σ E z hz Q q => ?_
  obtain ⟨x, hx, hz⟩ := bind_some hz
  obtain ⟨y, hy, hz⟩ := bind_some hz
  refine use_x E hx fun p W1 l1 r1 => ?_
  refine use_x (E.mono l1) hy fun v W2 l2 r2 => ?_
  cases r2
  have r1 : Rp X.K W1.b p (.tup (x.l.map em)) := r1
  cases r1 with
  | tup s1 r1 =>
    obtain ⟨u, h1, h2⟩ := atI_rp r1 (atI_map (f := em) hz)
    exact ⟨_, _, y, u, rfl, rfl, same_t (l1.ok.trans l2.h) s1, h1, q u W2 (l1.trans l2) (h2.mono l2.b)⟩
/-- an item of a tuple of known length: i its place, g what it is -/
theorem x_ixT {ma : Option α} {i : Int} {j : Nat} {p : Pos} {g : α → γ} (ha : XE X env a ma) (hd : ∀ x : α, ∃ ds, em x = .tup ds ∧ atI ds i = some (em (g x))) :
    XE X env (.Subscript a (.Constant (.int i) j p) pos) (ma.bind fun x => some (g x)) := by
  refine x_of (pe_ix ix_tup ha (x_int (env := env)) (fun _ _ => rfl)) fun W0 W σ E z hz Q q => ?_
  obtain ⟨x, hx, hz⟩ := bind_some hz
  cases hz
  refine use_x E hx fun p W1 l1 r1 => ?_
  refine use_x (E.mono l1) rfl fun v W2 l2 r2 => ?_
  cases r2
  obtain ⟨ds, e1, e2⟩ := hd x
  rw [e1] at r1
  cases r1 with
  | tup s1 r1 =>
    obtain ⟨u, h1, h2⟩ := atI_rp r1 e2
    exact ⟨_, _, i, u, rfl, rfl, same_t (l1.ok.trans l2.h) s1, h1, q u W2 (l1.trans l2) (h2.mono l2.b)⟩
def strAt (s : Str) (i : Int) : Option Str := if sz s.length then (atI s.cps.toList i).map fun c => ⟨#[c]⟩ else none
theorem x_ixS {ma : Option Str} {mi : Option Int} (ha : XE X env a ma) (hi : XE X env b mi) (hs : PlainIx b := by exact fun _ _ => rfl) : XE X env (.Subscript a b pos) (ma.bind fun xs => mi.bind fun i => strAt xs i) := by
  refine x_of (pe_ix ix_str ha hi hs) fun W0 W σ E z hz Q q => ?_
  obtain ⟨x, hx, hz⟩ := bind_some hz
  obtain ⟨y, hy, hz⟩ := bind_some hz
  refine use_x E hx fun p W1 l1 r1 => ?_
  refine use_x (E.mono l1) hy fun v W2 l2 r2 => ?_
  cases r1; cases r2
  unfold strAt at hz
  split at hz
  · rename_i hl
    cases hc : atI x.cps.toList y with
    | none => rw [hc] at hz; cases hz
    | some cc =>
      rw [hc] at hz
      cases hz
      exact ⟨x, y, cc, rfl, rfl, Nat.le_of_lt (sz_line hl), hc, q _ W2 (l1.trans l2) (.str _)⟩
  · cases hz
end
section
variable {X : Cx} {env : List SV} {e a b c : Expr} {es : List Expr} {pos p : Pos} [Em τ] [Em α] [Em β] [Em γ] {N : List Str} {sc : Scope} {fb : Str → Bool} {K : PySem.W.Frag} {mg : Str → Option Value} {P : Program} {w : World} {base : Heap} {k : Nat}
/-! ### built-ins by name -/
theorem x_cB {x : Str} {id : String} {r : List V → Hp → VK → Prop} {m : Option δ} {svs : δ → List SV} {f : δ → Option τ} (C : Cf X N sc fb K mg P w base k) (hc : CallR X (.builtin id) r) (ha : XA X env (e :: es) m svs)
    (hr : ∀ d y, f d = some y → ∀ (W : Wd) (vs : List V), Same W.b W.h → Args X.K W vs (svs d) → ∀ Q : VK, (∀ v W', Le W W' → Rp X.K W'.b v (em y) → Q v W'.h) → r vs W.h Q)
    (hm : mg x = none) (hv : bootBuiltins x = some (.builtin id) := by decide +kernel) (hg : glbB sc x = true := by decide +kernel) (hn : x ≠ "__name__" := by decide) (hdb : (x == ("__debug__" : Str)) = false := by decide)
    (he : starEach (e :: es) X.env = (false, eval e X.env) :: starEach es X.env := by rfl) (hpl : (backTo pos (starEach es X.env)).any (·.1) = false := by rfl) : XE X env (.Call (.Name x p) (e :: es) [] pos) (m.bind f) := by
  cases C
  refine x_of (pe_callB hc (glbB_ok hg) hm hv ha hn hdb he hpl) fun W0 W σ E z hz Q q => ?_
  obtain ⟨d, hd, hz⟩ := bind_some hz
  refine use_a E hd fun vs W1 l1 r1 => ?_
  exact hr d z hz W1 vs l1.ok r1 Q fun v W2 l2 r2 => q v W2 (l1.trans l2) r2
theorem x_cT {x : Str} {id : String} {r : List V → Hp → VK → Prop} {m : Option δ} {svs : δ → List SV} {f : δ → Option τ} (C : Cf X N sc fb K mg P w base k) (hc : CallR X (.type id) r) (ha : XA X env (e :: es) m svs)
    (hr : ∀ d y, f d = some y → ∀ (W : Wd) (vs : List V), Same W.b W.h → Args X.K W vs (svs d) → ∀ Q : VK, (∀ v W', Le W W' → Rp X.K W'.b v (em y) → Q v W'.h) → r vs W.h Q)
    (hm : mg x = none) (hv : bootBuiltins x = some (.type id) := by decide +kernel) (hg : glbB sc x = true := by decide +kernel) (hn : x ≠ "__name__" := by decide) (hdb : (x == ("__debug__" : Str)) = false := by decide)
    (he : starEach (e :: es) X.env = (false, eval e X.env) :: starEach es X.env := by rfl) (hpl : (backTo pos (starEach es X.env)).any (·.1) = false := by rfl) : XE X env (.Call (.Name x p) (e :: es) [] pos) (m.bind f) := by
  cases C
  refine x_of (pe_callTy hc (glbB_ok hg) hm hv ha hn hdb he hpl) fun W0 W σ E z hz Q q => ?_
  obtain ⟨d, hd, hz⟩ := bind_some hz
  refine use_a E hd fun vs W1 l1 r1 => ?_
  exact hr d z hz W1 vs l1.ok r1 Q fun v W2 l2 r2 => q v W2 (l1.trans l2) r2
end
end T

set_option Elab.async false
set_option linter.all false
set_option maxRecDepth 100000
set_option maxHeartbeats 4000000
namespace T
open PySem PySem.Spec PyProof.Rows L2
variable {τ α β γ δ ρ B S ι : Type}
/-! ### results, ends of a block -/
inductive RV where
  | dat (d : D)
  | own (ds : List D)
def ResR (K : PySem.W.Frag) (W0 W : Wd) (v : V) : RV → Prop
  | .dat d => Rp K W.b v d
  | .own ds => ∃ a vs, v = .ref a ∧ W.h a = some (.lst vs) ∧ W.b a = none ∧ W0.h a = none ∧ RpA K W.b vs ds
inductive Fl (ρ B S : Type) where
  | nx (s : S)
  | rt (r : ρ)
  | bk (b : B)
  | ct (b : B)
def tG (K : PySem.W.Frag) (env : List SV) (m : Option α) (Z : α → Wd → Hp → Ends → Prop) : TS := fun D σ H =>
  ∃ (W0 W : Wd) (B : Hp), W.h = H ∧ EnvR K W0 W env σ ∧ Same B W.b ∧ ∃ r, m = some r ∧ Z r W0 B D
/-- what must follow: the block's end with the state s | a return | .. -/
def ZN (K : PySem.W.Frag) (envJ : S → List SV) : S → Wd → Hp → Ends → Prop := fun s W0 B D => ∀ W' σ', Same B W'.b → EnvR K W0 W' (envJ s) σ' → D.nx σ' W'.h
def ZR (K : PySem.W.Frag) (res : ρ → RV) : ρ → Wd → Hp → Ends → Prop := fun r W0 _ D => ∀ v W', Le W0 W' → ResR K W0 W' v (res r) → D.rt v W'.h
/-- a def's whole body: the end without a return hands back None -/
def ZRn (K : PySem.W.Frag) (res : ρ → RV) : ρ → Wd → Hp → Ends → Prop := fun r W0 _ D => (∀ v W', Le W0 W' → ResR K W0 W' v (res r) → D.rt v W'.h) ∧ ∀ σ W', Le W0 W' → ResR K W0 W' .non (res r) → D.nx σ W'.h
def ZF (K : PySem.W.Frag) (res : ρ → RV) (envB : B → List SV) (envJ : S → List SV) : Fl ρ B S → Wd → Hp → Ends → Prop := fun f W0 B' D => match f with
  | .nx s => ∀ W' σ', Same B' W'.b → EnvR K W0 W' (envJ s) σ' → D.nx σ' W'.h
  | .rt r => ∀ v W', Le W0 W' → ResR K W0 W' v (res r) → D.rt v W'.h
  | .bk b => ∀ W' σ', Same B' W'.b → EnvR K W0 W' (envB b) σ' → D.bk σ' W'.h
  | .ct b => ∀ W' σ', Same B' W'.b → EnvR K W0 W' (envB b) σ' → D.ct σ' W'.h
/-- an early end: φ r is an end for Z where r is one for Z', whatever follows the block -/
def Early (φ : α → β) (Z' : α → Wd → Hp → Ends → Prop) (Z : β → Wd → Hp → Ends → Prop) : Prop := ∀ r W0 B D u, Z (φ r) W0 B D → Z' r W0 B { D with nx := u }
theorem early_r {K : PySem.W.Frag} {res : ρ → RV} : Early id (ZR K res) (ZR K res) := fun _ _ _ _ _ h => h
theorem early_rn {K : PySem.W.Frag} {res : ρ → RV} : Early id (ZR K res) (ZRn K res) := fun _ _ _ _ _ h => h.1
theorem early_rf {K : PySem.W.Frag} {res : ρ → RV} {envB : B → List SV} {envJ : S → List SV} : Early Fl.rt (ZR K res) (ZF K res envB envJ) := fun _ _ _ _ _ h => h
/-- break, continue -/
def ZB (K : PySem.W.Frag) (envB : B → List SV) : B → Wd → Hp → Ends → Prop := fun b W0 B' D => ∀ W' σ', Same B' W'.b → EnvR K W0 W' (envB b) σ' → D.bk σ' W'.h
def ZC (K : PySem.W.Frag) (envB : B → List SV) : B → Wd → Hp → Ends → Prop := fun b W0 B' D => ∀ W' σ', Same B' W'.b → EnvR K W0 W' (envB b) σ' → D.ct σ' W'.h
theorem early_bf {K : PySem.W.Frag} {res : ρ → RV} {envB : B → List SV} {envJ : S → List SV} : Early Fl.bk (ZB K envB) (ZF K res envB envJ) := fun _ _ _ _ _ h => h
theorem early_cf {K : PySem.W.Frag} {res : ρ → RV} {envB : B → List SV} {envJ : S → List SV} : Early Fl.ct (ZC K envB) (ZF K res envB envJ) := fun _ _ _ _ _ h => h
section
variable {X : Cx} {env env' : List SV} {e a b c : Expr} {st : Stmt} {rest : List Stmt} {pos p : Pos} [Em τ] [Em α] [Em β] [Em γ] {N : List Str} {sc : Scope} {fb : Str → Bool} {K : PySem.W.Frag} {mg : Str → Option Value} {P : Program} {w : World} {base : Heap} {k : Nat}
variable {Z : ρ → Wd → Hp → Ends → Prop}
abbrev GS (X : Cx) (env : List SV) (sts : List Stmt) (m : Option ρ) (Z : ρ → Wd → Hp → Ends → Prop) : Prop := PSs X sts (tG X.K env m Z)
theorem g_is {sts : List Stmt} {m m' : Option ρ} (h : GS X env sts m Z) (q : m = m' := by rfl) : GS X env sts m' Z := q ▸ h
theorem g_env {sts : List Stmt} {m : Option ρ} (h : GS X env' sts m Z) (q : EnvLe env env') : GS X env sts m Z := pssImp h fun D σ H ⟨W0, W, B, hH, E, sb, r, hr, z⟩ => ⟨W0, W, B, hH, E.weak q, sb, r, hr, z⟩
/-- a statement, then the rest -/
theorem g_of {t : TS} {u : ι → TS} {m : Option ρ} (h1 : PS X st t) (h2 : ∀ i, PSs X rest (u i))
    (kk : ∀ (W0 W : Wd) (B : Hp) (σ : St) (D : Ends) (r : ρ), EnvR X.K W0 W env σ → Same B W.b → m = some r → Z r W0 B D → t { D with nx := fun σ' H' => ∃ i, u i D σ' H' } σ W.h) : GS X env (st :: rest) m Z := by
  refine pssImp (pss_cons h1 (pssEx h2)) fun D σ H ⟨W0, W, B, hH, E, sb, r, hr, z⟩ => ?_
  subst hH
  exact kk W0 W B σ D r E sb hr z
theorem use_g {W0 W : Wd} {B : Hp} {σ : St} {m : Option ρ} {r : ρ} {D : Ends} (E : EnvR K W0 W env σ) (sb : Same B W.b) (h : m = some r) (z : Z r W0 B D) : tG K env m Z D σ W.h := ⟨W0, W, B, rfl, E, sb, r, h, z⟩

/-! ### assignments -/
theorem g_set (C : Cf X N sc fb K mg P w base k) (i : Nat) {n : Str} {p' : Pos} {me : Option τ} {f : τ → Option ρ} (he : XE X env e me) (hr : ∀ x, GS X (env.set i (.dat (em x))) rest (f x) Z)
    (hi : N[i]? = some n := by rfl) (hl : locB sc fb n = true := by decide +kernel) (hs : ∀ E : Env, swapsWith e (some (.Name n p')) pos.line E = pure false := by intro _; rfl) :
    GS X env (.Assign [.Name n p'] e pos :: rest) (me.bind f) Z := by
  cases C with
  | mk nd calm po rm =>
    refine g_of (ps_set nd hi (locB_ok hl) he (hs _) (locB_fn hl)) hr fun W0 W B σ D r E sb hm z => ?_
    · obtain ⟨x, hx, hm⟩ := bind_some hm
      exact use_x E hx fun v W1 l1 r1 => ⟨x, use_g ((E.mono l1).putD r1) (sb.trans l1.b) hm z⟩
theorem g_setL (C : Cf X N sc fb K mg P w base k) (i : Nat) {n : Str} {p' : Pos} {me : Option (List τ)} {f : List τ → Option ρ} (he : XL X env e me) (hr : ∀ x, GS X (env.set i (.own (x.map em))) rest (f x) Z)
    (hi : N[i]? = some n := by rfl) (hl : locB sc fb n = true := by decide +kernel) (hs : ∀ E : Env, swapsWith e (some (.Name n p')) pos.line E = pure false := by intro _; rfl) :
    GS X env (.Assign [.Name n p'] e pos :: rest) (me.bind f) Z := by
  cases C with
  | mk nd calm po rm =>
    refine g_of (ps_set nd hi (locB_ok hl) he (hs _) (locB_fn hl)) hr fun W0 W B σ D r E sb hm z => ?_
    · obtain ⟨x, hx, hm⟩ := bind_some hm
      exact use_l E hx fun a vs W1 l1 h0 h1 hb r1 => ⟨x, use_g (E.putL l1 h0 h1 hb r1) (sb.trans l1.b) hm z⟩
/-- y = x, x an owned list that is not asked any more -/
theorem g_move (C : Cf X N sc fb K mg P w base k) (i j : Nat) {n n' : Str} {p' p2 : Pos} {ds : List D} {m : Option ρ} (hj : env[j]? = some (.own ds) := by rfl) (hr : GS X ((env.set j .any).set i (.own ds)) rest m Z)
    (hi : N[i]? = some n := by rfl) (hl : locB sc fb n = true := by decide +kernel) (hi' : N[j]? = some n' := by rfl) (hv : visB sc n' = true := by decide +kernel)
    (hd : (n' == ("__debug__" : Str)) = false := by decide) (hc : (n' == ("__classdict__" : Str)) = false := by decide) :
    GS X env (.Assign [.Name n p'] (.Name n' p2) pos :: rest) m Z := by
  cases C with
  | mk nd calm po rm =>
    refine g_of (ι := Unit) (ps_set nd hi (locB_ok hl) (pe_var hi' (visB_ok hv) hd hc) rfl (locB_fn hl)) (fun _ => hr) fun W0 W B σ D r E sb hm z => ?_
    · obtain ⟨a, vs, h1, h2, h3, h0, r1⟩ := E.own hj
      refine ⟨_, h1, (), ?_⟩
      have E1 : EnvR X.K W0 W (env.set j .any) σ := by
        refine ⟨E.le, by rw [List.length_set]; exact E.len, fun x sv ex => ?_, fun x y dx dy n ex ey => ?_⟩
        · rcases set_get ex with ⟨rfl, hlt, rfl⟩ | ⟨_, ex⟩
          · exact ⟨_, h1, trivial⟩
          · exact E.slot x sv ex
        · rcases set_get ex with ⟨_, _, q⟩ | ⟨_, ex⟩
          · cases q
          · rcases set_get ey with ⟨_, _, q⟩ | ⟨_, ey⟩
            · cases q
            · exact E.apart x y dx dy n ex ey
      refine use_g (E1.put (sv := .own ds) ⟨a, vs, rfl, h2, h3, h0, r1⟩ fun es _ x dx nx ex zz => ?_) sb hm z
      rcases set_get ex with ⟨_, _, q⟩ | ⟨nj, ex⟩
      · cases q
      · exact E.apart x j dx ds nj ex hj (zz.trans h1.symm)
/-- an expression as a statement -/
theorem g_drop {me : Option τ} {f : τ → Option ρ} (he : XE X env e me) (hr : ∀ x, GS X env rest (f x) Z) (hs : ∀ E : Env, swapsWith e none pos.line E = pure false := by intro _; rfl) : GS X env (.Expr e pos :: rest) (me.bind f) Z :=
  g_of (ps_expr he (hs _)) hr fun W0 W B σ D r E sb hm z => by
    obtain ⟨x, hx, hm⟩ := bind_some hm
    exact use_x E hx fun v W1 l1 r1 => ⟨x, use_g (E.mono l1) (sb.trans l1.b) hm z⟩
theorem g_pass {m : Option ρ} (hr : GS X env rest m Z) : GS X env (.Pass pos :: rest) m Z :=
  g_of (ι := Unit) ps_pass (fun _ => hr) fun W0 W B σ D r E sb hm z => ⟨(), use_g E sb hm z⟩
/-! ### lists that change -/
def appP (xs : List τ) (x : τ) : Option (List τ) := if sz xs.length then some (xs ++ [x]) else none
theorem appP_some {xs ys : List τ} {x : τ} (h : appP xs x = some ys) : ys = xs ++ [x] ∧ sz xs.length := by
  unfold appP at h
  split at h
  · exact ⟨(Option.some.inj h).symm, by assumption⟩
  · cases h

/-- xs.append(e) -/
theorem g_append (C : Cf X N sc fb K mg P w base k) (i : Nat) {n : Str} {p1 apos p3 : Pos} {xs : List τ} {me : Option τ} {f : List τ → Option ρ} (he : XE X env e me) (hr : ∀ ys : List τ, GS X (env.set i (.own (ys.map em))) rest (f ys) Z)
    (hx : env[i]? = some (.own (xs.map em)) := by rfl) (hi : N[i]? = some n := by rfl) (hv : visB sc n = true := by decide +kernel)
    (hd : (n == ("__debug__" : Str)) = false := by decide) (hcd : (n == ("__classdict__" : Str)) = false := by decide)
    (hbase : ∀ E : Env, attributeBase (.Name n p1) "append" E (eval (.Name n p1) E) = eval (.Name n p1) E := by intro _; rfl)
    (hfew : ∀ E : Env, ((backTo p3 (starEach [e] E)).all (fun x => !x.1) && (backToKw p3 (keywordEach [] E)).all (fun x => x.1.isSome)
      && decide ([e].length + ([] : List Keyword).length + (if ([] : List Keyword).isEmpty then 0 else 1) < 30)) = true := by intro _; rfl)
    (hline : (apos.endLine == p3.line) = true := by rfl) (hs : ∀ E : Env, starEach [e] E = (false, eval e E) :: starEach [] E := by intro _; rfl) (hplain : ∀ E : Env, (backTo p3 (starEach ([] : List Expr) E)).any (·.1) = false := by intro _; rfl) :
    GS X env (.Expr (.Call (.Attribute (.Name n p1) "append" apos) [e] [] p3) pos :: rest) (me.bind fun x => (appP xs x).bind f) Z := by
  cases C
  refine g_of (ps_expr (pe_bm PySem.F.plainAttrs_list PySem.F.slot_list_append PySem.F.type_list_append mt_append (pe_var hi (visB_ok hv) hd hcd) (pa_cons he pa_nil (hs _)) (hbase _) (hfew _) hline (hs _) (hplain _)) rfl) hr fun W0 W B σ D r E sb hm z => ?_
  obtain ⟨x, hme, hm⟩ := bind_some hm
  obtain ⟨ys, hy, hm⟩ := bind_some hm
  obtain ⟨rfl, hz⟩ := appP_some hy
  obtain ⟨a, vs, h1, h2, h3, h0, r1⟩ := E.own hx
  refine ⟨_, h1, Or.inl ⟨rfl, _, SqL.of h2⟩, ?_⟩
  refine use_x E hme fun v W1 l1 rv => ?_
  have E1 := E.mono l1
  have hl : vs.length = xs.length := by have := r1.length; rwa [List.length_map] at this
  refine ⟨a, vs, v, rfl, rfl, l1.h _ _ h2, by rw [hl]; exact sz_line hz, xs ++ [x], ?_⟩
  refine use_g (E1.write (es := (xs ++ [x]).map em) hx h1 ?_) (sb.trans l1.b) hm z
  rw [List.map_append]
  exact (r1.mono l1.b).append (.cons rv .nil)
def setP (xs : List τ) (i : Int) (x : τ) : Option (List τ) := (ixN xs.length i).map fun j => xs.set j x
/-- xs[j] = e -/
theorem g_setItem (C : Cf X N sc fb K mg P w base k) (i : Nat) {n : Str} {p1 p2 : Pos} {xs : List τ} {me : Option τ} {mi : Option Int} {f : List τ → Option ρ} (he : XE X env e me) (hj : XE X env b mi)
    (hr : ∀ ys : List τ, GS X (env.set i (.own (ys.map em))) rest (f ys) Z)
    (hx : env[i]? = some (.own (xs.map em)) := by rfl) (hi : N[i]? = some n := by rfl) (hv : visB sc n = true := by decide +kernel)
    (hd : (n == ("__debug__" : Str)) = false := by decide) (hcd : (n == ("__classdict__" : Str)) = false := by decide)
    (ha : ∀ E : Env, ∀ v, assign (.Subscript (.Name n p1) b p2) E v = (do
      let ov ← holding [v] (eval (.Name n p1) E)
      let iv ← holding [v, ov] (eval b E)
      standAt p2
      holding [v, ov, iv] (setItem ov iv v)
      release [v, ov, iv] []) := by intro _ _; rfl)
    (hs : ∀ E : Env, swapsWithSole [.Subscript (.Name n p1) b p2] e pos.line E = pure false := by intro _; rfl) (hw : ∀ E : Env, swappedStores [.Subscript (.Name n p1) b p2] e E = pure none := by intro _; rfl)
    (h1 : ∀ E : Env, (assignEach [.Subscript (.Name n p1) b p2] E).map (·.2) = [assign (.Subscript (.Name n p1) b p2) E] := by intro _; rfl) :
    GS X env (.Assign [.Subscript (.Name n p1) b p2] e pos :: rest) (me.bind fun x => mi.bind fun j => (setP xs j x).bind f) Z := by
  cases C
  refine g_of (ps_asg he (pg_sub (pe_var hi (visB_ok hv) hd hcd) hj set_list (ha _)) (hs _) (hw _) (h1 _)) hr fun W0 W B σ D r E sb hm z => ?_
  obtain ⟨x, hme, hm⟩ := bind_some hm
  obtain ⟨j, hmj, hm⟩ := bind_some hm
  obtain ⟨ys, hy, hm⟩ := bind_some hm
  unfold setP at hy
  cases q : ixN xs.length j with
  | none => rw [q] at hy; cases hy
  | some t =>
    rw [q] at hy
    have hy : xs.set t x = ys := Option.some.inj hy
    subst hy
    refine use_x E hme fun v W1 l1 rv => ?_
    have E1 := E.mono l1
    obtain ⟨a, vs, h1, h2, h3, h0, r1⟩ := E1.own hx
    refine ⟨_, h1, ?_⟩
    refine use_x E1 hmj fun u W2 l2 ru => ?_
    cases ru
    have hl : vs.length = xs.length := by have := r1.length; rwa [List.length_map] at this
    refine ⟨a, vs, j, t, rfl, rfl, l2.h _ _ h2, by rw [hl]; exact q, xs.set t x, ?_⟩
    refine use_g ((E1.mono l2).write (es := (xs.set t x).map em) hx h1 ?_) ((sb.trans l1.b).trans l2.b) hm z
    rw [List.map_set]
    exact (r1.mono l2.b).set (rv.mono l2.b) t
/-- an owned list becomes data for good -/
theorem EnvR.freeze {W0 W : Wd} {σ : St} {i : Nat} {ds : List D} (E : EnvR K W0 W env σ) (hi : env[i]? = some (.own ds)) : ∃ W', W'.h = W.h ∧ Same W.b W'.b ∧ EnvR K W0 W' (env.set i (.dat (.lst ds))) σ := by
  obtain ⟨a, vs, h1, h2, h3, h0, r1⟩ := E.own hi
  have sb : Same W.b (upd W.b a (.lst vs)) := Same.new h3
  refine ⟨⟨upd W.b a (.lst vs), W.h⟩, rfl, sb, ⟨E.le.b.trans sb, E.le.h, fun c o q => ?_, fun c u q => ?_⟩, by rw [List.length_set]; exact E.len, fun j sj e => ?_, fun x y dx dy nn ex ey => ?_⟩
  · show upd W.b a _ c = _
    rw [upd_ne (ne_of_none q h0)]; exact E.le.f c o q
  · have q : upd W.b a (.lst vs) c = some u := q
    show W.h c = some u
    by_cases hc : c = a
    · subst hc; rw [upd_same] at q; exact h2.trans q
    · rw [upd_ne hc] at q; exact E.le.ok c u q
  · rcases set_get e with ⟨rfl, _, rfl⟩ | ⟨nj, e⟩
    · exact ⟨_, h1, _, rfl, .lst (SqL.of (show upd W.b a (.lst vs) a = _ from upd_same)) (r1.mono sb)⟩
    · obtain ⟨o, q1, q2⟩ := E.slot j sj e
      refine ⟨o, q1, ?_⟩
      cases sj with
      | any => trivial
      | dat d => obtain ⟨v, e1, r⟩ := q2; exact ⟨v, e1, r.mono sb⟩
      | bor d => exact q2
      | own d =>
        obtain ⟨c, us, e1, e2, e3, e0, r⟩ := q2
        subst e1
        have nc : c ≠ a := fun z => by
          subst z
          exact E.apart j i d ds nj e hi (q1.trans h1.symm)
        exact ⟨c, us, rfl, e2, by show upd W.b a _ c = _; rw [upd_ne nc]; exact e3, e0, r.mono sb⟩
  · rcases set_get ex with ⟨_, _, q⟩ | ⟨_, ex⟩
    · cases q
    · rcases set_get ey with ⟨_, _, q⟩ | ⟨_, ey⟩
      · cases q
      · exact E.apart x y dx dy nn ex ey
theorem g_freeze (i : Nat) {sts : List Stmt} {ds : List D} {m : Option ρ} (hi : env[i]? = some (.own ds)) (h : GS X (env.set i (.dat (.lst ds))) sts m Z) : GS X env sts m Z :=
  pssImp h fun D σ H ⟨W0, W, B, hH, E, sb, r, hr, z⟩ => by
    subst hH
    obtain ⟨W', e, sb', E'⟩ := E.freeze hi
    exact ⟨W0, W', B, e, E', sb.trans sb', r, hr, z⟩
/-! ### the end of a block, returns -/
theorem g_nil {envJ : ρ → List SV} {s : ρ} (h : EnvLe env (envJ s)) : GS X env [] (some s) (ZN X.K envJ) := pssImp pss_nil fun D σ H ⟨W0, W, B, hH, E, sb, r, hr, z⟩ => by
  subst hH
  cases hr
  exact z W σ sb (E.weak h)
theorem g_nilF {res : α → RV} {envB : B → List SV} {envJ : S → List SV} {s : S} (h : EnvLe env (envJ s)) : GS X env [] (some (Fl.nx s : Fl α B S)) (ZF X.K res envB envJ) := pssImp pss_nil fun D σ H ⟨W0, W, B, hH, E, sb, r, hr, z⟩ => by
  subst hH
  cases hr
  exact z W σ sb (E.weak h)
theorem g_nilR {res : ρ → RV} {r : ρ} (h : res r = .dat .non) : GS X env [] (some r) (ZRn X.K res) := pssImp pss_nil fun D σ H ⟨W0, W, B, hH, E, sb, r', hr, z⟩ => by
  subst hH
  cases hr
  exact z.2 σ W E.le (by rw [h]; exact .non)
theorem g_ret {φ : τ → ρ} {me : Option τ} (he : XE X env e me) (hz : ∀ x W0 B D, Z (φ x) W0 B D → ZR X.K (fun x : τ => RV.dat (em x)) x W0 B D) : GS X env (.Return (some e) pos :: rest) (me.bind fun x => some (φ x)) Z :=
  g_of (ι := Empty) (u := fun _ => tNever) (ps_ret he) (fun i => i.elim) fun W0 W B σ D r E sb hm z => by
    obtain ⟨x, hx, hm⟩ := bind_some hm
    cases hm
    exact use_x E hx fun v W1 l1 r1 => hz x W0 B D z v W1 (E.le.trans l1) r1
theorem g_retL {φ : List τ → ρ} {me : Option (List τ)} (he : XL X env e me) (hz : ∀ x W0 B D, Z (φ x) W0 B D → ZR X.K (fun x : List τ => RV.own (x.map em)) x W0 B D) : GS X env (.Return (some e) pos :: rest) (me.bind fun x => some (φ x)) Z :=
  g_of (ι := Empty) (u := fun _ => tNever) (ps_ret he) (fun i => i.elim) fun W0 W B σ D r E sb hm z => by
    obtain ⟨x, hx, hm⟩ := bind_some hm
    cases hm
    exact use_l E hx fun a vs W1 l1 h0 h1 hb r1 => hz x W0 B D z _ W1 (E.le.trans l1) ⟨a, vs, rfl, h1, hb, E.le.h.free h0, r1⟩
theorem g_retO (C : Cf X N sc fb K mg P w base k) (i : Nat) {n : Str} {p' : Pos} {x : List τ} {r : ρ} (hz : ∀ W0 B D, Z r W0 B D → ZR X.K (fun x : List τ => RV.own (x.map em)) x W0 B D)
    (hx : env[i]? = some (.own (x.map em)) := by rfl) (hi : N[i]? = some n := by rfl) (hv : visB sc n = true := by decide +kernel)
    (hd : (n == ("__debug__" : Str)) = false := by decide) (hcd : (n == ("__classdict__" : Str)) = false := by decide) : GS X env (.Return (some (.Name n p')) pos :: rest) (some r) Z := by
  cases C
  refine g_of (ι := Empty) (u := fun _ => tNever) (ps_ret (pe_var hi (visB_ok hv) hd hcd)) (fun i => i.elim) fun W0 W B σ D r E sb hm z => ?_
  cases hm
  obtain ⟨a, vs, h1, h2, h3, h0, r1⟩ := E.own hx
  exact ⟨_, h1, hz W0 B D z _ W E.le ⟨a, vs, rfl, h2, h3, h0, r1⟩⟩
theorem g_retN {r : ρ} (hz : ∀ W0 B D, Z r W0 B D → ZR X.K (fun _ : Unit => RV.dat .non) () W0 B D) : GS X env (.Return none pos :: rest) (some r) Z :=
  g_of (ι := Empty) (u := fun _ => tNever) ps_retN (fun i => i.elim) fun W0 W B σ D r E sb hm z => by
    cases hm
    exact hz W0 B D z _ W E.le .non
theorem g_break {b : B} {φ : B → ρ} {envB : B → List SV} (hz : ∀ b W0 B' D, Z (φ b) W0 B' D → ZB X.K envB b W0 B' D) (h : EnvLe env (envB b)) : GS X env (.Break pos :: rest) (some (φ b)) Z :=
  g_of (ι := Empty) (u := fun _ => tNever) ps_break (fun i => i.elim) fun W0 W B σ D r E sb hm z => by
    cases hm
    exact hz b W0 _ D z W σ sb (E.weak h)
theorem g_continue {b : B} {φ : B → ρ} {envB : B → List SV} (hz : ∀ b W0 B' D, Z (φ b) W0 B' D → ZC X.K envB b W0 B' D) (h : EnvLe env (envB b)) : GS X env (.Continue pos :: rest) (some (φ b)) Z :=
  g_of (ι := Empty) (u := fun _ => tNever) ps_continue (fun i => i.elim) fun W0 W B σ D r E sb hm z => by
    cases hm
    exact hz b W0 _ D z W σ sb (E.weak h)
/-! ### if -/
/-- the first way leaves -/
theorem g_ifX {Z' : α → Wd → Hp → Ends → Prop} {φ : α → ρ} {mc : Option Bool} {m1 : Option α} {m2 : Option ρ} {thn : List Stmt} (hc : XT X env c mc) (h1 : GS X env thn m1 Z') (hz : Early φ Z' Z) (h2 : GS X env rest m2 Z) :
    GS X env (.If c thn [] pos :: rest) (mc.bind fun x => if x = true then m1.bind fun r => some (φ r) else m2) Z :=
  g_of (ι := Unit) (ps_if hc h1 pss_nil) (fun _ => h2) fun W0 W B σ D r E sb hm z => by
    obtain ⟨x, hx, hm⟩ := bind_some hm
    refine use_t E hx fun W1 l1 => ?_
    cases x with
    | true =>
      obtain ⟨y, hy, hm⟩ := bind_some (show m1.bind (fun r => some (φ r)) = some r by simpa using hm)
      cases hm
      exact use_g (E.mono l1) (sb.trans l1.b) hy (hz y W0 _ D _ z)
    | false => exact ⟨(), use_g (E.mono l1) (sb.trans l1.b) (by simpa using hm) z⟩
/-- both ways leave -/
theorem g_ifXX {mc : Option Bool} {m1 m2 : Option ρ} {thn els : List Stmt} (hc : XT X env c mc) (h1 : GS X env thn m1 Z) (h2 : GS X env els m2 Z) (hz : ∀ r W0 B D u, Z r W0 B D → Z r W0 B { D with nx := u }) :
    GS X env (.If c thn els pos :: rest) (mc.bind fun x => if x = true then m1 else m2) Z :=
  g_of (ι := Empty) (u := fun _ => tNever) (ps_if hc h1 h2) (fun i => i.elim) fun W0 W B σ D r E sb hm z => by
    obtain ⟨x, hx, hm⟩ := bind_some hm
    refine use_t E hx fun W1 l1 => ?_
    cases x with
    | true => exact use_g (E.mono l1) (sb.trans l1.b) (by simpa using hm) (hz r W0 _ D _ z)
    | false => exact use_g (E.mono l1) (sb.trans l1.b) (by simpa using hm) (hz r W0 _ D _ z)
/-- both ways meet behind -/
theorem g_ifJ {envJ : S → List SV} {mc : Option Bool} {m1 m2 : Option S} {kk : S → Option ρ} {thn els : List Stmt} (hc : XT X env c mc) (h1 : GS X env thn m1 (ZN X.K envJ)) (h2 : GS X env els m2 (ZN X.K envJ))
    (hr : ∀ s, GS X (envJ s) rest (kk s) Z) : GS X env (.If c thn els pos :: rest) ((mc.bind fun x => if x = true then m1 else m2).bind kk) Z :=
  g_of (ps_if hc h1 h2) hr fun W0 W B σ D r E sb hm z => by
    obtain ⟨s, hs, hm⟩ := bind_some hm
    obtain ⟨x, hx, hs⟩ := bind_some hs
    refine use_t E hx fun W1 l1 => ?_
    cases x with
    | true => exact use_g (E.mono l1) (sb.trans l1.b) (by simpa using hs) fun W' σ' sb' E' => ⟨s, use_g E' sb' hm z⟩
    | false => exact use_g (E.mono l1) (sb.trans l1.b) (by simpa using hs) fun W' σ' sb' E' => ⟨s, use_g E' sb' hm z⟩
/-- ways that leave or meet: in a loop's body -/
def thenF (m : Option (Fl α B S)) (f : S → Option (Fl α B δ)) : Option (Fl α B δ) := m.bind fun x => match x with
  | .nx s => f s
  | .rt r => some (.rt r)
  | .bk b => some (.bk b)
  | .ct b => some (.ct b)
theorem g_ifF {res : α → RV} {envB : B → List SV} {envJ : S → List SV} {envE : δ → List SV} {mc : Option Bool} {m1 m2 : Option (Fl α B S)} {kk : S → Option (Fl α B δ)} {thn els : List Stmt} (hc : XT X env c mc)
    (h1 : GS X env thn m1 (ZF X.K res envB envJ)) (h2 : GS X env els m2 (ZF X.K res envB envJ)) (hr : ∀ s, GS X (envJ s) rest (kk s) (ZF X.K res envB envE)) :
    GS X env (.If c thn els pos :: rest) (thenF (mc.bind fun x => if x = true then m1 else m2) kk) (ZF X.K res envB envE) :=
  g_of (ps_if hc h1 h2) hr fun W0 W B σ D r E sb hm z => by
    obtain ⟨y, hy, hm⟩ := bind_some hm
    obtain ⟨x, hx, hy⟩ := bind_some hy
    have zz : ZF X.K res envB envJ y W0 B { D with nx := fun σ' H' => ∃ i, tG X.K (envJ i) (kk i) (ZF X.K res envB envE) D σ' H' } := by
      cases y with
      | nx s => exact fun W' σ' sb' E' => ⟨s, use_g E' sb' hm z⟩
      | rt r' => cases hm; exact z
      | bk b => cases hm; exact z
      | ct b => cases hm; exact z
    refine use_t E hx fun W1 l1 => ?_
    cases x with
    | true => exact use_g (E.mono l1) (sb.trans l1.b) (by simpa using hy) zz
    | false => exact use_g (E.mono l1) (sb.trans l1.b) (by simpa using hy) zz
end
end T

set_option Elab.async false
set_option linter.all false
set_option maxRecDepth 100000
set_option maxHeartbeats 4000000
namespace T
open PySem PySem.Spec PyProof.Rows L2
variable {τ α β γ δ ρ B S ι : Type}
/-! ### what is walked -/
structure Walk [Em τ] (K : PySem.W.Frag) (W0 W1 : Wd) (J : It) (xs : List τ) : Prop where
  item : ∀ (i : Nat) (x : τ) (W : Wd), xs[i]? = some x → Same W1.b W.b → Le W0 W → J.go i W.h ∧ ∀ v H', J.yld i W.h v H' → ∃ W', Le W W' ∧ W'.h = H' ∧ Rp K W'.b v (em x)
  stop : ∀ W : Wd, Same W1.b W.b → Le W0 W → J.stop xs.length W.h
def tW [Em τ] (K : PySem.W.Frag) (env : List SV) (m : Option (List τ)) : TI := fun σ H R =>
  ∃ W0 W : Wd, W.h = H ∧ EnvR K W0 W env σ ∧ ∃ x, m = some x ∧ ∀ J W', Le W W' → Walk K W0 W' J x → R J W'.h
abbrev XWk [Em τ] (X : Cx) (env : List SV) (tg e : Expr) (m : Option (List τ)) : Prop := PI X tg e (tW X.K env m)
/-- targets: is are the slots that are stored -/
def tGt [Em τ] (K : PySem.W.Frag) (env : List SV) (env' : τ → List SV) (is : List Nat) : TG := fun v σ H Q =>
  ∃ (W0 W : Wd) (x : τ), W.h = H ∧ EnvR K W0 W env σ ∧ Rp K W.b v (em x) ∧ ∀ σ', EnvR K W0 W (env' x) σ' → (∀ vs : List Nat, (∀ i ∈ is, i ∈ vs) → wipe σ' vs = wipe σ vs) → Q σ' W.h
abbrev XG [Em τ] (X : Cx) (env : List SV) (tg : Expr) (env' : τ → List SV) (is : List Nat) : Prop := PG X tg (tGt X.K env env' is)
theorem wipe_set {σ : St} {v : Option V} : ∀ {vs : List Nat} {i : Nat}, i ∈ vs → wipe (σ.set i v) vs = wipe σ vs
  | u :: vs, i, h => by
    by_cases hv : i ∈ vs
    · unfold wipe
      rw [wipe_set hv]
    · have e : i = u := by
        rcases List.mem_cons.mp h with e | e
        · exact e
        · exact absurd e hv
      subst e
      unfold wipe
      have aux : ∀ {ws : List Nat} {τ : St}, i ∉ ws → wipe (τ.set i v) ws = (wipe τ ws).set i v := by
        intro ws
        induction ws with
        | nil => intro τ _; rfl
        | cons z zs ih =>
          intro τ hz
          have h1 : i ≠ z := fun e => hz (e ▸ List.mem_cons_self)
          have h2 : i ∉ zs := fun e => hz (List.mem_cons_of_mem _ e)
          unfold wipe
          rw [ih h2, List.set_comm _ _ h1]
      rw [aux hv, List.set_set]
section
variable {X : Cx} {env env' : List SV} {e a b c tg : Expr} {st : Stmt} {body rest : List Stmt} {pos p p2 : Pos} [Em τ] [Em α] [Em β] [Em γ] {N : List Str} {sc : Scope} {fb : Str → Bool} {K : PySem.W.Frag} {mg : Str → Option Value} {P : Program} {w : World} {base : Heap} {k : Nat}
variable {Z : ρ → Wd → Hp → Ends → Prop}
theorem use_w {W0 W : Wd} {σ : St} {m : Option (List τ)} {x : List τ} {R : It → Hp → Prop} (E : EnvR K W0 W env σ) (h : m = some x) (q : ∀ J W', Le W W' → Walk K W0 W' J x → R J W'.h) : tW K env m σ W.h R := ⟨W0, W, rfl, E, x, h, q⟩
/-- a list that stands for good -/
theorem w_x {m : Option (List τ)} (h : XE X env e m) : XWk X env tg e m := by
  refine piImp (pi_list h) fun σ H R ⟨W0, W, hH, E, x, hx, q⟩ => ?_
  subst hH
  refine use_x E hx fun v W1 l1 r1 => ?_
  have r1 : Rp X.K W1.b v (.lst (x.map em)) := r1
  cases r1 with
  | @lst ad vs _ s1 r1 =>
    refine ⟨ad, rfl, ⟨_, l1.ok.seq s1⟩, q _ W1 l1 ⟨fun i y W2 hy sb l0 => ?_, fun W2 sb l0 => ?_⟩⟩
    · obtain ⟨u, h1, h2⟩ := r1.get (show (x.map em)[i]? = some (em y) by rw [List.getElem?_map, hy]; rfl)
      have s2 : SqL X.K W2.h ad vs := l0.ok.seq (sb.seq s1)
      refine ⟨⟨vs, u, s2, h1⟩, fun v' H' ⟨e1, e2⟩ => ?_⟩
      subst e1
      have := e2 _ s2
      rw [h1] at this
      cases this
      exact ⟨W2, Le.refl l0.ok, rfl, h2.mono sb⟩
    · refine ⟨vs, l0.ok.seq (sb.seq s1), ?_⟩
      have := r1.length
      rw [List.length_map] at this
      omega
theorem w_l {m : Option (List τ)} (h : XL X env e m) : XWk X env tg e m := w_x (x_l h)
/-- a list that was handed in -/
theorem w_bor (C : Cf X N sc fb K mg P w base k) (j : Nat) {n : Str} {x : List τ} (he : env[j]? = some (.bor (x.map em)) := by rfl) (hi : N[j]? = some n := by rfl) (hv : visB sc n = true := by decide +kernel)
    (hd : (n == ("__debug__" : Str)) = false := by decide) (hc : (n == ("__classdict__" : Str)) = false := by decide) : XWk X env tg (.Name n pos) (some x) := by
  cases C
  refine piImp (pi_list (pe_var hi (visB_ok hv) hd hc)) fun σ H R ⟨W0, W, hH, E, y, hy, q⟩ => ?_
  subst hH
  cases hy
  obtain ⟨o, h1, ad, vs, e1, s1, r1⟩ := E.slot j _ he
  subst e1
  refine ⟨_, h1, ad, rfl, ⟨vs, E.le.h.seq s1⟩, q _ W (Le.refl E.ok) ⟨fun i y W2 hy sb l0 => ?_, fun W2 sb l0 => ?_⟩⟩
  · obtain ⟨u, h1, h2⟩ := r1.get (show (x.map em)[i]? = some (em y) by rw [List.getElem?_map, hy]; rfl)
    have s2 : SqL X.K W2.h ad vs := l0.h.seq s1
    refine ⟨⟨vs, u, s2, h1⟩, fun v' H' ⟨e1, e2⟩ => ?_⟩
    subst e1
    have := e2 _ s2
    rw [h1] at this
    cases this
    exact ⟨W2, Le.refl l0.ok, rfl, h2.mono l0.b⟩
  · refine ⟨vs, l0.h.seq s1, ?_⟩
    have := r1.length
    rw [List.length_map] at this
    omega
theorem w_tup {m : Option (Vt τ)} (h : XE X env e m) : XWk X env tg e (m.bind fun t => some t.l) := by
  refine piImp (pi_tup h) fun σ H R ⟨W0, W, hH, E, x, hx, q⟩ => ?_
  subst hH
  obtain ⟨x', hx', hx⟩ := bind_some hx
  cases hx
  refine use_x E hx' fun v W1 l1 r1 => ?_
  have r1 : Rp X.K W1.b v (.tup (x'.l.map em)) := r1
  cases r1 with
  | @tup ad vs _ s1 r1 =>
    refine ⟨ad, rfl, ⟨_, same_t l1.ok s1⟩, q _ W1 l1 ⟨fun i y W2 hy sb l0 => ?_, fun W2 sb l0 => ?_⟩⟩
    · obtain ⟨u, h1, h2⟩ := r1.get (show (x'.l.map em)[i]? = some (em y) by rw [List.getElem?_map, hy]; rfl)
      have s2 : SqT X.K W2.h ad vs := same_t l0.ok (same_t sb s1)
      refine ⟨⟨vs, u, s2, h1⟩, fun v' H' ⟨e1, e2⟩ => ?_⟩
      subst e1
      have := e2 _ s2
      rw [h1] at this
      cases this
      exact ⟨W2, Le.refl l0.ok, rfl, h2.mono sb⟩
    · refine ⟨vs, same_t l0.ok (same_t sb s1), ?_⟩
      have := r1.length
      rw [List.length_map] at this
      omega
/-- the signs of a text -/
def signs (s : Str) : List Str := s.cps.toList.map fun c => ⟨#[c]⟩
theorem w_str {m : Option Str} (h : XE X env e m) : XWk X env tg e (m.bind fun s => some (signs s)) := by
  refine piImp (pi_str h) fun σ H R ⟨W0, W, hH, E, x, hx, q⟩ => ?_
  subst hH
  obtain ⟨s, hs, hx⟩ := bind_some hx
  cases hx
  refine use_x E hs fun v W1 l1 r1 => ?_
  cases r1
  refine ⟨s, rfl, q _ W1 l1 ⟨fun i y W2 hy sb l0 => ?_, fun W2 sb l0 => ?_⟩⟩
  · unfold signs at hy
    rw [List.getElem?_map] at hy
    cases hc : s.cps.toList[i]? with
    | none => rw [hc] at hy; cases hy
    | some cc =>
      rw [hc] at hy
      cases hy
      have hi : i < s.cps.size := by have := (List.getElem?_eq_some_iff.mp hc).1; simpa using this
      refine ⟨hi, fun v' H' ⟨e1, c', e2, e3⟩ => ?_⟩
      subst e1 e3
      have : c' = cc := by
        have h2 : s.cps.toList[i]? = some c' := by simpa using e2
        rw [hc] at h2; cases h2; rfl
      subst this
      exact ⟨W2, Le.refl l0.ok, rfl, .str _⟩
  · show s.cps.size ≤ (signs s).length
    unfold signs
    simp
/-- lo, lo + 1, .. -/
def rng (lo hi : Int) : List Int := (List.range (hi - lo).toNat).map fun (i : Nat) => lo + (i : Int)
def rngP (lo hi : Int) : Option (List Int) := if -4611686018427387904 ≤ lo ∧ lo < 4611686018427387904 ∧ -4611686018427387904 ≤ hi ∧ hi < 4611686018427387904 then some (rng lo hi) else none
theorem rng_get {lo hi : Int} {i : Nat} {y : Int} (h : (rng lo hi)[i]? = some y) : i < (hi - lo).toNat ∧ y = lo + i := by
  unfold rng at h
  rw [List.getElem?_map] at h
  cases hc : (List.range (hi - lo).toNat)[i]? with
  | none => rw [hc] at h; cases h
  | some j =>
    rw [hc] at h
    cases h
    obtain ⟨h1, h2⟩ := List.getElem?_eq_some_iff.mp hc
    rw [List.getElem_range] at h2
    subst h2
    exact ⟨by simpa using h1, rfl⟩
theorem walk_rng {W0 W1 : Wd} {lo hi : Int} : Walk (τ := Int) K W0 W1 (Itr lo (hi - lo).toNat) (rng lo hi) where
  item := fun i y W2 hy sb l0 => by
    obtain ⟨h1, rfl⟩ := rng_get hy
    exact ⟨h1, fun v H' ⟨e1, e2⟩ => ⟨W2, Le.refl l0.ok, e1.symm, e2 ▸ .int _⟩⟩
  stop := fun W2 sb l0 => by show (hi - lo).toNat ≤ (rng lo hi).length; unfold rng; simp
theorem w_rng1 (C : Cf X N sc fb K mg P w base k) {m : Option Int} (h : XE X env a m) (hm : mg "range" = none) (hg : glbB sc "range" = true := by decide +kernel)
    (hst : starEach [a] X.env = (false, eval a X.env) :: starEach [] X.env := by rfl) (hs : starEach [a] X.env = [(false, eval a X.env)] := by rfl) :
    XWk X env tg (.Call (.Name "range" p) [a] [] pos) (m.bind fun n => rngP 0 n) := by
  cases C
  refine piImp (pi_range1 (glbB_ok hg) hm (a_dat h a_nil hst) hs) fun σ H R ⟨W0, W, hH, E, x, hx, q⟩ => ?_
  subst hH
  obtain ⟨n, hn, hx⟩ := bind_some hx
  unfold rngP at hx
  split at hx
  · rename_i hr
    cases hx
    refine use_a E (x := (n, ())) (by rw [hn]; rfl) fun vs W1 l1 r1 => ?_
    cases r1 with
    | dat r1 r2 =>
      cases r2
      cases r1
      refine ⟨n, rfl, by omega, by omega, ?_⟩
      have := q (Itr 0 (n - 0).toNat) W1 l1 walk_rng
      simpa using this
  · cases hx
theorem w_rng2 (C : Cf X N sc fb K mg P w base k) {ma mb : Option Int} (h : XE X env a ma) (h' : XE X env b mb) (hm : mg "range" = none) (hg : glbB sc "range" = true := by decide +kernel)
    (hs : starEach [a, b] X.env = [(false, eval a X.env), (false, eval b X.env)] := by rfl) (hs2 : starEach [b] X.env = [(false, eval b X.env)] := by rfl)
    (h1 : starEach [a, b] X.env = (false, eval a X.env) :: starEach [b] X.env := by rfl) (h2 : starEach [b] X.env = (false, eval b X.env) :: starEach [] X.env := by rfl) :
    XWk X env tg (.Call (.Name "range" p) [a, b] [] pos) (ma.bind fun m => mb.bind fun n => rngP m n) := by
  cases C
  refine piImp (pi_range2 (glbB_ok hg) hm (a_dat h (a_dat h' a_nil h2) h1) hs hs2) fun σ H R ⟨W0, W, hH, E, x, hx, q⟩ => ?_
  subst hH
  obtain ⟨m, hm, hx⟩ := bind_some hx
  obtain ⟨n, hn, hx⟩ := bind_some hx
  unfold rngP at hx
  split at hx
  · rename_i hr
    cases hx
    refine use_a E (x := (m, n, ())) (by rw [hm, hn]; rfl) fun vs W1 l1 r1 => ?_
    cases r1 with
    | dat r1 r2 =>
      cases r2 with
      | dat r2 r3 =>
        cases r3
        cases r1
        cases r2
        exact ⟨m, n, rfl, ⟨by omega, by omega, by omega, by omega⟩, q (Itr m (n - m).toNat) W1 l1 walk_rng⟩
  · cases hx
/-- zip of two lists -/
theorem w_zip (C : Cf X N sc fb K mg P w base k) {elts : List Expr} {kk : Nat} {tpos : Pos} {ma : Option (List α)} {mb : Option (List β)} (h : XE X env a ma) (h' : XE X env b mb) (hm : mg "zip" = none) (hg : glbB sc "zip" = true := by decide +kernel)
    (h1 : starEach [a, b] X.env = (false, eval a X.env) :: starEach [b] X.env := by rfl) (h2 : starEach [b] X.env = (false, eval b X.env) :: starEach [] X.env := by rfl) (hpl : (backTo pos (starEach [b] X.env)).any (·.1) = false := by rfl) :
    XWk X env (.Tuple elts kk tpos) (.Call (.Name "zip" p) [a, b] [] pos) (ma.bind fun x => mb.bind fun y => some (x.zip y)) := by
  cases C
  refine piImp (pi_zip (glbB_ok hg) hm (a_dat h (a_dat h' a_nil h2) h1) h1 hpl) fun σ H R ⟨W0, W, hH, E, x, hx, q⟩ => ?_
  subst hH
  obtain ⟨xs, hxs, hx⟩ := bind_some hx
  obtain ⟨ys, hys, hx⟩ := bind_some hx
  cases hx
  refine use_a E (x := (xs, ys, ())) (by rw [hxs, hys]; rfl) fun vs W1 l1 r1 => ?_
  cases r1 with
  | dat r1 r2 =>
    cases r2 with
    | dat r2 r3 =>
      cases r3
      have r1 : Rp X.K W1.b _ (.lst (xs.map em)) := r1
      have r2 : Rp X.K W1.b _ (.lst (ys.map em)) := r2
      cases r1 with
      | lst s1 r1 =>
        cases r2 with
        | lst s2 r2 =>
          refine ⟨_, _, _, _, rfl, l1.ok.seq s1, l1.ok.seq s2, q _ W1 l1 ⟨fun i z W2 hz sb l0 => ?_, fun W2 sb l0 => ?_⟩⟩
          · have hz := List.getElem?_zip_eq_some.mp hz
            obtain ⟨u, g1, g2⟩ := r1.get (show (xs.map em)[i]? = some (em z.1) by rw [List.getElem?_map, hz.1]; rfl)
            obtain ⟨v, g3, g4⟩ := r2.get (show (ys.map em)[i]? = some (em z.2) by rw [List.getElem?_map, hz.2]; rfl)
            have q1 := l0.ok.seq (sb.seq s1)
            have q2 := l0.ok.seq (sb.seq s2)
            refine ⟨⟨_, _, u, v, q1, q2, g1, g3⟩, fun v' H' ⟨T, x', y', e1, e2, e3, e4, e5⟩ => ?_⟩
            have e4 := e4 _ q1
            have e5 := e5 _ q2
            rw [g1] at e4
            rw [g3] at e5
            cases e4; cases e5
            subst e1 e3
            have sbT : Same W2.b (upd W2.b T (.tup [u, v])) := Same.new (l0.ok.free e2)
            refine ⟨_, Le.lay l0.ok (o := .tup [u, v]) e2, rfl, ?_⟩
            exact .tup (SqT.of upd_same) (.cons ((g2.mono sb).mono sbT) (.cons ((g4.mono sb).mono sbT) .nil))
          · refine ⟨_, _, l0.ok.seq (sb.seq s1), l0.ok.seq (sb.seq s2), ?_⟩
            have h1 := r1.length
            have h2 := r2.length
            rw [List.length_map] at h1 h2
            rw [List.length_zip]
            omega
/-! ### targets -/
theorem gt_name (C : Cf X N sc fb K mg P w base k) (i : Nat) {n : Str} (hi : N[i]? = some n := by rfl) (hl : locB sc fb n = true := by decide +kernel) : XG (τ := τ) X env (.Name n pos) (fun x => env.set i (.dat (em x))) [i] := by
  cases C with
  | mk nd calm po rm =>
    refine pgImp (pg_name nd hi (locB_ok hl) (locB_fn hl)) fun v σ H Q ⟨W0, W, x, hH, E, r, q⟩ => ?_
    · subst hH
      exact q _ (E.putD r) fun vs h => wipe_set (h i (by simp))
/-- several names, one after another -/
def tGs (K : PySem.W.Frag) (env : List SV) (ds : δ → List D) (env' : δ → List SV) (is : List Nat) : TGs := fun vs σ H Q =>
  ∃ (W0 W : Wd) (x : δ), W.h = H ∧ EnvR K W0 W env σ ∧ RpA K W.b vs (ds x) ∧ ∀ σ', EnvR K W0 W (env' x) σ' → (∀ ws : List Nat, (∀ i ∈ is, i ∈ ws) → wipe σ' ws = wipe σ ws) → Q σ' W.h
theorem gs_nil : PGs X [] (tGs X.K env (fun _ : Unit => []) (fun _ => env) []) := ⟨fun pins s σ H vs us Q I r ⟨W0, W, x, hH, E, ra, q⟩ => by
  subst hH
  cases ra
  exact pgs_nil.run pins s σ _ [] us Q I r ⟨rfl, q σ E fun _ _ => rfl⟩⟩
theorem pgEx {ι : Type} {t : ι → TG} (h : ∀ i, PG X tg (t i)) : PG X tg (fun v σ H Q => ∃ i, t i v σ H Q) := ⟨fun pins s σ H v u Q I r ⟨i, q⟩ => (h i).run pins s σ H v u Q I r q⟩
theorem pgsEx {ι : Type} {tgs : List Expr} {t : ι → TGs} (h : ∀ i, PGs X tgs (t i)) : PGs X tgs (fun v σ H Q => ∃ i, t i v σ H Q) := ⟨fun pins s σ H v u Q I r ⟨i, q⟩ => (h i).run pins s σ H v u Q I r q⟩
theorem gs_cons {es : List Expr} {envX : τ → List SV} {is js : List Nat} {ds : δ → List D} {env' : τ → δ → List SV} (h1 : XG X env e envX is) (h2 : ∀ x, PGs X es (tGs X.K (envX x) ds (env' x) js))
    (hs : (assignEach (e :: es) X.env).map (·.2) = assign e X.env :: (assignEach es X.env).map (·.2) := by rfl) : PGs X (e :: es) (tGs X.K env (fun p : τ × δ => em p.1 :: ds p.2) (fun p => env' p.1 p.2) (is ++ js)) :=
  ⟨fun pins s σ H vs us Q I r ⟨W0, W, x, hH, E, ra, q⟩ => by
    subst hH
    cases ra with
    | cons r1 r2 =>
      refine (pgs_cons h1 (pgsEx h2) hs).run pins s σ _ _ us Q I r ⟨_, _, rfl, W0, W, x.1, rfl, E, r1, fun σ' E' hw => ⟨x.1, W0, W, x.2, rfl, E', r2, fun σ2 E2 hw2 => q σ2 E2 fun ws hws => ?_⟩⟩
      rw [hw2 ws fun i hi => hws i (List.mem_append_right _ hi), hw ws fun i hi => hws i (List.mem_append_left _ hi)]⟩
theorem gt_tup (C : Cf X N sc fb K mg P w base k) {es : List Expr} {kk n : Nat} {ds : δ → List D} {env' : δ → List SV} {is : List Nat} {f : τ → δ} (h : PGs X es (tGs X.K env ds env' is)) (hf : ∀ x : τ, em x = .tup (ds (f x))) (hl : ∀ x, (ds x).length = n)
    (hn : (assignEach es X.env).length = n := by rfl) (hst : (assignEach es X.env).findIdx? (·.1) = none := by rfl) : XG X env (.Tuple es kk pos) (fun x : τ => env' (f x)) is := by
  cases C with
  | mk nd calm po rm =>
    refine pgImp (pg_tup calm h hn hst) fun v σ H Q ⟨W0, W, x, hH, E, r, q⟩ => ?_
    subst hH
    rw [hf] at r
    cases r with
    | tup s1 r1 => exact ⟨_, _, rfl, same_t E.ok s1, by rw [r1.length, hl], W0, W, f x, rfl, E, r1, q⟩
theorem gt_pair (C : Cf X N sc fb K mg P w base k) (i j : Nat) {n m : Str} {kk : Nat} {p1 : Pos} (hi : N[i]? = some n := by rfl) (hl : locB sc fb n = true := by decide +kernel) (hj : N[j]? = some m := by rfl) (hl' : locB sc fb m = true := by decide +kernel)
    (hn : ∀ E : Env, (assignEach [.Name n p1, .Name m p2] E).length = 2 := by intro _; rfl) (hst : ∀ E : Env, (assignEach [.Name n p1, .Name m p2] E).findIdx? (·.1) = none := by intro _; rfl)
    (h1 : ∀ E : Env, (assignEach [.Name n p1, .Name m p2] E).map (·.2) = assign (.Name n p1) E :: (assignEach [.Name m p2] E).map (·.2) := by intro _; rfl)
    (h2 : ∀ E : Env, (assignEach [.Name m p2] E).map (·.2) = assign (.Name m p2) E :: (assignEach ([] : List Expr) E).map (·.2) := by intro _; rfl) :
    XG (τ := α × β) X env (.Tuple [.Name n p1, .Name m p2] kk pos) (fun x => (env.set i (.dat (em x.1))).set j (.dat (em x.2))) [i, j] :=
  gt_tup (τ := α × β) (δ := α × β × Unit) (f := fun x : α × β => (x.1, x.2, ())) C (gs_cons (gt_name C i hi hl) (fun x => gs_cons (gt_name C j hj hl') (fun y => gs_nil) (h2 _)) (h1 _)) (fun x => rfl) (fun _ => rfl) (hn _) (hst _)
/-! ### loops -/
def foldO (f : S → α → Option S) : S → List α → Option S
  | s, [] => some s
  | s, x :: xs => (f s x).bind fun s' => foldO f s' xs
inductive Lp (ρ S : Type) where
  | ret (r : ρ)
  | fin (s : S)
def Lp.go (φ : α → ρ) (kk : S → Option ρ) : Lp α S → Option ρ
  | .ret r => some (φ r)
  | .fin s => kk s
def loopO (f : S → α → Option (Fl ρ S S)) : S → List α → Option (Lp ρ S)
  | s, [] => some (.fin s)
  | s, x :: xs => (f s x).bind fun o => match o with
    | .nx s' => loopO f s' xs
    | .ct s' => loopO f s' xs
    | .bk s' => some (.fin s')
    | .rt r => some (.ret r)
theorem drop_cons {xs : List α} {i : Nat} (h : i < xs.length) : xs.drop i = xs[i] :: xs.drop (i + 1) := List.drop_eq_getElem_cons h
theorem g_for {mxs : Option (List τ)} {envL : S → List SV} {envX : S → τ → List SV} {is : List Nat} {f : S → τ → Option S} {s0 : S} {kk : S → Option ρ} (C : Cf X N sc fb K mg P w base k) (hi : XWk X env tg e mxs) (hg : ∀ s, XG X (envL s) tg (envX s) is)
    (h0 : EnvLe env (envL s0)) (hb : ∀ s x, GS X (envX s x) body (f s x) (ZN X.K envL)) (hr : ∀ s, GS X (envL s) rest (kk s) Z) (hf : ∀ E : Env, ∀ x, foldedSetIterable e E x = pure x := by intro _ _; rfl) :
    GS X env (.For tg e body [] pos :: rest) (mxs.bind fun xs => (foldO f s0 xs).bind kk) Z := by
  cases C with
  | mk nd calm po rm =>
    refine g_of (ps_for po calm hi (pgEx hg) (pssEx (ι := S × τ) fun q => hb q.1 q.2) (hf _)) hr fun W0 W B' σ D r E sb0 hm z => ?_
    obtain ⟨xs, hxs, hm⟩ := bind_some hm
    obtain ⟨sf, hsf, hm⟩ := bind_some hm
    refine use_w E hxs fun J W1 l1 wk => ?_
    have E1 := (E.mono l1).weak h0
    refine ⟨fun i n σ' H' => ∃ W2 s, W2.h = H' ∧ Same W1.b W2.b ∧ EnvR X.K W0 W2 (envL s) σ' ∧ foldO f s (xs.drop i) = some sf ∧ n = xs.length - i ∧ i ≤ xs.length, ⟨xs.length, W1, s0, rfl, Same.refl _, E1, hsf, rfl, Nat.zero_le _⟩, ?_⟩
    rintro i n σ' H' ⟨W2, s, rfl, sb, E2, hs, rfl, hle⟩
    by_cases hlt : i < xs.length
    · have hx : xs[i]? = some xs[i] := by simp [hlt]
      obtain ⟨g1, g2⟩ := wk.item i _ W2 hx sb E2.le
      rw [drop_cons hlt] at hs
      obtain ⟨s', hs1, hs2⟩ := bind_some hs
      refine .inr ⟨g1, fun σ3 H3 => ∃ W3, W3.h = H3 ∧ Same W1.b W3.b ∧ EnvR X.K W0 W3 (envL s') σ3, ?_, ?_⟩
      · rintro σ3 H3 ⟨W3, rfl, sb3, E3⟩
        exact ⟨xs.length - (i + 1), by omega, W3, s', rfl, sb3, E3, hs2, rfl, hlt⟩
      · intro v H3 hy
        obtain ⟨W3, l3, rfl, r3⟩ := g2 v H3 hy
        refine ⟨s, W0, W3, xs[i], rfl, E2.mono l3, r3, fun σ4 E4 _ => ⟨(s, xs[i]), ?_⟩⟩
        exact use_g (B := W1.b) E4 (sb.trans l3.b) hs1 fun W5 σ5 sb5 E5 => ⟨W5, rfl, sb5, E5⟩
    · have hi : i = xs.length := by omega
      subst hi
      rw [List.drop_length] at hs
      cases hs
      exact .inl ⟨wk.stop W2 sb E2.le, sf, use_g E2 ((sb0.trans l1.b).trans sb) hm z⟩
/-- .. that may be left, or return -/
theorem g_forF {mxs : Option (List τ)} {envL : S → List SV} {envX : S → τ → List SV} {is : List Nat} {res : α → RV} {f : S → τ → Option (Fl α S S)} {s0 : S} {φ : α → ρ} {kk : S → Option ρ} (C : Cf X N sc fb K mg P w base k) (hi : XWk X env tg e mxs) (hg : ∀ s, XG X (envL s) tg (envX s) is)
    (h0 : EnvLe env (envL s0)) (hb : ∀ s x, GS X (envX s x) body (f s x) (ZF X.K res envL envL)) (hz : ∀ r W0 B D, Z (φ r) W0 B D → ZR X.K res r W0 B D) (hr : ∀ s, GS X (envL s) rest (kk s) Z) (hf : ∀ E : Env, ∀ x, foldedSetIterable e E x = pure x := by intro _ _; rfl) :
    GS X env (.For tg e body [] pos :: rest) (mxs.bind fun xs => (loopO f s0 xs).bind (Lp.go φ kk)) Z := by
  cases C with
  | mk nd calm po rm =>
    refine g_of (ps_for po calm hi (pgEx hg) (pssEx (ι := S × τ) fun q => hb q.1 q.2) (hf _)) hr fun W0 W B' σ D r E sb0 hm z => ?_
    obtain ⟨xs, hxs, hm⟩ := bind_some hm
    obtain ⟨o, ho, hm⟩ := bind_some hm
    refine use_w E hxs fun J W1 l1 wk => ?_
    have E1 := (E.mono l1).weak h0
    refine ⟨fun i n σ' H' => ∃ W2 s, W2.h = H' ∧ Same W1.b W2.b ∧ EnvR X.K W0 W2 (envL s) σ' ∧ loopO f s (xs.drop i) = some o ∧ n = xs.length - i ∧ i ≤ xs.length, ⟨xs.length, W1, s0, rfl, Same.refl _, E1, ho, rfl, Nat.zero_le _⟩, ?_⟩
    rintro i n σ' H' ⟨W2, s, rfl, sb, E2, hs, rfl, hle⟩
    by_cases hlt : i < xs.length
    · have hx : xs[i]? = some xs[i] := by simp [hlt]
      obtain ⟨g1, g2⟩ := wk.item i _ W2 hx sb E2.le
      rw [drop_cons hlt] at hs
      obtain ⟨q, hs1, hs2⟩ := bind_some hs
      refine .inr ⟨g1, fun σ3 H3 => ∃ W3 s', W3.h = H3 ∧ Same W1.b W3.b ∧ EnvR X.K W0 W3 (envL s') σ3 ∧ loopO f s' (xs.drop (i + 1)) = some o, ?_, ?_⟩
      · rintro σ3 H3 ⟨W3, s', rfl, sb3, E3, h3⟩
        exact ⟨xs.length - (i + 1), by omega, W3, s', rfl, sb3, E3, h3, rfl, hlt⟩
      · intro v H3 hy
        obtain ⟨W3, l3, rfl, r3⟩ := g2 v H3 hy
        refine ⟨s, W0, W3, xs[i], rfl, E2.mono l3, r3, fun σ4 E4 _ => ⟨(s, xs[i]), ?_⟩⟩
        refine use_g (B := W1.b) E4 (sb.trans l3.b) hs1 ?_
        cases q with
        | nx s' => exact fun W5 σ5 sb5 E5 => ⟨W5, s', rfl, sb5, E5, hs2⟩
        | ct s' => exact fun W5 σ5 sb5 E5 => ⟨W5, s', rfl, sb5, E5, hs2⟩
        | bk s' =>
          cases hs2
          exact fun W5 σ5 sb5 E5 => ⟨s', use_g E5 ((sb0.trans l1.b).trans sb5) hm z⟩
        | rt r' =>
          cases hs2
          cases hm
          exact fun v W5 l5 r5 => hz r' W0 B' D z v W5 l5 r5
    · have hi : i = xs.length := by omega
      subst hi
      rw [List.drop_length] at hs
      cases hs
      exact .inl ⟨wk.stop W2 sb E2.le, s, use_g E2 ((sb0.trans l1.b).trans sb) hm z⟩
/-! ### while: n turns at most -/
def whileO (c : S → Option Bool) (f : S → Option S) : Nat → S → Option S
  | 0, _ => none
  | n + 1, s => (c s).bind fun b => if b = true then (f s).bind fun s' => whileO c f n s' else some s
def whileF (c : S → Option Bool) (f : S → Option (Fl ρ S S)) : Nat → S → Option (Lp ρ S)
  | 0, _ => none
  | n + 1, s => (c s).bind fun b => if b = true then (f s).bind fun o => match o with
      | .nx s' => whileF c f n s'
      | .ct s' => whileF c f n s'
      | .bk s' => some (.fin s')
      | .rt r => some (.ret r)
    else some (.fin s)
theorem g_while {envL : S → List SV} {c' : S → Option Bool} {f : S → Option S} {n : Nat} {s0 : S} {kk : S → Option ρ} (C : Cf X N sc fb K mg P w base k) (hc : ∀ s, XT X (envL s) c (c' s))
    (h0 : EnvLe env (envL s0)) (hb : ∀ s, GS X (envL s) body (f s) (ZN X.K envL)) (hr : ∀ s, GS X (envL s) rest (kk s) Z) :
    GS X env (.While c body [] pos :: rest) ((whileO c' f n s0).bind kk) Z := by
  cases C with
  | mk nd calm po rm =>
    refine g_of (ps_while po (ptEx hc) (pssEx hb)) hr fun W0 W B' σ D r E sb0 hm z => ?_
    obtain ⟨sf, hsf, hm⟩ := bind_some hm
    refine ⟨fun i σ' H' => ∃ W2 s, W2.h = H' ∧ Same B' W2.b ∧ EnvR X.K W0 W2 (envL s) σ' ∧ whileO c' f i s = some sf, ⟨n, W, s0, rfl, sb0, E.weak h0, hsf⟩, ?_⟩
    rintro i σ' H' ⟨W2, s, rfl, sb, E2, hs⟩
    cases i with
    | zero => cases hs
    | succ i =>
      obtain ⟨b, hb1, hs⟩ := bind_some hs
      refine ⟨s, use_t E2 hb1 fun W3 l3 => ?_⟩
      cases b with
      | true =>
        obtain ⟨s', h1, h2⟩ := bind_some (show (f s).bind (fun s' => whileO c' f i s') = some sf by simpa using hs)
        rw [if_pos rfl]
        refine ⟨fun σ3 H3 => ∃ W4, W4.h = H3 ∧ Same B' W4.b ∧ EnvR X.K W0 W4 (envL s') σ3, ?_, s, ?_⟩
        · rintro σ3 H3 ⟨W4, rfl, sb4, E4⟩
          exact ⟨i, Nat.lt_succ_self _, W4, s', rfl, sb4, E4, h2⟩
        · exact use_g (E2.mono l3) (sb.trans l3.b) h1 fun W5 σ5 sb5 E5 => ⟨W5, rfl, sb5, E5⟩
      | false =>
        rw [if_neg Bool.false_ne_true]
        have e : s = sf := Option.some.inj (by simpa using hs)
        subst e
        exact ⟨s, use_g (E2.mono l3) (sb.trans l3.b) hm z⟩
theorem g_whileF {envL : S → List SV} {c' : S → Option Bool} {res : α → RV} {f : S → Option (Fl α S S)} {n : Nat} {s0 : S} {φ : α → ρ} {kk : S → Option ρ} (C : Cf X N sc fb K mg P w base k) (hc : ∀ s, XT X (envL s) c (c' s))
    (h0 : EnvLe env (envL s0)) (hb : ∀ s, GS X (envL s) body (f s) (ZF X.K res envL envL)) (hz : ∀ r W0 B D, Z (φ r) W0 B D → ZR X.K res r W0 B D) (hr : ∀ s, GS X (envL s) rest (kk s) Z) :
    GS X env (.While c body [] pos :: rest) ((whileF c' f n s0).bind (Lp.go φ kk)) Z := by
  cases C with
  | mk nd calm po rm =>
    refine g_of (ps_while po (ptEx hc) (pssEx hb)) hr fun W0 W B' σ D r E sb0 hm z => ?_
    obtain ⟨o, ho, hm⟩ := bind_some hm
    refine ⟨fun i σ' H' => ∃ W2 s, W2.h = H' ∧ Same B' W2.b ∧ EnvR X.K W0 W2 (envL s) σ' ∧ whileF c' f i s = some o, ⟨n, W, s0, rfl, sb0, E.weak h0, ho⟩, ?_⟩
    rintro i σ' H' ⟨W2, s, rfl, sb, E2, hs⟩
    cases i with
    | zero => cases hs
    | succ i =>
      obtain ⟨b, hb1, hs⟩ := bind_some hs
      refine ⟨s, use_t E2 hb1 fun W3 l3 => ?_⟩
      cases b with
      | true =>
        rw [if_pos rfl] at hs
        obtain ⟨q, h1, h2⟩ := bind_some hs
        rw [if_pos rfl]
        refine ⟨fun σ3 H3 => ∃ W4 s', W4.h = H3 ∧ Same B' W4.b ∧ EnvR X.K W0 W4 (envL s') σ3 ∧ whileF c' f i s' = some o, ?_, s, ?_⟩
        · rintro σ3 H3 ⟨W4, s', rfl, sb4, E4, h4⟩
          exact ⟨i, Nat.lt_succ_self _, W4, s', rfl, sb4, E4, h4⟩
        · refine use_g (E2.mono l3) (sb.trans l3.b) h1 ?_
          cases q with
          | nx s' => exact fun W5 σ5 sb5 E5 => ⟨W5, s', rfl, sb5, E5, h2⟩
          | ct s' => exact fun W5 σ5 sb5 E5 => ⟨W5, s', rfl, sb5, E5, h2⟩
          | bk s' =>
            cases h2
            exact fun W5 σ5 sb5 E5 => ⟨s', use_g E5 sb5 hm z⟩
          | rt r' =>
            cases h2
            cases hm
            exact fun v W5 l5 r5 => hz r' W0 B' D z v W5 l5 r5
      | false =>
        rw [if_neg Bool.false_ne_true] at hs
        rw [if_neg Bool.false_ne_true]
        cases hs
        exact ⟨s, use_g (E2.mono l3) (sb.trans l3.b) hm z⟩
/-! ### list comprehensions -/
def lcO (c : α → Option Bool) (f : α → Option β) : List α → Option (List β)
  | [] => some []
  | x :: xs => (c x).bind fun b => if b = true then (f x).bind fun y => (lcO c f xs).bind fun ys => some (y :: ys) else lcO c f xs
def mapO (f : α → Option β) : List α → Option (List β)
  | [] => some []
  | x :: xs => (f x).bind fun y => (mapO f xs).bind fun ys => some (y :: ys)
def lcC (c : α → Option Bool) (f : α → Option β) (xs : List α) : Option (List β) := if sz xs.length then lcO c f xs else none
def mapC (f : α → Option β) (xs : List α) : Option (List β) := if sz xs.length then mapO f xs else none
theorem lcO_true {f : α → Option β} : ∀ xs : List α, lcO (fun _ => some true) f xs = mapO f xs
  | [] => rfl
  | x :: xs => by
    show (some true).bind _ = _
    rw [Option.bind_some, if_pos rfl]
    show (f x).bind _ = (f x).bind _
    rw [lcO_true xs]
theorem EnvR.wipe {W0 W : Wd} {σ : St} (E : EnvR K W0 W env σ) {vs : List Nat} (h : ∀ i ∈ vs, env[i]? = some .any) : EnvR K W0 W env (wipe σ vs) := by
  refine ⟨E.le, by rw [wipe_length]; exact E.len, fun i sv e => ?_, fun i j di dj n e1 e2 => ?_⟩
  · by_cases hi : i ∈ vs
    · rw [h i hi] at e
      cases e
      have hlt : i < (L2.wipe σ vs).length := by rw [wipe_length, E.len]; exact (List.getElem?_eq_some_iff.mp (h i hi)).1
      exact ⟨_, List.getElem?_eq_some_iff.mpr ⟨hlt, rfl⟩, trivial⟩
    · rw [wipe_out hi]
      exact E.slot i sv e
  · have hi : i ∉ vs := fun z => by rw [h i z] at e1; cases e1
    have hj : j ∉ vs := fun z => by rw [h j z] at e2; cases e2
    rw [wipe_out hi, wipe_out hj]
    exact E.apart i j di dj n e1 e2
/-- the place of a comprehension's block -/
theorem Cf.blk (C : Cf X N sc fb K mg P w base k) (s : Shared) (H : Hp) (scope : Scope) (cl : List (Str × Addr)) (C' : Addr) (fp : List Addr) :
    Cf (X.blk s H scope (compEnvC scope cl C' X.env) fp) N (relS scope sc) (fun x => scope.names.lookup x == some .cell) K mg P w base k := by
  cases C with
  | mk nd calm po rm =>
    exact Cf.mk (X := X.blk s H scope (compEnvC scope cl C' X.env) fp) nd calm PassesOwn.never rm
end
end T

set_option Elab.async false
set_option linter.all false
set_option maxRecDepth 100000
set_option maxHeartbeats 4000000
namespace T
open PySem PySem.Spec PyProof.Rows L2
variable {τ α β γ δ ρ B S ι : Type}
section
variable {X : Cx} {env env' : List SV} {e a b c tg iter elt : Expr} {st : Stmt} {es : List Expr} {body rest : List Stmt} {pos p p2 : Pos} [Em τ] [Em α] [Em β] [Em γ] {N : List Str} {sc : Scope} {fb : Str → Bool} {K : PySem.W.Frag} {mg : Str → Option Value} {P : Program} {w : World} {base : Heap} {k : Nat}
/-! ### list comprehensions -/
theorem lc_read {own : List (Str × Nat)} {mxs : Option (List α)} {envC : List SV} {envX : α → List SV} {is : List Nat} {c' : α → Option Bool} {f : α → Option β} (hw : ∀ i ∈ own.map (·.2), envC[i]? = some .any) (h0 : EnvLe env envC) (his : ∀ i ∈ is, i ∈ own.map (·.2)) :
    ∀ (σ : St) (H : Hp) (Q : VK), tL K env (mxs.bind fun xs => lcC c' f xs) σ H Q →
      tLc (tW K env mxs) (tGt K envC envX is) (fun σ H Q => ∃ x, tC' K (envX x) (c' x) σ H Q) (fun σ H Q => ∃ x, tX K (envX x) (f x) σ H Q) (own.map (·.2)) σ H Q := by
  intro σ H Q ⟨W0, W, hH, E, ys, hy, q⟩
  subst hH
  obtain ⟨xs, hxs, hy⟩ := bind_some hy
  unfold lcC at hy
  split at hy
  · rename_i hsz
    refine use_w E hxs fun J W1 l1 wk D0 hD => ?_
    have E1 := (E.mono l1).weak h0
    refine ⟨fun i m H => ∃ (W2 : Wd) (acc : List V) (dn rs : List β), W2.h = H ∧ Le W1 W2 ∧ W2.h D0 = some (.lst acc) ∧ W2.b D0 = none ∧ RpA K W2.b acc (dn.map em) ∧ lcO c' f (xs.drop i) = some rs ∧ ys = dn ++ rs ∧ dn.length ≤ i ∧ i ≤ xs.length ∧ m = xs.length - i,
      ⟨xs.length, ⟨W1.b, upd W1.h D0 (.lst [])⟩, [], [], ys, rfl, Le.layM l1.ok hD, upd_same, l1.ok.free hD, .nil, hy, rfl, Nat.le_refl _, Nat.zero_le _, rfl⟩, ?_⟩
    rintro i m H ⟨W2, acc, dn, rs, rfl, l2, d1, d2, ra, hl, hys, hdl, hle, rfl⟩
    by_cases hlt : i < xs.length
    · have hx : xs[i]? = some xs[i] := by simp [hlt]
      obtain ⟨g1, g2⟩ := wk.item i _ W2 hx l2.b (E1.le.trans l2)
      rw [drop_cons hlt] at hl
      obtain ⟨bb, hb1, hl⟩ := bind_some hl
      refine .inr ⟨g1, fun H' => ∃ (W3 : Wd) (acc' : List V) (dn' rs' : List β), W3.h = H' ∧ Le W1 W3 ∧ W3.h D0 = some (.lst acc') ∧ W3.b D0 = none ∧ RpA K W3.b acc' (dn'.map em) ∧ lcO c' f (xs.drop (i + 1)) = some rs' ∧ ys = dn' ++ rs' ∧ dn'.length ≤ i + 1, ?_, ?_⟩
      · rintro H' ⟨W3, acc', dn', rs', e1, e2, e3, e4, e5, e6, e7, e8⟩
        exact ⟨xs.length - (i + 1), by omega, W3, acc', dn', rs', e1, e2, e3, e4, e5, e6, e7, e8, hlt, rfl⟩
      · intro v H3 hyl
        obtain ⟨W3, l3, rfl, r3⟩ := g2 v H3 hyl
        have E3 := ((E1.mono l2).mono l3).wipe hw
        refine ⟨W0, W3, xs[i], rfl, E3, r3, fun σ4 E4 hwp => ⟨?_, ?_⟩⟩
        · rw [hwp _ his]
          have aux : ∀ {vs : List Nat} {τ : St}, L2.wipe (L2.wipe τ vs) vs = L2.wipe τ vs := by
            intro vs τ
            refine List.ext_getElem? fun j => ?_
            by_cases hj : j ∈ vs
            · have key : ∀ (ws : List Nat) (υ : St), j ∈ ws → (L2.wipe υ ws)[j]? = if j < υ.length then some none else none := by
                intro ws
                induction ws with
                | nil => intro υ h; simp at h
                | cons z zs ih =>
                  intro υ h
                  unfold L2.wipe
                  by_cases e : z = j
                  · subst e
                    by_cases hl : z < υ.length
                    · rw [List.getElem?_set_self (by rw [wipe_length]; exact hl), if_pos hl]
                    · rw [List.getElem?_eq_none (by rw [List.length_set, wipe_length]; omega), if_neg hl]
                  · rw [List.getElem?_set_ne e]
                    exact ih υ (by rcases List.mem_cons.mp h with q | q; exact absurd q.symm e; exact q)
              rw [key vs _ hj, key vs _ hj, wipe_length]
            · rw [wipe_out hj]
          exact aux
        · refine ⟨xs[i], use_t E4 hb1 fun W4 l4 => ?_⟩
          have l14 := (l2.trans l3).trans l4
          have d14 : W4.h D0 = some (.lst acc) := (l3.trans l4).h _ _ d1
          have b14 : W4.b D0 = none := ((l3.trans l4).f _ _ d1).trans d2
          cases bb with
          | false =>
            rw [if_neg Bool.false_ne_true] at hl ⊢
            exact ⟨W4, acc, dn, rs, rfl, l14, d14, b14, ra.mono (l3.trans l4).b, hl, hys, by omega⟩
          | true =>
            rw [if_pos rfl] at hl ⊢
            obtain ⟨y, hy1, hl⟩ := bind_some hl
            obtain ⟨rs', hl1, hl⟩ := bind_some hl
            cases hl
            refine ⟨xs[i], use_x (E4.mono l4) hy1 fun u W5 l5 r5 => ?_⟩
            have d15 : W5.h D0 = some (.lst acc) := l5.h _ _ d14
            have b15 : W5.b D0 = none := (l5.f _ _ d14).trans b14
            have l15 := l14.trans l5
            have hal : acc.length = dn.length := by have := ra.length; rwa [List.length_map] at this
            refine ⟨acc, d15, ?_, ⟨W5.b, upd W5.h D0 (.lst (acc ++ [u]))⟩, acc ++ [u], dn ++ [y], rs', rfl, ⟨l15.b, fun x o z => ?_, l15.f, fun x o z => ?_⟩, upd_same, b15, ?_, hl1, by rw [hys, List.append_assoc] <;> rfl, by rw [List.length_append, List.length_singleton]; omega⟩
            · exact Nat.lt_of_le_of_lt (by omega : acc.length ≤ xs.length) (sz_line hsz)
            · show upd W5.h D0 _ x = some o
              rw [upd_ne (ne_of_none z hD)]; exact l15.h x o z
            · show upd W5.h D0 _ x = some o
              rw [upd_ne (ne_of_none z b15)]; exact l15.ok x o z
            · rw [List.map_append]
              exact (ra.mono ((l3.trans l4).trans l5).b).append (.cons r5 .nil)
    · have hi' : i = xs.length := by omega
      subst hi'
      rw [List.drop_length] at hl
      cases hl
      rw [List.append_nil] at hys
      subst hys
      exact .inl ⟨wk.stop W2 l2.b (E1.le.trans l2), q D0 acc W2 (l1.trans l2) (l1.h.free hD) d1 d2 ra⟩
  · cases hy
/-- what a comprehension's parts are at any state that its block starts from -/
structure LcP (K : PySem.W.Frag) (tg elt : Expr) (ifs : List Expr) (scope : Scope) (envC : List SV) (envX : α → List SV) (is : List Nat) (c' : α → Option Bool) (f : α → Option β) (N : List Str) (sc : Scope) (mg : Str → Option Value) (P : Program) (w : World) (base : Heap) (k : Nat) : Prop where
  tgt : ∀ X', Cf X' N (relS scope sc) (fun x => scope.names.lookup x == some .cell) K mg P w base k → XG X' envC tg envX is
  tst : ∀ X', Cf X' N (relS scope sc) (fun x => scope.names.lookup x == some .cell) K mg P w base k → ∀ x, PTs X' ifs (tC' X'.K (envX x) (c' x))
  itm : ∀ X', Cf X' N (relS scope sc) (fun x => scope.names.lookup x == some .cell) K mg P w base k → ∀ x, XE X' (envX x) elt (f x)
theorem lc_gen {scope : Scope} {ifs : List Expr} {own : List (Str × Nat)} {mxs : Option (List α)} {envC : List SV} {envX : α → List SV} {is : List Nat} {c' : α → Option Bool} {f : α → Option β} (C : Cf X N sc fb K mg P w base k) (hi : XWk X env tg iter mxs)
    (L : LcP K tg elt ifs scope envC envX is c' f N sc mg P w base k) (ok : blkC N sc scope own = true) (hw : ∀ i ∈ own.map (·.2), envC[i]? = some .any) (h0 : EnvLe env envC) (his : ∀ i ∈ is, i ∈ own.map (·.2))
    (hf : ∀ E : Env, ∀ x, foldedSetIterable iter E x = pure x := by intro _ _; rfl) :
    XL X env (.ListComp elt [⟨tg, iter, ifs, 0⟩] scope pos) (mxs.bind fun xs => lcC c' f xs) := by
  have CC := C
  cases C with
  | mk nd calm po rm =>
    exact peImp (pe_lc (g := tGt X.K envC envX is) (tt := fun σ H Q => ∃ x, tC' X.K (envX x) (c' x) σ H Q) (te := fun σ H Q => ∃ x, tX X.K (envX x) (f x) σ H Q) calm nd hi (blkOk_by ok) (fun s H C' cl fp => L.tgt _ (CC.blk s H scope cl C' fp))
      (fun s H C' cl fp => ptsEx (t := fun x => tC' X.K (envX x) (c' x)) fun x => L.tst _ (CC.blk s H scope cl C' fp) x) (fun s H C' cl fp => peEx (t := fun x => tX X.K (envX x) (f x)) fun x => L.itm _ (CC.blk s H scope cl C' fp) x) (hf _)) (lc_read hw h0 his)
/-- y = [..], the name a local that no block captures, on one line -/
theorem g_setLc {ρ : Type} {Z : ρ → Wd → Hp → Ends → Prop} {scope : Scope} {ifs : List Expr} {own : List (Str × Nat)} {mxs : Option (List α)} {envC : List SV} {envX : α → List SV} {is : List Nat} {c' : α → Option Bool} {f : α → Option β} {kk : List β → Option ρ} {n : Str} {p' cp : Pos}
    (C : Cf X N sc fb K mg P w base k) (i : Nat) (hi : XWk X env tg iter mxs)
    (L : LcP K tg elt ifs scope envC envX is c' f N sc mg P w base k) (ok : blkC N sc scope own = true) (hw : ∀ i ∈ own.map (·.2), envC[i]? = some .any) (h0 : EnvLe env envC) (his : ∀ i ∈ is, i ∈ own.map (·.2))
    (hr : ∀ x, GS X (env.set i (.own (x.map em))) rest (kk x) Z)
    (hin : N[i]? = some n := by rfl) (hkd : sc.kind = .function := by rfl) (hl : sc.names.lookup n = some .local := by decide +kernel) (hln : (p'.line == cp.line) = true := by rfl) (hcl : (scope.names.any fun (m, k) => m == n && (k == .local || k == .cell)) = false := by decide +kernel)
    (hf : ∀ E : Env, ∀ x, foldedSetIterable iter E x = pure x := by intro _ _; rfl) :
    GS X env (.Assign [.Name n p'] (.ListComp elt [⟨tg, iter, ifs, 0⟩] scope cp) pos :: rest) ((mxs.bind fun xs => lcC c' f xs).bind kk) Z := by
  have CC := C
  cases C with
  | mk nd calm po rm =>
    refine g_of (ps_setLc (g := tGt X.K envC envX is) (tt := fun σ H Q => ∃ x, tC' X.K (envX x) (c' x) σ H Q) (te := fun σ H Q => ∃ x, tX X.K (envX x) (f x) σ H Q) calm nd hin hl (sw_true hkd hl hln hcl) hi (blkOk_by ok) (fun s H C' cl fp => L.tgt _ (CC.blk s H scope cl C' fp))
      (fun s H C' cl fp => ptsEx (t := fun x => tC' X.K (envX x) (c' x)) fun x => L.tst _ (CC.blk s H scope cl C' fp) x) (fun s H C' cl fp => peEx (t := fun x => tX X.K (envX x) (f x)) fun x => L.itm _ (CC.blk s H scope cl C' fp) x) (hf _)) hr fun W0 W B σ D r E sb hm z => ?_
    obtain ⟨x, hx, hm⟩ := bind_some hm
    exact lc_read hw h0 his σ W.h _ (use_l E hx fun a vs W1 l1 h0 h1 hb r1 => ⟨x, use_g (E.putL l1 h0 h1 hb r1) (sb.trans l1.b) hm z⟩)
theorem lcP_no {scope : Scope} {envC : List SV} {envX : α → List SV} {is : List Nat} {f : α → Option β}
    (hg : ∀ X', Cf X' N (relS scope sc) (fun x => scope.names.lookup x == some .cell) K mg P w base k → XG X' envC tg envX is)
    (he : ∀ X', Cf X' N (relS scope sc) (fun x => scope.names.lookup x == some .cell) K mg P w base k → ∀ x, XE X' (envX x) elt (f x)) : LcP K tg elt [] scope envC envX is (fun _ => some true) f N sc mg P w base k :=
  ⟨hg, fun X' C' x => ⟨fun pins s σ H Q I ⟨W0, W, hH, E, y, hy, q⟩ => by
    subst hH
    cases hy
    exact pts_nil.run pins s σ _ Q I (q W (Le.refl E.ok))⟩, he⟩
theorem lcP_if {scope : Scope} {envC : List SV} {envX : α → List SV} {is : List Nat} {c' : α → Option Bool} {f : α → Option β}
    (hg : ∀ X', Cf X' N (relS scope sc) (fun x => scope.names.lookup x == some .cell) K mg P w base k → XG X' envC tg envX is)
    (ht : ∀ X', Cf X' N (relS scope sc) (fun x => scope.names.lookup x == some .cell) K mg P w base k → ∀ x, XT X' (envX x) c (c' x))
    (he : ∀ X', Cf X' N (relS scope sc) (fun x => scope.names.lookup x == some .cell) K mg P w base k → ∀ x, XE X' (envX x) elt (f x)) : LcP K tg elt [c] scope envC envX is c' f N sc mg P w base k :=
  ⟨hg, fun X' C' x => pts_one (ht X' C' x), he⟩
theorem lcC_true {f : α → Option β} {xs : List α} : lcC (fun _ => some true) f xs = mapC f xs := by unfold lcC mapC; rw [lcO_true]
/-! ### defs -/
def spF {A : Type} (K : PySem.W.Frag) (svs : A → List SV) (m : A → Option ρ) (res : ρ → RV) : Sp := fun vs H Q _ =>
  ∃ (W : Wd) (a : A) (x : ρ), W.h = H ∧ Same W.b W.h ∧ Args K W vs (svs a) ∧ m a = some x ∧ ∀ v W', Le W W' → ResR K W W' v (res x) → Q v W'.h
/-- a call -/
theorem x_call {A : Type} {svs : A → List SV} {m : A → Option τ} {ma : Option A} {x : Str} {f : Addr} {fd : FuncData} {ps : List Str} {j : Nat} (C : Cf X N sc fb K mg P w base k) (G : FnOk P w K mg base CX0 j f fd ps (spF K svs m fun x => .dat (em x)))
    (hm : mg x = some (.ref f)) (hk : PySem.W.keepIn K (.ref f) = true) (hb : Binds K fd ps []) (ha : XA X env (e :: es) ma svs) (hj : j ≤ k := by decide) (hg : glbB sc x = true := by decide +kernel)
    (hdb : (x == ("__debug__" : Str)) = false := by decide) (he : starEach (e :: es) X.env = (false, eval e X.env) :: starEach es X.env := by rfl) (hpl : (backTo pos (starEach es X.env)).any (·.1) = false := by rfl) :
    XE X env (.Call (.Name x p) (e :: es) [] pos) (ma.bind m) := by
  cases C with
  | mk nd calm po rm =>
    refine x_of (pe_call G (rm.mono hj) (glbB_ok hg) hm hk hb .nil pass0 ha hdb he hpl) fun W0 W σ E z hz Q q => ?_
    obtain ⟨y, hy, hz⟩ := bind_some hz
    refine use_a E hy fun vs W1 l1 r1 => ?_
    rw [List.append_nil]
    exact ⟨W1, y, z, rfl, l1.ok, r1, hz, fun v W2 l2 r2 => q v W2 (l1.trans l2) r2⟩
theorem l_call {A : Type} {svs : A → List SV} {m : A → Option (List τ)} {ma : Option A} {x : Str} {f : Addr} {fd : FuncData} {ps : List Str} {j : Nat} (C : Cf X N sc fb K mg P w base k) (G : FnOk P w K mg base CX0 j f fd ps (spF K svs m fun x => .own (x.map em)))
    (hm : mg x = some (.ref f)) (hk : PySem.W.keepIn K (.ref f) = true) (hb : Binds K fd ps []) (ha : XA X env (e :: es) ma svs) (hj : j ≤ k := by decide) (hg : glbB sc x = true := by decide +kernel)
    (hdb : (x == ("__debug__" : Str)) = false := by decide) (he : starEach (e :: es) X.env = (false, eval e X.env) :: starEach es X.env := by rfl) (hpl : (backTo pos (starEach es X.env)).any (·.1) = false := by rfl) :
    XL X env (.Call (.Name x p) (e :: es) [] pos) (ma.bind m) := by
  cases C with
  | mk nd calm po rm =>
    refine l_of (pe_call G (rm.mono hj) (glbB_ok hg) hm hk hb .nil pass0 ha hdb he hpl) fun W0 W σ E z hz Q q => ?_
    obtain ⟨y, hy, hz⟩ := bind_some hz
    refine use_a E hy fun vs W1 l1 r1 => ?_
    rw [List.append_nil]
    refine ⟨W1, y, z, rfl, l1.ok, r1, hz, fun v W2 l2 r2 => ?_⟩
    obtain ⟨ad, us, e1, e2, e3, e4, e5⟩ := r2
    subst e1
    exact q ad us W2 (l1.trans l2) (l1.h.free e4) e2 e3 e5
def NoOwn (svs : List SV) : Prop := ∀ sv ∈ svs, ∀ ds, sv ≠ .own ds
theorem Args.slots {W : Wd} : ∀ {vs : List V} {svs : List SV}, Args K W vs svs → ∀ (i : Nat) (sv : SV), svs[i]? = some sv → ∃ v, vs[i]? = some v ∧ SlotR K W W (some v) sv
  | _, _, .nil, i, sv, e => by simp at e
  | _, _, .dat r t, 0, sv, e => by
    simp at e
    subst e
    exact ⟨_, rfl, _, rfl, r⟩
  | _, _, .bor s r t, 0, sv, e => by
    simp at e
    subst e
    exact ⟨_, rfl, _, _, rfl, s, r⟩
  | _, _, .dat r t, i + 1, sv, e => by
    obtain ⟨v, h1, h2⟩ := Args.slots t i sv (by simpa using e)
    exact ⟨v, by simpa using h1, h2⟩
  | _, _, .bor s r t, i + 1, sv, e => by
    obtain ⟨v, h1, h2⟩ := Args.slots t i sv (by simpa using e)
    exact ⟨v, by simpa using h1, h2⟩
theorem Args.noOwn {W : Wd} : ∀ {vs : List V} {svs : List SV}, Args K W vs svs → ∀ (i : Nat) (ds : List D), svs[i]? ≠ some (.own ds)
  | _, _, .nil, i, ds, e => by simp at e
  | _, _, .dat r t, 0, ds, e => by simp at e
  | _, _, .bor s r t, 0, ds, e => by simp at e
  | _, _, .dat r t, i + 1, ds, e => Args.noOwn t i ds (by simpa using e)
  | _, _, .bor s r t, i + 1, ds, e => Args.noOwn t i ds (by simpa using e)
/-- at a def's entry -/
theorem EnvR.start {W : Wd} (ok : Same W.b W.h) {vs : List V} {svs : List SV} (h : Args K W vs svs) {n : Nat} (hn : N.length - vs.length = n) : EnvR K W W (svs ++ List.replicate n .any) (start N vs) := by
  have hl := h.length
  refine ⟨Le.refl ok, ?_, fun i sv e => ?_, fun i j di dj _ e _ => ?_⟩
  · unfold L2.start
    rw [List.length_append, List.length_append, List.length_map, List.length_replicate, List.length_replicate, hl, ← hn, hl]
  · unfold L2.start
    by_cases hi : i < svs.length
    · rw [List.getElem?_append_left hi] at e
      obtain ⟨v, h1, h2⟩ := h.slots i sv e
      refine ⟨some v, ?_, h2⟩
      rw [List.getElem?_append_left (by rw [List.length_map, hl]; exact hi), List.getElem?_map, h1]
      rfl
    · rw [List.getElem?_append_right (by omega)] at e
      obtain ⟨h1, h2⟩ := List.getElem?_eq_some_iff.mp e
      rw [List.getElem_replicate] at h2
      subst h2
      rw [List.length_replicate] at h1
      refine ⟨none, ?_, trivial⟩
      rw [List.getElem?_append_right (by rw [List.length_map, hl]; omega), List.length_map, hl, List.getElem?_replicate]
      rw [if_pos (by rw [← hl, hn]; rw [← hl] at h1; exact h1)]
  · exfalso
    by_cases hi : i < svs.length
    · rw [List.getElem?_append_left hi] at e
      exact h.noOwn i di e
    · rw [List.getElem?_append_right (by omega)] at e
      obtain ⟨h1, h2⟩ := List.getElem?_eq_some_iff.mp e
      rw [List.getElem_replicate] at h2
      cases h2
/-- THE RULE of a def -/
theorem fn_mk {A : Type} {svs : A → List SV} {m : A → Option ρ} {res : ρ → RV} {x qual : Str} {st : Stmt} {f : Addr} {fd : FuncData} {ps : List Str} (F : Fun K x qual st f fd) (S : FnScope N ps (defScope st)) (n : Nat) (hn : N.length - ps.length = n) (hl : ∀ a, (svs a).length = ps.length)
    (body : ∀ X, Cf X N (defScope st) (fun _ => true) K mg P w base k → ∀ a, GS X (svs a ++ List.replicate n .any) (defBody st) (m a) (ZRn X.K res)) : FnOk P w K mg base CX0 (k + 1) f fd ps (spF K svs m res) := by
  refine F.ok S (fun vs H Q E h => ?_) (fun cdv A' outer s H vs Q E hr h => ?_)
  · obtain ⟨W, a, y, _, _, r, _⟩ := h
    rw [r.length, hl]
  · obtain ⟨W, a, y, hH, ok, r, hy, q⟩ := h
    subst hH
    refine ⟨_, body _ (Cf.mk S.nd rfl PassesOwn.never hr) a, W, W, W.b, rfl, EnvR.start ok r (by rw [r.length, hl]; exact hn), Same.refl _, y, hy, fun v W' l r' => q v W' l r', fun σ W' l r' => q _ W' l r'⟩
end
end T

set_option Elab.async false
set_option linter.all false
set_option maxRecDepth 100000
set_option maxHeartbeats 4000000
/-! rules at the layer's own level that HandS lacks -/
namespace T
open PySem PySem.Spec PyProof.Rows L2
section
variable {X : Cx}
/-! ### a text times a number -/
theorem op_mulS : OpR X (binaryOp .Mult) (fun x y H Q => ∃ (z : Str) (n : Int), x = .str z ∧ y = .int n ∧ MulOk z n ∧ Q (.str (Txt.mul z n)) H) := by
  intro pins s σ H x y v u Q I rx ry h
  obtain ⟨z, n, rfl, rfl, hk, q⟩ := h
  obtain ⟨t, rfl⟩ := rx
  obtain ⟨t', rfl⟩ := ry
  exact SB.mul hk fun t2 k => ⟨.str _, H, I.tok _, ⟨_, rfl⟩, q⟩
/-! ### list + list, whatever lists they are -/
def rCatQ (K : PySem.W.Frag) : R2 := fun x y H Q => ∃ l b xs zs, x = .ref l ∧ y = .ref b ∧ SqL K H l xs ∧ SqL K H b zs ∧ xs.length + zs.length ≤ sizeLine ∧ ∀ p, H p = none → Q (.ref p) (upd H p (.lst (xs ++ zs)))
theorem op_catQ : OpR X (binaryOp .Add) (rCatQ X.K) := by
  intro pins s σ H x y v u Q I rx ry h
  obtain ⟨l, b, xs, zs, rfl, rfl, hH, hB, hz, q⟩ := h
  cases rx
  cases ry
  obtain ⟨its, r, p1, hl⟩ := I.list hH
  obtain ⟨its2, r2, p2, hl2⟩ := I.list hB
  obtain ⟨⟨cls, dd, data, sl⟩, ho, hc, n, hd⟩ := p1.isList
  obtain ⟨⟨cls2, dd2, data2, sl2⟩, ho2, hc2, n2, hd2⟩ := p2.isList
  simp only at hc hd hc2 hd2
  subst hc hd hc2 hd2
  have e : its.toArray ++ its2.toArray = (its ++ its2).toArray := by simp
  refine concat_meets ⟨_, ho, rfl⟩ ⟨_, ho2, rfl⟩ noFill_list_add seq_list_add PySem.F.slot_list_add PySem.F.entry_list_add (PySem.F.args_list_add_2 _ _) (list_addW l b its.toArray its2.toArray n n2 dd dd2 sl sl2 (by rw [List.size_toArray, List.size_toArray, ← r.length, ← r2.length]; exact hz)) ⟨ho, ho2, ?_⟩
  rw [e]
  exact ⟨.ref _, _, I.lnew (t' := s.toks) (r.append r2) (by rw [List.length_append]; omega), rfl, q _ I.fresh⟩
/-! ### the least of three -/
theorem vals3 {x y z : V} {us : List Value} (r : Vals [x, y, z] us) : ∃ u v w', us = [u, v, w'] ∧ RelV x u ∧ RelV y v ∧ RelV z w' := by
  cases r with
  | cons r1 r =>
    cases r with
    | cons r2 r =>
      cases r with
      | cons r3 r =>
        cases r
        exact ⟨_, _, _, rfl, r1, r2, r3⟩
def min3 (a b c : Int) : Int := if b < a then (if c < b then c else b) else (if c < a then c else a)
theorem call_min3 (hc : X.calm = true) : CallR X (.builtin "min") (fun xs H Q => ∃ i j k, xs = [.int i, .int j, .int k] ∧ Q (.int (min3 i j k)) H) := by
  intro pins s σ H xs us Q I r h
  obtain ⟨i, j, k, rfl, q⟩ := h
  obtain ⟨u, v, w', rfl, ⟨t, rfl⟩, ⟨t', rfl⟩, ⟨t'', rfl⟩⟩ := vals3 r
  refine min_three_ints (I.ok.hd hc) fun h' tk hk => ⟨_, H, I.kept hk, ?_, q⟩
  unfold min3
  by_cases h1 : j < i
  · rw [if_pos h1, if_pos h1]
    by_cases h2 : k < j
    · rw [if_pos h2, if_pos h2]; exact ⟨_, rfl⟩
    · rw [if_neg h2, if_neg h2]; exact ⟨_, rfl⟩
  · rw [if_neg h1, if_neg h1]
    by_cases h2 : k < i
    · rw [if_pos h2, if_pos h2]; exact ⟨_, rfl⟩
    · rw [if_neg h2, if_neg h2]; exact ⟨_, rfl⟩
/-! ### s[::-1] -/
def revS (z : Str) : Str := ⟨z.cps.toList.reverse.toArray⟩
theorem picked_rev (z : Str) : ((Builtin.Str.strSliceIndices none none (-1) z.length).filterMap (z.cps[·]?)) = z.cps.toList.reverse := by
  have h1 : Builtin.Str.strSliceIndices none none (-1) z.length = sliceRange ((z.length : Int) - 1) (-1) (-1) := by
    first
    | rfl
    | simp [Builtin.Str.strSliceIndices]
  rw [h1, PySem.W.krv_sliceRange, PySem.W.krv_range, List.filterMap_reverse]
  have h2 := PySem.W.krv_all z.cps
  show ((List.range z.cps.size).filterMap (z.cps[·]?)).reverse = _
  rw [h2]
def tRevS (te : TE) : TE := fun σ H Q => te σ H fun x H1 => ∃ z, x = .str z ∧ z.length ≤ sizeLine ∧ Q (.str (revS z)) H1
theorem pe_revS {e : Expr} {te : TE} {k : Nat} {p1 p2 p3 pos : Pos} (he : PE X e te) : PE X (.Subscript e (.Slice none none (some (.UnaryOp .USub (.Constant (.int 1) k p1) p2)) p3) pos) (tRevS te) := by
  refine ⟨fun pins s σ H Q I h => ?_⟩
  refine Subscript_ (thn (he.run pins s σ H _ I h) fun v s1 ⟨x, H1, I1, r1, q1⟩ => ?_)
  obtain ⟨z, ex, hz, q⟩ := q1
  subst ex
  obtain ⟨t, rfl⟩ := r1
  have hst : PO X (some (.UnaryOp .USub (.Constant (.int 1) k p1) p2)) (tPart (tUn (rU fun i => .int (-i)) (tC (.int 1)))) := po_some (pe_un un_neg pe_int)
  refine wpAny_Slice (thn (po_none.run pins s1 σ H1 (fun o H2 => o = none ∧ H2 = H1) I1 ⟨rfl, rfl⟩) fun vl s2 ⟨l, H2, I2, pl, el, e2⟩ => ?_)
  subst el e2
  refine thn (po_none.run pins s2 σ H2 (fun o H3 => o = none ∧ H3 = H2) I2 ⟨rfl, rfl⟩) fun vu s3 ⟨u, H3, I3, pu, eu, e3⟩ => ?_
  subst eu e3
  refine thn (hst.run pins s3 σ H3 (fun o H4 => o = some (-1) ∧ H4 = H3) I3 ⟨1, rfl, -1, rfl, rfl, rfl⟩) fun vs s4 ⟨o, H4, I4, ps, eo, e4⟩ => ?_
  subst eo e4
  have I5 : Inv X pins σ H4 { s4 with heap := s4.heap.push { cls := .type "slice", data := .fields #[vl, vu, vs] } } := I4.kept (t' := s4.toks) fun b ob q => Heap.get?_push_of_some _ q
  obtain ⟨l, rfl, hl⟩ := IsPart.raw pl
  obtain ⟨u, rfl, hu⟩ := IsPart.raw pu
  obtain ⟨st, rfl, hst⟩ := IsPart.raw ps
  show wpAny (model X.prog X.w) X.A (subscriptTail e (.Slice none none (some (.UnaryOp .USub (.Constant (.int 1) k p1) p2)) p3) (.str z t) (.ref s4.heap.objs.size)) (EP X pins σ Q) X.xe { s4 with heap := s4.heap.push { cls := .type "slice", data := .fields #[partValue l, partValue u, partValue st] } }
  refine tail_any (T := "str") (ops := [.str z t, .ref s4.heap.objs.size]) (typeIs_str _ _ _) F.slot_str_getitem.lookup ?_ (by with_unfolding_all rfl)
  refine wpAny_getItem_str_slice (l := l) (u := u) (st := st) ⟨_, Heap.get?_push_size _ rfl, rfl, rfl⟩ (by rw [hst]; decide) ?_
  have e : sliceMade z t l u st = Made.str (revS z) := by
    unfold sliceMade slicePicked
    rw [hst, hl, hu]
    show (if ((-1 : Int) == 1 && _) = true then _ else Made.str ⟨((Builtin.Str.strSliceIndices none none (-1) z.length).filterMap (z.cps[·]?)).toArray⟩) = _
    rw [picked_rev]
    rfl
  rw [e]
  refine ⟨?_, .str _, H4, I5.tok _, ⟨_, rfl⟩, q⟩
  show z.cps.toList.reverse.toArray.size ≤ sizeLine
  rw [List.size_toArray, List.length_reverse, Array.length_toList]
  exact hz
/-! ### enumerate of a text -/
def Ites (x : Str) : It :=
  ⟨fun i _ => i < x.cps.size, fun i H v H' => ∃ T c, v = .ref T ∧ H T = none ∧ H' = upd H T (.tup [.int (i : Nat), .str ⟨#[c]⟩]) ∧ x.cps[i]? = some c, fun i _ => i = x.cps.size⟩
theorem turn_enumS {P : Program} {w : World} {K : PySem.W.Frag} {elts : List Expr} {kk : Nat} {tpos : Pos} (x : Str) (t : Tok) (e it : Addr) (hei : e ≠ it) (ty : String) (hty : ty = "str_ascii_iterator" ∨ ty = "str_iterator") :
    Turn P w K (.Tuple elts kk tpos) (Ites x) [e, it] e (fun i h => (∃ old, IsEnum h e it ((i : Nat) : Int) old) ∧ h.IsStrIter it ty x t i) where
  mem := by simp
  obj := fun i h st b hb => by
    obtain ⟨⟨old, he⟩, ⟨o, ho, hc, hd⟩⟩ := st
    have e' : b = e ∨ b = it := by simpa using hb
    rcases e' with z | z
    · rw [z]; exact ⟨_, he, fun v q => nomatch q⟩
    · rw [z]; exact ⟨o, ho, fun v q => by rw [hd] at q; cases q⟩
  keep := fun i h h' st k => let ⟨⟨old, he⟩, ⟨o, ho, hr⟩⟩ := st; ⟨⟨old, k e (by simp) _ he⟩, ⟨o, k it (by simp) _ ho, hr⟩⟩
  item := by
    intro X hP hw hK hc i pins s σ H E I hf st hg
    subst hP hw hK
    have D : Draws X.prog X.w X.A.in1 it [it] x.cps.size (SignAt x) (fun i h => h.IsStrIter it ty x t i) := by
      rcases hty with q | q
      · rw [q]; exact Draws.strAscii (A := X.A.in1) (I.ok.hd hc) it x t
      · rw [q]; exact Draws.strWide (A := X.A.in1) (I.ok.hd hc) it x t
    have W := WalksT.enumerateD D e hei (by simpa using hei) (by simp)
    have hel : e < s.heap.objs.size := by obtain ⟨⟨_, he⟩, _⟩ := st; exact Heap.lt_size he
    have hil : it < s.heap.objs.size := by obtain ⟨_, ⟨_, ho, _⟩⟩ := st; exact Heap.lt_size ho
    refine W.item i s _ _ hg st fun T vals h' tk hP hT hI hM hk => ?_
    obtain ⟨t', u, hS, rfl⟩ := hP
    obtain ⟨c, t2, hcx, rfl⟩ := hS
    refine ⟨_, rfl, W.go elts kk tpos i T { s with heap := h', toks := tk } _ _ hM fun h'' st' hk2 => ?_⟩
    have hTe : T ∉ [e, it] := W.apart _ _ _ hM
    have hT2 : h''.IsTuple T #[.int i t', .str ⟨#[c]⟩ t2] := by
      obtain ⟨o, h1, h2⟩ := hI
      exact ⟨o, hk2 T o hTe h1, h2⟩
    have new : ObjOk X.prog X.w (upd H T (.tup [.int (i : Nat), .str ⟨#[c]⟩])) h'' T (.tup [.int (i : Nat), .str ⟨#[c]⟩]) :=
      ⟨by show 2 ≤ sizeLine; decide, [.int i t', .str ⟨#[c]⟩ t2], .cons ⟨_, rfl⟩ (.cons ⟨_, rfl⟩ .nil), hT2⟩
    have I1 : Inv X pins σ (upd H T (.tup [.int (i : Nat), .str ⟨#[c]⟩])) { s with heap := h'', toks := tk } :=
      I.turnedNew (ch := [e, it]) (fun b ob hb q => hk2 b ob hb (hk b ob hb q)) hf hT new
    refine ⟨.ref T, _, I1, rfl, ⟨T, c, rfl, I.hok.fresh hT, rfl, hcx⟩, st', fun b hb => ?_⟩
    have hb' : b < s.heap.objs.size := by
      have e' : b = e ∨ b = it := by simpa using hb
      rcases e' with z | z
      · rw [z]; exact hel
      · rw [z]; exact hil
    rw [upd_ne (Nat.ne_of_lt (Nat.lt_of_lt_of_le hb' hT))]
    exact (hf b hb).1
  done := by
    intro X hP hw hK hc i pins s σ H E I hf st hg
    subst hP hw hK
    have hg : i = x.cps.size := hg
    subst hg
    have D : Draws X.prog X.w X.A.in1 it [it] x.cps.size (SignAt x) (fun i h => h.IsStrIter it ty x t i) := by
      rcases hty with q | q
      · rw [q]; exact Draws.strAscii (A := X.A.in1) (I.ok.hd hc) it x t
      · rw [q]; exact Draws.strWide (A := X.A.in1) (I.ok.hd hc) it x t
    have W := WalksT.enumerateD D e hei (by simpa using hei) (by simp)
    refine W.done s _ _ st fun h' tk hk => ⟨rfl, ?_⟩
    exact I.turnedL hk hf
  self := fun A i s Q E st h => let ⟨⟨_, he⟩, _⟩ := st; wpAny_pyIter_enum he h
def iEnumS (ta : TA) : TI := fun σ H R => ta σ H fun vs H1 => ∃ x, vs = [.str x] ∧ R (Ites x) H1
theorem pi_enumS {e : Expr} {ta : TA} {p pos tpos : Pos} {elts : List Expr} {kk : Nat} (hg : Gl X "enumerate") (hm : X.mg "enumerate" = none) (ha : PA X [e] ta) (hs : starEach [e] X.env = [(false, eval e X.env)] := by rfl) :
    PI X (.Tuple elts kk tpos) (.Call (.Name "enumerate" p) [e] [] pos) (iEnumS ta) := by
  refine ⟨fun pins s σ H R I h => ?_⟩
  refine Call_ (ld_blt I hg hm boot_enumerate (PyProof.Rows.callWith_type1 (thn (ha.run pos pins s σ H _ I h) fun us s1 ⟨vs, H1, I1, r1, q1⟩ => ?_) hs rfl))
  obtain ⟨x, ex, q⟩ := q1
  subst ex
  obtain ⟨u, rfl, t, rfl⟩ := vals1 r1
  refine call_enumerate_str fun h' he hit hsz hk => wpAny_pyIter_enum he ?_
  have I2 : Inv X pins σ H1 { s1 with heap := h' } := I1.kept (t' := s1.toks) hk
  have hty : strIterType x = "str_ascii_iterator" ∨ strIterType x = "str_iterator" := by
    unfold strIterType
    split
    · exact .inl rfl
    · exact .inr rfl
  refine ⟨s1.heap.objs.size + 1, [s1.heap.objs.size + 1, s1.heap.objs.size], _, _, H1, rfl, I2, turn_enumS x t (s1.heap.objs.size + 1) s1.heap.objs.size (Nat.succ_ne_self _) (strIterType x) hty, ⟨⟨.none, he⟩, hit⟩, fun b hb => ?_, q⟩
  have e' : b = s1.heap.objs.size + 1 ∨ b = s1.heap.objs.size := by simpa using hb
  have hle : s1.heap.objs.size ≤ b := by
    rcases e' with z | z
    · rw [z]; exact Nat.le_add_right _ _
    · rw [z]; exact Nat.le_refl _
  exact I1.fpOk hle (I1.hok.fresh hle)
end
end T

set_option Elab.async false
set_option linter.all false
set_option maxRecDepth 100000
set_option maxHeartbeats 4000000
namespace T
open PySem PySem.Spec PyProof.Rows L2
variable {τ α β γ δ ρ B S ι : Type}
section
variable {X : Cx} {env env' : List SV} {e a b c tg iter elt o : Expr} {st : Stmt} {es : List Expr} {body rest : List Stmt} {pos p p2 apos : Pos} [Em τ] [Em α] [Em β] [Em γ] {N : List Str} {sc : Scope} {fb : Str → Bool} {K : PySem.W.Frag} {mg : Str → Option Value} {P : Program} {w : World} {base : Heap} {k : Nat}
theorem use_ax {W0 W : Wd} {σ : St} {m : Option τ} {x : τ} {Q : List V → Hp → Prop} (E : EnvR K W0 W env σ) (hx : m = some x) (q : ∀ v W', Le W W' → Rp K W'.b v (em x) → Q [v] W'.h) : tA K env (m.bind fun x => (some ()).bind fun y => some (x, y)) (fun p => .dat (em p.1) :: (fun _ => []) p.2) σ W.h Q := by
  refine use_a E (x := (x, ())) (by rw [hx]; rfl) fun vs W1 l1 r1 => ?_
  cases r1 with
  | dat r1 r2 =>
    cases r2
    exact q _ W1 l1 r1
/-- one data argument -/
theorem x_cB1 {x : Str} {id : String} {r : List V → Hp → VK → Prop} {m : Option α} {f : α → Option τ} (C : Cf X N sc fb K mg P w base k) (hc : CallR X (.builtin id) r) (ha : XE X env e m)
    (hr : ∀ d y, f d = some y → ∀ (W : Wd) (v : V), Same W.b W.h → Rp X.K W.b v (em d) → ∀ Q : VK, (∀ v W', Le W W' → Rp X.K W'.b v (em y) → Q v W'.h) → r [v] W.h Q)
    (hm : mg x = none) (hv : bootBuiltins x = some (.builtin id) := by decide +kernel) (hg : glbB sc x = true := by decide +kernel) (hn : x ≠ "__name__" := by decide) (hdb : (x == ("__debug__" : Str)) = false := by decide)
    (he : ∀ E : Env, starEach [e] E = (false, eval e E) :: starEach [] E := by intro _; rfl) (hpl : ∀ E : Env, (backTo pos (starEach ([] : List Expr) E)).any (·.1) = false := by intro _; rfl) : XE X env (.Call (.Name x p) [e] [] pos) (m.bind f) := by
  cases C
  refine x_of (pe_callB hc (glbB_ok hg) hm hv (a_dat ha a_nil (he _)) hn hdb (he _) (hpl _)) fun W0 W σ E z hz Q q => ?_
  obtain ⟨d, hd, hz⟩ := bind_some hz
  exact use_ax E hd fun v W1 l1 r1 => hr d z hz W1 v l1.ok r1 Q fun v W2 l2 r2 => q v W2 (l1.trans l2) r2
theorem x_cT1 {x : Str} {id : String} {r : List V → Hp → VK → Prop} {m : Option α} {f : α → Option τ} (C : Cf X N sc fb K mg P w base k) (hc : CallR X (.type id) r) (ha : XE X env e m)
    (hr : ∀ d y, f d = some y → ∀ (W : Wd) (v : V), Same W.b W.h → Rp X.K W.b v (em d) → ∀ Q : VK, (∀ v W', Le W W' → Rp X.K W'.b v (em y) → Q v W'.h) → r [v] W.h Q)
    (hm : mg x = none) (hv : bootBuiltins x = some (.type id) := by decide +kernel) (hg : glbB sc x = true := by decide +kernel) (hn : x ≠ "__name__" := by decide) (hdb : (x == ("__debug__" : Str)) = false := by decide)
    (he : ∀ E : Env, starEach [e] E = (false, eval e E) :: starEach [] E := by intro _; rfl) (hpl : ∀ E : Env, (backTo pos (starEach ([] : List Expr) E)).any (·.1) = false := by intro _; rfl) : XE X env (.Call (.Name x p) [e] [] pos) (m.bind f) := by
  cases C
  refine x_of (pe_callTy hc (glbB_ok hg) hm hv (a_dat ha a_nil (he _)) hn hdb (he _) (hpl _)) fun W0 W σ E z hz Q q => ?_
  obtain ⟨d, hd, hz⟩ := bind_some hz
  exact use_ax E hd fun v W1 l1 r1 => hr d z hz W1 v l1.ok r1 Q fun v W2 l2 r2 => q v W2 (l1.trans l2) r2
/-- one list that is read -/
theorem paQ {m : Option (List τ)} (h : XQ X env e m) (hst : starEach [e] X.env = (false, eval e X.env) :: starEach [] X.env) : PA X [e] (fun σ H Q => ∃ W0 W : Wd, W.h = H ∧ EnvR X.K W0 W env σ ∧ ∃ x, m = some x ∧ ∀ a vs W', Le W W' → SqL X.K W'.h a vs → RpA X.K W'.b vs (x.map em) → Q [.ref a] W'.h) :=
  paImp (pa_cons h pa_nil hst) fun σ H Q ⟨W0, W, hH, E, x, hx, q⟩ => ⟨W0, W, hH, E, x, hx, fun a vs W' l s r => q a vs W' l s r⟩
theorem x_cBQ {x : Str} {id : String} {r : List V → Hp → VK → Prop} {m : Option (List α)} {f : List α → Option τ} (C : Cf X N sc fb K mg P w base k) (hc : CallR X (.builtin id) r) (ha : XQ X env e m)
    (hr : ∀ d y, f d = some y → ∀ (W : Wd) (a : Addr) (vs : List V), Same W.b W.h → SqL X.K W.h a vs → RpA X.K W.b vs (d.map em) → ∀ Q : VK, (∀ v W', Le W W' → Rp X.K W'.b v (em y) → Q v W'.h) → r [.ref a] W.h Q)
    (hm : mg x = none) (hv : bootBuiltins x = some (.builtin id) := by decide +kernel) (hg : glbB sc x = true := by decide +kernel) (hn : x ≠ "__name__" := by decide) (hdb : (x == ("__debug__" : Str)) = false := by decide)
    (he : ∀ E : Env, starEach [e] E = (false, eval e E) :: starEach [] E := by intro _; rfl) (hpl : ∀ E : Env, (backTo pos (starEach ([] : List Expr) E)).any (·.1) = false := by intro _; rfl) : XE X env (.Call (.Name x p) [e] [] pos) (m.bind f) := by
  cases C
  refine x_of (pe_callB hc (glbB_ok hg) hm hv (paQ ha (he _)) hn hdb (he _) (hpl _)) fun W0 W σ E z hz Q q => ?_
  obtain ⟨d, hd, hz⟩ := bind_some hz
  exact ⟨W0, W, rfl, E, d, hd, fun a vs W1 l1 s1 r1 => hr d z hz W1 a vs l1.ok s1 r1 Q fun v W2 l2 r2 => q v W2 (l1.trans l2) r2⟩
theorem x_cTQ {x : Str} {id : String} {r : List V → Hp → VK → Prop} {m : Option (List α)} {f : List α → Option τ} (C : Cf X N sc fb K mg P w base k) (hc : CallR X (.type id) r) (ha : XQ X env e m)
    (hr : ∀ d y, f d = some y → ∀ (W : Wd) (a : Addr) (vs : List V), Same W.b W.h → SqL X.K W.h a vs → RpA X.K W.b vs (d.map em) → ∀ Q : VK, (∀ v W', Le W W' → Rp X.K W'.b v (em y) → Q v W'.h) → r [.ref a] W.h Q)
    (hm : mg x = none) (hv : bootBuiltins x = some (.type id) := by decide +kernel) (hg : glbB sc x = true := by decide +kernel) (hn : x ≠ "__name__" := by decide) (hdb : (x == ("__debug__" : Str)) = false := by decide)
    (he : ∀ E : Env, starEach [e] E = (false, eval e E) :: starEach [] E := by intro _; rfl) (hpl : ∀ E : Env, (backTo pos (starEach ([] : List Expr) E)).any (·.1) = false := by intro _; rfl) : XE X env (.Call (.Name x p) [e] [] pos) (m.bind f) := by
  cases C
  refine x_of (pe_callTy hc (glbB_ok hg) hm hv (paQ ha (he _)) hn hdb (he _) (hpl _)) fun W0 W σ E z hz Q q => ?_
  obtain ⟨d, hd, hz⟩ := bind_some hz
  exact ⟨W0, W, rfl, E, d, hd, fun a vs W1 l1 s1 r1 => hr d z hz W1 a vs l1.ok s1 r1 Q fun v W2 l2 r2 => q v W2 (l1.trans l2) r2⟩
/-! ### len -/
def lenS (s : Str) : Option Int := if sz s.length then some (s.length : Int) else none
theorem x_lenS {m : Option Str} (C : Cf X N sc fb K mg P w base k) (h : XE X env e m) (hm : mg "len" = none) (hg : glbB sc "len" = true := by decide +kernel)
    (he : ∀ E : Env, starEach [e] E = (false, eval e E) :: starEach [] E := by intro _; rfl) : XE X env (.Call (.Name "len" p) [e] [] pos) (m.bind lenS) :=
  x_cB1 C call_len_str h (fun d y hy W v ok r Q q => by
    cases r
    unfold lenS at hy
    split at hy
    · rename_i hz
      cases hy
      exact ⟨d, rfl, Nat.le_of_lt (sz_line hz), q _ W (Le.refl ok) (.int _)⟩
    · cases hy) hm PySem.boot_len hg (by decide) (by decide) he
theorem x_lenQ {m : Option (List τ)} (C : Cf X N sc fb K mg P w base k) (h : XQ X env e m) (hm : mg "len" = none) (hg : glbB sc "len" = true := by decide +kernel)
    (he : ∀ E : Env, starEach [e] E = (false, eval e E) :: starEach [] E := by intro _; rfl) : XE X env (.Call (.Name "len" p) [e] [] pos) (m.bind fun xs => some (xs.length : Int)) :=
  x_cBQ C call_len_seq h (fun d y hy W a vs ok s r Q q => by
    cases hy
    have hl := r.length
    rw [List.length_map] at hl
    refine ⟨a, vs, rfl, .inl s, ?_⟩
    rw [hl]
    exact q _ W (Le.refl ok) (.int _)) hm PySem.boot_len hg (by decide) (by decide) he
theorem x_lenV {m : Option (Vt τ)} (C : Cf X N sc fb K mg P w base k) (h : XE X env e m) (hm : mg "len" = none) (hg : glbB sc "len" = true := by decide +kernel)
    (he : ∀ E : Env, starEach [e] E = (false, eval e E) :: starEach [] E := by intro _; rfl) : XE X env (.Call (.Name "len" p) [e] [] pos) (m.bind fun t => some (t.l.length : Int)) :=
  x_cB1 C call_len_seq h (fun d y hy W v ok r Q q => by
    cases hy
    have r : Rp X.K W.b v (.tup (d.l.map em)) := r
    cases r with
    | tup s r =>
      have hl := r.length
      rw [List.length_map] at hl
      refine ⟨_, _, rfl, .inr (same_t ok s), ?_⟩
      rw [hl]
      exact q _ W (Le.refl ok) (.int _)) hm PySem.boot_len hg (by decide) (by decide) he
/-! ### numbers -/
def absI (i : Int) : Int := if i < 0 then -i else i
theorem x_abs {m : Option Int} (C : Cf X N sc fb K mg P w base k) (h : XE X env e m) (hm : mg "abs" = none) (hg : glbB sc "abs" = true := by decide +kernel)
    (he : ∀ E : Env, starEach [e] E = (false, eval e E) :: starEach [] E := by intro _; rfl) : XE X env (.Call (.Name "abs" p) [e] [] pos) (m.bind fun i => some (absI i)) :=
  x_cB1 C call_abs h (fun d y hy W v ok r Q q => by
    cases hy
    cases r
    exact ⟨d, rfl, q _ W (Le.refl ok) (.int _)⟩) hm (by decide +kernel) hg (by decide) (by decide) he
theorem x_intI {m : Option Int} (C : Cf X N sc fb K mg P w base k) (h : XE X env e m) (hm : mg "int" = none) (hg : glbB sc "int" = true := by decide +kernel)
    (he : ∀ E : Env, starEach [e] E = (false, eval e E) :: starEach [] E := by intro _; rfl) : XE X env (.Call (.Name "int" p) [e] [] pos) (m.bind fun i => some i) :=
  x_cT1 C call_int1 h (fun d y hy W v ok r Q q => by
    cases hy
    cases r
    exact .inl ⟨d, rfl, q _ W (Le.refl ok) (.int _)⟩) hm (by decide +kernel) hg (by decide) (by decide) he
theorem x_intB {m : Option Bool} (C : Cf X N sc fb K mg P w base k) (h : XE X env e m) (hm : mg "int" = none) (hg : glbB sc "int" = true := by decide +kernel)
    (he : ∀ E : Env, starEach [e] E = (false, eval e E) :: starEach [] E := by intro _; rfl) : XE X env (.Call (.Name "int" p) [e] [] pos) (m.bind fun b => some (if b = true then (1 : Int) else 0)) :=
  x_cT1 C call_int1 h (fun d y hy W v ok r Q q => by
    cases hy
    cases r
    exact .inr ⟨d, rfl, q _ W (Le.refl ok) (.int _)⟩) hm (by decide +kernel) hg (by decide) (by decide) he
theorem Cf.calm (C : Cf X N sc fb K mg P w base k) : X.calm = true := by cases C; assumption
theorem x_min2 {ma mb : Option Int} (C : Cf X N sc fb K mg P w base k) (ha : XE X env a ma) (hb : XE X env b mb) (hm : mg "min" = none) (hg : glbB sc "min" = true := by decide +kernel)
    (h1 : starEach [a, b] X.env = (false, eval a X.env) :: starEach [b] X.env := by rfl) (h2 : starEach [b] X.env = (false, eval b X.env) :: starEach [] X.env := by rfl) (hpl : (backTo pos (starEach [b] X.env)).any (·.1) = false := by rfl) :
    XE X env (.Call (.Name "min" p) [a, b] [] pos) (ma.bind fun x => mb.bind fun y => some (if y < x then y else x)) :=
  (x_cB (f := fun p : Int × Int × Unit => some (if p.2.1 < p.1 then p.2.1 else p.1)) C (call_min2 C.calm) (a_dat ha (a_dat hb a_nil h2) h1) (fun d y hy W vs ok r Q q => by
    cases hy
    cases r with
    | dat r1 r => cases r with
      | dat r2 r =>
        cases r
        cases r1
        cases r2
        exact ⟨_, _, rfl, q _ W (Le.refl ok) (.int _)⟩) hm (by decide +kernel) hg (by decide) (by decide) h1 hpl).is (by cases ma with | none => rfl | some x => cases mb <;> rfl)
theorem x_max2 {ma mb : Option Int} (C : Cf X N sc fb K mg P w base k) (ha : XE X env a ma) (hb : XE X env b mb) (hm : mg "max" = none) (hg : glbB sc "max" = true := by decide +kernel)
    (h1 : starEach [a, b] X.env = (false, eval a X.env) :: starEach [b] X.env := by rfl) (h2 : starEach [b] X.env = (false, eval b X.env) :: starEach [] X.env := by rfl) (hpl : (backTo pos (starEach [b] X.env)).any (·.1) = false := by rfl) :
    XE X env (.Call (.Name "max" p) [a, b] [] pos) (ma.bind fun x => mb.bind fun y => some (if y > x then y else x)) :=
  (x_cB (f := fun p : Int × Int × Unit => some (if p.2.1 > p.1 then p.2.1 else p.1)) C (call_max2 C.calm) (a_dat ha (a_dat hb a_nil h2) h1) (fun d y hy W vs ok r Q q => by
    cases hy
    cases r with
    | dat r1 r => cases r with
      | dat r2 r =>
        cases r
        cases r1
        cases r2
        exact ⟨_, _, rfl, q _ W (Le.refl ok) (.int _)⟩) hm (by decide +kernel) hg (by decide) (by decide) h1 hpl).is (by cases ma with | none => rfl | some x => cases mb <;> rfl)
theorem x_min3 {ma mb mc : Option Int} (C : Cf X N sc fb K mg P w base k) (ha : XE X env a ma) (hb : XE X env b mb) (hcc : XE X env c mc) (hm : mg "min" = none) (hg : glbB sc "min" = true := by decide +kernel)
    (h1 : starEach [a, b, c] X.env = (false, eval a X.env) :: starEach [b, c] X.env := by rfl) (h2 : starEach [b, c] X.env = (false, eval b X.env) :: starEach [c] X.env := by rfl) (h3 : starEach [c] X.env = (false, eval c X.env) :: starEach [] X.env := by rfl)
    (hpl : (backTo pos (starEach [b, c] X.env)).any (·.1) = false := by rfl) :
    XE X env (.Call (.Name "min" p) [a, b, c] [] pos) (ma.bind fun x => mb.bind fun y => mc.bind fun z => some (min3 x y z)) :=
  (x_cB (f := fun p : Int × Int × Int × Unit => some (min3 p.1 p.2.1 p.2.2.1)) C (call_min3 C.calm) (a_dat ha (a_dat hb (a_dat hcc a_nil h3) h2) h1) (fun d y hy W vs ok r Q q => by
    cases hy
    cases r with
    | dat r1 r => cases r with
      | dat r2 r => cases r with
        | dat r3 r =>
          cases r
          cases r1
          cases r2
          cases r3
          exact ⟨_, _, _, rfl, q _ W (Le.refl ok) (.int _)⟩) hm (by decide +kernel) hg (by decide) (by decide) h1 hpl).is (by cases ma with
    | none => rfl
    | some x => cases mb with
      | none => rfl
      | some y => cases mc <;> rfl)
/-! ### texts -/
def catS (x y : Str) : Option Str := if x.length + y.length < 16777216 then some (x ++ y) else none
theorem x_addS {ma mb : Option Str} (ha : XE X env a ma) (hb : XE X env b mb) : XE X env (.BinOp a .Add b pos) (ma.bind fun x => mb.bind fun y => catS x y) :=
  x_bin op_add_str ha hb fun x y z hz W u v ok ru rv Q q => by
    unfold catS at hz
    split at hz
    · rename_i hs
      cases hz
      cases ru; cases rv
      exact ⟨x, y, rfl, rfl, Nat.le_of_lt (sz_line hs), q _ W (Le.refl ok) (.str _)⟩
    · cases hz
instance (z : Str) (n : Int) : Decidable (MulOk z n) := by unfold MulOk; infer_instance
def mulS (x : Str) (n : Int) : Option Str := if MulOk x n then some (Txt.mul x n) else none
theorem x_mulS {ma : Option Str} {mb : Option Int} (ha : XE X env a ma) (hb : XE X env b mb) : XE X env (.BinOp a .Mult b pos) (ma.bind fun x => mb.bind fun y => mulS x y) :=
  x_bin op_mulS ha hb fun x y z hz W u v ok ru rv Q q => by
    unfold mulS at hz
    split at hz
    · rename_i hs
      cases hz
      cases ru; cases rv
      exact ⟨x, y, rfl, rfl, hs, q _ W (Le.refl ok) (.str _)⟩
    · cases hz
def revP (z : Str) : Option Str := if sz z.length then some (revS z) else none
theorem x_revS {m : Option Str} {kk : Nat} {p1 p2 p3 : Pos} (h : XE X env e m) : XE X env (.Subscript e (.Slice none none (some (.UnaryOp .USub (.Constant (.int 1) kk p1) p2)) p3) pos) (m.bind revP) :=
  x_of (pe_revS h) fun W0 W σ E z hz Q q => by
    obtain ⟨d, hd, hz⟩ := bind_some hz
    unfold revP at hz
    split at hz
    · rename_i hs
      cases hz
      refine use_x E hd fun v W1 l1 r1 => ?_
      cases r1
      exact ⟨d, rfl, Nat.le_of_lt (sz_line hs), q _ W1 l1 (.str _)⟩
    · cases hz
/-- a part of a slice -/
def tOp (K : PySem.W.Frag) (env : List SV) (m : Option (Option Int)) : TO := fun σ H Q =>
  ∃ W0 W : Wd, W.h = H ∧ EnvR K W0 W env σ ∧ ∃ x, m = some x ∧ ∀ W', Le W W' → Q x W'.h
abbrev XO (X : Cx) (env : List SV) (e : Option Expr) (m : Option (Option Int)) : Prop := PO X e (tOp X.K env m)
theorem poImp {e : Option Expr} {t t' : TO} (h : PO X e t) (kk : ∀ σ H Q, t' σ H Q → t σ H Q) : PO X e t' := ⟨fun pins s σ H Q I q => h.run pins s σ H Q I (kk σ H Q q)⟩
theorem o_none : XO X env none (some none) := poImp po_none fun σ H Q ⟨W0, W, hH, E, x, hx, q⟩ => by
  subst hH
  cases hx
  exact q W (Le.refl E.ok)
theorem o_some {m : Option Int} (h : XE X env e m) : XO X env (some e) (m.bind fun i => some (some i)) := poImp (po_some h) fun σ H Q ⟨W0, W, hH, E, x, hx, q⟩ => by
  subst hH
  obtain ⟨i, hi, hx⟩ := bind_some hx
  cases hx
  refine use_x E hi fun v W1 l1 r1 => ?_
  cases r1
  exact ⟨i, rfl, q W1 l1⟩
theorem use_o {W0 W : Wd} {σ : St} {m : Option (Option Int)} {x : Option Int} {Q : Option Int → Hp → Prop} (E : EnvR K W0 W env σ) (h : m = some x) (q : ∀ W', Le W W' → Q x W'.h) : tOp K env m σ W.h Q := ⟨W0, W, rfl, E, x, h, q⟩
def cutP (z : Str) (lo hi : Option Int) : Option Str := if sz z.length then some (cutS z lo hi) else none
theorem x_cutS {lo hi : Option Expr} {m : Option Str} {ml mh : Option (Option Int)} (h : XE X env e m) (hl : XO X env lo ml) (hh : XO X env hi mh) : XE X env (.Subscript e (.Slice lo hi none p2) pos) (m.bind fun z => ml.bind fun l => mh.bind fun u => cutP z l u) :=
  x_of (pe_slice sl_str h hl hh) fun W0 W σ E z hz Q q => by
    obtain ⟨d, hd, hz⟩ := bind_some hz
    obtain ⟨l, hl, hz⟩ := bind_some hz
    obtain ⟨u, hu, hz⟩ := bind_some hz
    unfold cutP at hz
    split at hz
    · rename_i hs
      cases hz
      refine use_x E hd fun v W1 l1 r1 => ?_
      refine use_o (E.mono l1) hl fun W2 l2 => ?_
      refine use_o ((E.mono l1).mono l2) hu fun W3 l3 => ?_
      cases r1
      exact ⟨d, rfl, Nat.le_of_lt (sz_line hs), q _ W3 (l1.trans (l2.trans l3)) (.str _)⟩
    · cases hz
/-- the items of a slice -/
def cut (xs : List τ) (lo hi : Option Int) : List τ := (xs.drop (HT.sIx xs.length 0 lo)).take (HT.sIx xs.length xs.length hi - HT.sIx xs.length 0 lo)
theorem RpA.cut {H : Hp} {vs : List V} {ds : List D} (r : RpA K H vs ds) (lo hi : Option Int) : RpA K H (cutV vs lo hi) (T.cut ds lo hi) := by
  unfold cutV T.cut
  rw [r.length]
  exact (r.drop _).take _
theorem cut_map {f : α → β} {xs : List α} {lo hi : Option Int} : T.cut (xs.map f) lo hi = (T.cut xs lo hi).map f := by
  unfold T.cut
  rw [List.length_map, List.map_take, List.map_drop]
theorem l_cutQ {lo hi : Option Expr} {m : Option (List τ)} {ml mh : Option (Option Int)} (h : XQ X env e m) (hl : XO X env lo ml) (hh : XO X env hi mh) : XL X env (.Subscript e (.Slice lo hi none p2) pos) (m.bind fun z => ml.bind fun l => mh.bind fun u => some (T.cut z l u)) :=
  l_of (pe_slice sl_list h hl hh) fun W0 W σ E z hz Q q => by
    obtain ⟨d, hd, hz⟩ := bind_some hz
    obtain ⟨l, hl, hz⟩ := bind_some hz
    obtain ⟨u, hu, hz⟩ := bind_some hz
    cases hz
    refine use_q E hd fun a vs W1 l1 s1 r1 => ?_
    refine use_o (E.mono l1) hl fun W2 l2 => ?_
    refine use_o ((E.mono l1).mono l2) hu fun W3 l3 => ?_
    have l13 := l1.trans (l2.trans l3)
    refine ⟨a, vs, rfl, (l2.trans l3).h.seq s1, fun p hp => ?_⟩
    refine q p _ ⟨W3.b, upd W3.h p (.lst (cutV vs l u))⟩ (l13.trans (Le.layM l13.ok hp)) (l13.h.free hp) upd_same (l13.ok.free hp) ?_
    rw [← cut_map]
    exact (r1.mono (l2.trans l3).b).cut l u
/-! ### lists -/
def catL (x y : List τ) : Option (List τ) := if x.length + y.length < 16777216 then some (x ++ y) else none
theorem l_cat {ma mb : Option (List τ)} (ha : XQ X env a ma) (hb : XQ X env b mb) : XL X env (.BinOp a .Add b pos) (ma.bind fun x => mb.bind fun y => catL x y) :=
  l_of (pe_op op_catQ ha hb) fun W0 W σ E z hz Q q => by
    obtain ⟨x, hx, hz⟩ := bind_some hz
    obtain ⟨y, hy, hz⟩ := bind_some hz
    unfold catL at hz
    split at hz
    · rename_i hs
      cases hz
      refine use_q E hx fun a vs W1 l1 s1 r1 => ?_
      refine use_q (E.mono l1) hy fun b us W2 l2 s2 r2 => ?_
      have h1 := r1.length
      have h2 := r2.length
      rw [List.length_map] at h1 h2
      have l12 := l1.trans l2
      refine ⟨a, b, vs, us, rfl, rfl, l2.h.seq s1, s2, by rw [h1, h2]; exact Nat.le_of_lt (sz_line hs), fun p hp => ?_⟩
      refine q p _ ⟨W2.b, upd W2.h p (.lst (vs ++ us))⟩ (l12.trans (Le.layM l12.ok hp)) (l12.h.free hp) upd_same (l12.ok.free hp) ?_
      rw [List.map_append]
      exact (r1.mono l2.b).append r2
    · cases hz
/-- list(xs) -/
theorem l_copy {m : Option (List τ)} (C : Cf X N sc fb K mg P w base k) (h : XQ X env e m) (hm : mg "list" = none) (hg : glbB sc "list" = true := by decide +kernel)
    (he : ∀ E : Env, starEach [e] E = (false, eval e E) :: starEach [] E := by intro _; rfl) (hpl : ∀ E : Env, (backTo pos (starEach ([] : List Expr) E)).any (·.1) = false := by intro _; rfl) : XL X env (.Call (.Name "list" p) [e] [] pos) m := by
  cases C
  refine l_of (pe_callTy call_list_of (glbB_ok hg) hm (by decide +kernel) (paQ h (he _)) (by decide) (by decide) (he _) (hpl _)) fun W0 W σ E z hz Q q => ?_
  refine ⟨W0, W, rfl, E, z, hz, fun a vs W1 l1 s1 r1 => ⟨a, vs, rfl, .inl s1, fun p hp => ?_⟩⟩
  exact q p vs ⟨W1.b, upd W1.h p (.lst vs)⟩ (l1.trans (Le.layM l1.ok hp)) (l1.h.free hp) upd_same (l1.ok.free hp) r1
/-- tuple(xs) -/
theorem x_tupleQ {m : Option (List τ)} (C : Cf X N sc fb K mg P w base k) (h : XQ X env e m) (hm : mg "tuple" = none) (hg : glbB sc "tuple" = true := by decide +kernel)
    (he : ∀ E : Env, starEach [e] E = (false, eval e E) :: starEach [] E := by intro _; rfl) : XE X env (.Call (.Name "tuple" p) [e] [] pos) (m.bind fun xs => some (⟨xs⟩ : Vt τ)) :=
  x_cTQ C call_tuple_of h (fun d y hy W a vs ok s r Q q => by
    cases hy
    refine ⟨a, vs, rfl, .inl ⟨s, fun l hl => ?_⟩⟩
    exact q (.ref l) _ (Le.lay ok (o := .tup vs) hl) (.tup (SqT.of upd_same) (r.mono (Same.new (ok.free hl))))) hm (by decide +kernel) hg (by decide) (by decide) he
/-- list(range(..)) -/
def rngL (lo hi : Int) : Option (List Int) := if -4611686018427387904 ≤ lo ∧ lo < 4611686018427387904 ∧ -4611686018427387904 ≤ hi ∧ hi < 4611686018427387904 ∧ (hi - lo).toNat ≤ 16777216 then some (rng lo hi) else none
theorem rgV_eq (lo hi : Int) : RpA K H (rgV lo hi) ((rng lo hi).map em) := by
  unfold rgV rng
  generalize (List.range (hi - lo).toNat) = l
  induction l with
  | nil => exact .nil
  | cons i l ih => exact .cons (.int _) ih
theorem l_listRng1 {m : Option Int} {q1 : Pos} (C : Cf X N sc fb K mg P w base k) (h : XE X env a m) (hm : mg "list" = none) (hm2 : mg "range" = none) (hg : glbB sc "list" = true := by decide +kernel) (hg2 : glbB sc "range" = true := by decide +kernel)
    (na : starEach [a] X.env = (false, eval a X.env) :: starEach [] X.env := by rfl) (na2 : starEach [.Call (.Name "range" q1) [a] [] p2] X.env = (false, eval (.Call (.Name "range" q1) [a] [] p2) X.env) :: starEach [] X.env := by rfl) :
    XL X env (.Call (.Name "list" p) [.Call (.Name "range" q1) [a] [] p2] [] pos) (m.bind fun n => rngL 0 n) := by
  cases C with
  | mk nd calm po rm =>
    refine l_of (pe_listRg calm (glbB_ok hg) hm (prg_1 (glbB_ok hg2) hm2 h na) na2) fun W0 W σ E z hz Q q => ?_
    obtain ⟨n, hn, hz⟩ := bind_some hz
    unfold rngL at hz
    split at hz
    · rename_i hr
      cases hz
      unfold tLstRg tRg1
      refine use_x E hn fun v W1 l1 r1 => ?_
      cases r1
      refine ⟨n, rfl, ⟨by omega, by omega, by omega, by omega, by omega⟩, fun p hp => ?_⟩
      exact q p _ ⟨W1.b, upd W1.h p (.lst (rgV 0 n))⟩ (l1.trans (Le.layM l1.ok hp)) (l1.h.free hp) upd_same (l1.ok.free hp) (rgV_eq 0 n)
    · cases hz
/-- sep.join(xs) -/
def joinP (a : Str) (ys : List Str) : Option Str := if (ys.map (·.length)).sum + ys.length * a.length ≤ 16777216 then some (Txt.join a ys) else none
theorem vs_str : ∀ {H : Hp} {vs : List V} {ys : List Str}, RpA K H vs (ys.map em) → vs = ys.map V.str
  | _, _, [], .nil => rfl
  | _, _, _ :: _, .cons r t => by
    cases r
    rw [List.map_cons, vs_str t]
theorem x_join {ma : Option Str} {m : Option (List Str)} (ha : XE X env o ma) (h : XQ X env e m) (hs : ∀ E : Env, starEach [e] E = [(false, eval e E)] := by intro _; rfl)
    (hbase : ∀ E : Env, attributeBase o "join" E (eval o E) = eval o E := by intro _; rfl) (hline : (apos.endLine == pos.line) = true := by rfl) : XE X env (.Call (.Attribute o "join" apos) [e] [] pos) (ma.bind fun x => m.bind fun y => joinP x y) :=
  x_of (pe_join ha h (hs _) (hbase _) hline) fun W0 W σ E z hz Q q => by
    obtain ⟨x, hx, hz⟩ := bind_some hz
    obtain ⟨y, hy, hz⟩ := bind_some hz
    unfold joinP at hz
    split at hz
    · rename_i hl
      cases hz
      refine use_x E hx fun v W1 l1 r1 => ?_
      cases r1
      refine ⟨⟨x, rfl⟩, ?_⟩
      refine use_q (E.mono l1) hy fun a vs W2 l2 s2 r2 => ?_
      have e2 := vs_str r2
      subst e2
      exact ⟨x, a, y, rfl, rfl, .inl s2, hl, q _ W2 (l1.trans l2) (.str _)⟩
    · cases hz
/-- enumerate(text) -/
def enumS (s : Str) : List (Int × Str) := (List.range s.cps.size).zip (signs s) |>.map fun p => ((p.1 : Int), p.2)
theorem enumS_length (s : Str) : (enumS s).length = s.cps.size := by simp [enumS, signs]
theorem w_enumS (C : Cf X N sc fb K mg P w base k) {elts : List Expr} {kk : Nat} {tpos : Pos} {m : Option Str} (h : XE X env e m) (hm : mg "enumerate" = none) (hg : glbB sc "enumerate" = true := by decide +kernel)
    (he : ∀ E : Env, starEach [e] E = (false, eval e E) :: starEach [] E := by intro _; rfl) (hs : ∀ E : Env, starEach [e] E = [(false, eval e E)] := by intro _; rfl) :
    XWk X env (.Tuple elts kk tpos) (.Call (.Name "enumerate" p) [e] [] pos) (m.bind fun s => some (enumS s)) := by
  cases C
  refine piImp (pi_enumS (glbB_ok hg) hm (a_dat h a_nil (he _)) (hs _)) fun σ H R ⟨W0, W, hH, E, x, hx, q⟩ => ?_
  subst hH
  obtain ⟨s, hs, hx⟩ := bind_some hx
  cases hx
  refine use_ax E hs fun v W1 l1 r1 => ?_
  cases r1
  refine ⟨s, rfl, q _ W1 l1 ⟨fun i y W2 hy sb l0 => ?_, fun W2 sb l0 => ?_⟩⟩
  · have hi : i < s.cps.size := by have := (List.getElem?_eq_some_iff.mp hy).1; rwa [enumS_length] at this
    refine ⟨hi, fun v' H' ⟨T, c, e1, hT, e3, e2⟩ => ?_⟩
    subst e1 e3
    have hc : s.cps.toList[i]? = some c := by simpa using e2
    have : y = ((i : Int), (⟨#[c]⟩ : Str)) := by
      have h2 : (enumS s)[i]? = some ((i : Int), (⟨#[c]⟩ : Str)) := by
        unfold enumS signs
        rw [List.getElem?_map, List.zip_eq_zipWith, List.getElem?_zipWith, List.getElem?_range hi, List.getElem?_map, hc]
        rfl
      rw [h2] at hy
      exact (Option.some.inj hy).symm
    subst this
    exact ⟨_, Le.lay l0.ok (o := .tup [.int (i : Nat), .str ⟨#[c]⟩]) hT, rfl, .tup (SqT.of upd_same) (.cons (.int _) (.cons (.str _) .nil))⟩
  · exact enumS_length s
/-! ### isinstance -/
def isD (tn : String) : D → Bool
  | .non => tn == "NoneType"
  | .bl _ => tn == "bool" || tn == "int"
  | .int _ => tn == "int"
  | .str _ => tn == "str"
  | .tup _ => tn == "tuple"
  | .lst _ => tn == "list"
  | .ins _ _ _ => false
def tyD : D → Option String
  | .non => some "NoneType"
  | .bl _ => some "bool"
  | .int _ => some "int"
  | .str _ => some "str"
  | .tup _ => some "tuple"
  | .lst _ => some "list"
  | .ins _ _ _ => none
def isiP (tn : String) (d : D) : Option Bool := (tyD d).map fun _ => isD tn d
theorem tyx_of {H : Hp} {W : Wd} (ok : Same W.b W.h) {v : V} {d : D} {t : String} (r : Rp K W.b v d) (h : tyD d = some t) : TyX K W.h v (.type t) := by
  cases r with
  | non => cases h; exact .base .non
  | bl b => cases h; exact .base (.bl b)
  | int i => cases h; exact .base (.int i)
  | str s => cases h; exact .base (.str s)
  | tup s _ =>
    cases h
    rcases s with (s | ⟨o, s⟩) | ⟨o, its, n, s, hc, _⟩
    · exact .base (.tup (ok _ _ s))
    · exact .fTuple (ok _ _ s)
    · exact .kTuple s hc
  | lst s _ =>
    cases h
    rcases s with (s | ⟨o, s⟩) | ⟨o, its, n, s, hc, _⟩
    · exact .base (.lst (ok _ _ s))
    · exact .base (.frz (ok _ _ s))
    · exact .kList s hc
  | ins _ _ _ => cases h
/-- a built-in type's name as an argument -/
theorem x_isi {m : Option τ} {q1 : Pos} {t : Str} {tn : String} (C : Cf X N sc fb K mg P w base k) (h : XE X env a m) (hk : ∀ U : String, U ∈ ["NoneType", "bool", "int", "str", "tuple", "list"] → kitB U tn = some (match U with
      | "bool" => tn == "bool" || tn == "int"
      | U => tn == U))
    (hm : mg "isinstance" = none) (hm2 : mg t = none) (hv2 : bootBuiltins t = some (.type tn) := by decide +kernel) (hg : glbB sc "isinstance" = true := by decide +kernel) (hg2 : glbB sc t = true := by decide +kernel) (hn2 : t ≠ "__name__" := by decide) (hdb2 : (t == ("__debug__" : Str)) = false := by decide)
    (h1 : ∀ E : Env, starEach [a, .Name t q1] E = (false, eval a E) :: starEach [.Name t q1] E := by intro _; rfl) (h2 : ∀ E : Env, starEach [.Name t q1] E = (false, eval (.Name t q1) E) :: starEach [] E := by intro _; rfl)
    (hpl : ∀ E : Env, (backTo pos (starEach [.Name t q1] E)).any (·.1) = false := by intro _; rfl) :
    XE X env (.Call (.Name "isinstance" p) [a, .Name t q1] [] pos) (m.bind fun x => isiP tn (em x)) := by
  cases C
  refine x_of (pe_callB call_isi (glbB_ok hg) hm (by decide +kernel) (pa_cons h (pa_cons (pe_bltn (v := .ty tn) (glbB_ok hg2) hm2 hv2 rfl hn2 hdb2) pa_nil (h2 _)) (h1 _)) (by decide) (by decide) (h1 _) (hpl _)) fun W0 W σ E z hz Q q => ?_
  obtain ⟨x, hx, hz⟩ := bind_some hz
  refine use_x E hx fun v W1 l1 r1 => ?_
  unfold isiP at hz
  cases ht : tyD (em x) with
  | none => rw [ht] at hz; cases hz
  | some U =>
    rw [ht] at hz
    have hz : isD tn (em x) = z := Option.some.inj hz
    subst hz
    refine ⟨v, .ty tn, .type U, .type tn, isD tn (em x), rfl, .ty tn, tyx_of (H := W1.h) l1.ok r1 ht, kit_ty ?_, q _ W1 l1 (.bl _)⟩
    have mem : U ∈ ["NoneType", "bool", "int", "str", "tuple", "list"] := by
      revert ht
      cases em x <;> intro ht <;> cases ht <;> decide
    rw [hk U mem]
    revert ht
    cases em x <;> intro ht <;> cases ht <;> rfl
end
theorem kit_int : ∀ U : String, U ∈ ["NoneType", "bool", "int", "str", "tuple", "list"] → kitB U "int" = some (match U with
      | "bool" => "int" == "bool" || "int" == "int"
      | U => "int" == U) := by decide +kernel
theorem kit_bool : ∀ U : String, U ∈ ["NoneType", "bool", "int", "str", "tuple", "list"] → kitB U "bool" = some (match U with
      | "bool" => "bool" == "bool" || "bool" == "int"
      | U => "bool" == U) := by decide +kernel
theorem kit_str : ∀ U : String, U ∈ ["NoneType", "bool", "int", "str", "tuple", "list"] → kitB U "str" = some (match U with
      | "bool" => "str" == "bool" || "str" == "int"
      | U => "str" == U) := by decide +kernel
theorem kit_tuple : ∀ U : String, U ∈ ["NoneType", "bool", "int", "str", "tuple", "list"] → kitB U "tuple" = some (match U with
      | "bool" => "tuple" == "bool" || "tuple" == "int"
      | U => "tuple" == U) := by decide +kernel
theorem kit_list : ∀ U : String, U ∈ ["NoneType", "bool", "int", "str", "tuple", "list"] → kitB U "list" = some (match U with
      | "bool" => "list" == "bool" || "list" == "int"
      | U => "list" == U) := by decide +kernel
end T

set_option Elab.async false
set_option linter.all false
set_option maxRecDepth 100000
set_option maxHeartbeats 4000000
namespace T
open PySem PySem.Spec PyProof.Rows L2
variable {τ α β γ δ ρ B S ι : Type}
section
variable {X : Cx} {env env' : List SV} {e a b c tg iter elt o : Expr} {st : Stmt} {es : List Expr} {body rest : List Stmt} {pos p p2 p3 apos : Pos} [Em τ] [Em α] [Em β] [Em γ] {N : List Str} {sc : Scope} {fb : Str → Bool} {K : PySem.W.Frag} {mg : Str → Option Value} {P : Program} {w : World} {base : Heap} {k : Nat}
/-! ### written numbers -/
theorem x_mulCr {ma : Option Int} {c : Int} {j : Nat} (ha : XE X env a ma) (hc : c.natAbs < 18446744073709551616 := by decide) : XE X env (.BinOp a .Mult (.Constant (.int c) j p) pos) (ma.bind fun x => some (x * c)) :=
  (x_mul ha (x_int (i := c))).is (by
    cases ma with
    | none => rfl
    | some x =>
      show mulP x c = some (x * c)
      unfold mulP
      rw [if_pos (Or.inr (by omega))])
theorem x_mulCl {mb : Option Int} {c : Int} {j : Nat} (hb : XE X env b mb) (hc : c.natAbs < 18446744073709551616 := by decide) : XE X env (.BinOp (.Constant (.int c) j p) .Mult b pos) (mb.bind fun x => some (c * x)) :=
  (x_mul (x_int (i := c)) hb).is (by
    cases mb with
    | none => rfl
    | some x =>
      show mulP c x = some (c * x)
      unfold mulP
      rw [if_pos (Or.inl (by omega))])
theorem x_modC {ma : Option Int} {c : Int} {j : Nat} (ha : XE X env a ma) (hc : c ≠ 0 := by decide) : XE X env (.BinOp a .Mod (.Constant (.int c) j p) pos) (ma.bind fun x => some (x.fmod c)) :=
  (x_mod ha (x_int (i := c))).is (by
    cases ma with
    | none => rfl
    | some x =>
      show modP x c = some (x.fmod c)
      unfold modP
      rw [if_neg hc])
theorem x_divC {ma : Option Int} {c : Int} {j : Nat} (ha : XE X env a ma) (hc : c ≠ 0 ∧ c.natAbs < 1073741824 := by decide) : XE X env (.BinOp a .FloorDiv (.Constant (.int c) j p) pos) (ma.bind fun x => some (x.fdiv c)) :=
  (x_div ha (x_int (i := c))).is (by
    cases ma with
    | none => rfl
    | some x =>
      show divP x c = some (x.fdiv c)
      unfold divP
      rw [if_neg hc.1, if_pos hc.2])
theorem x_powC {c d r : Int} {i j : Nat} (hr : powP c d = some r := by decide +kernel) : XE X env (.BinOp (.Constant (.int c) i p) .Pow (.Constant (.int d) j p2) pos) (some r) :=
  (x_pow (x_int (i := c)) (x_int (i := d))).is hr
/-! ### comparisons as tests -/
theorem t_cmp {op : CmpOp} {r : R2} {ma : Option α} {mb : Option β} {f : α → β → Option Bool} (ho : OpR X (compareOp op) r) (ha : XE X env a ma) (hb : XE X env b mb) (hm : behindInMarks op b = false)
    (hr : ∀ x y z, f x y = some z → ∀ (W : Wd) (u v : V), Same W.b W.h → Rp X.K W.b u (em x) → Rp X.K W.b v (em y) → ∀ Q : VK, (∀ v W', Le W W' → Rp X.K W'.b v (em z) → Q v W'.h) → r u v W.h Q) :
    XT X env (.Compare a [op] [b] pos) (ma.bind fun x => mb.bind fun y => f x y) := by
  refine t_of (pt_cmpR ho ha hb hm) fun W0 W σ E z hz Q q => ?_
  obtain ⟨x, hx, hz⟩ := bind_some hz
  obtain ⟨y, hy, hz⟩ := bind_some hz
  unfold tTest L2.tOp
  refine use_x E hx fun u W1 l1 r1 => ?_
  refine use_x (E.mono l1) hy fun v W2 l2 r2 => ?_
  refine hr x y z hz W2 u v l2.ok (r1.mono l2.b) r2 _ fun v' W3 l3 r3 => ?_
  cases r3
  exact ⟨z, rfl, q W3 (l1.trans (l2.trans l3))⟩
theorem t_cmpI {op : CmpOp} {g : Int → Int → Bool} {ma mb : Option Int} (ho : OpR X (compareOp op) (rI0 fun i j => .bl (g i j))) (ha : XE X env a ma) (hb : XE X env b mb) (hm : behindInMarks op b = false) :
    XT X env (.Compare a [op] [b] pos) (ma.bind fun x => mb.bind fun y => some (g x y)) :=
  t_cmp ho ha hb hm fun x y z hz W u v ok ru rv Q q => by
    cases hz
    cases ru; cases rv
    exact ⟨x, y, rfl, rfl, q _ W (Le.refl ok) (.bl _)⟩
theorem t_lt {ma mb : Option Int} (ha : XE X env a ma) (hb : XE X env b mb) : XT X env (.Compare a [.Lt] [b] pos) (ma.bind fun x => mb.bind fun y => some (decide (x < y))) := t_cmpI op_lt ha hb (nomark _)
theorem t_le {ma mb : Option Int} (ha : XE X env a ma) (hb : XE X env b mb) : XT X env (.Compare a [.LtE] [b] pos) (ma.bind fun x => mb.bind fun y => some (decide (x ≤ y))) := t_cmpI op_le ha hb (nomark _)
theorem t_gt {ma mb : Option Int} (ha : XE X env a ma) (hb : XE X env b mb) : XT X env (.Compare a [.Gt] [b] pos) (ma.bind fun x => mb.bind fun y => some (decide (y < x))) := t_cmpI op_gt ha hb (nomark _)
theorem t_ge {ma mb : Option Int} (ha : XE X env a ma) (hb : XE X env b mb) : XT X env (.Compare a [.GtE] [b] pos) (ma.bind fun x => mb.bind fun y => some (decide (y ≤ x))) := t_cmpI op_ge ha hb (nomark _)
theorem t_eq {τ : Type} [Pl τ] {ma mb : Option τ} (ha : XE X env a ma) (hb : XE X env b mb) : XT X env (.Compare a [.Eq] [b] pos) (ma.bind fun x => mb.bind fun y => some (decide (x = y))) :=
  t_cmp op_eq ha hb (nomark _) fun x y z hz W u v ok ru rv Q q => by
    cases hz
    obtain ⟨h1, h2⟩ := Pl.eq ru rv
    refine ⟨h1, ?_⟩
    rw [show decide (u = v) = decide (x = y) from decide_eq_decide.mpr h2]
    exact q _ W (Le.refl ok) (.bl _)
theorem t_ne {τ : Type} [Pl τ] {ma mb : Option τ} (ha : XE X env a ma) (hb : XE X env b mb) : XT X env (.Compare a [.NotEq] [b] pos) (ma.bind fun x => mb.bind fun y => some (!decide (x = y))) :=
  t_cmp op_ne ha hb (nomark _) fun x y z hz W u v ok ru rv Q q => by
    cases hz
    obtain ⟨h1, h2⟩ := Pl.eq ru rv
    refine ⟨h1, ?_⟩
    rw [show decide (u = v) = decide (x = y) from decide_eq_decide.mpr h2]
    exact q _ W (Le.refl ok) (.bl _)
/-- a op b op' c over ints -/
def chI (g g' : Int → Int → Bool) (ma mb mc : Option Int) : Option Bool := ma.bind fun x => mb.bind fun y => if g x y = true then mc.bind fun z => some (g' y z) else some false
theorem x_chI {op op' : CmpOp} {g g' : Int → Int → Bool} {ma mb mc : Option Int} (ho : OpR X (compareOp op) (rI0 fun i j => .bl (g i j))) (ho' : OpR X (compareOp op') (rI0 fun i j => .bl (g' i j))) (ha : XE X env a ma) (hb : XE X env b mb) (hc : XE X env c mc)
    (hm : lastMarks [op, op'] [b, c] = false := by with_unfolding_all rfl) : XE X env (.Compare a [op, op'] [b, c] pos) (chI g g' ma mb mc) := by
  refine x_of (pe_chain ho ho' ha hb hc hm) fun W0 W σ E z hz Q q => ?_
  unfold chI at hz
  obtain ⟨x, hx, hz⟩ := bind_some hz
  obtain ⟨y, hy, hz⟩ := bind_some hz
  unfold tChain
  refine use_x E hx fun u W1 l1 r1 => ?_
  refine use_x (E.mono l1) hy fun v W2 l2 r2 => ?_
  cases r1; cases r2
  refine ⟨x, y, rfl, rfl, g x y, rfl, ?_⟩
  by_cases hg : g x y = true
  · rw [if_pos hg] at hz ⊢
    obtain ⟨t, ht, hz⟩ := bind_some hz
    cases hz
    refine use_x ((E.mono l1).mono l2) ht fun v W3 l3 r3 => ?_
    cases r3
    exact ⟨y, t, rfl, rfl, q _ W3 (l1.trans (l2.trans l3)) (.bl _)⟩
  · rw [if_neg hg] at hz ⊢
    cases hz
    exact q _ W2 (l1.trans l2) (.bl _)
theorem t_chI {op op' : CmpOp} {g g' : Int → Int → Bool} {ma mb mc : Option Int} (ho : OpR X (compareOp op) (rI0 fun i j => .bl (g i j))) (ho' : OpR X (compareOp op') (rI0 fun i j => .bl (g' i j))) (ha : XE X env a ma) (hb : XE X env b mb) (hc : XE X env c mc)
    (hm : lastMarks [op, op'] [b, c] = false := by with_unfolding_all rfl) : XT X env (.Compare a [op, op'] [b, c] pos) (chI g g' ma mb mc) := by
  refine t_of (pt_chain ho ho' ha hb hc hm) fun W0 W σ E z hz Q q => ?_
  unfold chI at hz
  obtain ⟨x, hx, hz⟩ := bind_some hz
  obtain ⟨y, hy, hz⟩ := bind_some hz
  unfold tTest tChain
  refine use_x E hx fun u W1 l1 r1 => ?_
  refine use_x (E.mono l1) hy fun v W2 l2 r2 => ?_
  cases r1; cases r2
  refine ⟨x, y, rfl, rfl, g x y, rfl, ?_⟩
  by_cases hg : g x y = true
  · rw [if_pos hg] at hz ⊢
    obtain ⟨t, ht, hz⟩ := bind_some hz
    cases hz
    refine use_x ((E.mono l1).mono l2) ht fun v W3 l3 r3 => ?_
    cases r3
    exact ⟨y, t, rfl, rfl, _, rfl, q W3 (l1.trans (l2.trans l3))⟩
  · rw [if_neg hg] at hz ⊢
    cases hz
    exact ⟨_, rfl, q W2 (l1.trans l2)⟩
theorem x_neg {m : Option Int} (h : XE X env a m) : XE X env (.UnaryOp .USub a pos) (m.bind fun i => some (-i)) :=
  x_of (pe_un un_neg h) fun W0 W σ E z hz Q q => by
    obtain ⟨x, hx, hz⟩ := bind_some hz
    cases hz
    refine use_x E hx fun u W1 l1 r1 => ?_
    cases r1
    exact ⟨x, rfl, q _ W1 l1 (.int _)⟩
/-- -3, written -/
theorem x_negL {i r : Int} {j : Nat} (h : -i = r := by rfl) : XE X env (.UnaryOp .USub (.Constant (.int i) j p) pos) (some r) := (x_neg x_int).is (by subst h; rfl)
/-! ### the slots of a block's own names -/
theorem own0 {Q : Nat → Prop} : ∀ i ∈ ([] : List (Str × Nat)).map (·.2), Q i := fun i h => by cases h
theorem ownS {Q : Nat → Prop} {n : Str} {j : Nat} {l : List (Str × Nat)} (h : Q j) (t : ∀ i ∈ l.map (·.2), Q i) : ∀ i ∈ ((n, j) :: l).map (·.2), Q i := fun i q => by
  rw [List.map_cons] at q
  rcases List.mem_cons.mp q with e | e
  · rw [e]; exact h
  · exact t i e
theorem is0 {Q : Nat → Prop} : ∀ i ∈ ([] : List Nat), Q i := fun i h => by cases h
theorem isS {Q : Nat → Prop} {j : Nat} {l : List Nat} (h : Q j) (t : ∀ i ∈ l, Q i) : ∀ i ∈ j :: l, Q i := fun i q => by
  rcases List.mem_cons.mp q with e | e
  · rw [e]; exact h
  · exact t i e
/-! ### a def as it stands at the top -/
structure Df (P : Program) (w : World) (K : PySem.W.Frag) (mg : Str → Option Value) (base : Heap) (j : Nat) (x : Str) (f : Addr) (fd : FuncData) (ps : List Str) (sp : Sp) : Prop where
  ok : FnOk P w K mg base CX0 j f fd ps sp
  mg : mg x = some (.ref f)
  kp : PySem.W.keepIn K (.ref f) = true
  bd : Binds K fd ps []
theorem x_callD {A : Type} {svs : A → List SV} {m : A → Option τ} {ma : Option A} {x : Str} {f : Addr} {fd : FuncData} {ps : List Str} {j : Nat} (C : Cf X N sc fb K mg P w base k) (G : Df P w K mg base j x f fd ps (spF K svs m fun x => .dat (em x)))
    (ha : XA X env (e :: es) ma svs) (hj : j ≤ k := by decide) (hg : glbB sc x = true := by decide +kernel)
    (hdb : (x == ("__debug__" : Str)) = false := by decide) (he : starEach (e :: es) X.env = (false, eval e X.env) :: starEach es X.env := by rfl) (hpl : (backTo pos (starEach es X.env)).any (·.1) = false := by rfl) :
    XE X env (.Call (.Name x p) (e :: es) [] pos) (ma.bind m) := x_call C G.ok G.mg G.kp G.bd ha hj hg hdb he hpl
theorem l_callD {A : Type} {svs : A → List SV} {m : A → Option (List τ)} {ma : Option A} {x : Str} {f : Addr} {fd : FuncData} {ps : List Str} {j : Nat} (C : Cf X N sc fb K mg P w base k) (G : Df P w K mg base j x f fd ps (spF K svs m fun x => .own (x.map em)))
    (ha : XA X env (e :: es) ma svs) (hj : j ≤ k := by decide) (hg : glbB sc x = true := by decide +kernel)
    (hdb : (x == ("__debug__" : Str)) = false := by decide) (he : starEach (e :: es) X.env = (false, eval e X.env) :: starEach es X.env := by rfl) (hpl : (backTo pos (starEach es X.env)).any (·.1) = false := by rfl) :
    XL X env (.Call (.Name x p) (e :: es) [] pos) (ma.bind m) := l_call C G.ok G.mg G.kp G.bd ha hj hg hdb he hpl
end
theorem hzD {K : PySem.W.Frag} {res : ρ → RV} : ∀ r W0 B D, ZRn K res r W0 B D → ZR K res r W0 B D := fun _ _ _ _ z => z.1
theorem hzO {K : PySem.W.Frag} {res : ρ → RV} {r : ρ} : ∀ W0 B D, ZRn K res r W0 B D → ZR K res r W0 B D := fun _ _ _ z => z.1
theorem hzI {K : PySem.W.Frag} {res : ρ → RV} : ∀ r W0 B D, ZR K res r W0 B D → ZR K res r W0 B D := fun _ _ _ _ z => z
/-! ### the law's own end -/
def spLaw (K : PySem.W.Frag) : Sp := fun vs H Q _ => ∃ (a : Addr) (ns : List Int), vs = [.ref a] ∧ SqL K H a (ns.map V.int) ∧ ns.length ≤ 63 ∧ ∀ H', Q (.bl true) H'
theorem ints_rp {K : PySem.W.Frag} {H : Hp} : ∀ ns : List Int, RpA K H (ns.map V.int) (ns.map em)
  | [] => .nil
  | n :: ns => .cons (.int n) (ints_rp ns)
theorem law_ok {P : Program} {w : World} {K : PySem.W.Frag} {mg : Str → Option Value} {base : Heap} {k : Nat} {f : Addr} {fd : FuncData} {m : List Int × Unit → Option Bool}
    (G : FnOk P w K mg base CX0 k f fd ["script"] (spF K (fun a : List Int × Unit => [.bor (a.1.map em)]) m fun x => .dat (em x))) (hm : ∀ ns : List Int, ns.length ≤ 63 → m (ns, ()) = some true) : FnOk P w K mg base CX0 k f fd ["script"] (spLaw K) := by
  refine G.imp fun vs H Q E h => ?_
  obtain ⟨a, ns, rfl, hS, hl, q⟩ := h
  exact ⟨⟨fun _ => none, H⟩, (ns, ()), true, rfl, (fun _ _ h => by cases h), .bor hS (ints_rp ns) .nil, hm ns hl, fun v W' l r => by cases r; exact q _⟩
theorem law_walk {l : PySem.W.OpenLaw} {k : Nat} {q : Program} {loose : List Str} {XP : (Str → Option Value) → Heap → Prop} {YP : World → Heap → Prop} {d : DefRec} {K : Params → PySem.W.Frag} (hn : l.most = some 63) (hdf : d.params.defaults = [])
    (hY : ∀ (w : World) (h : Heap), YP w h → (K w.params).In h) (hk : Room k callerA)
    (F : ∀ (w : World) (mg : Str → Option Value) (fa : Addr) (h : Heap), (K w.params).In h → h.Ns mainGlobals mg → mg d.name = some (.ref fa) →
      ∃ fd : FuncData, (∀ (s : Shared) (u : Value), BindsTo s fd ⟨[u], []⟩ [("script", u)]) ∧ ∀ base : Heap, (K w.params).In base → base.Ns mainGlobals mg → FnOk l.prog w (K w.params) mg base CX0 k fa fd ["script"] (spLaw (K w.params))) :
    PySem.W.WalkO q loose XP YP l.row.toRowW d [] (fun f vs => PySem.call f vs) :=
  L2.walk_of (n := 63) (k := k) (x := "script") (CX := fun _ => CX0) (sp := fun w => spLaw (K w.params)) hn (by decide) hdf hk hY F (fun _ _ a ns hl _ hS => ⟨a, ns, rfl, hS, hl, fun _ => rfl⟩) fun _ _ _ _ _ z => z
end T

set_option Elab.async false
set_option linter.all false
set_option maxRecDepth 100000
set_option maxHeartbeats 4000000
/-! TData: values of any kind (D), sequences, membership, lists that are multiplied or grow within, defs that call themselves. -/
namespace T
open PySem PySem.Spec PyProof.Rows L2
variable {τ α β γ δ ρ B S ι : Type}
section
variable {X : Cx} {env env' : List SV} {e a b c tg iter elt o : Expr} {st : Stmt} {es : List Expr} {body rest : List Stmt} {pos p p2 p3 apos : Pos} [Em τ] [Em α] [Em β] [Em γ] {N : List Str} {sc : Scope} {fb : Str → Bool} {K : PySem.W.Frag} {mg : Str → Option Value} {P : Program} {w : World} {base : Heap} {k : Nat}
variable {Z : ρ → Wd → Hp → Ends → Prop}
/-! ### data of any kind -/
def isN : D → Bool
  | .non => true
  | _ => false
def lenD : D → Option Int
  | .tup l => some l.length
  | .lst l => some l.length
  | .str s => if sz s.length then some (s.length : Int) else none
  | _ => none
/-- == of two plain values of one kind -/
def eqD : D → D → Option Bool
  | .bl x, .bl y => some (decide (x = y))
  | .int x, .int y => some (decide (x = y))
  | .str x, .str y => some (decide (x = y))
  | _, _ => none
def itsD : D → Option (List D)
  | .tup l => some l
  | .lst l => some l
  | _ => none
def zipD : D → D → Option (List (D × D))
  | .tup l, .tup m => some (l.zip m)
  | .lst l, .lst m => some (l.zip m)
  | _, _ => none
theorem map_em (l : List D) : l.map em = l := by induction l with
  | nil => rfl
  | cons x l ih => rw [List.map_cons, ih]; rfl
theorem isN_rp {K : PySem.W.Frag} {H : Hp} {v : V} {d : D} (r : Rp K H v d) : decide (v = .non) = isN d := by
  cases r <;> rfl
theorem x_isN {m : Option τ} {j : Nat} (h : XE X env a m) : XE X env (.Compare a [.Is] [.Constant .none j p] pos) (m.bind fun x => some (isN (em x))) :=
  (x_cmp (b := .Constant .none j p) (ma := m) (mb := some ()) (f := fun x _ => some (isN (em x))) op_isN h x_non (nomark _) fun x y z hz W u v ok ru rv Q q => by
    cases hz
    cases rv
    refine ⟨rfl, ?_⟩
    rw [isN_rp ru]
    exact q _ W (Le.refl ok) (.bl _)).is (by cases m <;> rfl)
theorem t_isN {m : Option τ} {j : Nat} (h : XE X env a m) : XT X env (.Compare a [.Is] [.Constant .none j p] pos) (m.bind fun x => some (isN (em x))) :=
  (t_cmp (b := .Constant .none j p) (ma := m) (mb := some ()) (f := fun x _ => some (isN (em x))) op_isN h x_non (nomark _) fun x y z hz W u v ok ru rv Q q => by
    cases hz
    cases rv
    refine ⟨rfl, ?_⟩
    rw [isN_rp ru]
    exact q _ W (Le.refl ok) (.bl _)).is (by cases m <;> rfl)
theorem x_notN {m : Option τ} {j : Nat} (h : XE X env a m) : XE X env (.Compare a [.IsNot] [.Constant .none j p] pos) (m.bind fun x => some (!isN (em x))) :=
  (x_cmp (b := .Constant .none j p) (ma := m) (mb := some ()) (f := fun x _ => some (!isN (em x))) op_notN h x_non (nomark _) fun x y z hz W u v ok ru rv Q q => by
    cases hz
    cases rv
    refine ⟨rfl, ?_⟩
    rw [isN_rp ru]
    exact q _ W (Le.refl ok) (.bl _)).is (by cases m <;> rfl)
theorem t_notN {m : Option τ} {j : Nat} (h : XE X env a m) : XT X env (.Compare a [.IsNot] [.Constant .none j p] pos) (m.bind fun x => some (!isN (em x))) :=
  (t_cmp (b := .Constant .none j p) (ma := m) (mb := some ()) (f := fun x _ => some (!isN (em x))) op_notN h x_non (nomark _) fun x y z hz W u v ok ru rv Q q => by
    cases hz
    cases rv
    refine ⟨rfl, ?_⟩
    rw [isN_rp ru]
    exact q _ W (Le.refl ok) (.bl _)).is (by cases m <;> rfl)
theorem eqD_rp {K : PySem.W.Frag} {H : Hp} {u v : V} {d e : D} {z : Bool} (r : Rp K H u d) (q : Rp K H v e) (h : eqD d e = some z) : scal u v = true ∧ decide (u = v) = z := by
  cases r <;> cases q <;> first
    | (cases h; done)
    | (cases h; exact ⟨rfl, by simp⟩)
theorem x_eqD {ma mb : Option D} (ha : XE X env a ma) (hb : XE X env b mb) : XE X env (.Compare a [.Eq] [b] pos) (ma.bind fun x => mb.bind fun y => eqD x y) :=
  x_cmp op_eq ha hb (nomark _) fun x y z hz W u v ok ru rv Q q => by
    obtain ⟨h1, h2⟩ := eqD_rp ru rv hz
    refine ⟨h1, ?_⟩
    rw [h2]
    exact q _ W (Le.refl ok) (.bl _)
theorem t_eqD {ma mb : Option D} (ha : XE X env a ma) (hb : XE X env b mb) : XT X env (.Compare a [.Eq] [b] pos) (ma.bind fun x => mb.bind fun y => eqD x y) :=
  t_cmp op_eq ha hb (nomark _) fun x y z hz W u v ok ru rv Q q => by
    obtain ⟨h1, h2⟩ := eqD_rp ru rv hz
    refine ⟨h1, ?_⟩
    rw [h2]
    exact q _ W (Le.refl ok) (.bl _)
theorem x_lenD {m : Option D} (C : Cf X N sc fb K mg P w base k) (h : XE X env e m) (hm : mg "len" = none) (hg : glbB sc "len" = true := by decide +kernel)
    (he : ∀ E : Env, starEach [e] E = (false, eval e E) :: starEach [] E := by intro _; rfl) : XE X env (.Call (.Name "len" p) [e] [] pos) (m.bind lenD) :=
  x_cB1 C call_len h (fun d y hy W v ok r Q q => by
    have r : Rp X.K W.b v d := r
    cases r with
    | @tup a vs _ s t =>
      cases hy
      refine ⟨_, vs.length, rfl, .inr ⟨vs, same_t ok s, rfl⟩, ?_⟩
      rw [t.length]
      exact q _ W (Le.refl ok) (.int _)
    | @lst a vs _ s t =>
      cases hy
      refine ⟨_, vs.length, rfl, .inl ⟨vs, ok.seq s, rfl⟩, ?_⟩
      rw [t.length]
      exact q _ W (Le.refl ok) (.int _)
    | str s =>
      have hy : (if sz s.length then some (s.length : Int) else none) = some y := hy
      split at hy
      · rename_i hz
        cases hy
        exact ⟨_, s.length, rfl, ⟨Nat.le_of_lt (sz_line hz), rfl⟩, q _ W (Le.refl ok) (.int _)⟩
      · cases hy
    | _ => cases hy) hm PySem.boot_len hg (by decide) (by decide) he
/-! ### zip of tuples, of data -/
theorem walk_zipL {W0 W1 : Wd} {u v : Addr} {xs : List α} {ys : List β} {vs us : List V} (s1 : ∀ W : Wd, Same W1.b W.b → Le W0 W → SqL K W.h u vs) (s2 : ∀ W : Wd, Same W1.b W.b → Le W0 W → SqL K W.h v us) (r1 : RpA K W1.b vs (xs.map em)) (r2 : RpA K W1.b us (ys.map em)) : Walk K W0 W1 (Itz K u v) (xs.zip ys) where
  item := fun i y W2 hy sb l0 => by
    obtain ⟨x1, x2⟩ := y
    rw [List.zip_eq_zipWith, List.getElem?_zipWith] at hy
    cases h1 : xs[i]? with
    | none => rw [h1] at hy; simp at hy
    | some z1 =>
      cases h2 : ys[i]? with
      | none => rw [h1, h2] at hy; simp at hy
      | some z2 =>
        rw [h1, h2] at hy
        obtain ⟨rfl, rfl⟩ : z1 = x1 ∧ z2 = x2 := by simpa using hy
        obtain ⟨v1, e1, q1⟩ := r1.get (show (xs.map em)[i]? = some (em z1) by rw [List.getElem?_map, h1]; rfl)
        obtain ⟨v2, e2, q2⟩ := r2.get (show (ys.map em)[i]? = some (em z2) by rw [List.getElem?_map, h2]; rfl)
        have t1 := s1 W2 sb l0
        have t2 := s2 W2 sb l0
        refine ⟨⟨vs, us, v1, v2, t1, t2, e1, e2⟩, fun v' H' ⟨T', x, y, e3, hT, e4, h5, h6⟩ => ?_⟩
        subst e3 e4
        have g1 := h5 _ t1
        have g2 := h6 _ t2
        rw [e1] at g1
        rw [e2] at g2
        cases g1; cases g2
        exact ⟨_, Le.lay l0.ok (o := .tup [v1, v2]) hT, rfl, .tup (SqT.of upd_same) (.cons ((q1.mono sb).mono (Same.new (l0.ok.free hT))) (.cons ((q2.mono sb).mono (Same.new (l0.ok.free hT))) .nil))⟩
  stop := fun W2 sb l0 => by
    refine ⟨vs, us, s1 W2 sb l0, s2 W2 sb l0, ?_⟩
    have h1 := r1.length
    have h2 := r2.length
    rw [List.length_map] at h1 h2
    rw [List.length_zip, h1, h2]
    omega
theorem walk_zipT {W0 W1 : Wd} {u v : Addr} {xs : List α} {ys : List β} {vs us : List V} (s1 : ∀ W : Wd, Same W1.b W.b → Le W0 W → SqT K W.h u vs) (s2 : ∀ W : Wd, Same W1.b W.b → Le W0 W → SqT K W.h v us) (r1 : RpA K W1.b vs (xs.map em)) (r2 : RpA K W1.b us (ys.map em)) : Walk K W0 W1 (RZ.ItzT K u v) (xs.zip ys) where
  item := fun i y W2 hy sb l0 => by
    obtain ⟨x1, x2⟩ := y
    rw [List.zip_eq_zipWith, List.getElem?_zipWith] at hy
    cases h1 : xs[i]? with
    | none => rw [h1] at hy; simp at hy
    | some z1 =>
      cases h2 : ys[i]? with
      | none => rw [h1, h2] at hy; simp at hy
      | some z2 =>
        rw [h1, h2] at hy
        obtain ⟨rfl, rfl⟩ : z1 = x1 ∧ z2 = x2 := by simpa using hy
        obtain ⟨v1, e1, q1⟩ := r1.get (show (xs.map em)[i]? = some (em z1) by rw [List.getElem?_map, h1]; rfl)
        obtain ⟨v2, e2, q2⟩ := r2.get (show (ys.map em)[i]? = some (em z2) by rw [List.getElem?_map, h2]; rfl)
        have t1 := s1 W2 sb l0
        have t2 := s2 W2 sb l0
        refine ⟨⟨vs, us, v1, v2, t1, t2, e1, e2⟩, fun v' H' ⟨T', x, y, e3, hT, e4, h5, h6⟩ => ?_⟩
        subst e3 e4
        have g1 := h5 _ t1
        have g2 := h6 _ t2
        rw [e1] at g1
        rw [e2] at g2
        cases g1; cases g2
        exact ⟨_, Le.lay l0.ok (o := .tup [v1, v2]) hT, rfl, .tup (SqT.of upd_same) (.cons ((q1.mono sb).mono (Same.new (l0.ok.free hT))) (.cons ((q2.mono sb).mono (Same.new (l0.ok.free hT))) .nil))⟩
  stop := fun W2 sb l0 => by
    refine ⟨vs, us, s1 W2 sb l0, s2 W2 sb l0, ?_⟩
    have h1 := r1.length
    have h2 := r2.length
    rw [List.length_map] at h1 h2
    rw [List.length_zip, h1, h2]
    omega
theorem w_zipD (C : Cf X N sc fb K mg P w base k) {elts : List Expr} {kk : Nat} {tpos : Pos} {ma mb : Option D} (h : XE X env a ma) (h' : XE X env b mb) (hm : mg "zip" = none) (hg : glbB sc "zip" = true := by decide +kernel)
    (h1 : starEach [a, b] X.env = (false, eval a X.env) :: starEach [b] X.env := by rfl) (h2 : starEach [b] X.env = (false, eval b X.env) :: starEach [] X.env := by rfl) (hpl : (backTo pos (starEach [b] X.env)).any (·.1) = false := by rfl) :
    XWk X env (.Tuple elts kk tpos) (.Call (.Name "zip" p) [a, b] [] pos) (ma.bind fun x => mb.bind fun y => zipD x y) := by
  cases C
  refine piImp (RZ.pi_zipA (glbB_ok hg) hm (a_dat h (a_dat h' a_nil h2) h1) h1 hpl) fun σ H R ⟨W0, W, hH, E, x, hx, q⟩ => ?_
  subst hH
  obtain ⟨xs, hxs, hx⟩ := bind_some hx
  obtain ⟨ys, hys, hx⟩ := bind_some hx
  refine use_a E (x := (xs, ys, ())) (by rw [hxs, hys]; rfl) fun vs W1 l1 r1 => ?_
  cases r1 with
  | dat r1 r2 =>
    cases r2 with
    | dat r2 r3 =>
      cases r3
      have r1 : Rp X.K W1.b _ xs := r1
      have r2 : Rp X.K W1.b _ ys := r2
      cases r1 with
      | tup s1 t1 =>
        cases r2 with
        | tup s2 t2 =>
          cases hx
          exact ⟨_, _, _, _, rfl, .inr ⟨same_t l1.ok s1, same_t l1.ok s2, q _ W1 l1 (walk_zipT (fun W sb l => same_t l.ok (same_t sb s1)) (fun W sb l => same_t l.ok (same_t sb s2)) (by rw [map_em]; exact t1) (by rw [map_em]; exact t2))⟩⟩
        | _ => cases hx
      | lst s1 t1 =>
        cases r2 with
        | lst s2 t2 =>
          cases hx
          exact ⟨_, _, _, _, rfl, .inl ⟨l1.ok.seq s1, l1.ok.seq s2, q _ W1 l1 (walk_zipL (fun W sb l => l.ok.seq (sb.seq s1)) (fun W sb l => l.ok.seq (sb.seq s2)) (by rw [map_em]; exact t1) (by rw [map_em]; exact t2))⟩⟩
        | _ => cases hx
      | _ => cases hx
/-- two lists that are borrowed -/
theorem w_zipB (C : Cf X N sc fb K mg P w base k) (i j : Nat) {n m : Str} {p1 p2 : Pos} {elts : List Expr} {kk : Nat} {tpos : Pos} {xs : List α} {ys : List β} (hm : mg "zip" = none) (hi : env[i]? = some (.bor (xs.map em)) := by rfl) (hj : env[j]? = some (.bor (ys.map em)) := by rfl)
    (hni : N[i]? = some n := by rfl) (hv : visB sc n = true := by decide +kernel) (hd : (n == ("__debug__" : Str)) = false := by decide) (hcd : (n == ("__classdict__" : Str)) = false := by decide)
    (hnj : N[j]? = some m := by rfl) (hv' : visB sc m = true := by decide +kernel) (hd' : (m == ("__debug__" : Str)) = false := by decide) (hcd' : (m == ("__classdict__" : Str)) = false := by decide)
    (hg : glbB sc "zip" = true := by decide +kernel)
    (h1 : ∀ E : Env, starEach [.Name n p1, .Name m p2] E = (false, eval (.Name n p1) E) :: starEach [.Name m p2] E := by intro _; rfl) (h2 : ∀ E : Env, starEach [.Name m p2] E = (false, eval (.Name m p2) E) :: starEach [] E := by intro _; rfl) (hpl : ∀ E : Env, (backTo pos (starEach [.Name m p2] E)).any (·.1) = false := by intro _; rfl) :
    XWk X env (.Tuple elts kk tpos) (.Call (.Name "zip" p) [.Name n p1, .Name m p2] [] pos) (some (xs.zip ys)) := by
  cases C
  refine piImp (RZ.pi_zipA (glbB_ok hg) hm (pa_cons (pe_var hni (visB_ok hv) hd hcd) (pa_cons (pe_var hnj (visB_ok hv') hd' hcd') pa_nil (h2 _)) (h1 _)) (h1 _) (hpl _)) fun σ H R ⟨W0, W, hH, E, x, hx, q⟩ => ?_
  subst hH
  cases hx
  obtain ⟨o1, f1, u, vs, e1, s1, t1⟩ := E.slot i _ hi
  obtain ⟨o2, f2, v, us, e2, s2, t2⟩ := E.slot j _ hj
  subst e1
  subst e2
  refine ⟨_, f1, _, f2, _, _, _, _, rfl, .inl ⟨E.le.h.seq s1, E.le.h.seq s2, q _ W (Le.refl E.ok) (walk_zipL (fun W sb l => l.h.seq s1) (fun W sb l => l.h.seq s2) (t1.mono E.le.b) (t2.mono E.le.b))⟩⟩
/-! ### in, not in: items of one plain kind -/
theorem Pl.flat [Pl τ] {K : PySem.W.Frag} {H : Hp} {v : V} {x : τ} (h : ∀ x : τ, (∃ i, em x = .int i) ∨ (∃ i, em x = .bl i) ∨ ∃ i, em x = .str i) (r : Rp K H v (em x)) : flatV v = true := by
  rcases h x with ⟨i, e⟩ | ⟨i, e⟩ | ⟨i, e⟩
  all_goals
    rw [e] at r
    cases r
    rfl
class Fl1 (τ : Type) [Pl τ] : Prop where
  fl : ∀ x : τ, (∃ i, em x = .int i) ∨ (∃ i, em x = .bl i) ∨ ∃ i, em x = .str i
  eqv : ∀ {K : PySem.W.Frag} {H : Hp} {x y : τ} {u v : V}, Rp K H u (em x) → Rp K H v (em y) → eqV u v = decide (x = y)
instance : Fl1 Int := ⟨fun x => .inl ⟨x, rfl⟩, fun r q => by cases r; cases q; rfl⟩
instance : Fl1 Bool := ⟨fun x => .inr (.inl ⟨x, rfl⟩), fun {_ _ x y _ _} r q => by cases r; cases q; revert x y; decide⟩
instance : Fl1 Str := ⟨fun x => .inr (.inr ⟨x, rfl⟩), fun {_ _ x y _ _} r q => by cases r; cases q; show (x == y) = _; rfl⟩
def memB [Pl τ] (x : τ) (ys : List τ) : Bool := ys.any fun y => decide (y = x)
theorem memB_iff [Pl τ] {x : τ} {ys : List τ} : memB x ys = true ↔ x ∈ ys := by
  unfold memB
  simp
theorem inV_rp {τ : Type} [Pl τ] [Fl1 τ] {K : PySem.W.Frag} {H : Hp} {u : V} {x : τ} (r : Rp K H u (em x)) : ∀ {vs : List V} {ys : List τ}, RpA K H vs (ys.map em) → vs.all flatV = true ∧ inV u vs = memB x ys
  | [], [], .nil => ⟨rfl, rfl⟩
  | v :: vs, y :: ys, .cons q t => by
    obtain ⟨h1, h2⟩ := inV_rp r t
    refine ⟨by rw [List.all_cons, Pl.flat Fl1.fl q, h1]; rfl, ?_⟩
    unfold inV memB at h2 ⊢
    rw [List.any_cons, List.any_cons, h2, Fl1.eqv q r]
section
variable {τ : Type} [Pl τ] [Fl1 τ]
theorem q_in {neg : Bool} {op : CmpOp} (ho : OpR X (compareOp op) (rIn X.K neg)) {ma : Option τ} {mb : Option (List τ)} (ha : XE X env a ma) (hb : XQ X env b mb) (hmk : behindInMarks op b = false) :
    PE X (.Compare a [op] [b] pos) (fun σ H Q => ∃ W0 W : Wd, W.h = H ∧ EnvR X.K W0 W env σ ∧ ∃ x ys, ma = some x ∧ mb = some ys ∧ ∀ W', Le W W' → Q (.bl (if neg then !memB x ys else memB x ys)) W'.h) ∧
    PT X (.Compare a [op] [b] pos) (fun σ H Q => ∃ W0 W : Wd, W.h = H ∧ EnvR X.K W0 W env σ ∧ ∃ x ys, ma = some x ∧ mb = some ys ∧ ∀ W', Le W W' → Q (if neg then !memB x ys else memB x ys) W'.h) := by
  refine ⟨peImp (pe_cmpR ho ha hb hmk) fun σ H Q ⟨W0, W, hH, E, x, ys, hx, hy, q⟩ => ?_, ptImp (pt_cmpR ho ha hb hmk) fun σ H Q ⟨W0, W, hH, E, x, ys, hx, hy, q⟩ => ?_⟩
  · subst hH
    refine use_x E hx fun u W1 l1 r1 => ?_
    refine use_q (E.mono l1) hy fun ad vs W2 l2 s2 r2 => ?_
    obtain ⟨h1, h2⟩ := inV_rp (r1.mono l2.b) r2
    refine ⟨ad, vs, rfl, .inl s2, Pl.flat Fl1.fl r1, h1, ?_⟩
    rw [h2]
    exact q W2 (l1.trans l2)
  · subst hH
    unfold tTest L2.tOp
    refine use_x E hx fun u W1 l1 r1 => ?_
    refine use_q (E.mono l1) hy fun ad vs W2 l2 s2 r2 => ?_
    obtain ⟨h1, h2⟩ := inV_rp (r1.mono l2.b) r2
    refine ⟨ad, vs, rfl, .inl s2, Pl.flat Fl1.fl r1, h1, ?_⟩
    rw [h2]
    exact ⟨_, rfl, q W2 (l1.trans l2)⟩
theorem v_in {neg : Bool} {op : CmpOp} (ho : OpR X (compareOp op) (rIn X.K neg)) {ma : Option τ} {mb : Option (Vt τ)} (ha : XE X env a ma) (hb : XE X env b mb) (hmk : behindInMarks op b = false) :
    PE X (.Compare a [op] [b] pos) (fun σ H Q => ∃ W0 W : Wd, W.h = H ∧ EnvR X.K W0 W env σ ∧ ∃ x ys, ma = some x ∧ mb = some ys ∧ ∀ W', Le W W' → Q (.bl (if neg then !memB x ys.l else memB x ys.l)) W'.h) ∧
    PT X (.Compare a [op] [b] pos) (fun σ H Q => ∃ W0 W : Wd, W.h = H ∧ EnvR X.K W0 W env σ ∧ ∃ x ys, ma = some x ∧ mb = some ys ∧ ∀ W', Le W W' → Q (if neg then !memB x ys.l else memB x ys.l) W'.h) := by
  refine ⟨peImp (pe_cmpR ho ha hb hmk) fun σ H Q ⟨W0, W, hH, E, x, ys, hx, hy, q⟩ => ?_, ptImp (pt_cmpR ho ha hb hmk) fun σ H Q ⟨W0, W, hH, E, x, ys, hx, hy, q⟩ => ?_⟩
  · subst hH
    refine use_x E hx fun u W1 l1 r1 => ?_
    refine use_x (E.mono l1) hy fun v W2 l2 r2 => ?_
    have r2 : Rp X.K W2.b v (.tup (ys.l.map em)) := r2
    cases r2 with
    | tup s2 r2 =>
      obtain ⟨h1, h2⟩ := inV_rp (r1.mono l2.b) r2
      refine ⟨_, _, rfl, .inr (same_t l2.ok s2), Pl.flat Fl1.fl r1, h1, ?_⟩
      rw [h2]
      exact q W2 (l1.trans l2)
  · subst hH
    unfold tTest L2.tOp
    refine use_x E hx fun u W1 l1 r1 => ?_
    refine use_x (E.mono l1) hy fun v W2 l2 r2 => ?_
    have r2 : Rp X.K W2.b v (.tup (ys.l.map em)) := r2
    cases r2 with
    | tup s2 r2 =>
      obtain ⟨h1, h2⟩ := inV_rp (r1.mono l2.b) r2
      refine ⟨_, _, rfl, .inr (same_t l2.ok s2), Pl.flat Fl1.fl r1, h1, ?_⟩
      rw [h2]
      exact ⟨_, rfl, q W2 (l1.trans l2)⟩
theorem x_inQ {ma : Option τ} {mb : Option (List τ)} (ha : XE X env a ma) (hb : XQ X env b mb) (hmk : behindInMarks .In b = false := by rfl) : XE X env (.Compare a [.In] [b] pos) (ma.bind fun x => mb.bind fun y => some (memB x y)) :=
  x_of (q_in op_in_seq ha hb hmk).1 fun W0 W σ E z hz Q q => by
    obtain ⟨x, hx, hz⟩ := bind_some hz
    obtain ⟨y, hy, hz⟩ := bind_some hz
    cases hz
    exact ⟨W0, W, rfl, E, x, y, hx, hy, fun W' l => q _ W' l (.bl _)⟩
theorem t_inQ {ma : Option τ} {mb : Option (List τ)} (ha : XE X env a ma) (hb : XQ X env b mb) (hmk : behindInMarks .In b = false := by rfl) : XT X env (.Compare a [.In] [b] pos) (ma.bind fun x => mb.bind fun y => some (memB x y)) :=
  t_of (q_in op_in_seq ha hb hmk).2 fun W0 W σ E z hz Q q => by
    obtain ⟨x, hx, hz⟩ := bind_some hz
    obtain ⟨y, hy, hz⟩ := bind_some hz
    cases hz
    exact ⟨W0, W, rfl, E, x, y, hx, hy, q⟩
theorem x_ninQ {ma : Option τ} {mb : Option (List τ)} (ha : XE X env a ma) (hb : XQ X env b mb) (hmk : behindInMarks .NotIn b = false := by rfl) : XE X env (.Compare a [.NotIn] [b] pos) (ma.bind fun x => mb.bind fun y => some (!memB x y)) :=
  x_of (q_in op_notIn_seq ha hb hmk).1 fun W0 W σ E z hz Q q => by
    obtain ⟨x, hx, hz⟩ := bind_some hz
    obtain ⟨y, hy, hz⟩ := bind_some hz
    cases hz
    exact ⟨W0, W, rfl, E, x, y, hx, hy, fun W' l => q _ W' l (.bl _)⟩
theorem t_ninQ {ma : Option τ} {mb : Option (List τ)} (ha : XE X env a ma) (hb : XQ X env b mb) (hmk : behindInMarks .NotIn b = false := by rfl) : XT X env (.Compare a [.NotIn] [b] pos) (ma.bind fun x => mb.bind fun y => some (!memB x y)) :=
  t_of (q_in op_notIn_seq ha hb hmk).2 fun W0 W σ E z hz Q q => by
    obtain ⟨x, hx, hz⟩ := bind_some hz
    obtain ⟨y, hy, hz⟩ := bind_some hz
    cases hz
    exact ⟨W0, W, rfl, E, x, y, hx, hy, q⟩
theorem x_inV {ma : Option τ} {mb : Option (Vt τ)} (ha : XE X env a ma) (hb : XE X env b mb) (hmk : behindInMarks .In b = false := by rfl) : XE X env (.Compare a [.In] [b] pos) (ma.bind fun x => mb.bind fun y => some (memB x y.l)) :=
  x_of (v_in op_in_seq ha hb hmk).1 fun W0 W σ E z hz Q q => by
    obtain ⟨x, hx, hz⟩ := bind_some hz
    obtain ⟨y, hy, hz⟩ := bind_some hz
    cases hz
    exact ⟨W0, W, rfl, E, x, y, hx, hy, fun W' l => q _ W' l (.bl _)⟩
theorem t_inV {ma : Option τ} {mb : Option (Vt τ)} (ha : XE X env a ma) (hb : XE X env b mb) (hmk : behindInMarks .In b = false := by rfl) : XT X env (.Compare a [.In] [b] pos) (ma.bind fun x => mb.bind fun y => some (memB x y.l)) :=
  t_of (v_in op_in_seq ha hb hmk).2 fun W0 W σ E z hz Q q => by
    obtain ⟨x, hx, hz⟩ := bind_some hz
    obtain ⟨y, hy, hz⟩ := bind_some hz
    cases hz
    exact ⟨W0, W, rfl, E, x, y, hx, hy, q⟩
theorem x_ninV {ma : Option τ} {mb : Option (Vt τ)} (ha : XE X env a ma) (hb : XE X env b mb) (hmk : behindInMarks .NotIn b = false := by rfl) : XE X env (.Compare a [.NotIn] [b] pos) (ma.bind fun x => mb.bind fun y => some (!memB x y.l)) :=
  x_of (v_in op_notIn_seq ha hb hmk).1 fun W0 W σ E z hz Q q => by
    obtain ⟨x, hx, hz⟩ := bind_some hz
    obtain ⟨y, hy, hz⟩ := bind_some hz
    cases hz
    exact ⟨W0, W, rfl, E, x, y, hx, hy, fun W' l => q _ W' l (.bl _)⟩
theorem t_ninV {ma : Option τ} {mb : Option (Vt τ)} (ha : XE X env a ma) (hb : XE X env b mb) (hmk : behindInMarks .NotIn b = false := by rfl) : XT X env (.Compare a [.NotIn] [b] pos) (ma.bind fun x => mb.bind fun y => some (!memB x y.l)) :=
  t_of (v_in op_notIn_seq ha hb hmk).2 fun W0 W σ E z hz Q q => by
    obtain ⟨x, hx, hz⟩ := bind_some hz
    obtain ⟨y, hy, hz⟩ := bind_some hz
    cases hz
    exact ⟨W0, W, rfl, E, x, y, hx, hy, q⟩
end
/-! ### lists: times, insert -/
def repL (xs : List τ) (n : Int) : Option (List τ) := if -4611686018427387904 ≤ n ∧ n < 4611686018427387904 ∧ xs.length * n.toNat ≤ 16777216 then some (List.replicate n.toNat xs).flatten else none
theorem RpA.rep {H : Hp} {vs : List V} {ds : List D} (r : RpA K H vs ds) : ∀ n, RpA K H (List.replicate n vs).flatten (List.replicate n ds).flatten
  | 0 => .nil
  | n + 1 => by
    rw [List.replicate_succ, List.replicate_succ, List.flatten_cons, List.flatten_cons]
    exact r.append (RpA.rep r n)
theorem l_rep {ma : Option (List τ)} {mb : Option Int} (ha : XL X env a ma) (hb : XE X env b mb) : XL X env (.BinOp a .Mult b pos) (ma.bind fun x => mb.bind fun y => repL x y) :=
  l_of (pe_op op_rep ha hb) fun W0 W σ E z hz Q q => by
    obtain ⟨x, hx, hz⟩ := bind_some hz
    obtain ⟨y, hy, hz⟩ := bind_some hz
    unfold repL at hz
    split at hz
    · rename_i hs
      cases hz
      refine use_l E hx fun a vs W1 l1 h0 h1 hb r1 => ?_
      refine use_x (E.mono l1) hy fun u W2 l2 r2 => ?_
      cases r2
      have hl := r1.length
      rw [List.length_map] at hl
      have l12 := l1.trans l2
      refine ⟨a, y, vs, rfl, rfl, l2.h _ _ h1, by omega, by omega, by rw [hl]; exact hs.2.2, fun p hp => ?_⟩
      refine q p _ ⟨W2.b, upd W2.h p (.lst (List.replicate y.toNat vs).flatten)⟩ (l12.trans (Le.layM l12.ok hp)) (l12.h.free hp) upd_same (l12.ok.free hp) ?_
      rw [List.map_flatten, List.map_replicate]
      exact (r1.mono l2.b).rep _
    · cases hz
def insP (xs : List τ) (i : Int) (x : τ) : Option (List τ) := if sz xs.length ∧ 0 ≤ i ∧ i < 4611686018427387904 then some (xs.take i.toNat ++ [x] ++ xs.drop i.toNat) else none
/-- xs.insert(i, e) -/
theorem g_insert (C : Cf X N sc fb K mg P w base k) (i : Nat) {n : Str} {p1 apos p3 : Pos} {xs : List τ} {mi : Option Int} {me : Option τ} {f : List τ → Option ρ} (hj : XE X env b mi) (he : XE X env e me) (hr : ∀ ys : List τ, GS X (env.set i (.own (ys.map em))) rest (f ys) Z)
    (hx : env[i]? = some (.own (xs.map em)) := by rfl) (hi : N[i]? = some n := by rfl) (hv : visB sc n = true := by decide +kernel)
    (hd : (n == ("__debug__" : Str)) = false := by decide) (hcd : (n == ("__classdict__" : Str)) = false := by decide)
    (hbase : ∀ E : Env, attributeBase (.Name n p1) "insert" E (eval (.Name n p1) E) = eval (.Name n p1) E := by intro _; rfl)
    (hfew : ∀ E : Env, ((backTo p3 (starEach [b, e] E)).all (fun x => !x.1) && (backToKw p3 (keywordEach [] E)).all (fun x => x.1.isSome)
      && decide ([b, e].length + ([] : List Keyword).length + (if ([] : List Keyword).isEmpty then 0 else 1) < 30)) = true := by intro _; rfl)
    (hline : (apos.endLine == p3.line) = true := by rfl) (hs : ∀ E : Env, starEach [b, e] E = (false, eval b E) :: starEach [e] E := by intro _; rfl) (hs2 : ∀ E : Env, starEach [e] E = (false, eval e E) :: starEach [] E := by intro _; rfl)
    (hplain : ∀ E : Env, (backTo p3 (starEach ([e] : List Expr) E)).any (·.1) = false := by intro _; rfl) :
    GS X env (.Expr (.Call (.Attribute (.Name n p1) "insert" apos) [b, e] [] p3) pos :: rest) (mi.bind fun j => me.bind fun x => (insP xs j x).bind f) Z := by
  cases C
  refine g_of (ps_expr (pe_bm PySem.F.plainAttrs_list PySem.F.slot_list_insert PySem.F.type_list_insert mt_insert (pe_var hi (visB_ok hv) hd hcd) (pa_cons hj (pa_cons he pa_nil (hs2 _)) (hs _)) (hbase _) (hfew _) hline (hs _) (hplain _)) rfl) hr fun W0 W B σ D r E sb hm z => ?_
  obtain ⟨j, hmj, hm⟩ := bind_some hm
  obtain ⟨x, hme, hm⟩ := bind_some hm
  obtain ⟨ys, hy, hm⟩ := bind_some hm
  unfold insP at hy
  split at hy
  · rename_i hz
    cases hy
    obtain ⟨a, vs, h1, h2, h3, h0, r1⟩ := E.own hx
    refine ⟨_, h1, Or.inl ⟨rfl, _, SqL.of h2⟩, ?_⟩
    refine use_x E hmj fun vj W1 l1 rj => ?_
    cases rj
    refine use_x (E.mono l1) hme fun v W2 l2 rv => ?_
    have l12 := l1.trans l2
    have E1 := (E.mono l1).mono l2
    have hl : vs.length = xs.length := by have := r1.length; rwa [List.length_map] at this
    refine ⟨a, vs, j, v, rfl, rfl, l12.h _ _ h2, by rw [hl]; exact sz_line hz.1, hz.2.1, by omega, xs.take j.toNat ++ [x] ++ xs.drop j.toNat, ?_⟩
    refine use_g (E1.write (es := (xs.take j.toNat ++ [x] ++ xs.drop j.toNat).map em) hx h1 ?_) (sb.trans l12.b) hm z
    rw [List.map_append, List.map_append, List.map_take, List.map_drop]
    exact (((r1.mono l12.b).take _).append (.cons rv .nil)).append ((r1.mono l12.b).drop _)
  · cases hy
end
/-! ### a def that calls itself: level by level -/
theorem fn_none {A : Type} {P : Program} {w : World} {K : PySem.W.Frag} {mg : Str → Option Value} {base : Heap} {svs : A → List SV} {m : A → Option ρ} {res : ρ → RV} {f : Addr} {fd : FuncData} {ps : List Str} {k : Nat} (h : ∀ a, m a = none) : FnOk P w K mg base CX0 k f fd ps (spF K svs m res) :=
  ⟨fun vs H Q E q => (by obtain ⟨W, a, x, _, _, _, hx, _⟩ := q; rw [h a] at hx; cases hx), fun A outer s H args us vs Q E _ _ _ _ q => (by obtain ⟨W, a, x, _, _, _, hx, _⟩ := q; rw [h a] at hx; cases hx)⟩
end T

set_option Elab.async false
set_option linter.all false
set_option maxRecDepth 100000
set_option maxHeartbeats 4000000
/-! TDeep: nested tuples as data: kinds taken apart, slices, +, == and < of any depth; sum, index, enumerate; constants of the module. -/
namespace T
open PySem PySem.Spec PyProof.Rows L2
variable {τ α β γ δ ρ B S ι : Type}
section
variable {X : Cx} {env env' : List SV} {e a b c tg iter elt o : Expr} {st : Stmt} {es : List Expr} {body rest : List Stmt} {pos p p2 p3 apos : Pos} [Em τ] [Em α] [Em β] [Em γ] {N : List Str} {sc : Scope} {fb : Str → Bool} {K : PySem.W.Frag} {mg : Str → Option Value} {P : Program} {w : World} {base : Heap} {k : Nat}
variable {Z : ρ → Wd → Hp → Ends → Prop}
/-! ### data that is of one kind -/
def asS : D → Option Str
  | .str s => some s
  | _ => none
def asI : D → Option Int
  | .int s => some s
  | _ => none
def asB : D → Option Bool
  | .bl s => some s
  | _ => none
def asV : D → Option (Vt D)
  | .tup s => some ⟨s⟩
  | _ => none
def asL : D → Option (List D)
  | .lst s => some s
  | _ => none
theorem x_as {m : Option D} {f : D → Option τ} (hf : ∀ d x, f d = some x → em x = d) (h : XE X env e m) : XE X env e (m.bind f) := x_of h fun W0 W σ E x hx Q q => by
  obtain ⟨d, hd, hx⟩ := bind_some hx
  have := hf d x hx
  subst this
  exact use_x E hd q
theorem x_asS {m : Option D} (h : XE X env e m) : XE X env e (m.bind asS) := x_as (fun d x q => by cases d <;> cases q; rfl) h
theorem x_asI {m : Option D} (h : XE X env e m) : XE X env e (m.bind asI) := x_as (fun d x q => by cases d <;> cases q; rfl) h
theorem x_asB {m : Option D} (h : XE X env e m) : XE X env e (m.bind asB) := x_as (fun d x q => by cases d <;> cases q; rfl) h
theorem x_asV {m : Option D} (h : XE X env e m) : XE X env e (m.bind asV) := x_as (fun d x q => by cases d <;> cases q; exact congrArg D.tup (map_em _)) h
theorem x_asL {m : Option D} (h : XE X env e m) : XE X env e (m.bind asL) := x_as (fun d x q => by cases d <;> cases q; exact congrArg D.lst (map_em _)) h
/-! ### tuples: slices, + -/
def cutT (xs : Vt τ) (lo hi : Option Int) : Option (Vt τ) := if HT.sIx xs.l.length 0 lo = 0 ∧ HT.sIx xs.l.length xs.l.length hi = xs.l.length then none else some ⟨T.cut xs.l lo hi⟩
theorem x_cutT {lo hi : Option Expr} {m : Option (Vt τ)} {ml mh : Option (Option Int)} (h : XE X env e m) (hl : XO X env lo ml) (hh : XO X env hi mh) : XE X env (.Subscript e (.Slice lo hi none p2) pos) (m.bind fun z => ml.bind fun l => mh.bind fun u => cutT z l u) :=
  x_of (pe_slice sl_tup h hl hh) fun W0 W σ E z hz Q q => by
    obtain ⟨d, hd, hz⟩ := bind_some hz
    obtain ⟨l, hl, hz⟩ := bind_some hz
    obtain ⟨u, hu, hz⟩ := bind_some hz
    unfold cutT at hz
    split at hz
    · cases hz
    · rename_i hw
      cases hz
      refine use_x E hd fun v W1 l1 r1 => ?_
      refine use_o (E.mono l1) hl fun W2 l2 => ?_
      refine use_o ((E.mono l1).mono l2) hu fun W3 l3 => ?_
      have l13 := l1.trans (l2.trans l3)
      have r1 : Rp X.K W1.b v (.tup (d.l.map em)) := r1
      cases r1 with
      | @tup ad vs _ s1 r1 =>
        have hlen : vs.length = d.l.length := by have := r1.length; rwa [List.length_map] at this
        refine ⟨ad, vs, rfl, same_t l13.ok (same_t (l2.trans l3).b s1), by rw [hlen]; exact hw, fun p hp => ?_⟩
        refine q (.ref p) _ (l13.trans (Le.lay l13.ok (o := .tup (cutV vs l u)) hp)) ?_
        refine .tup (SqT.of upd_same) ?_
        rw [← cut_map]
        exact ((r1.mono (l2.trans l3).b).mono (Same.new (l13.ok.free hp))).cut l u
def catT (x y : Vt τ) : Option (Vt τ) := if x.l ≠ [] ∧ x.l.length + y.l.length < 16777216 then some ⟨x.l ++ y.l⟩ else none
theorem x_catT {ma mb : Option (Vt τ)} (ha : XE X env a ma) (hb : XE X env b mb) : XE X env (.BinOp a .Add b pos) (ma.bind fun x => mb.bind fun y => catT x y) :=
  x_of (pe_op op_catT ha hb) fun W0 W σ E z hz Q q => by
    obtain ⟨x, hx, hz⟩ := bind_some hz
    obtain ⟨y, hy, hz⟩ := bind_some hz
    unfold catT at hz
    split at hz
    · rename_i hs
      cases hz
      refine use_x E hx fun u W1 l1 r1 => ?_
      refine use_x (E.mono l1) hy fun v W2 l2 r2 => ?_
      have l12 := l1.trans l2
      have r1 : Rp X.K W1.b u (.tup (x.l.map em)) := r1
      have r2 : Rp X.K W2.b v (.tup (y.l.map em)) := r2
      cases r1 with
      | @tup ad vs _ s1 r1 =>
        cases r2 with
        | @tup ad2 us _ s2 r2 =>
          have h1 : vs.length = x.l.length := by have := r1.length; rwa [List.length_map] at this
          have h2 : us.length = y.l.length := by have := r2.length; rwa [List.length_map] at this
          refine ⟨ad, ad2, vs, us, rfl, rfl, same_t l12.ok (same_t l2.b s1), same_t l2.ok s2, fun z => hs.1 (List.length_eq_zero_iff.mp (by rw [← h1, z]; rfl)), by rw [h1, h2]; exact Nat.le_of_lt (sz_line hs.2), fun z => ?_, fun z p hp => ?_⟩
          · refine q _ W2 l12 ?_
            have hy0 : y.l = [] := List.length_eq_zero_iff.mp (by rw [← h2, z]; rfl)
            show Rp X.K W2.b (.ref ad) (.tup ((x.l ++ y.l).map em))
            rw [hy0, List.append_nil]
            exact .tup (same_t l2.b s1) (r1.mono l2.b)
          · refine q (.ref p) _ (l12.trans (Le.lay l12.ok (o := .tup (vs ++ us)) hp)) ?_
            show Rp X.K _ (.ref p) (.tup ((x.l ++ y.l).map em))
            rw [List.map_append]
            exact .tup (SqT.of upd_same) (((r1.mono l2.b).mono (Same.new (l12.ok.free hp))).append (r2.mono (Same.new (l12.ok.free hp))))
    · cases hz
/-- a written tuple of n items of one type -/
def vtP (n : Nat) (l : List τ) : Option (Vt τ) := if l.length = n then some ⟨l⟩ else none
theorem vtP_eq {n : Nat} {l : List τ} (h : l.length = n := by rfl) : vtP n l = some ⟨l⟩ := by unfold vtP; rw [if_pos h]
theorem x_tupP {x1 n : Nat} {m : Option (List τ)} (h : XI X env es m) (hn : n < 16777216 := by decide) : XE X env (.Tuple es x1 pos) (m.bind (vtP n)) := by
  refine x_of (pe_tup h) fun W0 W σ E x hx Q q => ?_
  obtain ⟨y, hy, hx⟩ := bind_some hx
  unfold vtP at hx
  split at hx
  · rename_i hl
    cases hx
    refine use_a E hy fun vs W1 l1 r1 => ?_
    have r := r1.items
    refine ⟨by have := r.length; rw [List.length_map] at this; exact Nat.le_of_lt (by rw [this]; exact sz_line (show sz _ by unfold sz; omega)), fun p hp => ?_⟩
    refine q (.ref p) _ (l1.trans (Le.lay l1.ok (o := .tup vs) hp)) ?_
    exact .tup (SqT.of upd_same) (r.mono (Same.new (l1.ok.free hp)))
  · cases hx
/-! ### sum, index, enumerate -/
theorem rp_ints {H : Hp} : ∀ {vs : List V} {ns : List Int}, RpA K H vs (ns.map em) → vs = ns.map V.int
  | _, [], .nil => rfl
  | _, _ :: _, .cons r t => by
    cases r
    rw [List.map_cons, rp_ints t]
theorem x_sumQ {m : Option (List Int)} (C : Cf X N sc fb K mg P w base k) (h : XQ X env e m) (hm : mg "sum" = none) (hg : glbB sc "sum" = true := by decide +kernel)
    (he : ∀ E : Env, starEach [e] E = (false, eval e E) :: starEach [] E := by intro _; rfl) : XE X env (.Call (.Name "sum" p) [e] [] pos) (m.bind fun xs => some xs.sum) :=
  x_cBQ C (cr_sum C.calm) h (fun d y hy W a vs ok s r Q q => by
    cases hy
    have := rp_ints r
    subst this
    exact ⟨a, d, rfl, s, q _ W (Le.refl ok) (.int _)⟩) hm (by decide +kernel) hg (by decide) (by decide) he
/-- enumerate(a list) -/
def enumL (xs : List τ) : List (Int × τ) := (List.range xs.length).zip xs |>.map fun p => ((p.1 : Int), p.2)
theorem enumL_length (xs : List τ) : (enumL xs).length = xs.length := by simp [enumL]
theorem enumL_get {xs : List τ} {i : Nat} {y : Int × τ} (h : (enumL xs)[i]? = some y) : ∃ x, xs[i]? = some x ∧ y = ((i : Int), x) := by
  have hi : i < xs.length := by have := (List.getElem?_eq_some_iff.mp h).1; rwa [enumL_length] at this
  refine ⟨xs[i], List.getElem?_eq_getElem hi, ?_⟩
  unfold enumL at h
  rw [List.getElem?_map, List.zip_eq_zipWith, List.getElem?_zipWith, List.getElem?_range hi, List.getElem?_eq_getElem hi] at h
  exact (Option.some.inj h).symm
theorem w_enumL (C : Cf X N sc fb K mg P w base k) {elts : List Expr} {kk : Nat} {tpos : Pos} {m : Option (List τ)} (h : XE X env e m) (hm : mg "enumerate" = none) (hg : glbB sc "enumerate" = true := by decide +kernel)
    (he : ∀ E : Env, starEach [e] E = (false, eval e E) :: starEach [] E := by intro _; rfl) (hs : ∀ E : Env, starEach [e] E = [(false, eval e E)] := by intro _; rfl) :
    XWk X env (.Tuple elts kk tpos) (.Call (.Name "enumerate" p) [e] [] pos) (m.bind fun s => some (enumL s)) := by
  cases C
  refine piImp (pi_enum (glbB_ok hg) hm (a_dat h a_nil (he _)) (hs _)) fun σ H R ⟨W0, W, hH, E, x, hx, q⟩ => ?_
  subst hH
  obtain ⟨s, hs, hx⟩ := bind_some hx
  cases hx
  refine use_ax E hs fun v W1 l1 r1 => ?_
  have r1 : Rp X.K W1.b v (.lst (s.map em)) := r1
  cases r1 with
  | @lst ad vs _ s1 r1 =>
    refine ⟨ad, vs, rfl, l1.ok.seq s1, q _ W1 l1 ⟨fun i y W2 hy sb l0 => ?_, fun W2 sb l0 => ?_⟩⟩
    · obtain ⟨x, hx, rfl⟩ := enumL_get hy
      obtain ⟨u, h1, h2⟩ := r1.get (show (s.map em)[i]? = some (em x) by rw [List.getElem?_map, hx]; rfl)
      have s2 : SqL X.K W2.h ad vs := l0.ok.seq (sb.seq s1)
      refine ⟨⟨vs, u, s2, h1⟩, fun v' H' ⟨T', x', e1, hT, e3, e2⟩ => ?_⟩
      subst e1 e3
      have := e2 _ s2
      rw [h1] at this
      cases this
      exact ⟨_, Le.lay l0.ok (o := .tup [.int (i : Nat), u]) hT, rfl, .tup (SqT.of upd_same) (.cons (.int _) (.cons ((h2.mono sb).mono (Same.new (l0.ok.free hT))) .nil))⟩
    · refine ⟨vs, l0.ok.seq (sb.seq s1), ?_⟩
      have := r1.length
      rw [List.length_map] at this
      rw [enumL_length]
      omega
/-- xs.index(x): the first place -/
def idxP [Pl τ] (xs : List τ) (x : τ) : Option Int := (xs.findIdx? fun y => decide (y = x)).map fun j => (j : Int)
/-! ### data, as the kit's data -/
mutual
def toPy : D → PyData
  | .non => .none
  | .bl b => .bool b
  | .int i => .int i
  | .str s => .str s
  | .tup l => .tuple (toPyA l)
  | .lst l => .list (toPyA l)
  | .ins _ _ _ => .none
def toPyA : List D → List PyData
  | [] => []
  | d :: l => toPy d :: toPyA l
end
mutual
/-- no object within -/
def plainD : D → Bool
  | .tup l => plainA l
  | .lst l => plainA l
  | .ins _ _ _ => false
  | _ => true
def plainA : List D → Bool
  | [] => true
  | d :: l => plainD d && plainA l
end
mutual
theorem Rp.dp {H : Hp} {W : Wd} (ok : Same W.b W.h) : ∀ {v : V} {d : D}, Rp K W.b v d → plainD d = true → Dp K W.h v (toPy d)
  | _, _, .non, _ => .non
  | _, _, .bl b, _ => .bl b
  | _, _, .int i, _ => .int i
  | _, _, .str s, _ => .str s
  | _, _, .tup s r, h => .tup (same_t ok s) (RpA.dp (H := H) ok r h)
  | _, _, .lst s r, h => .lst (ok.seq s) (RpA.dp (H := H) ok r h)
  | _, _, .ins _ _ _, h => nomatch h
theorem RpA.dp {H : Hp} {W : Wd} (ok : Same W.b W.h) : ∀ {vs : List V} {ds : List D}, RpA K W.b vs ds → plainA ds = true → DpAll K W.h vs (toPyA ds)
  | _, _, .nil, _ => .nil
  | _, _, .cons r t, h => by
    unfold plainA at h
    rw [Bool.and_eq_true] at h
    exact .cons (Rp.dp (H := H) ok r h.1) (RpA.dp (H := H) ok t h.2)
end
/-- == of any data without objects, at most 64 deep -/
def eqP (d e : D) : Option Bool := if plainD d = true ∧ plainD e = true ∧ SeqAt.shaped (toPy d) = true ∧ SeqAt.shaped (toPy e) = true then some (PyData.eqv (toPy d) (toPy e)) else none
theorem Cf.un (C : Cf X N sc fb K mg P w base k) : X.A.units + 16 * k + 200 < cLine := by
  cases C with
  | mk nd calm po rm => exact rm.un
theorem x_eqP {ma : Option α} {mb : Option β} (C : Cf X N sc fb K mg P w base k) (ha : XE X env a ma) (hb : XE X env b mb) : XE X env (.Compare a [.Eq] [b] pos) (ma.bind fun x => mb.bind fun y => eqP (em x) (em y)) :=
  x_cmp (op_eqD (by have := C.un; omega)) ha hb (nomark _) fun x y z hz W u v ok ru rv Q q => by
    unfold eqP at hz
    split at hz
    · rename_i h
      cases hz
      exact ⟨_, _, ru.dp (H := W.h) ok h.1, rv.dp (H := W.h) ok h.2.1, h.2.2.1, h.2.2.2, q _ W (Le.refl ok) (.bl _)⟩
    · cases hz
theorem t_eqP {ma : Option α} {mb : Option β} (C : Cf X N sc fb K mg P w base k) (ha : XE X env a ma) (hb : XE X env b mb) : XT X env (.Compare a [.Eq] [b] pos) (ma.bind fun x => mb.bind fun y => eqP (em x) (em y)) :=
  t_cmp (op_eqD (by have := C.un; omega)) ha hb (nomark _) fun x y z hz W u v ok ru rv Q q => by
    unfold eqP at hz
    split at hz
    · rename_i h
      cases hz
      exact ⟨_, _, ru.dp (H := W.h) ok h.1, rv.dp (H := W.h) ok h.2.1, h.2.2.1, h.2.2.2, q _ W (Le.refl ok) (.bl _)⟩
    · cases hz
theorem x_neP {ma : Option α} {mb : Option β} (C : Cf X N sc fb K mg P w base k) (ha : XE X env a ma) (hb : XE X env b mb) : XE X env (.Compare a [.NotEq] [b] pos) (ma.bind fun x => mb.bind fun y => (eqP (em x) (em y)).bind fun z => some (!z)) :=
  x_cmp (op_neD (by have := C.un; omega)) ha hb (nomark _) fun x y z hz W u v ok ru rv Q q => by
    obtain ⟨zz, hzz, hz⟩ := bind_some hz
    cases hz
    unfold eqP at hzz
    split at hzz
    · rename_i h
      cases hzz
      exact ⟨_, _, ru.dp (H := W.h) ok h.1, rv.dp (H := W.h) ok h.2.1, h.2.2.1, h.2.2.2, q _ W (Le.refl ok) (.bl _)⟩
    · cases hzz
theorem t_neP {ma : Option α} {mb : Option β} (C : Cf X N sc fb K mg P w base k) (ha : XE X env a ma) (hb : XE X env b mb) : XT X env (.Compare a [.NotEq] [b] pos) (ma.bind fun x => mb.bind fun y => (eqP (em x) (em y)).bind fun z => some (!z)) :=
  t_cmp (op_neD (by have := C.un; omega)) ha hb (nomark _) fun x y z hz W u v ok ru rv Q q => by
    obtain ⟨zz, hzz, hz⟩ := bind_some hz
    cases hz
    unfold eqP at hzz
    split at hzz
    · rename_i h
      cases hzz
      exact ⟨_, _, ru.dp (H := W.h) ok h.1, rv.dp (H := W.h) ok h.2.1, h.2.2.1, h.2.2.2, q _ W (Le.refl ok) (.bl _)⟩
    · cases hzz
end
end T

set_option Elab.async false
set_option linter.all false
set_option maxRecDepth 100000
set_option maxHeartbeats 4000000
/-! TLt: a < b of nested data where only the first difference is asked for its <. -/
namespace T
open PySem PySem.Spec PyProof.Rows L2 PySem.SeqAt
open PySem.AutoSeq1 (wpAny_loadPart')
open PySem.MeetsSeq PySem.MeetsSeq2 PySem.MeetsSeq3 PySem.SeqRoads2
mutual
def ltP : PyData → PyData → Option Bool
  | .int x, .int y => some (decide (x < y))
  | .str x, .str y => some (decide (x.cps.toList < y.cps.toList))
  | .tuple l, .tuple m => ltPA l m
  | _, _ => none
def ltPA : List PyData → List PyData → Option Bool
  | [], [] => some false
  | [], _ :: _ => some true
  | _ :: _, [] => some false
  | x :: l, y :: m => if PyData.eqv x y = true then ltPA l m else ltP x y
end
/-- what decides: all before i alike; at i the end of one, or a difference -/
def First (A : Around) (s : Shared) (us vs : List Value) (r : Bool) (i : Nat) : Prop :=
  i ≤ us.length ∧ i ≤ vs.length ∧ (∀ j (hj : j < us.length) (gj : j < vs.length), j < i → EqAt A s us[j] vs[j] true) ∧
    (((i = us.length ∨ i = vs.length) ∧ r = decide (us.length < vs.length)) ∨ ∃ (hi : i < us.length) (gi : i < vs.length), EqAt A s us[i] vs[i] false ∧ RcLt A s us[i] vs[i] r)
theorem First.cons {A : Around} {s : Shared} {us vs : List Value} {u v : Value} {r : Bool} {i : Nat} (he : EqAt A s u v true) (h : First A s us vs r i) : First A s (u :: us) (v :: vs) r (i + 1) := by
  obtain ⟨h1, h2, h3, h4⟩ := h
  refine ⟨by simpa using h1, by simpa using h2, fun j hj gj hji => ?_, ?_⟩
  · cases j with
    | zero => exact he
    | succ j => exact h3 j (by simpa using hj) (by simpa using gj) (by omega)
  · rcases h4 with ⟨h5, h6⟩ | ⟨hi, gi, h5, h6⟩
    · left
      refine ⟨h5.imp (fun z => by rw [z]; rfl) (fun z => by rw [z]; rfl), ?_⟩
      rw [h6]
      simp
    · exact .inr ⟨by simpa using hi, by simpa using gi, h5, h6⟩
theorem tup_first (a b : Addr) (us vs : Array Value) (n m : Nat) (da db : Option Addr) (sa sb : Array (Option Value)) (r : Bool) (i₀ : Nat) :
    Meets (Builtin.«tuple.__lt__» ⟨[.ref a, .ref b], []⟩)
      (fun A R s => s.heap.get? a = some { cls := .type "tuple", dict := da, data := .seq us n, slots := sa } ∧ s.heap.get? b = some { cls := .type "tuple", dict := db, data := .seq vs m, slots := sb } ∧
        First A.in1 s us.toList vs.toList r i₀ ∧ R (.ok (.ret (.bool r))) s) :=
  .of_wp fun prog w A R s h => by
    obtain ⟨hp, g, dr, tk, os⟩ := s
    obtain ⟨ga, gb, ⟨f1, f2, f3, f4⟩, hR⟩ := h
    have isT := AutoSeq1.sub_tuple_tuple
    have zl : (us.toList.zip vs.toList).length = min us.size vs.size := by simp
    have f1' : i₀ ≤ us.size := by simpa using f1
    have f2' : i₀ ≤ vs.size := by simpa using f2
    wp_walk using wpAny_loadPart' ga, wpAny_loadPart' gb, wpAny_forIn_list _ (fun todo q s' => q.1 = none ∧ s' = ⟨hp, g, dr, tk, os⟩ ∧ ∃ t, t ≤ i₀ ∧ todo = (us.toList.zip vs.toList).drop t) _
    case turn =>
      rintro ⟨p, q⟩ todo c s' ⟨hc, rfl, t, hti, ht⟩
      have tl : t < (us.toList.zip vs.toList).length := by
        by_cases q : t < (us.toList.zip vs.toList).length
        · exact q
        · rw [List.drop_of_length_le (by omega)] at ht; cases ht
      have t1 : t < us.size := by omega
      have t2 : t < vs.size := by omega
      rw [List.drop_eq_getElem_cons tl] at ht
      injection ht with hpq hrest
      obtain ⟨rfl, rfl⟩ : p = us[t] ∧ q = vs[t] := by simpa using hpq
      by_cases hlt : t < i₀
      · have e := f3 t (by simpa using t1) (by simpa using t2) hlt
        simp only [Array.getElem_toList] at e
        refine wpAny_bind (e prog w _ _ ?_)
        wp_walk
        exact ⟨rfl, rfl, t + 1, hlt, hrest⟩
      · obtain rfl : t = i₀ := by omega
        rcases f4 with ⟨h5, _⟩ | ⟨k1, k2, e, l⟩
        · exfalso
          rcases h5 with h5 | h5 <;> simp at h5 <;> omega
        · simp only [Array.getElem_toList] at e l
          refine wpAny_bind (e prog w _ _ ?_)
          have l' := l prog w
          clear l e f3
          generalize PySem.richCompare CmpOp.Lt us[t] vs[t] = rc at l' ⊢
          wp_walk
          refine l' _ _ ?_
          wp_walk
          exact ⟨_, rfl, hR⟩
    case fin =>
      rintro ⟨c1, c2⟩ s' ⟨hc, rfl, t, hti, ht⟩
      simp only at hc
      subst hc
      have tl : min us.size vs.size ≤ t := by
        by_cases q : t < (us.toList.zip vs.toList).length
        · rw [List.drop_eq_getElem_cons q] at ht; cases ht
        · omega
      rcases f4 with ⟨_, h6⟩ | ⟨k1, k2, _, _⟩
      · wp_walk
        refine ⟨_, rfl, ?_⟩
        have h6' : r = decide (us.size < vs.size) := by simpa using h6
        rw [h6'] at hR
        simpa [Builtin.Tuple.tupleCompareSizes] using hR
      · exfalso
        simp at k1 k2
        omega
    case h => exact ⟨rfl, rfl, 0, Nat.zero_le _, rfl⟩
theorem rc_tups {A : Around} {s : Shared} {a b : Addr} {us vs : Array Value} {r : Bool} {i : Nat} (ga : s.heap.IsTuple a us) (gb : s.heap.IsTuple b vs) (hu : A.units < cLine) (h : First A.in1 s us.toList vs.toList r i) : RcLt A s (.ref a) (.ref b) r := fun prog w E Q hq => by
  obtain ⟨⟨ca, da, xa, sa⟩, oa, ka, n, ea⟩ := id ga
  obtain ⟨⟨cb, db, xb, sb⟩, ob, kb, m, eb⟩ := id gb
  simp only at ka ea kb eb
  subst ka ea kb eb
  exact richCompare_meets_room (op := .Lt) ⟨_, oa, rfl⟩ ⟨_, ob, rfl⟩ F.slot_tuple_lt F.entry_tuple_lt (F.args_tuple_lt_2 _ _) (tup_first a b us vs n m da db sa sb r i) ⟨oa, ob, h, show Value.bool r ≠ Value.notImplemented ∧ Q (.bool r) s from ⟨(fun z => nomatch z), hq⟩⟩ hu
mutual
theorem rc_first : ∀ (d e : PyData) (A : Around) (s : Shared) (u v : Value) (as bs : List Addr) (r : Bool), Reads s.heap u d as → Reads s.heap v e bs → d.canLay0 = true → e.canLay0 = true → A.units + min d.depth e.depth < cLine → ltP d e = some r → RcLt A s u v r
  | .int x, e, A, s, u, v, as, bs, r, hd, he, _, _, _, h => by
    cases e with
    | int y =>
      cases hd
      cases he
      cases h
      intro prog w E Q hq
      exact P.lt_int hq
    | _ => cases h
  | .str x, e, A, s, u, v, as, bs, r, hd, he, _, _, _, h => by
    cases e with
    | str y =>
      cases hd
      cases he
      cases h
      intro prog w E Q hq
      exact P.lt_str hq
    | _ => cases h
  | .tuple l, e, A, s, u, v, as, bs, r, hd, he, c1, c2, hu, h => by
    cases e with
    | tuple m =>
      cases hd with
      | @tuple a o us n _ _ h1 h2 h3 h4 =>
        cases he with
        | @tuple a' o' vs n' _ _ k1 k2 k3 k4 =>
          obtain ⟨i, hi⟩ := rc_firsts l m A.in1 s us.toList vs.toList _ _ r h4 k4 c1 c2 (room_in hu) h
          exact rc_tups ⟨_, h1, h2, _, h3⟩ ⟨_, k1, k2, _, k3⟩ (room_here hu) hi
    | _ => cases h
  | .none, e, _, _, _, _, _, _, _, _, _, _, _, _, h => by cases e <;> cases h
  | .bool _, e, _, _, _, _, _, _, _, _, _, _, _, _, h => by cases e <;> cases h
  | .list _, e, _, _, _, _, _, _, _, _, _, _, _, _, h => by cases e <;> cases h
  | .dict _, e, _, _, _, _, _, _, _, _, _, _, _, _, h => by cases e <;> cases h
theorem rc_firsts : ∀ (l m : List PyData) (A : Around) (s : Shared) (us vs : List Value) (as bs : List Addr) (r : Bool), ReadsAll s.heap us l as → ReadsAll s.heap vs m bs → PyData.canLayAll0 l = true → PyData.canLayAll0 m = true →
    A.units + min (PyData.depthAll l) (PyData.depthAll m) < cLine → ltPA l m = some r → ∃ i, First A s us vs r i
  | [], [], A, s, us, vs, as, bs, r, hd, he, _, _, _, h => by
    cases hd; cases he; cases h
    exact ⟨0, Nat.le_refl _, Nat.le_refl _, fun j hj => absurd hj (Nat.not_lt_zero _), .inl ⟨.inl rfl, rfl⟩⟩
  | [], y :: m, A, s, us, vs, as, bs, r, hd, he, _, _, _, h => by
    cases hd; cases he; cases h
    exact ⟨0, Nat.le_refl _, Nat.zero_le _, fun j hj => absurd hj (Nat.not_lt_zero _), .inl ⟨.inl rfl, rfl⟩⟩
  | x :: l, [], A, s, us, vs, as, bs, r, hd, he, _, _, _, h => by
    cases hd; cases he; cases h
    exact ⟨0, Nat.zero_le _, Nat.le_refl _, fun j _ hj => absurd hj (Nat.not_lt_zero _), .inl ⟨.inr rfl, rfl⟩⟩
  | x :: l, y :: m, A, s, us, vs, as, bs, r, hd, he, c1, c2, hu, h => by
    cases hd with
    | @cons u us' _ _ a1 a2 r1 t1 =>
      cases he with
      | @cons v vs' _ _ b1 b2 r2 t2 =>
        simp only [PyData.canLayAll0, Bool.and_eq_true] at c1 c2
        have e := eqAt_reads x y A s u v a1 b1 r1 r2 c1.1 c2.1 (room_head hu)
        by_cases q : PyData.eqv x y = true
        · rw [q] at e
          rw [ltPA, if_pos q] at h
          obtain ⟨i, hi⟩ := rc_firsts l m A s us' vs' _ _ r t1 t2 c1.2 c2.2 (room_tail hu) h
          exact ⟨i + 1, hi.cons e⟩
        · rw [ltPA, if_neg q] at h
          rw [show PyData.eqv x y = false by simpa using q] at e
          exact ⟨0, Nat.zero_le _, Nat.zero_le _, fun j _ _ hj => absurd hj (Nat.not_lt_zero _), .inr ⟨Nat.succ_pos _, Nat.succ_pos _, e, rc_first x y A s u v a1 b1 r r1 r2 c1.1 c2.1 (room_head hu) h⟩⟩
end
variable {τ α β γ δ ρ B S ι : Type}
section
variable {X : Cx} {env env' : List SV} {e a b c tg iter elt o : Expr} {pos p p2 p3 apos : Pos} [Em τ] [Em α] [Em β] [Em γ] {N : List Str} {sc : Scope} {fb : Str → Bool} {K : PySem.W.Frag} {mg : Str → Option Value} {P : Program} {w : World} {base : Heap} {k : Nat}
/-- d < e, by the first difference -/
def ltO (d e : D) : Option Bool := if plainD d = true ∧ plainD e = true ∧ shaped (toPy d) = true ∧ shaped (toPy e) = true then ltP (toPy d) (toPy e) else none
def rLtP (K : PySem.W.Frag) : R2 := fun x y H Q => ∃ d e r, Dp K H x d ∧ Dp K H y e ∧ shaped d = true ∧ shaped e = true ∧ ltP d e = some r ∧ Q (.bl r) H
theorem op_ltP (hu : X.A.units + 64 < cLine) : OpR X (compareOp .Lt) (rLtP X.K) := by
  intro pins s σ H x y v u Q I rx ry h
  obtain ⟨d, e, r, hd, he, sd, se, hr, q⟩ := h
  obtain ⟨as, r1⟩ := Dp.reads I d x v hd rx
  obtain ⟨bs, r2⟩ := Dp.reads I e y u he ry
  exact rc_first d e X.A s v u as bs r r1 r2 (canLay_of_shaped sd) (canLay_of_shaped se) (room_of_shaped sd hu) hr _ _ _ _ ⟨.bl _, H, I, rfl, q⟩
theorem x_ltP {ma : Option α} {mb : Option β} (C : Cf X N sc fb K mg P w base k) (ha : XE X env a ma) (hb : XE X env b mb) : XE X env (.Compare a [.Lt] [b] pos) (ma.bind fun x => mb.bind fun y => ltO (em x) (em y)) :=
  x_cmp (op_ltP (by have := C.un; omega)) ha hb (nomark _) fun x y z hz W u v ok ru rv Q q => by
    unfold ltO at hz
    split at hz
    · rename_i h
      exact ⟨_, _, z, ru.dp (H := W.h) ok h.1, rv.dp (H := W.h) ok h.2.1, h.2.2.1, h.2.2.2, hz, q _ W (Le.refl ok) (.bl _)⟩
    · cases hz
theorem t_ltP {ma : Option α} {mb : Option β} (C : Cf X N sc fb K mg P w base k) (ha : XE X env a ma) (hb : XE X env b mb) : XT X env (.Compare a [.Lt] [b] pos) (ma.bind fun x => mb.bind fun y => ltO (em x) (em y)) :=
  t_cmp (op_ltP (by have := C.un; omega)) ha hb (nomark _) fun x y z hz W u v ok ru rv Q q => by
    unfold ltO at hz
    split at hz
    · rename_i h
      exact ⟨_, _, z, ru.dp (H := W.h) ok h.1, rv.dp (H := W.h) ok h.2.1, h.2.2.1, h.2.2.2, hz, q _ W (Le.refl ok) (.bl _)⟩
    · cases hz
end
end T

set_option Elab.async false
set_option linter.all false
set_option maxRecDepth 100000
set_option maxHeartbeats 4000000
/-! TConst: what stands at the module's top: texts, numbers, tuples, dicts with text keys; the method index. -/
namespace T
open PySem PySem.Spec PyProof.Rows L2
variable {τ α β γ δ ρ B S ι : Type}
/-- a value of the top that stands for data -/
def Cs (K : PySem.W.Frag) (u : Value) (d : D) : Prop := ∃ v, RelV v u ∧ ∀ H, Rp K H v d
inductive CsA (K : PySem.W.Frag) : List Value → List D → Prop
  | nil : CsA K [] []
  | cons {u : Value} {us : List Value} {d : D} {ds : List D} : Cs K u d → CsA K us ds → CsA K (u :: us) (d :: ds)
section
variable {K : PySem.W.Frag}
theorem cs_str {s : Str} {t : Tok} : Cs K (.str s t) (.str s) := ⟨.str s, ⟨t, rfl⟩, fun _ => .str s⟩
theorem cs_int {i : Int} {t : Tok} : Cs K (.int i t) (.int i) := ⟨.int i, ⟨t, rfl⟩, fun _ => .int i⟩
theorem cs_bl {i : Bool} : Cs K (.bool i) (.bl i) := ⟨.bl i, rfl, fun _ => .bl i⟩
theorem cs_non : Cs K .none .non := ⟨.non, rfl, fun _ => .non⟩
theorem csA_vals : ∀ {us : List Value} {ds : List D}, CsA K us ds → ∃ vs, Vals vs us ∧ ∀ H, RpA K H vs ds
  | _, _, .nil => ⟨[], .nil, fun _ => .nil⟩
  | _, _, .cons ⟨v, r, h⟩ t => by
    obtain ⟨vs, rs, hs⟩ := csA_vals t
    exact ⟨v :: vs, .cons r rs, fun H => .cons (h H) (hs H)⟩
theorem cs_tup {a : Addr} {od : Option Addr} {its : Array Value} {n : Nat} {sl : Array (Option Value)} {ds : List D} (l : K.lookup a = some ⟨.type "tuple", od, .seq its n, sl⟩) (h : CsA K its.toList ds) (hz : Nat.ble its.size 1000 = true := by rfl) : Cs K (.ref a) (.tup ds) := by
  obtain ⟨vs, rs, hs⟩ := csA_vals h
  exact ⟨.ref a, rfl, fun H => .tup (.inr ⟨_, its, n, l, rfl, rfl, by have := Nat.le_of_ble_eq_true hz; rw [sizeLine_eq]; omega, rs⟩) (hs H)⟩
end
/-- a dict of the top with text keys: ks, and what some of them hold -/
structure KD (K : PySem.W.Frag) (w : World) (mg : Str → Option Value) (x : Str) (ks : List Str) (f : List (Str × D)) : Prop where
  ex : ∃ d es n, mg x = some (.ref d) ∧ KDict K w d es n ∧ (∀ z, ∃ r, PySem.W.nsIn K d z = some r ∧ r.isSome = memB z ks) ∧ ∀ z y, f.lookup z = some y → ∃ u, PySem.W.nsIn K d z = some (some u) ∧ Cs K u y
section
variable {X : Cx} {env env' : List SV} {e a b c tg iter elt o : Expr} {pos p p2 p3 apos : Pos} [Em τ] [Em α] [Em β] [Em γ] {N : List Str} {sc : Scope} {fb : Str → Bool} {K : PySem.W.Frag} {mg : Str → Option Value} {P : Program} {w : World} {base : Heap} {k : Nat}
theorem x_glob {x : Str} {u : Value} {val : τ} (C : Cf X N sc fb K mg P w base k) (hm : mg x = some u) (h : Cs K u (em val)) (hg : glbB sc x = true := by decide +kernel) (hd : (x == ("__debug__" : Str)) = false := by decide) : XE X env (.Name x pos) (some val) := by
  cases C
  obtain ⟨v, r, rp⟩ := h
  refine x_of (pe_glob (glbB_ok hg) hm r hd) fun W0 W σ E z hz Q q => ?_
  cases hz
  exact q v W (Le.refl E.ok) (rp _)
theorem Cf.wk (C : Cf X N sc fb K mg P w base k) : X.w = w ∧ X.K = K := by cases C; exact ⟨rfl, rfl⟩
theorem q_inKd {x : Str} {ks : List Str} {f : List (Str × D)} {ma : Option Str} {neg : Bool} (C : Cf X N sc fb K mg P w base k) (G : KD K w mg x ks f) (ha : XE X env a ma) (hg : glbB sc x = true := by decide +kernel) (hd : (x == ("__debug__" : Str)) = false := by decide) :
    PE X (.Compare a [if neg then .NotIn else .In] [.Name x p] pos) (fun σ H Q => ∃ W0 W : Wd, W.h = H ∧ EnvR X.K W0 W env σ ∧ ∃ z, ma = some z ∧ ∀ W', Le W W' → Q (.bl (if neg then !memB z ks else memB z ks)) W'.h) ∧
    PT X (.Compare a [if neg then .NotIn else .In] [.Name x p] pos) (fun σ H Q => ∃ W0 W : Wd, W.h = H ∧ EnvR X.K W0 W env σ ∧ ∃ z, ma = some z ∧ ∀ W', Le W W' → Q (if neg then !memB z ks else memB z ks) W'.h) := by
  obtain ⟨d, es, n, hm, KX, hk, _⟩ := G.ex
  obtain ⟨e1, e2⟩ := C.wk
  cases C
  have rd : RelV (.ref d) (.ref d) := rfl
  have ho : OpR X (compareOp (if neg then .NotIn else .In)) (fun x y H Q => ∃ z : Str, x = .str z ∧ y = .ref d ∧ Q (.bl (if neg then !memB z ks else memB z ks)) H) := by
    cases neg with
    | false =>
      intro pins s σ H x y v u Q I rx ry ⟨z, e1, e2, q⟩
      obtain ⟨r, h1, h2⟩ := hk z
      exact op_in_kd KX pins s σ H x y v u Q I rx ry ⟨z, r, e1, e2, h1, by rw [h2]; exact q⟩
    | true =>
      intro pins s σ H x y v u Q I rx ry ⟨z, e1, e2, q⟩
      obtain ⟨r, h1, h2⟩ := hk z
      exact op_notIn_kd KX pins s σ H x y v u Q I rx ry ⟨z, r, e1, e2, h1, by rw [h2]; exact q⟩
  have hb : PE X (.Name x p) (tC (.ref d)) := pe_glob (glbB_ok hg) hm rd hd
  have nm : behindInMarks (if neg then .NotIn else .In) (.Name x p) = false := by cases neg <;> rfl
  refine ⟨peImp (pe_cmpR ho ha hb nm) fun σ H Q ⟨W0, W, hH, E, z, hz, q⟩ => ?_, ptImp (pt_cmpR ho ha hb nm) fun σ H Q ⟨W0, W, hH, E, z, hz, q⟩ => ?_⟩
  · subst hH
    refine use_x E hz fun u W1 l1 r1 => ?_
    cases r1
    exact ⟨z, rfl, rfl, q W1 l1⟩
  · subst hH
    unfold tTest L2.tOp
    refine use_x E hz fun u W1 l1 r1 => ?_
    cases r1
    exact ⟨z, rfl, rfl, _, rfl, q W1 l1⟩
theorem x_inKd {x : Str} {ks : List Str} {f : List (Str × D)} {ma : Option Str} (C : Cf X N sc fb K mg P w base k) (G : KD K w mg x ks f) (ha : XE X env a ma) (hg : glbB sc x = true := by decide +kernel) (hd : (x == ("__debug__" : Str)) = false := by decide) :
    XE X env (.Compare a [.In] [.Name x p] pos) (ma.bind fun z => some (memB z ks)) := x_of (q_inKd (neg := false) C G ha hg hd).1 fun W0 W σ E y hy Q q => by
  obtain ⟨z, hz, hy⟩ := bind_some hy
  cases hy
  exact ⟨W0, W, rfl, E, z, hz, fun W' l => q _ W' l (.bl _)⟩
theorem t_inKd {x : Str} {ks : List Str} {f : List (Str × D)} {ma : Option Str} (C : Cf X N sc fb K mg P w base k) (G : KD K w mg x ks f) (ha : XE X env a ma) (hg : glbB sc x = true := by decide +kernel) (hd : (x == ("__debug__" : Str)) = false := by decide) :
    XT X env (.Compare a [.In] [.Name x p] pos) (ma.bind fun z => some (memB z ks)) := t_of (q_inKd (neg := false) C G ha hg hd).2 fun W0 W σ E y hy Q q => by
  obtain ⟨z, hz, hy⟩ := bind_some hy
  cases hy
  exact ⟨W0, W, rfl, E, z, hz, q⟩
theorem x_ninKd {x : Str} {ks : List Str} {f : List (Str × D)} {ma : Option Str} (C : Cf X N sc fb K mg P w base k) (G : KD K w mg x ks f) (ha : XE X env a ma) (hg : glbB sc x = true := by decide +kernel) (hd : (x == ("__debug__" : Str)) = false := by decide) :
    XE X env (.Compare a [.NotIn] [.Name x p] pos) (ma.bind fun z => some (!memB z ks)) := x_of (q_inKd (neg := true) C G ha hg hd).1 fun W0 W σ E y hy Q q => by
  obtain ⟨z, hz, hy⟩ := bind_some hy
  cases hy
  exact ⟨W0, W, rfl, E, z, hz, fun W' l => q _ W' l (.bl _)⟩
theorem t_ninKd {x : Str} {ks : List Str} {f : List (Str × D)} {ma : Option Str} (C : Cf X N sc fb K mg P w base k) (G : KD K w mg x ks f) (ha : XE X env a ma) (hg : glbB sc x = true := by decide +kernel) (hd : (x == ("__debug__" : Str)) = false := by decide) :
    XT X env (.Compare a [.NotIn] [.Name x p] pos) (ma.bind fun z => some (!memB z ks)) := t_of (q_inKd (neg := true) C G ha hg hd).2 fun W0 W σ E y hy Q q => by
  obtain ⟨z, hz, hy⟩ := bind_some hy
  cases hy
  exact ⟨W0, W, rfl, E, z, hz, q⟩
/-- TABLE[key] -/
theorem x_ixKd {x : Str} {ks : List Str} {f : List (Str × D)} {mb : Option Str} (C : Cf X N sc fb K mg P w base k) (G : KD K w mg x ks f) (hb : XE X env b mb) (hs : PlainIx b := by exact fun _ _ => rfl) (hg : glbB sc x = true := by decide +kernel) (hd : (x == ("__debug__" : Str)) = false := by decide) :
    XE X env (.Subscript (.Name x p) b pos) (mb.bind fun z => f.lookup z) := by
  obtain ⟨d, es, n, hm, KX, _, hf⟩ := G.ex
  cases C
  have rd : RelV (.ref d) (.ref d) := rfl
  refine x_of (pe_ix ix_kdict (pe_glob (glbB_ok hg) hm rd hd) hb hs) fun W0 W σ E y hy Q q => ?_
  obtain ⟨z, hz, hy⟩ := bind_some hy
  obtain ⟨u, h1, v, h2, h3⟩ := hf z y hy
  unfold L2.tOp tC
  refine use_x E hz fun u1 W1 l1 r1 => ?_
  cases r1
  exact ⟨d, z, v, rfl, rfl, ⟨es, n, u, KX.at_, KX.lit, h1, h2⟩, q v W1 l1 (h3 _)⟩
/-- xs.index(x) -/
theorem x_index {τ : Type} [Pl τ] [Fl1 τ] {ma : Option (List τ)} {mb : Option τ} (ha : XQ X env o ma) (hb : XE X env e mb)
    (hbase : ∀ E : Env, attributeBase o "index" E (eval o E) = eval o E := by intro _; rfl)
    (hfew : ∀ E : Env, ((backTo p3 (starEach [e] E)).all (fun x => !x.1) && (backToKw p3 (keywordEach [] E)).all (fun x => x.1.isSome)
      && decide ([e].length + ([] : List Keyword).length + (if ([] : List Keyword).isEmpty then 0 else 1) < 30)) = true := by intro _; rfl)
    (hline : (apos.endLine == p3.line) = true := by rfl) (hs : ∀ E : Env, starEach [e] E = (false, eval e E) :: starEach [] E := by intro _; rfl) (hplain : ∀ E : Env, (backTo p3 (starEach ([] : List Expr) E)).any (·.1) = false := by intro _; rfl) :
    XE X env (.Call (.Attribute o "index" apos) [e] [] p3) (ma.bind fun xs => mb.bind fun x => idxP xs x) :=
  x_of (pe_bm PySem.F.plainAttrs_list PySem.F.slot_list_index PySem.F.type_list_index mt_index ha (pa_cons hb pa_nil (hs _)) (hbase _) (hfew _) hline (hs _) (hplain _)) fun W0 W σ E z hz Q q => by
    obtain ⟨xs, hx, hz⟩ := bind_some hz
    obtain ⟨y, hy, hz⟩ := bind_some hz
    unfold idxP at hz
    cases hj : xs.findIdx? (fun z => decide (z = y)) with
    | none => rw [hj] at hz; cases hz
    | some j =>
      rw [hj] at hz
      cases hz
      refine use_q E hx fun ad vs W1 l1 s1 r1 => ?_
      refine ⟨.inl ⟨rfl, _, s1⟩, ?_⟩
      refine use_x (E.mono l1) hy fun u W2 l2 r2 => ?_
      obtain ⟨f1, _⟩ := inV_rp r2 (r1.mono l2.b)
      obtain ⟨hj1, hj2, hj3⟩ := List.findIdx?_eq_some_iff_getElem.mp hj
      obtain ⟨v, e1, e2⟩ := (r1.mono l2.b).get (show (xs.map em)[j]? = some (em xs[j]) by rw [List.getElem?_map, List.getElem?_eq_getElem hj1]; rfl)
      refine ⟨ad, vs, u, j, v, rfl, rfl, l2.h.seq s1, Pl.flat Fl1.fl r2, f1, e1, ?_, fun m z' hm hz' => ?_, q _ W2 (l1.trans l2) (.int _)⟩
      · rw [Fl1.eqv e2 r2]; exact hj2
      · obtain ⟨v', e3, e4⟩ := (r1.mono l2.b).get (show (xs.map em)[m]? = some (em (xs[m]'(by omega))) by rw [List.getElem?_map, List.getElem?_eq_getElem (by omega)]; rfl)
        rw [hz'] at e3
        cases e3
        rw [Fl1.eqv e4 r2]
        simpa using hj3 m hm
end
structure Gc (K : PySem.W.Frag) (mg : Str → Option Value) (x : Str) (d : D) : Prop where
  ex : ∃ u, mg x = some u ∧ Cs K u d
section
variable {X : Cx} {env : List SV} {pos : Pos} [Em τ] {N : List Str} {sc : Scope} {fb : Str → Bool} {K : PySem.W.Frag} {mg : Str → Option Value} {P : Program} {w : World} {base : Heap} {k : Nat}
theorem x_gc {x : Str} {val : τ} (C : Cf X N sc fb K mg P w base k) (G : Gc K mg x (em val)) (hg : glbB sc x = true := by decide +kernel) (hd : (x == ("__debug__" : Str)) = false := by decide) : XE X env (.Name x pos) (some val) := by
  obtain ⟨u, hm, h⟩ := G.ex
  exact x_glob C hm h hg hd
end
/-! ### a dict of the top, out of what is told of it -/
theorem kd_keys {K : PySem.W.Frag} {w : World} {a : Addr} {ks : List Str} (h : He.dicW K a = some (He.keysIn w.params ks)) (z : Str) : ∃ r, PySem.W.nsIn K a z = some r ∧ r.isSome = memB z ks := by
  obtain ⟨es, n, D⟩ := He.dicW_ok h
  have hl := D.at_
  unfold He.dicW at h
  rw [hl] at h
  have h2 : (match decide (("dict" : String) = "dict") && ((#[] : Array (Option Value)).isEmpty && !(a == sysModules)) with
    | true => some (es.toList.map He.keyOf)
    | false => none) = some (He.keysIn w.params ks) := h
  have h3 : (decide (("dict" : String) = "dict") && ((#[] : Array (Option Value)).isEmpty && !(a == sysModules))) = true := by rw [D.low]; rfl
  rw [h3] at h2
  have h4 : es.toList.map He.keyOf = He.keysIn w.params ks := Option.some.inj h2
  unfold PySem.W.nsIn
  rw [hl]
  show ∃ r, (match es.toList.find? (·.key.isStr z) with
      | some e => some (some e.val)
      | none => if es.toList.any (·.refKey) then none else some none) = some r ∧ r.isSome = memB z ks
  clear h h2 h3 hl D
  revert ks
  generalize es.toList = l
  intro ks h4
  have key : ∀ (l : List DictEntry) (ks : List Str), l.map He.keyOf = He.keysIn w.params ks → l.any (·.refKey) = false ∧ ((l.find? (·.key.isStr z)).isSome = memB z ks) := by
    intro l
    induction l with
    | nil =>
      intro ks h
      cases ks with
      | nil => exact ⟨rfl, rfl⟩
      | cons _ _ => cases h
    | cons e l ih =>
      intro ks h
      cases ks with
      | nil => cases h
      | cons q ks =>
        have h1 : He.keyOf e :: l.map He.keyOf = some (q, PyData.keyHash w.params q) :: He.keysIn w.params ks := h
        injection h1 with h2 h3
        obtain ⟨i1, i2⟩ := ih ks h3
        unfold He.keyOf at h2
        split at h2
        · rename_i x t q'
          obtain ⟨h5, _⟩ := Prod.mk.inj (Option.some.inj h2)
          subst h5
          have e1 : e.refKey = false := by unfold DictEntry.refKey; rw [q']
          refine ⟨by rw [List.any_cons, e1, i1]; rfl, ?_⟩
          have e2 : e.key.isStr z = decide (x = z) := by
            rw [q']
            by_cases hz : x = z
            · subst hz; simp [Value.isStr]
            · simp [Value.isStr, hz]
          rw [List.find?_cons, e2]
          unfold memB at i2 ⊢
          rw [List.any_cons]
          by_cases hz : x = z
          · simp [hz]
          · simp [hz, i2]
        · cases h2
  obtain ⟨k1, k2⟩ := key l ks h4
  cases hf : l.find? (·.key.isStr z) with
  | some e => rw [hf] at k2; exact ⟨some e.val, rfl, k2⟩
  | none => rw [hf] at k2; rw [k1]; exact ⟨none, rfl, k2⟩
theorem dicW_of {K : PySem.W.Frag} {P : Params} {a : Addr} {es : Array DictEntry} {n : Nat} {ks : List Str} (l : K.lookup a = some ⟨.type "dict", none, .dict es n, #[]⟩) (hs : (a == sysModules) = false) (he : es.toList.map He.keyOf = He.keysIn P ks := by rfl) : He.dicW K a = some (He.keysIn P ks) := by
  unfold He.dicW
  rw [l]
  show (match decide (("dict" : String) = "dict") && ((#[] : Array (Option Value)).isEmpty && !(a == sysModules)) with
    | true => some (es.toList.map He.keyOf)
    | false => none) = _
  have h3 : (decide (("dict" : String) = "dict") && ((#[] : Array (Option Value)).isEmpty && !(a == sysModules))) = true := by rw [hs]; rfl
  rw [h3, he]
theorem kd_mk {K : PySem.W.Frag} {w : World} {mg : Str → Option Value} {x : Str} {a : Addr} {ks : List Str} {f : List (Str × D)} (hm : mg x = some (.ref a)) (h : He.dicW K a = some (He.keysIn w.params ks)) (hf : ∀ z y, f.lookup z = some y → ∃ u, PySem.W.nsIn K a z = some (some u) ∧ Cs K u y) : KD K w mg x ks f := by
  obtain ⟨es, n, D⟩ := He.dicW_ok h
  exact ⟨a, es, n, hm, D, kd_keys h, hf⟩
theorem kv_nil {K : PySem.W.Frag} {a : Addr} : ∀ z y, ([] : List (Str × D)).lookup z = some y → ∃ u, PySem.W.nsIn K a z = some (some u) ∧ Cs K u y := fun z y h => by cases h
theorem kv_cons {K : PySem.W.Frag} {a : Addr} {q : Str} {d : D} {u : Value} {f : List (Str × D)} (h : PySem.W.nsIn K a q = some (some u)) (hc : Cs K u d) (t : ∀ z y, f.lookup z = some y → ∃ u, PySem.W.nsIn K a z = some (some u) ∧ Cs K u y) : ∀ z y, ((q, d) :: f).lookup z = some y → ∃ u, PySem.W.nsIn K a z = some (some u) ∧ Cs K u y := fun z y e => by
  rw [List.lookup_cons] at e
  by_cases hz : z = q
  · subst hz
    rw [beq_self_eq_true] at e
    cases e
    exact ⟨u, h, hc⟩
  · rw [beq_false_of_ne hz] at e
    exact t z y e
end T

set_option Elab.async false
set_option linter.all false
set_option maxRecDepth 100000
set_option maxHeartbeats 8000000
namespace K20
open PySem PySem.Spec PyProof.Rows L2 T
def K_LEAVES : List Str := [("kind" : Str), ("name" : Str)]
def F_LEAVES : List (Str × D) := [(("kind" : Str), (.str ("kind" : Str))), (("name" : Str), (.str ("noun" : Str)))]
def C_NUMBERED : (Vt Str) := ⟨[("atleast" : Str), ("atmost" : Str), ("exactly" : Str)]⟩
/-! ### first_part -/
def M_first_part (p_word : Str) : Option Int := (((some p_word).bind fun y_1 => (some C_NUMBERED).bind fun y_2 => some (memB y_1 y_2.l)).bind fun c_3 => if c_3 = true then some (2 : Int) else some (1 : Int)).bind fun r_4 => some r_4
/-! ### inner -/
def M_inner (p_term : D) : Option D := (((((some p_term).bind fun y_5 => asV y_5).bind fun y_6 => (some (0 : Int)).bind fun y_7 => atI y_6.l y_7).bind fun y_8 => asS y_8).bind fun y_9 => some (memB y_9 K_LEAVES)).bind fun c_27 => if c_27 = true then ((((some []).bind fun d => some (⟨d⟩ : Vt D)).bind fun y_10 => some (em y_10)).bind fun r_11 => some r_11).bind fun r_26 => some (id r_26) else ((((some p_term).bind fun y_12 => asV y_12).bind fun y_21 => (((((((some p_term).bind fun y_13 => asV y_13).bind fun y_14 => (some (0 : Int)).bind fun y_15 => atI y_14.l y_15).bind fun y_16 => asS y_16).bind fun y_17 => (some ()).bind fun y_18 => some (y_17, y_18)).bind (fun a : Str × Unit => M_first_part a.1)).bind fun y_20 => some (some y_20)).bind fun y_22 => (some none).bind fun y_23 => cutT y_21 y_22 y_23).bind fun y_24 => some (em y_24)).bind fun r_25 => some r_25
/-! ### size -/
def R_size : Nat → D → Option Int
  | 0, _ => none
  | n + 1, p_term => ((some (1 : Int)).bind fun y_41 => (((((((some p_term).bind fun y_28 => (some ()).bind fun y_29 => some (y_28, y_29)).bind (fun a : D × Unit => M_inner a.1)).bind fun y_31 => asV y_31).bind fun y_32 => some y_32.l).bind fun y_39 => lcC (fun _ : D => some true) (fun v_part_34 : D => ((some v_part_34).bind fun y_35 => (some ()).bind fun y_36 => some (y_35, y_36)).bind (fun a : D × Unit => R_size n a.1)) y_39).bind fun y_40 => some (List.sum y_40)).bind fun y_42 => some (y_41 + y_42)).bind fun r_43 => some r_43
/-! ### before -/
def M_before (p_one : D) (p_other : D) : Option Bool := (((((((some p_one).bind fun y_44 => (some ()).bind fun y_45 => some (y_44, y_45)).bind (fun a : D × Unit => R_size 64 a.1)).bind fun y_47 => some (em y_47)).bind fun y_50 => ((some p_one).bind fun y_48 => (some []).bind fun y_49 => some (y_48 :: y_49)).bind fun y_51 => some (y_50 :: y_51)).bind (vtP 2)).bind fun y_60 => ((((((some p_other).bind fun y_52 => (some ()).bind fun y_53 => some (y_52, y_53)).bind (fun a : D × Unit => R_size 64 a.1)).bind fun y_55 => some (em y_55)).bind fun y_58 => ((some p_other).bind fun y_56 => (some []).bind fun y_57 => some (y_56 :: y_57)).bind fun y_59 => some (y_58 :: y_59)).bind (vtP 2)).bind fun y_61 => ltO (em y_60) (em y_61)).bind fun r_62 => some r_62
/-! ### _law_draws -/
def M__law_draws (p_script : (List Int)) (p_count : Int) : Option (List Int) := ((some p_script).bind fun y_69 => lcC (fun _ : Int => some true) (fun v_cell_65 : Int => ((some v_cell_65).bind fun y_66 => some y_66).bind fun y_67 => some (absI y_67)) y_69).bind fun v_cells_63 => ((((some v_cells_63).bind fun y_70 => some (List.length y_70 : Int)).bind fun y_71 => (some (0 : Int)).bind fun y_72 => some (decide (y_71 = y_72))).bind fun c_123 => if c_123 = true then (((some (0 : Int)).bind fun y_75 => (some []).bind fun y_76 => some (y_75 :: y_76)).bind lstP).bind fun v_cells_74 => some v_cells_74 else some v_cells_63).bind fun s_73 : (List Int) => ((some s_73).bind fun y_79 => some (List.length y_79 : Int)).bind fun v_many_78 => (some ([] : (List Int))).bind fun v_draws_80 => ((some p_count).bind fun y_81 => rngP 0 y_81).bind fun y_84 => (foldO (fun (s_82 : ((List Int) × (List Int))) (v_k_83 : Int) => ((some v_k_83).bind fun y_86 => (some v_many_78).bind fun y_87 => modP y_86 y_87).bind fun v_at_85 => ((some s_82.1).bind fun y_89 => (some v_at_85).bind fun y_90 => atI y_89 y_90).bind fun v_cell_88 => (((some v_cell_88).bind fun y_91 => (some (1000000000000000000 : Int)).bind fun y_92 => some (decide (y_92 ≤ y_91))).bind fun c_122 => if c_122 = true then (((some v_cell_88).bind fun y_94 => some y_94).bind fun y_95 => some (Int.fmod y_95 (1009 : Int))).bind fun y_103 => (appP s_82.2 y_103).bind fun v_draws_96 => ((some v_cell_88).bind fun y_97 => some (Int.fdiv y_97 (1009 : Int))).bind fun y_99 => (some v_at_85).bind fun y_100 => (setP s_82.1 y_100 y_99).bind fun v_cells_98 => some (v_cells_98, v_draws_96) else (((((some v_cell_88).bind fun y_105 => some (y_105 * (48271 : Int))).bind fun y_107 => ((some v_k_83).bind fun y_106 => some (y_106 * (69621 : Int))).bind fun y_108 => some (y_107 + y_108)).bind fun y_109 => (some (40503 : Int)).bind fun y_110 => some (y_109 + y_110)).bind fun y_111 => some (Int.fmod y_111 (2147483647 : Int))).bind fun v_mixed_104 => (((((some v_mixed_104).bind fun y_112 => (some v_mixed_104).bind fun y_113 => mulP y_112 y_113).bind fun y_115 => ((some v_cell_88).bind fun y_114 => some (y_114 * (16807 : Int))).bind fun y_116 => some (y_115 + y_116)).bind fun y_117 => (some v_k_83).bind fun y_118 => some (y_117 + y_118)).bind fun y_119 => some (Int.fmod y_119 (2147483629 : Int))).bind fun y_121 => (appP s_82.2 y_121).bind fun v_draws_120 => some (s_82.1, v_draws_120)).bind fun s_93 : ((List Int) × (List Int)) => some (s_93.1, s_93.2)) (s_73, v_draws_80) y_84).bind fun s_82 => some s_82.2
def m__law_draws (p_script : (List Int)) (p_count : Int) : Option (List Int) := (lcC (fun _ : Int => some true) (fun v_cell_65 : Int => some (absI v_cell_65)) p_script).bind fun v_cells_63 => (if (decide (((List.length v_cells_63 : Int)) = ((0 : Int)))) = true then let v_cells_74 := ([((0 : Int))] : (List Int)); some v_cells_74 else some v_cells_63).bind fun s_73 : (List Int) => let v_many_78 := (List.length s_73 : Int); let v_draws_80 := ([] : (List Int)); (rngP 0 p_count).bind fun y_84 => (foldO (fun (s_82 : ((List Int) × (List Int))) (v_k_83 : Int) => (modP v_k_83 v_many_78).bind fun v_at_85 => (atI s_82.1 v_at_85).bind fun v_cell_88 => (if (decide (((1000000000000000000 : Int)) ≤ v_cell_88)) = true then (appP s_82.2 ((Int.fmod v_cell_88 (1009 : Int)))).bind fun v_draws_96 => (setP s_82.1 v_at_85 ((Int.fdiv v_cell_88 (1009 : Int)))).bind fun v_cells_98 => some (v_cells_98, v_draws_96) else let v_mixed_104 := (Int.fmod ((((((v_cell_88 * (48271 : Int))) + ((v_k_83 * (69621 : Int))))) + ((40503 : Int)))) (2147483647 : Int)); ((((mulP v_mixed_104 v_mixed_104).bind fun y_115 => some ((y_115 + ((v_cell_88 * (16807 : Int)))))).bind fun y_117 => some ((y_117 + v_k_83))).bind fun y_119 => some ((Int.fmod y_119 (2147483629 : Int)))).bind fun y_121 => (appP s_82.2 y_121).bind fun v_draws_120 => some (s_82.1, v_draws_120)).bind fun s_93 : ((List Int) × (List Int)) => some (s_93.1, s_93.2)) (s_73, v_draws_80) y_84).bind fun s_82 => some s_82.2
theorem e__law_draws : M__law_draws = m__law_draws := rfl
/-! ### _law_next -/
def M__law_next (p_seed : Int) (p_k : Int) : Option Int := (((((some p_seed).bind fun y_124 => some (y_124 * (48271 : Int))).bind fun y_126 => ((some p_k).bind fun y_125 => some (y_125 * (69621 : Int))).bind fun y_127 => some (y_126 + y_127)).bind fun y_128 => (some (12345 : Int)).bind fun y_129 => some (y_128 + y_129)).bind fun y_130 => some (Int.fmod y_130 (2147483647 : Int))).bind fun r_131 => some r_131
/-! ### _law_name -/
def M__law_name (p_seed : Int) : Option Str := (((some ("bee" : Str)).bind fun y_153 => ((some ("ant" : Str)).bind fun y_151 => ((some ("a" : Str)).bind fun y_149 => ((some ("b" : Str)).bind fun y_147 => ((some ("fish" : Str)).bind fun y_145 => ((some ("abcdefghijkl" : Str)).bind fun y_143 => ((some ("x" : Str)).bind fun y_141 => ((some ("mira" : Str)).bind fun y_139 => ((some ("ab" : Str)).bind fun y_137 => ((some ("kind" : Str)).bind fun y_135 => ((some ("some" : Str)).bind fun y_133 => (some []).bind fun y_134 => some (y_133 :: y_134)).bind fun y_136 => some (y_135 :: y_136)).bind fun y_138 => some (y_137 :: y_138)).bind fun y_140 => some (y_139 :: y_140)).bind fun y_142 => some (y_141 :: y_142)).bind fun y_144 => some (y_143 :: y_144)).bind fun y_146 => some (y_145 :: y_146)).bind fun y_148 => some (y_147 :: y_148)).bind fun y_150 => some (y_149 :: y_150)).bind fun y_152 => some (y_151 :: y_152)).bind fun y_154 => some (y_153 :: y_154)).bind lstP).bind fun v_names_132 => ((some v_names_132).bind fun y_167 => ((some p_seed).bind fun y_166 => some (Int.fmod y_166 (11 : Int))).bind fun y_168 => atI y_167 y_168).bind fun r_169 => some r_169
/-! ### _law_kind -/
def R__law_kind : Nat → Int → Int → Option D
  | 0, _, _ => none
  | n + 1, p_seed, p_many => ((some p_many).bind fun y_170 => (some (1 : Int)).bind fun y_171 => some (decide (y_170 = y_171))).bind fun c_269 => if c_269 = true then ((((((some ("kind" : Str)).bind fun y_176 => some (em y_176)).bind fun y_180 => ((((((some p_seed).bind fun y_172 => some (Int.fdiv y_172 (7 : Int))).bind fun y_173 => (some ()).bind fun y_174 => some (y_173, y_174)).bind (fun a : Int × Unit => M__law_name a.1)).bind fun y_177 => some (em y_177)).bind fun y_178 => (some []).bind fun y_179 => some (y_178 :: y_179)).bind fun y_181 => some (y_180 :: y_181)).bind (vtP 2)).bind fun y_182 => some (em y_182)).bind fun r_183 => some r_183).bind fun r_268 => some (id r_268) else (orO ((some p_many).bind fun y_184 => (some (2 : Int)).bind fun y_185 => some (decide (y_184 = y_185))) (((some p_seed).bind fun y_186 => some (Int.fmod y_186 (4 : Int))).bind fun y_187 => (some (0 : Int)).bind fun y_188 => some (decide (y_187 = y_188)))).bind fun c_267 => if c_267 = true then ((((((some ("non" : Str)).bind fun y_203 => some (em y_203)).bind fun y_206 => ((((((some p_seed).bind fun y_191 => ((some (1 : Int)).bind fun y_189 => (some ()).bind fun y_190 => some (y_189, y_190)).bind fun y_192 => some (y_191, y_192)).bind (fun a : Int × Int × Unit => M__law_next a.1 a.2.1)).bind fun y_199 => (((some p_many).bind fun y_195 => (some (1 : Int)).bind fun y_196 => some (y_195 - y_196)).bind fun y_197 => (some ()).bind fun y_198 => some (y_197, y_198)).bind fun y_200 => some (y_199, y_200)).bind (fun a : Int × Int × Unit => R__law_kind n a.1 a.2.1)).bind fun y_204 => (some []).bind fun y_205 => some (y_204 :: y_205)).bind fun y_207 => some (y_206 :: y_207)).bind (vtP 2)).bind fun y_208 => some (em y_208)).bind fun r_209 => some r_209).bind fun r_266 => some (id r_266) else ((some (1 : Int)).bind fun y_216 => (((some p_seed).bind fun y_211 => some (Int.fdiv y_211 (4 : Int))).bind fun y_214 => ((some p_many).bind fun y_212 => (some (2 : Int)).bind fun y_213 => some (y_212 - y_213)).bind fun y_215 => modP y_214 y_215).bind fun y_217 => some (y_216 + y_217)).bind fun v_left_210 => (((((some p_seed).bind fun y_221 => ((some (2 : Int)).bind fun y_219 => (some ()).bind fun y_220 => some (y_219, y_220)).bind fun y_222 => some (y_221, y_222)).bind (fun a : Int × Int × Unit => M__law_next a.1 a.2.1)).bind fun y_227 => ((some v_left_210).bind fun y_225 => (some ()).bind fun y_226 => some (y_225, y_226)).bind fun y_228 => some (y_227, y_228)).bind (fun a : Int × Int × Unit => R__law_kind n a.1 a.2.1)).bind fun v_one_218 => ((((((((some ("both" : Str)).bind fun y_233 => ((some ("either" : Str)).bind fun y_231 => (some []).bind fun y_232 => some (y_231 :: y_232)).bind fun y_234 => some (y_233 :: y_234)).bind lstP).bind fun y_239 => (((some p_seed).bind fun y_237 => some (Int.fdiv y_237 (64 : Int))).bind fun y_238 => some (Int.fmod y_238 (2 : Int))).bind fun y_240 => atI y_239 y_240).bind fun y_257 => some (em y_257)).bind fun y_262 => ((some v_one_218).bind fun y_260 => ((((((some p_seed).bind fun y_243 => ((some (3 : Int)).bind fun y_241 => (some ()).bind fun y_242 => some (y_241, y_242)).bind fun y_244 => some (y_243, y_244)).bind (fun a : Int × Int × Unit => M__law_next a.1 a.2.1)).bind fun y_253 => ((((some p_many).bind fun y_247 => (some (1 : Int)).bind fun y_248 => some (y_247 - y_248)).bind fun y_249 => (some v_left_210).bind fun y_250 => some (y_249 - y_250)).bind fun y_251 => (some ()).bind fun y_252 => some (y_251, y_252)).bind fun y_254 => some (y_253, y_254)).bind (fun a : Int × Int × Unit => R__law_kind n a.1 a.2.1)).bind fun y_258 => (some []).bind fun y_259 => some (y_258 :: y_259)).bind fun y_261 => some (y_260 :: y_261)).bind fun y_263 => some (y_262 :: y_263)).bind (vtP 3)).bind fun y_264 => some (em y_264)).bind fun r_265 => some r_265
/-! ### _law_noun -/
def M__law_noun (p_seed : Int) (p_many : Int) : Option D := ((some p_many).bind fun y_270 => (some (1 : Int)).bind fun y_271 => some (decide (y_270 = y_271))).bind fun c_349 => if c_349 = true then ((((((some ("name" : Str)).bind fun y_276 => some (em y_276)).bind fun y_280 => ((((((some p_seed).bind fun y_272 => some (Int.fdiv y_272 (5 : Int))).bind fun y_273 => (some ()).bind fun y_274 => some (y_273, y_274)).bind (fun a : Int × Unit => M__law_name a.1)).bind fun y_277 => some (em y_277)).bind fun y_278 => (some []).bind fun y_279 => some (y_278 :: y_279)).bind fun y_281 => some (y_280 :: y_281)).bind (vtP 2)).bind fun y_282 => some (em y_282)).bind fun r_283 => some r_283).bind fun r_348 => some (id r_348) else (((((some p_seed).bind fun y_287 => ((some (4 : Int)).bind fun y_285 => (some ()).bind fun y_286 => some (y_285, y_286)).bind fun y_288 => some (y_287, y_288)).bind (fun a : Int × Int × Unit => M__law_next a.1 a.2.1)).bind fun y_295 => (((some p_many).bind fun y_291 => (some (1 : Int)).bind fun y_292 => some (y_291 - y_292)).bind fun y_293 => (some ()).bind fun y_294 => some (y_293, y_294)).bind fun y_296 => some (y_295, y_296)).bind (fun a : Int × Int × Unit => R__law_kind 64 a.1 a.2.1)).bind fun v_kind_284 => ((((some ("every" : Str)).bind fun y_312 => ((some ("some" : Str)).bind fun y_310 => ((some ("no" : Str)).bind fun y_308 => ((some ("notevery" : Str)).bind fun y_306 => ((some ("atleast" : Str)).bind fun y_304 => ((some ("atmost" : Str)).bind fun y_302 => ((some ("exactly" : Str)).bind fun y_300 => (some []).bind fun y_301 => some (y_300 :: y_301)).bind fun y_303 => some (y_302 :: y_303)).bind fun y_305 => some (y_304 :: y_305)).bind fun y_307 => some (y_306 :: y_307)).bind fun y_309 => some (y_308 :: y_309)).bind fun y_311 => some (y_310 :: y_311)).bind fun y_313 => some (y_312 :: y_313)).bind lstP).bind fun y_322 => ((some p_seed).bind fun y_321 => some (Int.fmod y_321 (7 : Int))).bind fun y_323 => atI y_322 y_323).bind fun v_word_299 => (((some p_seed).bind fun y_324 => some (Int.fmod y_324 (7 : Int))).bind fun y_325 => (some (4 : Int)).bind fun y_326 => some (decide (y_325 < y_326))).bind fun c_347 => if c_347 = true then ((((((some v_word_299).bind fun y_327 => some (em y_327)).bind fun y_330 => ((some v_kind_284).bind fun y_328 => (some []).bind fun y_329 => some (y_328 :: y_329)).bind fun y_331 => some (y_330 :: y_331)).bind (vtP 2)).bind fun y_332 => some (em y_332)).bind fun r_333 => some r_333).bind fun r_346 => some (id r_346) else (((((some v_word_299).bind fun y_336 => some (em y_336)).bind fun y_342 => (((((some p_seed).bind fun y_334 => some (Int.fdiv y_334 (7 : Int))).bind fun y_335 => some (Int.fmod y_335 (10 : Int))).bind fun y_337 => some (em y_337)).bind fun y_340 => ((some v_kind_284).bind fun y_338 => (some []).bind fun y_339 => some (y_338 :: y_339)).bind fun y_341 => some (y_340 :: y_341)).bind fun y_343 => some (y_342 :: y_343)).bind (vtP 3)).bind fun y_344 => some (em y_344)).bind fun r_345 => some r_345
/-! ### _law_sentence -/
def R__law_sentence : Nat → Int → Int → Option D
  | 0, _, _ => none
  | n + 1, p_seed, p_many => (andO ((some p_many).bind fun y_350 => (some (3 : Int)).bind fun y_351 => some (decide (y_351 < y_350))) (((some p_seed).bind fun y_352 => some (Int.fmod y_352 (5 : Int))).bind fun y_353 => (some (0 : Int)).bind fun y_354 => some (decide (y_353 = y_354)))).bind fun c_498 => if c_498 = true then (((((((((some ("not" : Str)).bind fun y_357 => ((some ("isle" : Str)).bind fun y_355 => (some []).bind fun y_356 => some (y_355 :: y_356)).bind fun y_358 => some (y_357 :: y_358)).bind lstP).bind fun y_363 => (((some p_seed).bind fun y_361 => some (Int.fdiv y_361 (5 : Int))).bind fun y_362 => some (Int.fmod y_362 (2 : Int))).bind fun y_364 => atI y_363 y_364).bind fun y_379 => some (em y_379)).bind fun y_382 => ((((((some p_seed).bind fun y_367 => ((some (5 : Int)).bind fun y_365 => (some ()).bind fun y_366 => some (y_365, y_366)).bind fun y_368 => some (y_367, y_368)).bind (fun a : Int × Int × Unit => M__law_next a.1 a.2.1)).bind fun y_375 => (((some p_many).bind fun y_371 => (some (1 : Int)).bind fun y_372 => some (y_371 - y_372)).bind fun y_373 => (some ()).bind fun y_374 => some (y_373, y_374)).bind fun y_376 => some (y_375, y_376)).bind (fun a : Int × Int × Unit => R__law_sentence n a.1 a.2.1)).bind fun y_380 => (some []).bind fun y_381 => some (y_380 :: y_381)).bind fun y_383 => some (y_382 :: y_383)).bind (vtP 2)).bind fun y_384 => some (em y_384)).bind fun r_385 => some r_385).bind fun r_497 => some (id r_497) else (andO ((some p_many).bind fun y_386 => (some (6 : Int)).bind fun y_387 => some (decide (y_387 < y_386))) (((some p_seed).bind fun y_388 => some (Int.fmod y_388 (5 : Int))).bind fun y_389 => (some (4 : Int)).bind fun y_390 => some (decide (y_389 < y_390)))).bind fun c_496 => if c_496 = true then (((some (3 : Int)).bind fun y_397 => (((some p_seed).bind fun y_392 => some (Int.fdiv y_392 (5 : Int))).bind fun y_395 => ((some p_many).bind fun y_393 => (some (6 : Int)).bind fun y_394 => some (y_393 - y_394)).bind fun y_396 => modP y_395 y_396).bind fun y_398 => some (y_397 + y_398)).bind fun v_left_391 => (((((some p_seed).bind fun y_402 => ((some (6 : Int)).bind fun y_400 => (some ()).bind fun y_401 => some (y_400, y_401)).bind fun y_403 => some (y_402, y_403)).bind (fun a : Int × Int × Unit => M__law_next a.1 a.2.1)).bind fun y_408 => ((some v_left_391).bind fun y_406 => (some ()).bind fun y_407 => some (y_406, y_407)).bind fun y_409 => some (y_408, y_409)).bind (fun a : Int × Int × Unit => R__law_sentence n a.1 a.2.1)).bind fun v_one_399 => ((((((((some ("and" : Str)).bind fun y_416 => ((some ("or" : Str)).bind fun y_414 => ((some ("if" : Str)).bind fun y_412 => (some []).bind fun y_413 => some (y_412 :: y_413)).bind fun y_415 => some (y_414 :: y_415)).bind fun y_417 => some (y_416 :: y_417)).bind lstP).bind fun y_423 => (((some p_seed).bind fun y_421 => some (Int.fdiv y_421 (100 : Int))).bind fun y_422 => some (Int.fmod y_422 (3 : Int))).bind fun y_424 => atI y_423 y_424).bind fun y_441 => some (em y_441)).bind fun y_446 => ((some v_one_399).bind fun y_444 => ((((((some p_seed).bind fun y_427 => ((some (7 : Int)).bind fun y_425 => (some ()).bind fun y_426 => some (y_425, y_426)).bind fun y_428 => some (y_427, y_428)).bind (fun a : Int × Int × Unit => M__law_next a.1 a.2.1)).bind fun y_437 => ((((some p_many).bind fun y_431 => (some (1 : Int)).bind fun y_432 => some (y_431 - y_432)).bind fun y_433 => (some v_left_391).bind fun y_434 => some (y_433 - y_434)).bind fun y_435 => (some ()).bind fun y_436 => some (y_435, y_436)).bind fun y_438 => some (y_437, y_438)).bind (fun a : Int × Int × Unit => R__law_sentence n a.1 a.2.1)).bind fun y_442 => (some []).bind fun y_443 => some (y_442 :: y_443)).bind fun y_445 => some (y_444 :: y_445)).bind fun y_447 => some (y_446 :: y_447)).bind (vtP 3)).bind fun y_448 => some (em y_448)).bind fun r_449 => some r_449).bind fun r_495 => some (id r_495) else ((some (1 : Int)).bind fun y_456 => (((some p_seed).bind fun y_451 => some (Int.fdiv y_451 (5 : Int))).bind fun y_454 => ((some p_many).bind fun y_452 => (some (2 : Int)).bind fun y_453 => some (y_452 - y_453)).bind fun y_455 => modP y_454 y_455).bind fun y_457 => some (y_456 + y_457)).bind fun v_left_450 => (((((some ("say" : Str)).bind fun y_486 => some (em y_486)).bind fun y_491 => ((((((some p_seed).bind fun y_460 => ((some (8 : Int)).bind fun y_458 => (some ()).bind fun y_459 => some (y_458, y_459)).bind fun y_461 => some (y_460, y_461)).bind (fun a : Int × Int × Unit => M__law_next a.1 a.2.1)).bind fun y_466 => ((some v_left_450).bind fun y_464 => (some ()).bind fun y_465 => some (y_464, y_465)).bind fun y_467 => some (y_466, y_467)).bind (fun a : Int × Int × Unit => M__law_noun a.1 a.2.1)).bind fun y_489 => ((((((some p_seed).bind fun y_472 => ((some (9 : Int)).bind fun y_470 => (some ()).bind fun y_471 => some (y_470, y_471)).bind fun y_473 => some (y_472, y_473)).bind (fun a : Int × Int × Unit => M__law_next a.1 a.2.1)).bind fun y_482 => ((((some p_many).bind fun y_476 => (some (1 : Int)).bind fun y_477 => some (y_476 - y_477)).bind fun y_478 => (some v_left_450).bind fun y_479 => some (y_478 - y_479)).bind fun y_480 => (some ()).bind fun y_481 => some (y_480, y_481)).bind fun y_483 => some (y_482, y_483)).bind (fun a : Int × Int × Unit => R__law_kind 64 a.1 a.2.1)).bind fun y_487 => (some []).bind fun y_488 => some (y_487 :: y_488)).bind fun y_490 => some (y_489 :: y_490)).bind fun y_492 => some (y_491 :: y_492)).bind (vtP 3)).bind fun y_493 => some (em y_493)).bind fun r_494 => some r_494
/-! ### _law_size -/
def R__law_size : Nat → D → Option Int
  | 0, _ => none
  | n + 1, p_term => (some (1 : Int)).bind fun v_many_499 => ((((some p_term).bind fun y_500 => asV y_500).bind fun y_502 => ((some (1 : Int)).bind fun y_501 => some (some y_501)).bind fun y_503 => (some none).bind fun y_504 => cutT y_502 y_503 y_504).bind fun y_505 => some y_505.l).bind fun y_508 => (foldO (fun (s_506 : Int) (v_part_507 : D) => (((some v_part_507).bind fun y_509 => isiP "tuple" (em y_509)).bind fun c_517 => if c_517 = true then ((some s_506).bind fun y_515 => (((some v_part_507).bind fun y_512 => (some ()).bind fun y_513 => some (y_512, y_513)).bind (fun a : D × Unit => R__law_size n a.1)).bind fun y_516 => some (y_515 + y_516)).bind fun v_many_511 => some v_many_511 else some s_506).bind fun s_510 : Int => some s_510) v_many_499 y_508).bind fun s_506 => (some s_506).bind fun r_518 => some r_518
/-! ### _law_walk -/
def R__law_walk : Nat → D → D → Option Int
  | 0, _, _ => none
  | n + 1, p_one, p_other => ((some p_one).bind fun y_519 => (some p_other).bind fun y_520 => zipD y_519 y_520).bind fun y_523 => (loopO (fun (s_521 : Unit) (v_first_522 : (D × D)) => (thenF ((andO ((some v_first_522.1).bind fun y_524 => isiP "tuple" (em y_524)) ((some v_first_522.2).bind fun y_525 => isiP "tuple" (em y_525))).bind fun c_550 => if c_550 = true then (((some v_first_522.1).bind fun y_530 => ((some v_first_522.2).bind fun y_528 => (some ()).bind fun y_529 => some (y_528, y_529)).bind fun y_531 => some (y_530, y_531)).bind (fun a : D × D × Unit => R__law_walk n a.1 a.2.1)).bind fun v_below_527 => ((some v_below_527).bind fun y_534 => (some (0 : Int)).bind fun y_535 => some (!decide (y_534 = y_535))).bind fun c_538 => if c_538 = true then ((some v_below_527).bind fun r_536 => some r_536).bind fun r_537 => some (Fl.rt r_537) else some (Fl.nx ()) else ((some v_first_522.1).bind fun y_539 => (some v_first_522.2).bind fun y_540 => (eqP (em y_539) (em y_540)).bind fun z => some (!z)).bind fun c_549 => if c_549 = true then (((some (1 : Int)).bind fun y_545 => ((((some v_first_522.1).bind fun y_541 => (some v_first_522.2).bind fun y_542 => ltO (em y_541) (em y_542)).bind fun y_543 => some (if y_543 = true then (1 : Int) else 0)).bind fun y_544 => some ((2 : Int) * y_544)).bind fun y_546 => some (y_545 - y_546)).bind fun r_547 => some r_547).bind fun r_548 => some (Fl.rt r_548) else some (Fl.nx ())) fun s_526 : Unit => some (Fl.nx ()) : Option (Fl Int Unit Unit))) () y_523).bind (Lp.go (fun x => x) fun s_521 : Unit => (some (0 : Int)).bind fun r_551 => some r_551)
/-! ### _law_twin -/
def R__law_twin : Nat → D → Int → Option D
  | 0, _, _ => none
  | n + 1, p_term, p_seed => (((some (1 : Int)).bind fun y_555 => ((some p_term).bind fun y_554 => lenD y_554).bind fun y_556 => rngP y_555 y_556).bind fun y_564 => lcC (fun v_k_558 : Int => (((some p_term).bind fun y_559 => asV y_559).bind fun y_560 => (some v_k_558).bind fun y_561 => atI y_560.l y_561).bind fun y_562 => isiP "tuple" (em y_562)) (fun v_k_558 : Int => some v_k_558) y_564).bind fun v_places_553 => (andO ((some v_places_553).bind fun y_565 => (some ([] : (List Int))).bind fun y_566 => (eqP (em y_565) (em y_566)).bind fun z => some (!z)) (((some p_seed).bind fun y_567 => some (Int.fmod y_567 (5 : Int))).bind fun y_568 => (some (0 : Int)).bind fun y_569 => some (decide (y_569 < y_568)))).bind fun c_838 => if c_838 = true then (((some v_places_553).bind fun y_575 => (((some p_seed).bind fun y_571 => some (Int.fdiv y_571 (5 : Int))).bind fun y_573 => ((some v_places_553).bind fun y_572 => some (List.length y_572 : Int)).bind fun y_574 => modP y_573 y_574).bind fun y_576 => atI y_575 y_576).bind fun v_k_570 => ((((((some p_term).bind fun y_577 => asV y_577).bind fun y_579 => (some none).bind fun y_580 => ((some v_k_570).bind fun y_578 => some (some y_578)).bind fun y_581 => cutT y_579 y_580 y_581).bind fun y_599 => (((((((some p_term).bind fun y_582 => asV y_582).bind fun y_583 => (some v_k_570).bind fun y_584 => atI y_583.l y_584).bind fun y_593 => ((((some p_seed).bind fun y_587 => ((some (11 : Int)).bind fun y_585 => (some ()).bind fun y_586 => some (y_585, y_586)).bind fun y_588 => some (y_587, y_588)).bind (fun a : Int × Int × Unit => M__law_next a.1 a.2.1)).bind fun y_591 => (some ()).bind fun y_592 => some (y_591, y_592)).bind fun y_594 => some (y_593, y_594)).bind (fun a : D × Int × Unit => R__law_twin n a.1 a.2.1)).bind fun y_597 => (some []).bind fun y_598 => some (y_597 :: y_598)).bind (vtP 1)).bind fun y_600 => catT y_599 y_600).bind fun y_608 => (((some p_term).bind fun y_601 => asV y_601).bind fun y_605 => (((some v_k_570).bind fun y_602 => (some (1 : Int)).bind fun y_603 => some (y_602 + y_603)).bind fun y_604 => some (some y_604)).bind fun y_606 => (some none).bind fun y_607 => cutT y_605 y_606 y_607).bind fun y_609 => catT y_608 y_609).bind fun y_610 => some (em y_610)).bind fun r_611 => some r_611).bind fun r_837 => some (id r_837) else (((some p_term).bind fun y_613 => asV y_613).bind fun y_614 => (some (0 : Int)).bind fun y_615 => atI y_614.l y_615).bind fun v_word_612 => (orO ((some v_word_612).bind fun y_617 => ((some ("kind" : Str)).bind fun y_616 => some (em y_616)).bind fun y_618 => eqD y_617 y_618) ((some v_word_612).bind fun y_620 => ((some ("name" : Str)).bind fun y_619 => some (em y_619)).bind fun y_621 => eqD y_620 y_621)).bind fun c_836 => if c_836 = true then (((((((some p_term).bind fun y_623 => asV y_623).bind fun y_624 => (some (1 : Int)).bind fun y_625 => atI y_624.l y_625).bind fun y_626 => asS y_626).bind fun y_628 => (some none).bind fun y_629 => ((some (-1 : Int)).bind fun y_627 => some (some y_627)).bind fun y_630 => cutP y_628 y_629 y_630).bind fun y_635 => ((some ("abz" : Str)).bind fun y_633 => (((some p_seed).bind fun y_631 => some (Int.fdiv y_631 (5 : Int))).bind fun y_632 => some (Int.fmod y_632 (3 : Int))).bind fun y_634 => strAt y_633 y_634).bind fun y_636 => catS y_635 y_636).bind fun v_name_622 => ((andO ((((some p_seed).bind fun y_637 => some (Int.fdiv y_637 (15 : Int))).bind fun y_638 => some (Int.fmod y_638 (3 : Int))).bind fun y_639 => (some (1 : Int)).bind fun y_640 => some (decide (y_639 = y_640))) (((((some p_term).bind fun y_641 => asV y_641).bind fun y_642 => (some (1 : Int)).bind fun y_643 => atI y_642.l y_643).bind fun y_644 => lenD y_644).bind fun y_645 => (some (12 : Int)).bind fun y_646 => some (decide (y_645 < y_646)))).bind fun c_687 => if c_687 = true then (((((some p_term).bind fun y_649 => asV y_649).bind fun y_650 => (some (1 : Int)).bind fun y_651 => atI y_650.l y_651).bind fun y_656 => asS y_656).bind fun y_657 => ((some ("abz" : Str)).bind fun y_654 => (((some p_seed).bind fun y_652 => some (Int.fdiv y_652 (5 : Int))).bind fun y_653 => some (Int.fmod y_653 (3 : Int))).bind fun y_655 => strAt y_654 y_655).bind fun y_658 => catS y_657 y_658).bind fun v_name_648 => some v_name_648 else some v_name_622).bind fun s_647 : Str => ((andO ((((some p_seed).bind fun y_659 => some (Int.fdiv y_659 (15 : Int))).bind fun y_660 => some (Int.fmod y_660 (3 : Int))).bind fun y_661 => (some (2 : Int)).bind fun y_662 => some (decide (y_661 = y_662))) (((((some p_term).bind fun y_663 => asV y_663).bind fun y_664 => (some (1 : Int)).bind fun y_665 => atI y_664.l y_665).bind fun y_666 => lenD y_666).bind fun y_667 => (some (1 : Int)).bind fun y_668 => some (decide (y_668 < y_667)))).bind fun c_686 => if c_686 = true then (((((some p_term).bind fun y_671 => asV y_671).bind fun y_672 => (some (1 : Int)).bind fun y_673 => atI y_672.l y_673).bind fun y_674 => asS y_674).bind fun y_676 => (some none).bind fun y_677 => ((some (-1 : Int)).bind fun y_675 => some (some y_675)).bind fun y_678 => cutP y_676 y_677 y_678).bind fun v_name_670 => some v_name_670 else some s_647).bind fun s_669 : Str => ((((some v_word_612).bind fun y_682 => (((some s_669).bind fun y_679 => some (em y_679)).bind fun y_680 => (some []).bind fun y_681 => some (y_680 :: y_681)).bind fun y_683 => some (y_682 :: y_683)).bind (vtP 2)).bind fun y_684 => some (em y_684)).bind fun r_685 => some r_685).bind fun r_835 => some (id r_835) else (andO (((some v_word_612).bind fun y_694 => asS y_694).bind fun y_695 => (((some ("atleast" : Str)).bind fun y_692 => ((some ("atmost" : Str)).bind fun y_690 => ((some ("exactly" : Str)).bind fun y_688 => (some []).bind fun y_689 => some (y_688 :: y_689)).bind fun y_691 => some (y_690 :: y_691)).bind fun y_693 => some (y_692 :: y_693)).bind (vtP 3)).bind fun y_696 => some (memB y_695 y_696.l)) ((((some p_seed).bind fun y_697 => some (Int.fdiv y_697 (5 : Int))).bind fun y_698 => some (Int.fmod y_698 (2 : Int))).bind fun y_699 => (some (0 : Int)).bind fun y_700 => some (decide (y_699 = y_700)))).bind fun c_834 => if c_834 = true then (((((some v_word_612).bind fun y_720 => (((((((((some p_term).bind fun y_701 => asV y_701).bind fun y_702 => (some (1 : Int)).bind fun y_703 => atI y_702.l y_703).bind fun y_704 => asI y_704).bind fun y_705 => (some (1 : Int)).bind fun y_706 => some (y_705 + y_706)).bind fun y_709 => (((some p_seed).bind fun y_707 => some (Int.fdiv y_707 (10 : Int))).bind fun y_708 => some (Int.fmod y_708 (9 : Int))).bind fun y_710 => some (y_709 + y_710)).bind fun y_711 => some (Int.fmod y_711 (10 : Int))).bind fun y_715 => some (em y_715)).bind fun y_718 => ((((some p_term).bind fun y_712 => asV y_712).bind fun y_713 => (some (2 : Int)).bind fun y_714 => atI y_713.l y_714).bind fun y_716 => (some []).bind fun y_717 => some (y_716 :: y_717)).bind fun y_719 => some (y_718 :: y_719)).bind fun y_721 => some (y_720 :: y_721)).bind (vtP 3)).bind fun y_722 => some (em y_722)).bind fun r_723 => some r_723).bind fun r_833 => some (id r_833) else (((((some ("both" : Str)).bind fun y_727 => ((some ("either" : Str)).bind fun y_725 => (some []).bind fun y_726 => some (y_725 :: y_726)).bind fun y_728 => some (y_727 :: y_728)).bind lstP).bind fun y_764 => ((((some ("every" : Str)).bind fun y_737 => ((some ("some" : Str)).bind fun y_735 => ((some ("no" : Str)).bind fun y_733 => ((some ("notevery" : Str)).bind fun y_731 => (some []).bind fun y_732 => some (y_731 :: y_732)).bind fun y_734 => some (y_733 :: y_734)).bind fun y_736 => some (y_735 :: y_736)).bind fun y_738 => some (y_737 :: y_738)).bind lstP).bind fun y_762 => ((((some ("atleast" : Str)).bind fun y_747 => ((some ("atmost" : Str)).bind fun y_745 => ((some ("exactly" : Str)).bind fun y_743 => (some []).bind fun y_744 => some (y_743 :: y_744)).bind fun y_746 => some (y_745 :: y_746)).bind fun y_748 => some (y_747 :: y_748)).bind lstP).bind fun y_760 => ((((some ("not" : Str)).bind fun y_754 => ((some ("isle" : Str)).bind fun y_752 => (some []).bind fun y_753 => some (y_752 :: y_753)).bind fun y_755 => some (y_754 :: y_755)).bind lstP).bind fun y_758 => (some []).bind fun y_759 => some (y_758 :: y_759)).bind fun y_761 => some (y_760 :: y_761)).bind fun y_763 => some (y_762 :: y_763)).bind fun y_765 => some (y_764 :: y_765)).bind lstP).bind fun v_groups_724 => ((some v_groups_724).bind fun y_782 => (((((some ("and" : Str)).bind fun y_774 => ((some ("or" : Str)).bind fun y_772 => ((some ("if" : Str)).bind fun y_770 => (some []).bind fun y_771 => some (y_770 :: y_771)).bind fun y_773 => some (y_772 :: y_773)).bind fun y_775 => some (y_774 :: y_775)).bind lstP).bind fun y_779 => (some []).bind fun y_780 => some (y_779 :: y_780)).bind lstP).bind fun y_783 => catL y_782 y_783).bind fun y_786 => (loopO (fun (s_784 : Unit) (v_group_785 : (List Str)) => ((((some v_word_612).bind fun y_787 => asS y_787).bind fun y_788 => (some v_group_785).bind fun y_789 => some (memB y_788 y_789)).bind fun c_820 => if c_820 = true then (((((((((some v_group_785).bind fun y_802 => (((((some v_group_785).bind fun y_791 => ((some v_word_612).bind fun y_790 => asS y_790).bind fun y_792 => idxP y_791 y_792).bind fun y_793 => (some (1 : Int)).bind fun y_794 => some (y_793 + y_794)).bind fun y_797 => (((some p_seed).bind fun y_795 => some (Int.fdiv y_795 (7 : Int))).bind fun y_796 => some (Int.fmod y_796 (2 : Int))).bind fun y_798 => some (y_797 + y_798)).bind fun y_800 => ((some v_group_785).bind fun y_799 => some (List.length y_799 : Int)).bind fun y_801 => modP y_800 y_801).bind fun y_803 => atI y_802 y_803).bind fun y_804 => (some []).bind fun y_805 => some (y_804 :: y_805)).bind (vtP 1)).bind fun y_811 => some (em y_811)).bind fun y_812 => asV y_812).bind fun y_815 => (((((some p_term).bind fun y_806 => asV y_806).bind fun y_808 => ((some (1 : Int)).bind fun y_807 => some (some y_807)).bind fun y_809 => (some none).bind fun y_810 => cutT y_808 y_809 y_810).bind fun y_813 => some (em y_813)).bind fun y_814 => asV y_814).bind fun y_816 => catT y_815 y_816).bind fun y_817 => some (em y_817)).bind fun r_818 => some r_818).bind fun r_819 => some (Fl.rt r_819) else some (Fl.nx ()) : Option (Fl D Unit Unit))) () y_786).bind (Lp.go (fun x => x) fun s_784 : Unit => (((((some v_word_612).bind fun y_821 => (some []).bind fun y_822 => some (y_821 :: y_822)).bind (vtP 1)).bind fun y_828 => (((some p_term).bind fun y_823 => asV y_823).bind fun y_825 => ((some (1 : Int)).bind fun y_824 => some (some y_824)).bind fun y_826 => (some none).bind fun y_827 => cutT y_825 y_826 y_827).bind fun y_829 => catT y_828 y_829).bind fun y_830 => some (em y_830)).bind fun r_831 => some r_831)
/-! ### _law_is -/
def M__law_is (p_actual : D) (p_due : D) : Option Bool := ((some p_due).bind fun y_839 => isiP "bool" (em y_839)).bind fun c_851 => if c_851 = true then ((andO ((some p_actual).bind fun y_840 => isiP "bool" (em y_840)) ((some p_actual).bind fun y_841 => (some p_due).bind fun y_842 => eqD y_841 y_842)).bind fun r_843 => some r_843).bind fun r_850 => some (id r_850) else (andO ((some p_actual).bind fun y_844 => isiP "int" (em y_844)) (andO (((some p_actual).bind fun y_845 => isiP "bool" (em y_845)).bind fun y_846 => some (!y_846)) ((some p_actual).bind fun y_847 => (some p_due).bind fun y_848 => eqD y_847 y_848))).bind fun r_849 => some r_849
/-! ### _law_made -/
def M__law_made (p_which : Int) (p_seed : Int) (p_many : Int) : Option D := ((some p_which).bind fun y_852 => (some (0 : Int)).bind fun y_853 => some (decide (y_852 = y_853))).bind fun c_882 => if c_882 = true then ((((some p_seed).bind fun y_856 => ((some p_many).bind fun y_854 => (some ()).bind fun y_855 => some (y_854, y_855)).bind fun y_857 => some (y_856, y_857)).bind (fun a : Int × Int × Unit => R__law_kind 64 a.1 a.2.1)).bind fun r_860 => some r_860).bind fun r_881 => some (id r_881) else ((some p_which).bind fun y_861 => (some (1 : Int)).bind fun y_862 => some (decide (y_861 = y_862))).bind fun c_880 => if c_880 = true then ((((some p_seed).bind fun y_865 => ((some p_many).bind fun y_863 => (some ()).bind fun y_864 => some (y_863, y_864)).bind fun y_866 => some (y_865, y_866)).bind (fun a : Int × Int × Unit => M__law_noun a.1 a.2.1)).bind fun r_869 => some r_869).bind fun r_879 => some (id r_879) else (((some p_seed).bind fun y_874 => (((some (3 : Int)).bind fun y_870 => (some p_many).bind fun y_871 => some (if y_871 > y_870 then y_871 else y_870)).bind fun y_872 => (some ()).bind fun y_873 => some (y_872, y_873)).bind fun y_875 => some (y_874, y_875)).bind (fun a : Int × Int × Unit => R__law_sentence 64 a.1 a.2.1)).bind fun r_878 => some r_878
/-! ### law -/
def M_law (p_script : (List Int)) : Option Bool := (((some p_script).bind fun y_886 => ((some (40 : Int)).bind fun y_884 => (some ()).bind fun y_885 => some (y_884, y_885)).bind fun y_887 => some (y_886, y_887)).bind (fun a : (List Int) × Int × Unit => M__law_draws a.1 a.2.1)).bind fun v_draws_883 => ((some (3 : Int)).bind fun y_890 => rngP 0 y_890).bind fun y_893 => (loopO (fun (s_891 : Unit) (v_turn_892 : Int) => (((((((some v_draws_883).bind fun y_895 => (some v_turn_892).bind fun y_896 => atI y_895 y_896).bind fun y_897 => some (y_897 * (1009 : Int))).bind fun y_903 => (((some v_draws_883).bind fun y_900 => ((some (3 : Int)).bind fun y_898 => (some v_turn_892).bind fun y_899 => some (y_898 + y_899)).bind fun y_901 => atI y_900 y_901).bind fun y_902 => some (Int.fmod y_902 (1009 : Int))).bind fun y_904 => some (y_903 + y_904)).bind fun y_905 => some y_905).bind fun y_906 => some (Int.fmod y_906 (2147483647 : Int))).bind fun v_seed_894 => ((some (1 : Int)).bind fun y_930 => (((some v_draws_883).bind fun y_910 => ((some (6 : Int)).bind fun y_908 => (some v_turn_892).bind fun y_909 => some (y_908 + y_909)).bind fun y_911 => atI y_910 y_911).bind fun y_928 => ((((some (5 : Int)).bind fun y_916 => ((some (12 : Int)).bind fun y_914 => ((some (59 : Int)).bind fun y_912 => (some []).bind fun y_913 => some (y_912 :: y_913)).bind fun y_915 => some (y_914 :: y_915)).bind fun y_917 => some (y_916 :: y_917)).bind lstP).bind fun y_926 => (((some v_draws_883).bind fun y_923 => ((some (9 : Int)).bind fun y_921 => (some v_turn_892).bind fun y_922 => some (y_921 + y_922)).bind fun y_924 => atI y_923 y_924).bind fun y_925 => some (Int.fmod y_925 (3 : Int))).bind fun y_927 => atI y_926 y_927).bind fun y_929 => modP y_928 y_929).bind fun y_931 => some (y_930 + y_931)).bind fun v_many_907 => (((some v_turn_892).bind fun y_937 => ((some v_seed_894).bind fun y_935 => ((some v_many_907).bind fun y_933 => (some ()).bind fun y_934 => some (y_933, y_934)).bind fun y_936 => some (y_935, y_936)).bind fun y_938 => some (y_937, y_938)).bind (fun a : Int × Int × Int × Unit => M__law_made a.1 a.2.1 a.2.2.1)).bind fun v_term_932 => (((some v_term_932).bind fun y_965 => ((((some v_term_932).bind fun y_959 => (((((((some v_draws_883).bind fun y_945 => ((some (12 : Int)).bind fun y_943 => (some v_turn_892).bind fun y_944 => some (y_943 + y_944)).bind fun y_946 => atI y_945 y_946).bind fun y_947 => some (y_947 * (1009 : Int))).bind fun y_953 => (((some v_draws_883).bind fun y_950 => ((some (15 : Int)).bind fun y_948 => (some v_turn_892).bind fun y_949 => some (y_948 + y_949)).bind fun y_951 => atI y_950 y_951).bind fun y_952 => some (Int.fmod y_952 (1009 : Int))).bind fun y_954 => some (y_953 + y_954)).bind fun y_955 => some y_955).bind fun y_956 => some (Int.fmod y_956 (2147483647 : Int))).bind fun y_957 => (some ()).bind fun y_958 => some (y_957, y_958)).bind fun y_960 => some (y_959, y_960)).bind (fun a : D × Int × Unit => R__law_twin 64 a.1 a.2.1)).bind fun y_963 => (some []).bind fun y_964 => some (y_963 :: y_964)).bind fun y_966 => some (y_965 :: y_966)).bind lstP).bind fun v_near_942 => ((((some v_near_942).bind fun y_969 => (some (1 : Int)).bind fun y_970 => atI y_969 y_970).bind fun y_987 => (((((((some v_draws_883).bind fun y_973 => ((some (18 : Int)).bind fun y_971 => (some v_turn_892).bind fun y_972 => some (y_971 + y_972)).bind fun y_974 => atI y_973 y_974).bind fun y_975 => some (y_975 * (1009 : Int))).bind fun y_981 => (((some v_draws_883).bind fun y_978 => ((some (21 : Int)).bind fun y_976 => (some v_turn_892).bind fun y_977 => some (y_976 + y_977)).bind fun y_979 => atI y_978 y_979).bind fun y_980 => some (Int.fmod y_980 (1009 : Int))).bind fun y_982 => some (y_981 + y_982)).bind fun y_983 => some y_983).bind fun y_984 => some (Int.fmod y_984 (2147483647 : Int))).bind fun y_985 => (some ()).bind fun y_986 => some (y_985, y_986)).bind fun y_988 => some (y_987, y_988)).bind (fun a : D × Int × Unit => R__law_twin 64 a.1 a.2.1)).bind fun y_1266 => (appP v_near_942 y_1266).bind fun v_near_991 => (((some v_turn_892).bind fun y_1007 => ((((some v_seed_894).bind fun y_999 => ((((some v_draws_883).bind fun y_994 => ((some (24 : Int)).bind fun y_992 => (some v_turn_892).bind fun y_993 => some (y_992 + y_993)).bind fun y_995 => atI y_994 y_995).bind fun y_996 => some (Int.fmod y_996 (97 : Int))).bind fun y_997 => (some ()).bind fun y_998 => some (y_997, y_998)).bind fun y_1000 => some (y_999, y_1000)).bind (fun a : Int × Int × Unit => M__law_next a.1 a.2.1)).bind fun y_1005 => ((some v_many_907).bind fun y_1003 => (some ()).bind fun y_1004 => some (y_1003, y_1004)).bind fun y_1006 => some (y_1005, y_1006)).bind fun y_1008 => some (y_1007, y_1008)).bind (fun a : Int × Int × Int × Unit => M__law_made a.1 a.2.1 a.2.2.1)).bind fun y_1265 => (appP v_near_991 y_1265).bind fun v_near_1012 => (((some v_turn_892).bind fun y_1030 => ((((some v_seed_894).bind fun y_1020 => ((((some v_draws_883).bind fun y_1015 => ((some (27 : Int)).bind fun y_1013 => (some v_turn_892).bind fun y_1014 => some (y_1013 + y_1014)).bind fun y_1016 => atI y_1015 y_1016).bind fun y_1017 => some (Int.fmod y_1017 (97 : Int))).bind fun y_1018 => (some ()).bind fun y_1019 => some (y_1018, y_1019)).bind fun y_1021 => some (y_1020, y_1021)).bind (fun a : Int × Int × Unit => M__law_next a.1 a.2.1)).bind fun y_1028 => (((some v_many_907).bind fun y_1024 => (some (1 : Int)).bind fun y_1025 => some (y_1024 + y_1025)).bind fun y_1026 => (some ()).bind fun y_1027 => some (y_1026, y_1027)).bind fun y_1029 => some (y_1028, y_1029)).bind fun y_1031 => some (y_1030, y_1031)).bind (fun a : Int × Int × Int × Unit => M__law_made a.1 a.2.1 a.2.2.1)).bind fun y_1264 => (appP v_near_1012 y_1264).bind fun v_near_1035 => (((((some v_draws_883).bind fun y_1038 => ((some (30 : Int)).bind fun y_1036 => (some v_turn_892).bind fun y_1037 => some (y_1036 + y_1037)).bind fun y_1039 => atI y_1038 y_1039).bind fun y_1040 => some (Int.fmod y_1040 (3 : Int))).bind fun y_1060 => ((((some v_seed_894).bind fun y_1043 => ((some (3 : Int)).bind fun y_1041 => (some ()).bind fun y_1042 => some (y_1041, y_1042)).bind fun y_1044 => some (y_1043, y_1044)).bind (fun a : Int × Int × Unit => M__law_next a.1 a.2.1)).bind fun y_1058 => (((some (1 : Int)).bind fun y_1054 => ((some v_many_907).bind fun y_1052 => (((some v_draws_883).bind fun y_1049 => ((some (33 : Int)).bind fun y_1047 => (some v_turn_892).bind fun y_1048 => some (y_1047 + y_1048)).bind fun y_1050 => atI y_1049 y_1050).bind fun y_1051 => some (Int.fmod y_1051 (2 : Int))).bind fun y_1053 => some (y_1052 - y_1053)).bind fun y_1055 => some (if y_1055 > y_1054 then y_1055 else y_1054)).bind fun y_1056 => (some ()).bind fun y_1057 => some (y_1056, y_1057)).bind fun y_1059 => some (y_1058, y_1059)).bind fun y_1061 => some (y_1060, y_1061)).bind (fun a : Int × Int × Int × Unit => M__law_made a.1 a.2.1 a.2.2.1)).bind fun y_1263 => (appP v_near_1035 y_1263).bind fun v_near_1065 => (((((some v_draws_883).bind fun y_1068 => ((some (36 : Int)).bind fun y_1066 => (some v_turn_892).bind fun y_1067 => some (y_1066 + y_1067)).bind fun y_1069 => atI y_1068 y_1069).bind fun y_1070 => some (Int.fmod y_1070 (3 : Int))).bind fun y_1089 => ((((some v_seed_894).bind fun y_1073 => ((some (4 : Int)).bind fun y_1071 => (some ()).bind fun y_1072 => some (y_1071, y_1072)).bind fun y_1074 => some (y_1073, y_1074)).bind (fun a : Int × Int × Unit => M__law_next a.1 a.2.1)).bind fun y_1087 => (((some (1 : Int)).bind fun y_1083 => ((((some v_draws_883).bind fun y_1079 => ((some (36 : Int)).bind fun y_1077 => (some v_turn_892).bind fun y_1078 => some (y_1077 + y_1078)).bind fun y_1080 => atI y_1079 y_1080).bind fun y_1081 => some (Int.fdiv y_1081 (3 : Int))).bind fun y_1082 => some (Int.fmod y_1082 (60 : Int))).bind fun y_1084 => some (y_1083 + y_1084)).bind fun y_1085 => (some ()).bind fun y_1086 => some (y_1085, y_1086)).bind fun y_1088 => some (y_1087, y_1088)).bind fun y_1090 => some (y_1089, y_1090)).bind (fun a : Int × Int × Int × Unit => M__law_made a.1 a.2.1 a.2.2.1)).bind fun y_1262 => (appP v_near_1065 y_1262).bind fun v_near_1094 => ((some v_near_1094).bind fun y_1103 => lcC (fun _ : D => some true) (fun v_one_1098 : D => ((some v_one_1098).bind fun y_1099 => (some ()).bind fun y_1100 => some (y_1099, y_1100)).bind (fun a : D × Unit => R__law_size 64 a.1)) y_1103).bind fun v_sizes_1096 => (((some v_near_1094).bind fun y_1108 => ((some v_near_1094).bind fun y_1105 => (some none).bind fun y_1106 => ((some (1 : Int)).bind fun y_1104 => some (some y_1104)).bind fun y_1107 => some (T.cut y_1105 y_1106 y_1107)).bind fun y_1109 => catL y_1108 y_1109).bind fun y_1110 => some (enumL y_1110)).bind fun y_1113 => (loopO (fun (s_1111 : Unit) (v_k_1112 : (Int × D)) => ((((((((some v_k_1112.2).bind fun y_1114 => (some ()).bind fun y_1115 => some (y_1114, y_1115)).bind (fun a : D × Unit => R_size 64 a.1)).bind fun y_1117 => some (em y_1117)).bind fun y_1124 => ((((some v_sizes_1096).bind fun y_1119 => ((some v_k_1112.1).bind fun y_1118 => some (Int.fmod y_1118 (7 : Int))).bind fun y_1120 => atI y_1119 y_1120).bind fun y_1121 => some (em y_1121)).bind fun y_1122 => (some ()).bind fun y_1123 => some (y_1122, y_1123)).bind fun y_1125 => some (y_1124, y_1125)).bind (fun a : D × D × Unit => M__law_is a.1 a.2.1)).bind fun y_1128 => some (!y_1128)).bind fun c_1131 => if c_1131 = true then ((some false).bind fun r_1129 => some r_1129).bind fun r_1130 => some (Fl.rt r_1130) else some (Fl.nx ()) : Option (Fl Bool Unit Unit))) () y_1113).bind (Lp.go (Fl.rt) fun s_1111 : Unit => ((((some (0 : Int)).bind fun y_1132 => (some (1 : Int)).bind fun y_1133 => some (y_1132, y_1133)).bind fun y_1178 => (((some (0 : Int)).bind fun y_1134 => (some (2 : Int)).bind fun y_1135 => some (y_1134, y_1135)).bind fun y_1176 => (((some (0 : Int)).bind fun y_1136 => (some (3 : Int)).bind fun y_1137 => some (y_1136, y_1137)).bind fun y_1174 => (((some (0 : Int)).bind fun y_1138 => (some (4 : Int)).bind fun y_1139 => some (y_1138, y_1139)).bind fun y_1172 => (((some (0 : Int)).bind fun y_1140 => (some (5 : Int)).bind fun y_1141 => some (y_1140, y_1141)).bind fun y_1170 => (((some (1 : Int)).bind fun y_1142 => (some (2 : Int)).bind fun y_1143 => some (y_1142, y_1143)).bind fun y_1168 => (((some (3 : Int)).bind fun y_1144 => (some (4 : Int)).bind fun y_1145 => some (y_1144, y_1145)).bind fun y_1166 => (((some (0 : Int)).bind fun y_1146 => (some (0 : Int)).bind fun y_1147 => some (y_1146, y_1147)).bind fun y_1164 => (((some (0 : Int)).bind fun y_1148 => (some (6 : Int)).bind fun y_1149 => some (y_1148, y_1149)).bind fun y_1162 => (((some (4 : Int)).bind fun y_1150 => (some (6 : Int)).bind fun y_1151 => some (y_1150, y_1151)).bind fun y_1160 => (((some (5 : Int)).bind fun y_1152 => (some (6 : Int)).bind fun y_1153 => some (y_1152, y_1153)).bind fun y_1158 => (((some (0 : Int)).bind fun y_1154 => (some (1 : Int)).bind fun y_1155 => some (y_1154, y_1155)).bind fun y_1156 => (some []).bind fun y_1157 => some (y_1156 :: y_1157)).bind fun y_1159 => some (y_1158 :: y_1159)).bind fun y_1161 => some (y_1160 :: y_1161)).bind fun y_1163 => some (y_1162 :: y_1163)).bind fun y_1165 => some (y_1164 :: y_1165)).bind fun y_1167 => some (y_1166 :: y_1167)).bind fun y_1169 => some (y_1168 :: y_1169)).bind fun y_1171 => some (y_1170 :: y_1171)).bind fun y_1173 => some (y_1172 :: y_1173)).bind fun y_1175 => some (y_1174 :: y_1175)).bind fun y_1177 => some (y_1176 :: y_1177)).bind fun y_1179 => some (y_1178 :: y_1179)).bind lstP).bind fun y_1194 => (loopO (fun (s_1192 : Unit) (v_pair_1193 : (Int × Int)) => (((some v_near_1094).bind fun y_1197 => ((some v_pair_1193).bind fun y_1196 => some (y_1196.1)).bind fun y_1198 => atI y_1197 y_1198).bind fun v_one_1195 => ((some v_near_1094).bind fun y_1201 => ((some v_pair_1193).bind fun y_1200 => some (y_1200.2)).bind fun y_1202 => atI y_1201 y_1202).bind fun v_other_1199 => (((some v_sizes_1096).bind fun y_1205 => ((some v_pair_1193).bind fun y_1204 => some (y_1204.1)).bind fun y_1206 => atI y_1205 y_1206).bind fun y_1210 => ((some v_sizes_1096).bind fun y_1208 => ((some v_pair_1193).bind fun y_1207 => some (y_1207.2)).bind fun y_1209 => atI y_1208 y_1209).bind fun y_1211 => some (y_1210 - y_1211)).bind fun v_below_1203 => (((some v_below_1203).bind fun y_1212 => (some (0 : Int)).bind fun y_1213 => some (decide (y_1212 = y_1213))).bind fun c_1259 => if c_1259 = true then (((some v_one_1195).bind fun y_1218 => ((some v_other_1199).bind fun y_1216 => (some ()).bind fun y_1217 => some (y_1216, y_1217)).bind fun y_1219 => some (y_1218, y_1219)).bind (fun a : D × D × Unit => R__law_walk 64 a.1 a.2.1)).bind fun v_below_1215 => some v_below_1215 else some v_below_1203).bind fun s_1214 : Int => (orO (((((((some v_one_1195).bind fun y_1224 => ((some v_other_1199).bind fun y_1222 => (some ()).bind fun y_1223 => some (y_1222, y_1223)).bind fun y_1225 => some (y_1224, y_1225)).bind (fun a : D × D × Unit => M_before a.1 a.2.1)).bind fun y_1228 => some (em y_1228)).bind fun y_1234 => ((((some s_1214).bind fun y_1229 => (some (0 : Int)).bind fun y_1230 => some (decide (y_1229 < y_1230))).bind fun y_1231 => some (em y_1231)).bind fun y_1232 => (some ()).bind fun y_1233 => some (y_1232, y_1233)).bind fun y_1235 => some (y_1234, y_1235)).bind (fun a : D × D × Unit => M__law_is a.1 a.2.1)).bind fun y_1238 => some (!y_1238)) (((((((some v_other_1199).bind fun y_1241 => ((some v_one_1195).bind fun y_1239 => (some ()).bind fun y_1240 => some (y_1239, y_1240)).bind fun y_1242 => some (y_1241, y_1242)).bind (fun a : D × D × Unit => M_before a.1 a.2.1)).bind fun y_1245 => some (em y_1245)).bind fun y_1251 => ((((some s_1214).bind fun y_1246 => (some (0 : Int)).bind fun y_1247 => some (decide (y_1247 < y_1246))).bind fun y_1248 => some (em y_1248)).bind fun y_1249 => (some ()).bind fun y_1250 => some (y_1249, y_1250)).bind fun y_1252 => some (y_1251, y_1252)).bind (fun a : D × D × Unit => M__law_is a.1 a.2.1)).bind fun y_1255 => some (!y_1255))).bind fun c_1258 => if c_1258 = true then ((some false).bind fun r_1256 => some r_1256).bind fun r_1257 => some (Fl.rt r_1257) else some (Fl.nx ()) : Option (Fl Bool Unit Unit))) () y_1194).bind (Lp.go (Fl.rt) fun s_1192 : Unit => some (Fl.nx ()))) : Option (Fl Bool Unit Unit))) () y_893).bind (Lp.go (fun x => x) fun s_891 : Unit => (some true).bind fun r_1267 => some r_1267)
end K20

set_option Elab.async false
set_option linter.all false
set_option maxRecDepth 100000
set_option maxHeartbeats 8000000
namespace K20
open PySem PySem.Spec PyProof.Rows L2 T
def top (i : Nat) : Stmt := PySem.Challenge.pw_saidback_k20_sizes_and_order_of_terms.main.body.getD i (.Pass ⟨0, 0, 0, 0⟩)
abbrev s_first_part : Stmt := top 3
abbrev s_inner : Stmt := top 4
abbrev s_size : Stmt := top 5
abbrev s_before : Stmt := top 6
abbrev s__law_draws : Stmt := top 8
abbrev s__law_next : Stmt := top 9
abbrev s__law_name : Stmt := top 10
abbrev s__law_kind : Stmt := top 11
abbrev s__law_noun : Stmt := top 12
abbrev s__law_sentence : Stmt := top 13
abbrev s__law_size : Stmt := top 14
abbrev s__law_walk : Stmt := top 15
abbrev s__law_twin : Stmt := top 16
abbrev s__law_is : Stmt := top 17
abbrev s__law_made : Stmt := top 18
abbrev s_law : Stmt := top 19
structure Zs (K : PySem.W.Frag) (w : World) (mg : Str → Option Value) : Prop where
  z_abs : mg "abs" = none
  z_bool : mg "bool" = none
  z_enumerate : mg "enumerate" = none
  z_int : mg "int" = none
  z_isinstance : mg "isinstance" = none
  z_len : mg "len" = none
  z_max : mg "max" = none
  z_range : mg "range" = none
  z_sum : mg "sum" = none
  z_tuple : mg "tuple" = none
  z_zip : mg "zip" = none
  c_NUMBERED : Gc K mg "NUMBERED" (em C_NUMBERED)
  c_LEAVES : KD K w mg "LEAVES" K_LEAVES F_LEAVES
section
variable {P : Program} {w : World} {K : PySem.W.Frag} {mg : Str → Option Value} {base : Heap}
theorem ok_first_part {f : Addr} {fd : FuncData} (F : Fun K "first_part" "first_part" s_first_part f fd) (Z : Zs K w mg) : FnOk P w K mg base CX0 1 f fd ["word"] (spF K (fun a : Str × Unit => [.dat (em a.1)]) (fun a : Str × Unit => M_first_part a.1) fun x : Int => .dat (em x)) :=
  fn_mk (N := ["word"]) F ⟨rfl, rfl, rfl, by decide +kernel, rfl, by decide +kernel, by decide +kernel⟩ 0 rfl (fun _ => rfl) fun X C ⟨p_word, _⟩ => (g_ret (φ := fun x => x) (x_if (t_inV (x_var C 0) (x_gc C Z.c_NUMBERED)) x_int x_int) (fun _ _ _ _ z => z.1))
theorem ok_inner {f : Addr} {fd : FuncData} (F : Fun K "inner" "inner" s_inner f fd) (Z : Zs K w mg) {f_first_part : Addr} {fd_first_part : FuncData} (D_first_part : Df P w K mg base 1 "first_part" f_first_part fd_first_part ["word"] (spF K (fun a : Str × Unit => [.dat (em a.1)]) (fun a : Str × Unit => M_first_part a.1) fun x : Int => .dat (em x))) : FnOk P w K mg base CX0 2 f fd ["term"] (spF K (fun a : D × Unit => [.dat (em a.1)]) (fun a : D × Unit => M_inner a.1) fun x : D => .dat (em x)) :=
  fn_mk (N := ["term"]) F ⟨rfl, rfl, rfl, by decide +kernel, rfl, by decide +kernel, by decide +kernel⟩ 0 rfl (fun _ => rfl) fun X C ⟨p_term, _⟩ => (g_ifX (φ := id) (t_inKd C Z.c_LEAVES (x_asS (x_ixV (x_asV (x_var C 0)) x_int))) (g_ret (φ := fun x => x) (x_D (x_tupV (τ := D) i_nil (fun x h => by cases h; decide))) (fun _ _ _ _ z => z)) early_rn (g_ret (φ := fun x => x) (x_D (x_cutT (x_asV (x_var C 0)) (o_some (x_callD C D_first_part (a_dat (x_asS (x_ixV (x_asV (x_var C 0)) x_int)) a_nil))) o_none)) (fun _ _ _ _ z => z.1)))
theorem ok_size {f : Addr} {fd : FuncData} (F : Fun K "size" "size" s_size f fd) (Z : Zs K w mg) {f_inner : Addr} {fd_inner : FuncData} (D_inner : Df P w K mg base 2 "inner" f_inner fd_inner ["term"] (spF K (fun a : D × Unit => [.dat (em a.1)]) (fun a : D × Unit => M_inner a.1) fun x : D => .dat (em x))) (hmg : mg "size" = some (.ref f)) (hkp : PySem.W.keepIn K (.ref f) = true) (hbd : Binds K fd ["term"] []) : ∀ n, FnOk P w K mg base CX0 (n + 3) f fd ["term"] (spF K (fun a : D × Unit => [.dat (em a.1)]) (fun a : D × Unit => R_size n a.1) fun x : Int => .dat (em x))
  | 0 => fn_none fun _ => rfl
  | n + 1 => by
    have D_size : Df P w K mg base (n + 3) "size" f fd ["term"] (spF K (fun a : D × Unit => [.dat (em a.1)]) (fun a : D × Unit => R_size n a.1) fun x : Int => .dat (em x)) := ⟨ok_size F Z D_inner hmg hkp hbd n, hmg, hkp, hbd⟩
    exact fn_mk (N := ["term", "part"]) F ⟨rfl, rfl, rfl, by decide +kernel, rfl, by decide +kernel, by decide +kernel⟩ 1 rfl (fun _ => rfl) fun X C ⟨p_term, _⟩ => (g_ret (φ := fun x => x) (x_add x_int (x_sumQ C (q_l (lc_gen (own := [("part", 1)]) (envC := [.dat (em (p_term : D)), .any]) C (w_tup (x_asV (x_callD C D_inner (a_dat (x_var C 0) a_nil) (hj := by omega)))) (lcP_no (fun X_38 C_33 => (gt_name C_33 1)) (fun X_38 C_33 v_part_34 => (x_callD C_33 D_size (a_dat (x_var C_33 1) a_nil) (hj := Nat.le_refl _)))) (by decide +kernel) (ownS rfl own0) (.same (.same .nil)) (by decide))) Z.z_sum)) (fun _ _ _ _ z => z.1))
theorem ok_before {f : Addr} {fd : FuncData} (F : Fun K "before" "before" s_before f fd) (Z : Zs K w mg) {f_size : Addr} {fd_size : FuncData} (D_size : Df P w K mg base 67 "size" f_size fd_size ["term"] (spF K (fun a : D × Unit => [.dat (em a.1)]) (fun a : D × Unit => R_size 64 a.1) fun x : Int => .dat (em x))) : FnOk P w K mg base CX0 68 f fd ["one", "other"] (spF K (fun a : D × D × Unit => [.dat (em a.1), .dat (em a.2.1)]) (fun a : D × D × Unit => M_before a.1 a.2.1) fun x : Bool => .dat (em x)) :=
  fn_mk (N := ["one", "other"]) F ⟨rfl, rfl, rfl, by decide +kernel, rfl, by decide +kernel, by decide +kernel⟩ 0 rfl (fun _ => rfl) fun X C ⟨p_one, p_other, _⟩ => (g_ret (φ := fun x => x) (x_ltP C (x_tupP (i_cons (x_D (x_callD C D_size (a_dat (x_var C 0) a_nil))) (i_cons (x_var C 0) i_nil))) (x_tupP (i_cons (x_D (x_callD C D_size (a_dat (x_var C 1) a_nil))) (i_cons (x_var C 1) i_nil)))) (fun _ _ _ _ z => z.1))
theorem ok__law_draws {f : Addr} {fd : FuncData} (F : Fun K "_law_draws" "_law_draws" s__law_draws f fd) (Z : Zs K w mg) : FnOk P w K mg base CX0 1 f fd ["script", "count"] (spF K (fun a : (List Int) × Int × Unit => [.bor (List.map em a.1), .dat (em a.2.1)]) (fun a : (List Int) × Int × Unit => M__law_draws a.1 a.2.1) fun x : (List Int) => .own (List.map em x)) :=
  fn_mk (N := ["script", "count", "cells", "many", "draws", "k", "at", "cell", "mixed"]) F ⟨rfl, rfl, rfl, by decide +kernel, rfl, by decide +kernel, by decide +kernel⟩ 7 rfl (fun _ => rfl) fun X C ⟨p_script, p_count, _⟩ => (g_setLc (own := [("cell", 7)]) (envC := [.bor (List.map em (p_script : (List Int))), .dat (em (p_count : Int)), .any, .any, .any, .any, .any, .any, .any]) C 2 (w_bor C 0) (lcP_no (fun X_68 C_64 => (gt_name C_64 7)) (fun X_68 C_64 v_cell_65 => (x_abs C_64 (x_intI C_64 (x_var C_64 7) Z.z_int) Z.z_abs))) (by decide +kernel) (ownS rfl own0) (.same (.same (.same (.same (.same (.same (.same (.same (.same .nil))))))))) (by decide) (hr := fun v_cells_63 => (g_ifJ (envJ := fun s_73 : (List Int) => [.bor (List.map em (p_script : (List Int))), .dat (em (p_count : Int)), .own (List.map em (s_73 : (List Int))), .any, .any, .any, .any, .any, .any]) (t_eq (x_lenQ C (q_own C 2) Z.z_len) x_int) (g_setL C 2 (l_lst (i_cons x_int i_nil)) (fun v_cells_74 => (g_nil (.same (.same (.same (.same (.same (.same (.same (.same (.same .nil)))))))))))) (g_nil (.same (.same (.same (.same (.same (.same (.same (.same (.same .nil)))))))))) (fun s_73 => (g_set C 3 (x_lenQ C (q_own C 2) Z.z_len) (fun v_many_78 => (g_setL C 4 l_nil (fun v_draws_80 => (g_for (envL := fun s_82 : ((List Int) × (List Int)) => [.bor (List.map em (p_script : (List Int))), .dat (em (p_count : Int)), .own (List.map em (s_82.1 : (List Int))), .dat (em (v_many_78 : Int)), .own (List.map em (s_82.2 : (List Int))), .any, .any, .any, .any]) C (w_rng1 C (x_var C 1) Z.z_range) (fun s_82 => (gt_name C 5)) (.same (.same (.same (.same (.same (.same (.same (.same (.same .nil))))))))) (fun s_82 v_k_83 => (g_set C 6 (x_mod (x_var C 5) (x_var C 3)) (fun v_at_85 => (g_set C 7 (x_ixQ (q_own C 2) (x_var C 6)) (fun v_cell_88 => (g_ifJ (envJ := fun s_93 : ((List Int) × (List Int)) => [.bor (List.map em (p_script : (List Int))), .dat (em (p_count : Int)), .own (List.map em (s_93.1 : (List Int))), .dat (em (v_many_78 : Int)), .own (List.map em (s_93.2 : (List Int))), .dat (em (v_k_83 : Int)), .dat (em (v_at_85 : Int)), .dat (em (v_cell_88 : Int)), .any]) (t_ge (x_var C 7) (x_powC)) (g_append C 4 (x_modC (x_intI C (x_var C 7) Z.z_int)) (fun v_draws_96 => (g_setItem C 2 (x_divC (x_var C 7)) (x_var C 6) (fun v_cells_98 => (g_nil (.same (.same (.same (.same (.same (.same (.same (.same (.same .nil)))))))))))))) (g_set C 8 (x_modC (x_add (x_add (x_mulCr (x_var C 7)) (x_mulCr (x_var C 5))) x_int)) (fun v_mixed_104 => (g_append C 4 (x_modC (x_add (x_add (x_mul (x_var C 8) (x_var C 8)) (x_mulCr (x_var C 7))) (x_var C 5))) (fun v_draws_120 => (g_nil (.same (.same (.same (.same (.same (.same (.same (.same (.drop .nil)))))))))))))) (fun s_93 => (g_nil (.same (.same (.same (.same (.same (.drop (.drop (.drop (.same .nil))))))))))))))))) (fun s_82 => (g_retO C 4 (fun _ _ _ z => z.1))))))))))))
theorem ok__law_next {f : Addr} {fd : FuncData} (F : Fun K "_law_next" "_law_next" s__law_next f fd) (Z : Zs K w mg) : FnOk P w K mg base CX0 1 f fd ["seed", "k"] (spF K (fun a : Int × Int × Unit => [.dat (em a.1), .dat (em a.2.1)]) (fun a : Int × Int × Unit => M__law_next a.1 a.2.1) fun x : Int => .dat (em x)) :=
  fn_mk (N := ["seed", "k"]) F ⟨rfl, rfl, rfl, by decide +kernel, rfl, by decide +kernel, by decide +kernel⟩ 0 rfl (fun _ => rfl) fun X C ⟨p_seed, p_k, _⟩ => (g_ret (φ := fun x => x) (x_modC (x_add (x_add (x_mulCr (x_var C 0)) (x_mulCr (x_var C 1))) x_int)) (fun _ _ _ _ z => z.1))
theorem ok__law_name {f : Addr} {fd : FuncData} (F : Fun K "_law_name" "_law_name" s__law_name f fd) (Z : Zs K w mg) : FnOk P w K mg base CX0 1 f fd ["seed"] (spF K (fun a : Int × Unit => [.dat (em a.1)]) (fun a : Int × Unit => M__law_name a.1) fun x : Str => .dat (em x)) :=
  fn_mk (N := ["seed", "names"]) F ⟨rfl, rfl, rfl, by decide +kernel, rfl, by decide +kernel, by decide +kernel⟩ 1 rfl (fun _ => rfl) fun X C ⟨p_seed, _⟩ => (g_setL C 1 (l_lst (i_cons x_str (i_cons x_str (i_cons x_str (i_cons x_str (i_cons x_str (i_cons x_str (i_cons x_str (i_cons x_str (i_cons x_str (i_cons x_str (i_cons x_str i_nil)))))))))))) (fun v_names_132 => (g_ret (φ := fun x => x) (x_ixQ (q_own C 1) (x_modC (x_var C 0))) (fun _ _ _ _ z => z.1))))
theorem ok__law_kind {f : Addr} {fd : FuncData} (F : Fun K "_law_kind" "_law_kind" s__law_kind f fd) (Z : Zs K w mg) {f__law_name : Addr} {fd__law_name : FuncData} {f__law_next : Addr} {fd__law_next : FuncData} (D__law_name : Df P w K mg base 1 "_law_name" f__law_name fd__law_name ["seed"] (spF K (fun a : Int × Unit => [.dat (em a.1)]) (fun a : Int × Unit => M__law_name a.1) fun x : Str => .dat (em x))) (D__law_next : Df P w K mg base 1 "_law_next" f__law_next fd__law_next ["seed", "k"] (spF K (fun a : Int × Int × Unit => [.dat (em a.1), .dat (em a.2.1)]) (fun a : Int × Int × Unit => M__law_next a.1 a.2.1) fun x : Int => .dat (em x))) (hmg : mg "_law_kind" = some (.ref f)) (hkp : PySem.W.keepIn K (.ref f) = true) (hbd : Binds K fd ["seed", "many"] []) : ∀ n, FnOk P w K mg base CX0 (n + 2) f fd ["seed", "many"] (spF K (fun a : Int × Int × Unit => [.dat (em a.1), .dat (em a.2.1)]) (fun a : Int × Int × Unit => R__law_kind n a.1 a.2.1) fun x : D => .dat (em x))
  | 0 => fn_none fun _ => rfl
  | n + 1 => by
    have D__law_kind : Df P w K mg base (n + 2) "_law_kind" f fd ["seed", "many"] (spF K (fun a : Int × Int × Unit => [.dat (em a.1), .dat (em a.2.1)]) (fun a : Int × Int × Unit => R__law_kind n a.1 a.2.1) fun x : D => .dat (em x)) := ⟨ok__law_kind F Z D__law_name D__law_next hmg hkp hbd n, hmg, hkp, hbd⟩
    exact fn_mk (N := ["seed", "many", "left", "one"]) F ⟨rfl, rfl, rfl, by decide +kernel, rfl, by decide +kernel, by decide +kernel⟩ 2 rfl (fun _ => rfl) fun X C ⟨p_seed, p_many, _⟩ => (g_ifX (φ := id) (t_eq (x_var C 1) x_int) (g_ret (φ := fun x => x) (x_D (x_tupP (i_cons (x_D x_str) (i_cons (x_D (x_callD C D__law_name (a_dat (x_divC (x_var C 0)) a_nil) (hj := by omega))) i_nil)))) (fun _ _ _ _ z => z)) early_rn (g_ifX (φ := id) (t_w (w_or (t_eq (x_var C 1) x_int) (w_or1 (t_eq (x_modC (x_var C 0)) x_int)))) (g_ret (φ := fun x => x) (x_D (x_tupP (i_cons (x_D x_str) (i_cons (x_callD C D__law_kind (a_dat (x_callD C D__law_next (a_dat (x_var C 0) (a_dat x_int a_nil)) (hj := by omega)) (a_dat (x_sub (x_var C 1) x_int) a_nil)) (hj := Nat.le_refl _)) i_nil)))) (fun _ _ _ _ z => z)) early_rn (g_set C 2 (x_add x_int (x_mod (x_divC (x_var C 0)) (x_sub (x_var C 1) x_int))) (fun v_left_210 => (g_set C 3 (x_callD C D__law_kind (a_dat (x_callD C D__law_next (a_dat (x_var C 0) (a_dat x_int a_nil)) (hj := by omega)) (a_dat (x_var C 2) a_nil)) (hj := Nat.le_refl _)) (fun v_one_218 => (g_ret (φ := fun x => x) (x_D (x_tupP (i_cons (x_D (x_ixQ (q_l (l_lst (i_cons x_str (i_cons x_str i_nil)))) (x_modC (x_divC (x_var C 0))))) (i_cons (x_var C 3) (i_cons (x_callD C D__law_kind (a_dat (x_callD C D__law_next (a_dat (x_var C 0) (a_dat x_int a_nil)) (hj := by omega)) (a_dat (x_sub (x_sub (x_var C 1) x_int) (x_var C 2)) a_nil)) (hj := Nat.le_refl _)) i_nil))))) (fun _ _ _ _ z => z.1))))))))
theorem ok__law_noun {f : Addr} {fd : FuncData} (F : Fun K "_law_noun" "_law_noun" s__law_noun f fd) (Z : Zs K w mg) {f__law_kind : Addr} {fd__law_kind : FuncData} {f__law_name : Addr} {fd__law_name : FuncData} {f__law_next : Addr} {fd__law_next : FuncData} (D__law_kind : Df P w K mg base 66 "_law_kind" f__law_kind fd__law_kind ["seed", "many"] (spF K (fun a : Int × Int × Unit => [.dat (em a.1), .dat (em a.2.1)]) (fun a : Int × Int × Unit => R__law_kind 64 a.1 a.2.1) fun x : D => .dat (em x))) (D__law_name : Df P w K mg base 1 "_law_name" f__law_name fd__law_name ["seed"] (spF K (fun a : Int × Unit => [.dat (em a.1)]) (fun a : Int × Unit => M__law_name a.1) fun x : Str => .dat (em x))) (D__law_next : Df P w K mg base 1 "_law_next" f__law_next fd__law_next ["seed", "k"] (spF K (fun a : Int × Int × Unit => [.dat (em a.1), .dat (em a.2.1)]) (fun a : Int × Int × Unit => M__law_next a.1 a.2.1) fun x : Int => .dat (em x))) : FnOk P w K mg base CX0 67 f fd ["seed", "many"] (spF K (fun a : Int × Int × Unit => [.dat (em a.1), .dat (em a.2.1)]) (fun a : Int × Int × Unit => M__law_noun a.1 a.2.1) fun x : D => .dat (em x)) :=
  fn_mk (N := ["seed", "many", "kind", "word"]) F ⟨rfl, rfl, rfl, by decide +kernel, rfl, by decide +kernel, by decide +kernel⟩ 2 rfl (fun _ => rfl) fun X C ⟨p_seed, p_many, _⟩ => (g_ifX (φ := id) (t_eq (x_var C 1) x_int) (g_ret (φ := fun x => x) (x_D (x_tupP (i_cons (x_D x_str) (i_cons (x_D (x_callD C D__law_name (a_dat (x_divC (x_var C 0)) a_nil))) i_nil)))) (fun _ _ _ _ z => z)) early_rn (g_set C 2 (x_callD C D__law_kind (a_dat (x_callD C D__law_next (a_dat (x_var C 0) (a_dat x_int a_nil))) (a_dat (x_sub (x_var C 1) x_int) a_nil))) (fun v_kind_284 => (g_set C 3 (x_ixQ (q_l (l_lst (i_cons x_str (i_cons x_str (i_cons x_str (i_cons x_str (i_cons x_str (i_cons x_str (i_cons x_str i_nil))))))))) (x_modC (x_var C 0))) (fun v_word_299 => (g_ifX (φ := id) (t_lt (x_modC (x_var C 0)) x_int) (g_ret (φ := fun x => x) (x_D (x_tupP (i_cons (x_D (x_var C 3)) (i_cons (x_var C 2) i_nil)))) (fun _ _ _ _ z => z)) early_rn (g_ret (φ := fun x => x) (x_D (x_tupP (i_cons (x_D (x_var C 3)) (i_cons (x_D (x_modC (x_divC (x_var C 0)))) (i_cons (x_var C 2) i_nil))))) (fun _ _ _ _ z => z.1))))))))
theorem ok__law_sentence {f : Addr} {fd : FuncData} (F : Fun K "_law_sentence" "_law_sentence" s__law_sentence f fd) (Z : Zs K w mg) {f__law_kind : Addr} {fd__law_kind : FuncData} {f__law_next : Addr} {fd__law_next : FuncData} {f__law_noun : Addr} {fd__law_noun : FuncData} (D__law_kind : Df P w K mg base 66 "_law_kind" f__law_kind fd__law_kind ["seed", "many"] (spF K (fun a : Int × Int × Unit => [.dat (em a.1), .dat (em a.2.1)]) (fun a : Int × Int × Unit => R__law_kind 64 a.1 a.2.1) fun x : D => .dat (em x))) (D__law_next : Df P w K mg base 1 "_law_next" f__law_next fd__law_next ["seed", "k"] (spF K (fun a : Int × Int × Unit => [.dat (em a.1), .dat (em a.2.1)]) (fun a : Int × Int × Unit => M__law_next a.1 a.2.1) fun x : Int => .dat (em x))) (D__law_noun : Df P w K mg base 67 "_law_noun" f__law_noun fd__law_noun ["seed", "many"] (spF K (fun a : Int × Int × Unit => [.dat (em a.1), .dat (em a.2.1)]) (fun a : Int × Int × Unit => M__law_noun a.1 a.2.1) fun x : D => .dat (em x))) (hmg : mg "_law_sentence" = some (.ref f)) (hkp : PySem.W.keepIn K (.ref f) = true) (hbd : Binds K fd ["seed", "many"] []) : ∀ n, FnOk P w K mg base CX0 (n + 68) f fd ["seed", "many"] (spF K (fun a : Int × Int × Unit => [.dat (em a.1), .dat (em a.2.1)]) (fun a : Int × Int × Unit => R__law_sentence n a.1 a.2.1) fun x : D => .dat (em x))
  | 0 => fn_none fun _ => rfl
  | n + 1 => by
    have D__law_sentence : Df P w K mg base (n + 68) "_law_sentence" f fd ["seed", "many"] (spF K (fun a : Int × Int × Unit => [.dat (em a.1), .dat (em a.2.1)]) (fun a : Int × Int × Unit => R__law_sentence n a.1 a.2.1) fun x : D => .dat (em x)) := ⟨ok__law_sentence F Z D__law_kind D__law_next D__law_noun hmg hkp hbd n, hmg, hkp, hbd⟩
    exact fn_mk (N := ["seed", "many", "left", "one"]) F ⟨rfl, rfl, rfl, by decide +kernel, rfl, by decide +kernel, by decide +kernel⟩ 2 rfl (fun _ => rfl) fun X C ⟨p_seed, p_many, _⟩ => (g_ifX (φ := id) (t_w (w_and (t_gt (x_var C 1) x_int) (w_and1 (t_eq (x_modC (x_var C 0)) x_int)))) (g_ret (φ := fun x => x) (x_D (x_tupP (i_cons (x_D (x_ixQ (q_l (l_lst (i_cons x_str (i_cons x_str i_nil)))) (x_modC (x_divC (x_var C 0))))) (i_cons (x_callD C D__law_sentence (a_dat (x_callD C D__law_next (a_dat (x_var C 0) (a_dat x_int a_nil)) (hj := by omega)) (a_dat (x_sub (x_var C 1) x_int) a_nil)) (hj := Nat.le_refl _)) i_nil)))) (fun _ _ _ _ z => z)) early_rn (g_ifX (φ := id) (t_w (w_and (t_gt (x_var C 1) x_int) (w_and1 (t_lt (x_modC (x_var C 0)) x_int)))) (g_set C 2 (x_add x_int (x_mod (x_divC (x_var C 0)) (x_sub (x_var C 1) x_int))) (fun v_left_391 => (g_set C 3 (x_callD C D__law_sentence (a_dat (x_callD C D__law_next (a_dat (x_var C 0) (a_dat x_int a_nil)) (hj := by omega)) (a_dat (x_var C 2) a_nil)) (hj := Nat.le_refl _)) (fun v_one_399 => (g_ret (φ := fun x => x) (x_D (x_tupP (i_cons (x_D (x_ixQ (q_l (l_lst (i_cons x_str (i_cons x_str (i_cons x_str i_nil))))) (x_modC (x_divC (x_var C 0))))) (i_cons (x_var C 3) (i_cons (x_callD C D__law_sentence (a_dat (x_callD C D__law_next (a_dat (x_var C 0) (a_dat x_int a_nil)) (hj := by omega)) (a_dat (x_sub (x_sub (x_var C 1) x_int) (x_var C 2)) a_nil)) (hj := Nat.le_refl _)) i_nil))))) (fun _ _ _ _ z => z)))))) early_rn (g_set C 2 (x_add x_int (x_mod (x_divC (x_var C 0)) (x_sub (x_var C 1) x_int))) (fun v_left_450 => (g_ret (φ := fun x => x) (x_D (x_tupP (i_cons (x_D x_str) (i_cons (x_callD C D__law_noun (a_dat (x_callD C D__law_next (a_dat (x_var C 0) (a_dat x_int a_nil)) (hj := by omega)) (a_dat (x_var C 2) a_nil)) (hj := by omega)) (i_cons (x_callD C D__law_kind (a_dat (x_callD C D__law_next (a_dat (x_var C 0) (a_dat x_int a_nil)) (hj := by omega)) (a_dat (x_sub (x_sub (x_var C 1) x_int) (x_var C 2)) a_nil)) (hj := by omega)) i_nil))))) (fun _ _ _ _ z => z.1))))))
theorem ok__law_size {f : Addr} {fd : FuncData} (F : Fun K "_law_size" "_law_size" s__law_size f fd) (Z : Zs K w mg) (hmg : mg "_law_size" = some (.ref f)) (hkp : PySem.W.keepIn K (.ref f) = true) (hbd : Binds K fd ["term"] []) : ∀ n, FnOk P w K mg base CX0 (n + 1) f fd ["term"] (spF K (fun a : D × Unit => [.dat (em a.1)]) (fun a : D × Unit => R__law_size n a.1) fun x : Int => .dat (em x))
  | 0 => fn_none fun _ => rfl
  | n + 1 => by
    have D__law_size : Df P w K mg base (n + 1) "_law_size" f fd ["term"] (spF K (fun a : D × Unit => [.dat (em a.1)]) (fun a : D × Unit => R__law_size n a.1) fun x : Int => .dat (em x)) := ⟨ok__law_size F Z hmg hkp hbd n, hmg, hkp, hbd⟩
    exact fn_mk (N := ["term", "many", "part"]) F ⟨rfl, rfl, rfl, by decide +kernel, rfl, by decide +kernel, by decide +kernel⟩ 2 rfl (fun _ => rfl) fun X C ⟨p_term, _⟩ => (g_set C 1 x_int (fun v_many_499 => (g_for (envL := fun s_506 : Int => [.dat (em (p_term : D)), .dat (em (s_506 : Int)), .any]) C (w_tup (x_cutT (x_asV (x_var C 0)) (o_some x_int) o_none)) (fun s_506 => (gt_name C 2)) (.same (.same (.same .nil))) (fun s_506 v_part_507 => (g_ifJ (envJ := fun s_510 : Int => [.dat (em (p_term : D)), .dat (em (s_510 : Int)), .dat (em (v_part_507 : D))]) (t_x (x_isi C (x_var C 2) kit_tuple Z.z_isinstance Z.z_tuple)) (g_set C 1 (x_add (x_var C 1) (x_callD C D__law_size (a_dat (x_var C 2) a_nil) (hj := Nat.le_refl _))) (fun v_many_511 => (g_nil (.same (.same (.same .nil)))))) (g_nil (.same (.same (.same .nil)))) (fun s_510 => (g_nil (.same (.same (.drop .nil))))))) (fun s_506 => (g_ret (φ := fun x => x) (x_var C 1) (fun _ _ _ _ z => z.1))))))
theorem ok__law_walk {f : Addr} {fd : FuncData} (F : Fun K "_law_walk" "_law_walk" s__law_walk f fd) (Z : Zs K w mg) (hmg : mg "_law_walk" = some (.ref f)) (hkp : PySem.W.keepIn K (.ref f) = true) (hbd : Binds K fd ["one", "other"] []) : ∀ n, FnOk P w K mg base CX0 (n + 1) f fd ["one", "other"] (spF K (fun a : D × D × Unit => [.dat (em a.1), .dat (em a.2.1)]) (fun a : D × D × Unit => R__law_walk n a.1 a.2.1) fun x : Int => .dat (em x))
  | 0 => fn_none fun _ => rfl
  | n + 1 => by
    have D__law_walk : Df P w K mg base (n + 1) "_law_walk" f fd ["one", "other"] (spF K (fun a : D × D × Unit => [.dat (em a.1), .dat (em a.2.1)]) (fun a : D × D × Unit => R__law_walk n a.1 a.2.1) fun x : Int => .dat (em x)) := ⟨ok__law_walk F Z hmg hkp hbd n, hmg, hkp, hbd⟩
    exact fn_mk (N := ["one", "other", "first", "second", "below"]) F ⟨rfl, rfl, rfl, by decide +kernel, rfl, by decide +kernel, by decide +kernel⟩ 3 rfl (fun _ => rfl) fun X C ⟨p_one, p_other, _⟩ => (g_forF (envL := fun s_521 : Unit => [.dat (em (p_one : D)), .dat (em (p_other : D)), .any, .any, .any]) (res := fun x : Int => .dat (em x)) (φ := fun x => x) C (w_zipD C (x_var C 0) (x_var C 1) Z.z_zip) (fun s_521 => (gt_pair C 2 3)) (.same (.same (.same (.same (.same .nil))))) (fun s_521 v_first_522 => (g_ifF (envJ := fun s_526 : Unit => [.dat (em (p_one : D)), .dat (em (p_other : D)), .dat (em (v_first_522.1 : D)), .dat (em (v_first_522.2 : D)), .any]) (t_w (w_and (t_x (x_isi C (x_var C 2) kit_tuple Z.z_isinstance Z.z_tuple)) (w_and1 (t_x (x_isi C (x_var C 3) kit_tuple Z.z_isinstance Z.z_tuple))))) (g_set C 4 (x_callD C D__law_walk (a_dat (x_var C 2) (a_dat (x_var C 3) a_nil)) (hj := Nat.le_refl _)) (fun v_below_527 => (g_ifX (φ := Fl.rt) (t_ne (x_var C 4) x_int) (g_ret (φ := fun x => x) (x_var C 4) (fun _ _ _ _ z => z)) early_rf (g_nilF (.same (.same (.same (.same (.drop .nil))))))))) (g_ifX (φ := Fl.rt) (t_neP C (x_var C 2) (x_var C 3)) (g_ret (φ := fun x => x) (x_sub x_int (x_mulCl (x_intB C (x_ltP C (x_var C 2) (x_var C 3)) Z.z_int))) (fun _ _ _ _ z => z)) early_rf (g_nilF (.same (.same (.same (.same (.same .nil))))))) (fun s_526 => (g_nilF (.same (.same (.drop (.drop (.same .nil))))))))) hzD (fun s_521 => (g_ret (φ := fun x => x) x_int (fun _ _ _ _ z => z.1))))
theorem ok__law_twin {f : Addr} {fd : FuncData} (F : Fun K "_law_twin" "_law_twin" s__law_twin f fd) (Z : Zs K w mg) {f__law_next : Addr} {fd__law_next : FuncData} (D__law_next : Df P w K mg base 1 "_law_next" f__law_next fd__law_next ["seed", "k"] (spF K (fun a : Int × Int × Unit => [.dat (em a.1), .dat (em a.2.1)]) (fun a : Int × Int × Unit => M__law_next a.1 a.2.1) fun x : Int => .dat (em x))) (hmg : mg "_law_twin" = some (.ref f)) (hkp : PySem.W.keepIn K (.ref f) = true) (hbd : Binds K fd ["term", "seed"] []) : ∀ n, FnOk P w K mg base CX0 (n + 2) f fd ["term", "seed"] (spF K (fun a : D × Int × Unit => [.dat (em a.1), .dat (em a.2.1)]) (fun a : D × Int × Unit => R__law_twin n a.1 a.2.1) fun x : D => .dat (em x))
  | 0 => fn_none fun _ => rfl
  | n + 1 => by
    have D__law_twin : Df P w K mg base (n + 2) "_law_twin" f fd ["term", "seed"] (spF K (fun a : D × Int × Unit => [.dat (em a.1), .dat (em a.2.1)]) (fun a : D × Int × Unit => R__law_twin n a.1 a.2.1) fun x : D => .dat (em x)) := ⟨ok__law_twin F Z D__law_next hmg hkp hbd n, hmg, hkp, hbd⟩
    exact fn_mk (N := ["term", "seed", "places", "word", "groups", "group", "k", "name"]) F ⟨rfl, rfl, rfl, by decide +kernel, rfl, by decide +kernel, by decide +kernel⟩ 6 rfl (fun _ => rfl) fun X C ⟨p_term, p_seed, _⟩ => (g_setLc (own := [("k", 6)]) (envC := [.dat (em (p_term : D)), .dat (em (p_seed : Int)), .any, .any, .any, .any, .any, .any]) C 2 (w_rng2 C x_int (x_lenD C (x_var C 0) Z.z_len) Z.z_range) (lcP_if (fun X_563 C_557 => (gt_name C_557 6)) (fun X_563 C_557 v_k_558 => (t_x (x_isi C_557 (x_ixV (x_asV (x_var C_557 0)) (x_var C_557 6)) kit_tuple Z.z_isinstance Z.z_tuple))) (fun X_563 C_557 v_k_558 => (x_var C_557 6))) (by decide +kernel) (ownS rfl own0) (.same (.same (.same (.same (.same (.same (.same (.same .nil)))))))) (by decide) (hr := fun v_places_553 => (g_freeze 2 rfl (g_ifX (φ := id) (t_w (w_and (t_neP C (x_var C 2) (x_l l_nil)) (w_and1 (t_gt (x_modC (x_var C 1)) x_int)))) (g_set C 6 (x_ixQ (q_x (x_var C 2)) (x_mod (x_divC (x_var C 1)) (x_lenQ C (q_x (x_var C 2)) Z.z_len))) (fun v_k_570 => (g_ret (φ := fun x => x) (x_D (x_catT (x_catT (x_cutT (x_asV (x_var C 0)) o_none (o_some (x_var C 6))) (x_tupP (i_cons (x_callD C D__law_twin (a_dat (x_ixV (x_asV (x_var C 0)) (x_var C 6)) (a_dat (x_callD C D__law_next (a_dat (x_var C 1) (a_dat x_int a_nil)) (hj := by omega)) a_nil)) (hj := Nat.le_refl _)) i_nil))) (x_cutT (x_asV (x_var C 0)) (o_some (x_add (x_var C 6) x_int)) o_none))) (fun _ _ _ _ z => z)))) early_rn (g_set C 3 (x_ixV (x_asV (x_var C 0)) x_int) (fun v_word_612 => (g_ifX (φ := id) (t_w (w_or (t_eqD (x_var C 3) (x_D x_str)) (w_or1 (t_eqD (x_var C 3) (x_D x_str))))) (g_set C 7 (x_addS (x_cutS (x_asS (x_ixV (x_asV (x_var C 0)) x_int)) o_none (o_some x_negL)) (x_ixS x_str (x_modC (x_divC (x_var C 1))))) (fun v_name_622 => (g_ifJ (envJ := fun s_647 : Str => [.dat (em (p_term : D)), .dat (em (p_seed : Int)), .dat (em (v_places_553 : (List Int))), .dat (em (v_word_612 : D)), .any, .any, .any, .dat (em (s_647 : Str))]) (t_w (w_and (t_eq (x_modC (x_divC (x_var C 1))) x_int) (w_and1 (t_lt (x_lenD C (x_ixV (x_asV (x_var C 0)) x_int) Z.z_len) x_int)))) (g_set C 7 (x_addS (x_asS (x_ixV (x_asV (x_var C 0)) x_int)) (x_ixS x_str (x_modC (x_divC (x_var C 1))))) (fun v_name_648 => (g_nil (.same (.same (.same (.same (.same (.same (.same (.same .nil))))))))))) (g_nil (.same (.same (.same (.same (.same (.same (.same (.same .nil))))))))) (fun s_647 => (g_ifJ (envJ := fun s_669 : Str => [.dat (em (p_term : D)), .dat (em (p_seed : Int)), .dat (em (v_places_553 : (List Int))), .dat (em (v_word_612 : D)), .any, .any, .any, .dat (em (s_669 : Str))]) (t_w (w_and (t_eq (x_modC (x_divC (x_var C 1))) x_int) (w_and1 (t_gt (x_lenD C (x_ixV (x_asV (x_var C 0)) x_int) Z.z_len) x_int)))) (g_set C 7 (x_cutS (x_asS (x_ixV (x_asV (x_var C 0)) x_int)) o_none (o_some x_negL)) (fun v_name_670 => (g_nil (.same (.same (.same (.same (.same (.same (.same (.same .nil))))))))))) (g_nil (.same (.same (.same (.same (.same (.same (.same (.same .nil))))))))) (fun s_669 => (g_ret (φ := fun x => x) (x_D (x_tupP (i_cons (x_var C 3) (i_cons (x_D (x_var C 7)) i_nil)))) (fun _ _ _ _ z => z)))))))) early_rn (g_ifX (φ := id) (t_w (w_and (t_inV (x_asS (x_var C 3)) (x_tupP (i_cons x_str (i_cons x_str (i_cons x_str i_nil))))) (w_and1 (t_eq (x_modC (x_divC (x_var C 1))) x_int)))) (g_ret (φ := fun x => x) (x_D (x_tupP (i_cons (x_var C 3) (i_cons (x_D (x_modC (x_add (x_add (x_asI (x_ixV (x_asV (x_var C 0)) x_int)) x_int) (x_modC (x_divC (x_var C 1)))))) (i_cons (x_ixV (x_asV (x_var C 0)) x_int) i_nil))))) (fun _ _ _ _ z => z)) early_rn (g_setL C 4 (l_lst (i_cons (x_l (l_lst (i_cons x_str (i_cons x_str i_nil)))) (i_cons (x_l (l_lst (i_cons x_str (i_cons x_str (i_cons x_str (i_cons x_str i_nil)))))) (i_cons (x_l (l_lst (i_cons x_str (i_cons x_str (i_cons x_str i_nil))))) (i_cons (x_l (l_lst (i_cons x_str (i_cons x_str i_nil)))) i_nil))))) (fun v_groups_724 => (g_forF (envL := fun s_784 : Unit => [.dat (em (p_term : D)), .dat (em (p_seed : Int)), .dat (em (v_places_553 : (List Int))), .dat (em (v_word_612 : D)), .own (List.map em (v_groups_724 : (List (List Str)))), .any, .any, .any]) (res := fun x : D => .dat (em x)) (φ := fun x => x) C (w_l (l_cat (q_own C 4) (q_l (l_lst (i_cons (x_l (l_lst (i_cons x_str (i_cons x_str (i_cons x_str i_nil))))) i_nil))))) (fun s_784 => (gt_name C 5)) (.same (.same (.same (.same (.same (.same (.same (.same .nil)))))))) (fun s_784 v_group_785 => (g_ifX (φ := Fl.rt) (t_inQ (x_asS (x_var C 3)) (q_x (x_var C 5))) (g_ret (φ := fun x => x) (x_D (x_catT (x_asV (x_D (x_tupP (i_cons (x_ixQ (q_x (x_var C 5)) (x_mod (x_add (x_add (x_index (q_x (x_var C 5)) (x_asS (x_var C 3))) x_int) (x_modC (x_divC (x_var C 1)))) (x_lenQ C (q_x (x_var C 5)) Z.z_len))) i_nil)))) (x_asV (x_D (x_cutT (x_asV (x_var C 0)) (o_some x_int) o_none))))) (fun _ _ _ _ z => z)) early_rf (g_nilF (.same (.same (.same (.same (.same (.drop (.same (.same .nil))))))))))) hzD (fun s_784 => (g_ret (φ := fun x => x) (x_D (x_catT (x_tupP (i_cons (x_var C 3) i_nil)) (x_cutT (x_asV (x_var C 0)) (o_some x_int) o_none))) (fun _ _ _ _ z => z.1))))))))))))))
theorem ok__law_is {f : Addr} {fd : FuncData} (F : Fun K "_law_is" "_law_is" s__law_is f fd) (Z : Zs K w mg) : FnOk P w K mg base CX0 1 f fd ["actual", "due"] (spF K (fun a : D × D × Unit => [.dat (em a.1), .dat (em a.2.1)]) (fun a : D × D × Unit => M__law_is a.1 a.2.1) fun x : Bool => .dat (em x)) :=
  fn_mk (N := ["actual", "due"]) F ⟨rfl, rfl, rfl, by decide +kernel, rfl, by decide +kernel, by decide +kernel⟩ 0 rfl (fun _ => rfl) fun X C ⟨p_actual, p_due, _⟩ => (g_ifX (φ := id) (t_x (x_isi C (x_var C 1) kit_bool Z.z_isinstance Z.z_bool)) (g_ret (φ := fun x => x) (x_and (x_isi C (x_var C 0) kit_bool Z.z_isinstance Z.z_bool) (x_one (x_eqD (x_var C 0) (x_var C 1)))) (fun _ _ _ _ z => z)) early_rn (g_ret (φ := fun x => x) (x_and (x_isi C (x_var C 0) kit_int Z.z_isinstance Z.z_int) (x_and (x_not (x_isi C (x_var C 0) kit_bool Z.z_isinstance Z.z_bool)) (x_one (x_eqD (x_var C 0) (x_var C 1))))) (fun _ _ _ _ z => z.1)))
theorem ok__law_made {f : Addr} {fd : FuncData} (F : Fun K "_law_made" "_law_made" s__law_made f fd) (Z : Zs K w mg) {f__law_kind : Addr} {fd__law_kind : FuncData} {f__law_noun : Addr} {fd__law_noun : FuncData} {f__law_sentence : Addr} {fd__law_sentence : FuncData} (D__law_kind : Df P w K mg base 66 "_law_kind" f__law_kind fd__law_kind ["seed", "many"] (spF K (fun a : Int × Int × Unit => [.dat (em a.1), .dat (em a.2.1)]) (fun a : Int × Int × Unit => R__law_kind 64 a.1 a.2.1) fun x : D => .dat (em x))) (D__law_noun : Df P w K mg base 67 "_law_noun" f__law_noun fd__law_noun ["seed", "many"] (spF K (fun a : Int × Int × Unit => [.dat (em a.1), .dat (em a.2.1)]) (fun a : Int × Int × Unit => M__law_noun a.1 a.2.1) fun x : D => .dat (em x))) (D__law_sentence : Df P w K mg base 132 "_law_sentence" f__law_sentence fd__law_sentence ["seed", "many"] (spF K (fun a : Int × Int × Unit => [.dat (em a.1), .dat (em a.2.1)]) (fun a : Int × Int × Unit => R__law_sentence 64 a.1 a.2.1) fun x : D => .dat (em x))) : FnOk P w K mg base CX0 133 f fd ["which", "seed", "many"] (spF K (fun a : Int × Int × Int × Unit => [.dat (em a.1), .dat (em a.2.1), .dat (em a.2.2.1)]) (fun a : Int × Int × Int × Unit => M__law_made a.1 a.2.1 a.2.2.1) fun x : D => .dat (em x)) :=
  fn_mk (N := ["which", "seed", "many"]) F ⟨rfl, rfl, rfl, by decide +kernel, rfl, by decide +kernel, by decide +kernel⟩ 0 rfl (fun _ => rfl) fun X C ⟨p_which, p_seed, p_many, _⟩ => (g_ifX (φ := id) (t_eq (x_var C 0) x_int) (g_ret (φ := fun x => x) (x_callD C D__law_kind (a_dat (x_var C 1) (a_dat (x_var C 2) a_nil))) (fun _ _ _ _ z => z)) early_rn (g_ifX (φ := id) (t_eq (x_var C 0) x_int) (g_ret (φ := fun x => x) (x_callD C D__law_noun (a_dat (x_var C 1) (a_dat (x_var C 2) a_nil))) (fun _ _ _ _ z => z)) early_rn (g_ret (φ := fun x => x) (x_callD C D__law_sentence (a_dat (x_var C 1) (a_dat (x_max2 C x_int (x_var C 2) Z.z_max) a_nil))) (fun _ _ _ _ z => z.1))))
theorem ok_law {f : Addr} {fd : FuncData} (F : Fun K "law" "law" s_law f fd) (Z : Zs K w mg) {f__law_draws : Addr} {fd__law_draws : FuncData} {f__law_is : Addr} {fd__law_is : FuncData} {f__law_made : Addr} {fd__law_made : FuncData} {f__law_next : Addr} {fd__law_next : FuncData} {f__law_size : Addr} {fd__law_size : FuncData} {f__law_twin : Addr} {fd__law_twin : FuncData} {f__law_walk : Addr} {fd__law_walk : FuncData} {f_before : Addr} {fd_before : FuncData} {f_size : Addr} {fd_size : FuncData} (D__law_draws : Df P w K mg base 1 "_law_draws" f__law_draws fd__law_draws ["script", "count"] (spF K (fun a : (List Int) × Int × Unit => [.bor (List.map em a.1), .dat (em a.2.1)]) (fun a : (List Int) × Int × Unit => M__law_draws a.1 a.2.1) fun x : (List Int) => .own (List.map em x))) (D__law_is : Df P w K mg base 1 "_law_is" f__law_is fd__law_is ["actual", "due"] (spF K (fun a : D × D × Unit => [.dat (em a.1), .dat (em a.2.1)]) (fun a : D × D × Unit => M__law_is a.1 a.2.1) fun x : Bool => .dat (em x))) (D__law_made : Df P w K mg base 133 "_law_made" f__law_made fd__law_made ["which", "seed", "many"] (spF K (fun a : Int × Int × Int × Unit => [.dat (em a.1), .dat (em a.2.1), .dat (em a.2.2.1)]) (fun a : Int × Int × Int × Unit => M__law_made a.1 a.2.1 a.2.2.1) fun x : D => .dat (em x))) (D__law_next : Df P w K mg base 1 "_law_next" f__law_next fd__law_next ["seed", "k"] (spF K (fun a : Int × Int × Unit => [.dat (em a.1), .dat (em a.2.1)]) (fun a : Int × Int × Unit => M__law_next a.1 a.2.1) fun x : Int => .dat (em x))) (D__law_size : Df P w K mg base 65 "_law_size" f__law_size fd__law_size ["term"] (spF K (fun a : D × Unit => [.dat (em a.1)]) (fun a : D × Unit => R__law_size 64 a.1) fun x : Int => .dat (em x))) (D__law_twin : Df P w K mg base 66 "_law_twin" f__law_twin fd__law_twin ["term", "seed"] (spF K (fun a : D × Int × Unit => [.dat (em a.1), .dat (em a.2.1)]) (fun a : D × Int × Unit => R__law_twin 64 a.1 a.2.1) fun x : D => .dat (em x))) (D__law_walk : Df P w K mg base 65 "_law_walk" f__law_walk fd__law_walk ["one", "other"] (spF K (fun a : D × D × Unit => [.dat (em a.1), .dat (em a.2.1)]) (fun a : D × D × Unit => R__law_walk 64 a.1 a.2.1) fun x : Int => .dat (em x))) (D_before : Df P w K mg base 68 "before" f_before fd_before ["one", "other"] (spF K (fun a : D × D × Unit => [.dat (em a.1), .dat (em a.2.1)]) (fun a : D × D × Unit => M_before a.1 a.2.1) fun x : Bool => .dat (em x))) (D_size : Df P w K mg base 67 "size" f_size fd_size ["term"] (spF K (fun a : D × Unit => [.dat (em a.1)]) (fun a : D × Unit => R_size 64 a.1) fun x : Int => .dat (em x))) : FnOk P w K mg base CX0 134 f fd ["script"] (spF K (fun a : (List Int) × Unit => [.bor (List.map em a.1)]) (fun a : (List Int) × Unit => M_law a.1) fun x : Bool => .dat (em x)) :=
  fn_mk (N := ["script", "draws", "turn", "seed", "many", "term", "near", "sizes", "pair", "k", "one", "other", "below"]) F ⟨rfl, rfl, rfl, by decide +kernel, rfl, by decide +kernel, by decide +kernel⟩ 12 rfl (fun _ => rfl) fun X C ⟨p_script, _⟩ => (g_setL C 1 (l_callD C D__law_draws (a_bor (q_bor C 0) (a_dat x_int a_nil))) (fun v_draws_883 => (g_forF (envL := fun s_891 : Unit => [.bor (List.map em (p_script : (List Int))), .own (List.map em (v_draws_883 : (List Int))), .any, .any, .any, .any, .any, .any, .any, .any, .any, .any, .any]) (res := fun x : Bool => .dat (em x)) (φ := fun x => x) C (w_rng1 C x_int Z.z_range) (fun s_891 => (gt_name C 2)) (.same (.same (.same (.same (.same (.same (.same (.same (.same (.same (.same (.same (.same .nil))))))))))))) (fun s_891 v_turn_892 => (g_set C 3 (x_modC (x_intI C (x_add (x_mulCr (x_ixQ (q_own C 1) (x_var C 2))) (x_modC (x_ixQ (q_own C 1) (x_add x_int (x_var C 2))))) Z.z_int)) (fun v_seed_894 => (g_set C 4 (x_add x_int (x_mod (x_ixQ (q_own C 1) (x_add x_int (x_var C 2))) (x_ixQ (q_l (l_lst (i_cons x_int (i_cons x_int (i_cons x_int i_nil))))) (x_modC (x_ixQ (q_own C 1) (x_add x_int (x_var C 2))))))) (fun v_many_907 => (g_set C 5 (x_callD C D__law_made (a_dat (x_var C 2) (a_dat (x_var C 3) (a_dat (x_var C 4) a_nil)))) (fun v_term_932 => (g_setL C 6 (l_lst (i_cons (x_var C 5) (i_cons (x_callD C D__law_twin (a_dat (x_var C 5) (a_dat (x_modC (x_intI C (x_add (x_mulCr (x_ixQ (q_own C 1) (x_add x_int (x_var C 2)))) (x_modC (x_ixQ (q_own C 1) (x_add x_int (x_var C 2))))) Z.z_int)) a_nil))) i_nil))) (fun v_near_942 => (g_append C 6 (x_callD C D__law_twin (a_dat (x_ixQ (q_own C 6) x_int) (a_dat (x_modC (x_intI C (x_add (x_mulCr (x_ixQ (q_own C 1) (x_add x_int (x_var C 2)))) (x_modC (x_ixQ (q_own C 1) (x_add x_int (x_var C 2))))) Z.z_int)) a_nil))) (fun v_near_991 => (g_append C 6 (x_callD C D__law_made (a_dat (x_var C 2) (a_dat (x_callD C D__law_next (a_dat (x_var C 3) (a_dat (x_modC (x_ixQ (q_own C 1) (x_add x_int (x_var C 2)))) a_nil))) (a_dat (x_var C 4) a_nil)))) (fun v_near_1012 => (g_append C 6 (x_callD C D__law_made (a_dat (x_var C 2) (a_dat (x_callD C D__law_next (a_dat (x_var C 3) (a_dat (x_modC (x_ixQ (q_own C 1) (x_add x_int (x_var C 2)))) a_nil))) (a_dat (x_add (x_var C 4) x_int) a_nil)))) (fun v_near_1035 => (g_append C 6 (x_callD C D__law_made (a_dat (x_modC (x_ixQ (q_own C 1) (x_add x_int (x_var C 2)))) (a_dat (x_callD C D__law_next (a_dat (x_var C 3) (a_dat x_int a_nil))) (a_dat (x_max2 C x_int (x_sub (x_var C 4) (x_modC (x_ixQ (q_own C 1) (x_add x_int (x_var C 2))))) Z.z_max) a_nil)))) (fun v_near_1065 => (g_append C 6 (x_callD C D__law_made (a_dat (x_modC (x_ixQ (q_own C 1) (x_add x_int (x_var C 2)))) (a_dat (x_callD C D__law_next (a_dat (x_var C 3) (a_dat x_int a_nil))) (a_dat (x_add x_int (x_modC (x_divC (x_ixQ (q_own C 1) (x_add x_int (x_var C 2)))))) a_nil)))) (fun v_near_1094 => (g_freeze 6 rfl (g_setLc (own := [("one", 10)]) (envC := [.bor (List.map em (p_script : (List Int))), .own (List.map em (v_draws_883 : (List Int))), .dat (em (v_turn_892 : Int)), .dat (em (v_seed_894 : Int)), .dat (em (v_many_907 : Int)), .dat (em (v_term_932 : D)), .dat (em (v_near_1094 : (List D))), .any, .any, .any, .any, .any, .any]) C 7 (w_x (x_var C 6)) (lcP_no (fun X_1102 C_1097 => (gt_name C_1097 10)) (fun X_1102 C_1097 v_one_1098 => (x_callD C_1097 D__law_size (a_dat (x_var C_1097 10) a_nil)))) (by decide +kernel) (ownS rfl own0) (.same (.same (.same (.same (.same (.same (.same (.same (.same (.same (.same (.same (.same .nil))))))))))))) (by decide) (hr := fun v_sizes_1096 => (g_forF (envL := fun s_1111 : Unit => [.bor (List.map em (p_script : (List Int))), .own (List.map em (v_draws_883 : (List Int))), .dat (em (v_turn_892 : Int)), .dat (em (v_seed_894 : Int)), .dat (em (v_many_907 : Int)), .dat (em (v_term_932 : D)), .dat (em (v_near_1094 : (List D))), .own (List.map em (v_sizes_1096 : (List Int))), .any, .any, .any, .any, .any]) (res := fun x : Bool => .dat (em x)) (φ := Fl.rt) C (w_enumL C (x_l (l_cat (q_x (x_var C 6)) (q_l (l_cutQ (q_x (x_var C 6)) o_none (o_some x_int))))) Z.z_enumerate) (fun s_1111 => (gt_pair C 9 10)) (.same (.same (.same (.same (.same (.same (.same (.same (.same (.same (.same (.same (.same .nil))))))))))))) (fun s_1111 v_k_1112 => (g_ifX (φ := Fl.rt) (t_not (t_x (x_callD C D__law_is (a_dat (x_D (x_callD C D_size (a_dat (x_var C 10) a_nil))) (a_dat (x_D (x_ixQ (q_own C 7) (x_modC (x_var C 9)))) a_nil))))) (g_ret (φ := fun x => x) x_bl (fun _ _ _ _ z => z)) early_rf (g_nilF (.same (.same (.same (.same (.same (.same (.same (.same (.same (.drop (.drop (.same (.same .nil)))))))))))))))) (fun _ _ _ _ z => z) (fun s_1111 => (g_forF (envL := fun s_1192 : Unit => [.bor (List.map em (p_script : (List Int))), .own (List.map em (v_draws_883 : (List Int))), .dat (em (v_turn_892 : Int)), .dat (em (v_seed_894 : Int)), .dat (em (v_many_907 : Int)), .dat (em (v_term_932 : D)), .dat (em (v_near_1094 : (List D))), .own (List.map em (v_sizes_1096 : (List Int))), .any, .any, .any, .any, .any]) (res := fun x : Bool => .dat (em x)) (φ := Fl.rt) C (w_l (l_lst (i_cons (x_tup2 x_int x_int) (i_cons (x_tup2 x_int x_int) (i_cons (x_tup2 x_int x_int) (i_cons (x_tup2 x_int x_int) (i_cons (x_tup2 x_int x_int) (i_cons (x_tup2 x_int x_int) (i_cons (x_tup2 x_int x_int) (i_cons (x_tup2 x_int x_int) (i_cons (x_tup2 x_int x_int) (i_cons (x_tup2 x_int x_int) (i_cons (x_tup2 x_int x_int) (i_cons (x_tup2 x_int x_int) i_nil)))))))))))))) (fun s_1192 => (gt_name C 8)) (.same (.same (.same (.same (.same (.same (.same (.same (.same (.same (.same (.same (.same .nil))))))))))))) (fun s_1192 v_pair_1193 => (g_set C 10 (x_ixQ (q_x (x_var C 6)) (x_ixT (i := 0) (g := fun x : (Int × Int) => x.1) (x_var C 8) (fun x => ⟨_, rfl, rfl⟩))) (fun v_one_1195 => (g_set C 11 (x_ixQ (q_x (x_var C 6)) (x_ixT (i := 1) (g := fun x : (Int × Int) => x.2) (x_var C 8) (fun x => ⟨_, rfl, rfl⟩))) (fun v_other_1199 => (g_set C 12 (x_sub (x_ixQ (q_own C 7) (x_ixT (i := 0) (g := fun x : (Int × Int) => x.1) (x_var C 8) (fun x => ⟨_, rfl, rfl⟩))) (x_ixQ (q_own C 7) (x_ixT (i := 1) (g := fun x : (Int × Int) => x.2) (x_var C 8) (fun x => ⟨_, rfl, rfl⟩)))) (fun v_below_1203 => (g_ifJ (envJ := fun s_1214 : Int => [.bor (List.map em (p_script : (List Int))), .own (List.map em (v_draws_883 : (List Int))), .dat (em (v_turn_892 : Int)), .dat (em (v_seed_894 : Int)), .dat (em (v_many_907 : Int)), .dat (em (v_term_932 : D)), .dat (em (v_near_1094 : (List D))), .own (List.map em (v_sizes_1096 : (List Int))), .dat (em (v_pair_1193 : (Int × Int))), .any, .dat (em (v_one_1195 : D)), .dat (em (v_other_1199 : D)), .dat (em (s_1214 : Int))]) (t_eq (x_var C 12) x_int) (g_set C 12 (x_callD C D__law_walk (a_dat (x_var C 10) (a_dat (x_var C 11) a_nil))) (fun v_below_1215 => (g_nil (.same (.same (.same (.same (.same (.same (.same (.same (.same (.same (.same (.same (.same .nil)))))))))))))))) (g_nil (.same (.same (.same (.same (.same (.same (.same (.same (.same (.same (.same (.same (.same .nil)))))))))))))) (fun s_1214 => (g_ifX (φ := Fl.rt) (t_w (w_or (t_not (t_x (x_callD C D__law_is (a_dat (x_D (x_callD C D_before (a_dat (x_var C 10) (a_dat (x_var C 11) a_nil)))) (a_dat (x_D (x_lt (x_var C 12) x_int)) a_nil))))) (w_or1 (t_not (t_x (x_callD C D__law_is (a_dat (x_D (x_callD C D_before (a_dat (x_var C 11) (a_dat (x_var C 10) a_nil)))) (a_dat (x_D (x_gt (x_var C 12) x_int)) a_nil)))))))) (g_ret (φ := fun x => x) x_bl (fun _ _ _ _ z => z)) early_rf (g_nilF (.same (.same (.same (.same (.same (.same (.same (.same (.drop (.same (.drop (.drop (.drop .nil)))))))))))))))))))))))) (fun _ _ _ _ z => z) (fun s_1192 => (g_nilF (.same (.same (.drop (.drop (.drop (.drop (.drop (.drop (.same (.same (.same (.same (.same .nil)))))))))))))))))))))))))))))))))))))))) hzD (fun s_891 => (g_ret (φ := fun x => x) x_bl (fun _ _ _ _ z => z.1))))))
end
end K20

set_option Elab.async false
set_option linter.all false
set_option maxRecDepth 100000
set_option maxHeartbeats 4000000
namespace T
open PySem PySem.Spec PyProof.Rows L2
variable {τ α β γ δ ρ B S ι : Type}
/-! ### loops that succeed -/
theorem foldO_inv {f : S → α → Option S} (Inv : Nat → S → Prop) : ∀ (xs : List α) (n : Nat) (s0 : S), Inv n s0 → (∀ i x s, xs[i]? = some x → Inv (n + i) s → ∃ s', f s x = some s' ∧ Inv (n + i + 1) s') → ∃ s', foldO f s0 xs = some s' ∧ Inv (n + xs.length) s'
  | [], n, s0, h0, _ => ⟨s0, rfl, h0⟩
  | x :: xs, n, s0, h0, st => by
    obtain ⟨s1, e1, h1⟩ := st 0 x s0 rfl h0
    obtain ⟨s2, e2, h2⟩ := foldO_inv Inv xs (n + 1) s1 h1 fun i y s hy hs => by
      obtain ⟨s', a, b⟩ := st (i + 1) y s hy (by rw [show n + (i + 1) = n + 1 + i by omega]; exact hs)
      exact ⟨s', a, by rw [show n + 1 + i + 1 = n + (i + 1) + 1 by omega]; exact b⟩
    refine ⟨s2, ?_, by rw [List.length_cons, show n + (xs.length + 1) = n + 1 + xs.length by omega]; exact h2⟩
    show (f s0 x).bind _ = _
    rw [e1]
    exact e2
theorem foldO_ok {f : S → α → Option S} {xs : List α} {s0 : S} (Inv : Nat → S → Prop) (h0 : Inv 0 s0) (st : ∀ i x s, xs[i]? = some x → Inv i s → ∃ s', f s x = some s' ∧ Inv (i + 1) s') : ∃ s', foldO f s0 xs = some s' ∧ Inv xs.length s' := by
  obtain ⟨s', a, b⟩ := foldO_inv Inv xs 0 s0 h0 fun i x s hx hs => by
    rw [Nat.zero_add] at hs ⊢
    exact st i x s hx hs
  rw [Nat.zero_add] at b
  exact ⟨s', a, b⟩
/-- a loop that never leaves -/
theorem loopO_inv {f : S → α → Option (Fl ρ S S)} (Inv : Nat → S → Prop) : ∀ (xs : List α) (n : Nat) (s0 : S), Inv n s0 → (∀ i x s, xs[i]? = some x → Inv (n + i) s → ∃ s', (f s x = some (.nx s') ∨ f s x = some (.ct s')) ∧ Inv (n + i + 1) s') → ∃ s', loopO f s0 xs = some (.fin s') ∧ Inv (n + xs.length) s'
  | [], n, s0, h0, _ => ⟨s0, rfl, h0⟩
  | x :: xs, n, s0, h0, st => by
    obtain ⟨s1, e1, h1⟩ := st 0 x s0 rfl h0
    obtain ⟨s2, e2, h2⟩ := loopO_inv Inv xs (n + 1) s1 h1 fun i y s hy hs => by
      obtain ⟨s', a, b⟩ := st (i + 1) y s hy (by rw [show n + (i + 1) = n + 1 + i by omega]; exact hs)
      exact ⟨s', a, by rw [show n + 1 + i + 1 = n + (i + 1) + 1 by omega]; exact b⟩
    refine ⟨s2, ?_, by rw [List.length_cons, show n + (xs.length + 1) = n + 1 + xs.length by omega]; exact h2⟩
    show (f s0 x).bind _ = _
    rcases e1 with e1 | e1
    · rw [e1]; exact e2
    · rw [e1]; exact e2
theorem loopO_ok {f : S → α → Option (Fl ρ S S)} {xs : List α} {s0 : S} (Inv : Nat → S → Prop) (h0 : Inv 0 s0) (st : ∀ i x s, xs[i]? = some x → Inv i s → ∃ s', (f s x = some (.nx s') ∨ f s x = some (.ct s')) ∧ Inv (i + 1) s') : ∃ s', loopO f s0 xs = some (.fin s') ∧ Inv xs.length s' := by
  obtain ⟨s', a, b⟩ := loopO_inv Inv xs 0 s0 h0 fun i x s hx hs => by
    rw [Nat.zero_add] at hs ⊢
    exact st i x s hx hs
  rw [Nat.zero_add] at b
  exact ⟨s', a, b⟩
/-- a loop that goes on or hands back one value -/
theorem loopO_any {f : S → α → Option (Fl ρ S S)} (Inv : S → Prop) (R : ρ → Prop) : ∀ (xs : List α) (s0 : S), Inv s0 → (∀ x s, x ∈ xs → Inv s → ∃ o, f s x = some o ∧ match o with | .nx s' => Inv s' | .ct s' => Inv s' | .bk s' => Inv s' | .rt r => R r) → ∃ o, loopO f s0 xs = some o ∧ match o with | .fin s' => Inv s' | .ret r => R r
  | [], s0, h0, _ => ⟨_, rfl, h0⟩
  | x :: xs, s0, h0, st => by
    obtain ⟨o, e1, h1⟩ := st x s0 (List.mem_cons_self) h0
    show ∃ o', (f s0 x).bind _ = some o' ∧ _
    rw [e1]
    cases o with
    | nx s' => exact loopO_any Inv R xs s' h1 fun y s hy hs => st y s (List.mem_cons_of_mem _ hy) hs
    | ct s' => exact loopO_any Inv R xs s' h1 fun y s hy hs => st y s (List.mem_cons_of_mem _ hy) hs
    | bk s' => exact ⟨_, rfl, h1⟩
    | rt r => exact ⟨_, rfl, h1⟩
theorem lcO_t {f : α → Option β} : ∀ xs : List α, lcO (fun _ => some true) f xs = mapO f xs
  | [] => rfl
  | x :: xs => by
    show (some true).bind _ = _
    rw [Option.bind_some, if_pos rfl]
    show (f x).bind _ = (f x).bind _
    rw [lcO_t xs]
theorem lcC_t {f : α → Option β} {xs : List α} : lcC (fun _ => some true) f xs = mapC f xs := by unfold lcC mapC; rw [lcO_t]
/-- not by rfl: a plain rewriting -/
theorem bsm (x : α) (f : α → Option β) : (some x).bind f = f x := by
  generalize h : (some x).bind f = y
  rw [Option.bind_some] at h
  exact h.symm
theorem basm (m : Option α) (f : α → Option β) (g : β → Option γ) : (m.bind f).bind g = m.bind fun x => (f x).bind g := by
  cases m with
  | none => rfl
  | some x => rw [bsm, bsm]
/-- it answers, and P holds of the answer -/
def Ok (m : Option α) (P : α → Prop) : Prop := ∃ r, m = some r ∧ P r
theorem Ok.bind {m : Option α} {f : α → Option β} {P : α → Prop} {Q : β → Prop} (h : Ok m P) (k : ∀ a, P a → Ok (f a) Q) : Ok (m.bind f) Q := by
  obtain ⟨a, rfl, p⟩ := h
  exact k a p
theorem Ok.one {m : Option α} {f : α → Option β} {a : α} {Q : β → Prop} (h : m = some a) (k : Ok (f a) Q) : Ok (m.bind f) Q := by
  subst h
  exact k
theorem Ok.some {a : α} {P : α → Prop} (h : P a) : Ok (Option.some a) P := ⟨a, rfl, h⟩
theorem Ok.eq {m : Option α} {a : α} {P : α → Prop} (e : m = Option.some a) (h : P a) : Ok m P := ⟨a, e, h⟩
theorem Ok.imp {m : Option α} {P Q : α → Prop} (h : Ok m P) (k : ∀ a, P a → Q a) : Ok m Q := let ⟨a, e, p⟩ := h; ⟨a, e, k a p⟩
theorem Ok.ite {c : Prop} [Decidable c] {m n : Option α} {P : α → Prop} (h1 : c → Ok m P) (h2 : ¬ c → Ok n P) : Ok (if c then m else n) P := by
  by_cases h : c
  · rw [if_pos h]; exact h1 h
  · rw [if_neg h]; exact h2 h
theorem Ok.get {m : Option α} {a : α} (h : Ok m fun x => x = a) : m = Option.some a := by obtain ⟨b, e, rfl⟩ := h; exact e
theorem Ok.fold {f : S → α → Option S} {xs : List α} {s0 : S} {P : S → Prop} (Inv : Nat → S → Prop) (h0 : Inv 0 s0) (st : ∀ i x s, xs[i]? = Option.some x → Inv i s → Ok (f s x) (Inv (i + 1))) (hp : ∀ s, Inv xs.length s → P s) : Ok (foldO f s0 xs) P := by
  obtain ⟨s', a, b⟩ := foldO_ok Inv h0 st
  exact ⟨s', a, hp s' b⟩
theorem mapO_ok {f : α → Option β} {P : Nat → α → β → Prop} : ∀ (xs : List α) (n : Nat), (∀ i x, xs[i]? = some x → ∃ y, f x = some y ∧ P (n + i) x y) → ∃ ys, mapO f xs = some ys ∧ ys.length = xs.length ∧ ∀ i x y, xs[i]? = some x → ys[i]? = some y → P (n + i) x y
  | [], n, _ => ⟨[], rfl, rfl, fun i x y h => by simp at h⟩
  | x :: xs, n, st => by
    obtain ⟨y, e, p⟩ := st 0 x rfl
    obtain ⟨ys, e2, hl, p2⟩ := mapO_ok (P := P) xs (n + 1) fun i z hz => by
      obtain ⟨y', a, b⟩ := st (i + 1) z hz
      exact ⟨y', a, by rw [show n + 1 + i = n + (i + 1) by omega]; exact b⟩
    refine ⟨y :: ys, ?_, by rw [List.length_cons, List.length_cons, hl], fun i z w hz hw => ?_⟩
    · show (f x).bind _ = _
      rw [e]
      show (mapO f xs).bind _ = _
      rw [e2]
      rfl
    · cases i with
      | zero => cases hz; cases hw; exact p
      | succ i => have := p2 i z w hz hw; rwa [show n + 1 + i = n + (i + 1) by omega] at this
theorem lcC_ok {f : α → Option β} {P : Nat → α → β → Prop} {xs : List α} (hz : xs.length < 16777216) (st : ∀ i x, xs[i]? = some x → ∃ y, f x = some y ∧ P i x y) : ∃ ys, lcC (fun _ => some true) f xs = some ys ∧ ys.length = xs.length ∧ ∀ i x y, xs[i]? = some x → ys[i]? = some y → P i x y := by
  obtain ⟨ys, a, b, c⟩ := mapO_ok (P := P) xs 0 fun i x hx => by rw [Nat.zero_add]; exact st i x hx
  refine ⟨ys, ?_, b, fun i x y h1 h2 => by have := c i x y h1 h2; rwa [Nat.zero_add] at this⟩
  rw [lcC_t]
  unfold mapC
  rw [if_pos (show sz xs.length from hz)]
  exact a
/-- a plain map -/
theorem mapO_map {f : α → Option β} {g : α → β} : ∀ {xs : List α}, (∀ x ∈ xs, f x = some (g x)) → mapO f xs = some (xs.map g)
  | [], _ => rfl
  | x :: xs, h => by
    show (f x).bind _ = _
    rw [h x List.mem_cons_self]
    show (mapO f xs).bind _ = _
    rw [mapO_map fun y hy => h y (List.mem_cons_of_mem _ hy)]
    rfl
theorem lcC_map {f : α → Option β} {g : α → β} {xs : List α} (hz : xs.length < 16777216) (h : ∀ x ∈ xs, f x = some (g x)) : lcC (fun _ => some true) f xs = some (xs.map g) := by
  rw [lcC_t]
  unfold mapC
  rw [if_pos (show sz xs.length from hz), mapO_map h]
theorem lcO_filter {c : α → Option Bool} {f : α → Option β} {p : α → Bool} {g : α → β} : ∀ {xs : List α}, (∀ x ∈ xs, c x = some (p x)) → (∀ x ∈ xs, p x = true → f x = some (g x)) → lcO c f xs = some ((xs.filter p).map g)
  | [], _, _ => rfl
  | x :: xs, h, h' => by
    show (c x).bind _ = _
    rw [h x List.mem_cons_self]
    show (if p x = true then (f x).bind (fun y => (lcO c f xs).bind fun ys => some (y :: ys)) else lcO c f xs) = _
    rw [lcO_filter (fun y hy => h y (List.mem_cons_of_mem _ hy)) fun y hy => h' y (List.mem_cons_of_mem _ hy)]
    by_cases hp : p x = true
    · rw [if_pos hp, h' x List.mem_cons_self hp, List.filter_cons_of_pos hp]
      rfl
    · rw [if_neg hp, List.filter_cons_of_neg hp]
theorem lcC_filter {c : α → Option Bool} {f : α → Option β} {p : α → Bool} {g : α → β} {xs : List α} (hz : xs.length < 16777216) (h : ∀ x ∈ xs, c x = some (p x)) (h' : ∀ x ∈ xs, p x = true → f x = some (g x)) : lcC c f xs = some ((xs.filter p).map g) := by
  unfold lcC
  rw [if_pos (show sz xs.length from hz), lcO_filter h h']
/-! ### ranges, items -/
theorem rngP_eq {n : Int} (h : n ≤ 16777216) (h0 : 0 ≤ n) : rngP 0 n = some (rng 0 n) := by
  unfold rngP
  rw [if_pos (by omega)]
theorem rng_len (n : Nat) : (rng 0 (n : Int)).length = n := by unfold rng; simp
theorem rng_nat {n : Nat} {i : Nat} {x : Int} (h : (rng 0 (n : Int))[i]? = some x) : i < n ∧ x = (i : Int) := by
  obtain ⟨h1, h2⟩ := rng_get h
  exact ⟨by omega, by omega⟩
theorem rng_mem {a b x : Int} (h : x ∈ rng a b) : a ≤ x ∧ x < b := by
  unfold rng at h
  simp only [List.mem_map, List.mem_range] at h
  obtain ⟨i, h1, rfl⟩ := h
  omega
theorem rngL_eq {n : Nat} (h : n ≤ 16777216) : rngL 0 (n : Int) = some ((List.range n).map fun i : Nat => (i : Int)) := by
  unfold rngL
  rw [if_pos (by omega)]
  unfold rng
  simp
theorem atI_nat {xs : List α} {i : Int} {j : Nat} (h : i = (j : Int)) (hj : j < xs.length) : atI xs i = some xs[j] := by
  subst h
  unfold atI ixN
  rw [if_pos (by omega)]
  simp [hj]
theorem atI_of {xs : List α} {i : Int} (h0 : 0 ≤ i) (h1 : i < xs.length) : ∃ x, atI xs i = some x ∧ x ∈ xs ∧ xs[i.toNat]? = some x := by
  have hj : i.toNat < xs.length := by omega
  exact ⟨xs[i.toNat], atI_nat (by omega) hj, List.getElem_mem _, List.getElem?_eq_getElem hj⟩
theorem setP_of {xs : List α} {i : Int} {x : α} (h0 : 0 ≤ i) (h1 : i < xs.length) : setP xs i x = some (xs.set i.toNat x) := by
  unfold setP ixN
  rw [if_pos h0, if_pos h1]
  rfl
theorem appP_eq {xs : List α} {x : α} (h : xs.length < 16777216) : appP xs x = some (xs ++ [x]) := by unfold appP; rw [if_pos (show sz xs.length from h)]
theorem catL_eq {xs ys : List α} (h : xs.length + ys.length < 16777216) : catL xs ys = some (xs ++ ys) := by unfold catL; rw [if_pos h]
theorem lstP_eq {xs : List α} (h : xs.length < 16777216) : lstP xs = some xs := by unfold lstP; rw [if_pos (show sz xs.length from h)]
theorem modP_eq {x y : Int} (h : y ≠ 0) : modP x y = some (x.fmod y) := by unfold modP; rw [if_neg h]
theorem divP_eq {x y : Int} (h : y ≠ 0) (h2 : y.natAbs < 1073741824) : divP x y = some (x.fdiv y) := by unfold divP; rw [if_neg h, if_pos h2]
theorem mulP_eq {x y : Int} (h : x.natAbs < 18446744073709551616 ∨ y.natAbs < 18446744073709551616) : mulP x y = some (x * y) := by unfold mulP; rw [if_pos (by omega)]
theorem lenS_eq {s : Str} (h : s.length < 16777216) : lenS s = some (s.length : Int) := by unfold lenS; rw [if_pos (show sz s.length from h)]
theorem fmod_lo {x y : Int} (h : 0 < y) : 0 ≤ x.fmod y := Int.fmod_nonneg_of_pos _ h
theorem fmod_hi {x y : Int} (h : 0 < y) : x.fmod y < y := Int.fmod_lt_of_pos _ h
theorem fmod_emod {x y : Int} (h : 0 ≤ y) : x.fmod y = x % y := Int.fmod_eq_emod_of_nonneg _ h
theorem fdiv_ediv {x y : Int} (h : 0 ≤ y) : x.fdiv y = x / y := Int.fdiv_eq_ediv_of_nonneg _ h
theorem andO_some (x : Bool) (y : Option Bool) : andO (some x) y = if x = true then y else some false := rfl
theorem orO_some (x : Bool) (y : Option Bool) : orO (some x) y = if x = true then some true else y := rfl
/-! ### texts -/
theorem slen (s : Str) : s.length = s.cps.toList.length := by simp [Str.length]
theorem strAt_eq {s : Str} {i : Int} {j : Nat} (h : i = (j : Int)) (hj : j < s.cps.toList.length) (hz : s.length < 16777216) : strAt s i = some ⟨#[s.cps.toList[j]]⟩ := by
  unfold strAt
  rw [if_pos (show sz s.length from hz), atI_nat h hj]
  rfl
theorem strAt_of {s : Str} {i : Int} (h0 : 0 ≤ i) (h1 : i < s.length) (hz : s.length < 16777216) : Ok (strAt s i) fun c => c.length = 1 ∧ ∃ q, c = ⟨#[q]⟩ ∧ q ∈ s.cps.toList ∧ s.cps.toList[i.toNat]? = some q := by
  have hj : i.toNat < s.cps.toList.length := by rw [slen] at h1; omega
  exact Ok.eq (strAt_eq (j := i.toNat) (by omega) hj hz) ⟨rfl, _, rfl, List.getElem_mem _, List.getElem?_eq_getElem hj⟩
theorem sIx_le' (n d : Nat) (h : d ≤ n) (o : Option Int) : HT.sIx n d o ≤ n ∨ ∃ v, o = some v ∧ v < 0 := by
  cases o with
  | none => exact .inl h
  | some v =>
    by_cases hv : v < 0
    · exact .inr ⟨v, rfl, hv⟩
    · left
      unfold HT.sIx
      simp only [hv, if_false]
      exact Nat.min_le_right _ _
theorem cutS_len (z : Str) (lo hi : Option Int) : (cutS z lo hi).length ≤ z.length := by
  rw [slen, slen]
  unfold cutS
  simp only [List.length_take, List.length_drop]
  omega
theorem cutP_eq {z : Str} {lo hi : Option Int} (h : z.length < 16777216) : cutP z lo hi = some (cutS z lo hi) := by unfold cutP; rw [if_pos (show sz z.length from h)]
theorem cutS_to (z : Str) (k : Nat) : (cutS z none (some (k : Int))).cps.toList = z.cps.toList.take k := by
  unfold cutS
  rw [HT.sIx_none, HT.sIx_nat]
  show ((z.cps.toList.drop 0).take (min k z.length - 0)) = _
  rw [List.drop_zero, Nat.sub_zero, slen, Nat.min_comm, List.take_eq_take_min (i := k), Nat.min_comm]
theorem cutS_from (z : Str) (k : Nat) : (cutS z (some (k : Int)) none).cps.toList = z.cps.toList.drop k := by
  unfold cutS
  rw [HT.sIx_none, HT.sIx_nat]
  show ((z.cps.toList.drop (min k z.length)).take (z.length - min k z.length)) = _
  rw [List.take_of_length_le (by rw [List.length_drop, ← slen]; omega), slen]
  by_cases h : k ≤ z.cps.toList.length
  · rw [Nat.min_eq_left h]
  · rw [Nat.min_eq_right (by omega), List.drop_of_length_le (Nat.le_refl _), List.drop_of_length_le (by omega)]
theorem revP_eq {z : Str} (h : z.length < 16777216) : revP z = some (revS z) := by unfold revP; rw [if_pos (show sz z.length from h)]
theorem revS_len (z : Str) : (revS z).length = z.length := by rw [slen, slen]; simp [revS]
theorem append_len (x y : Str) : (x ++ y).length = x.length + y.length := by rw [slen, slen, slen, ← List.length_append, ← TL.tl_append]
theorem catS_eq {x y : Str} (h : x.length + y.length < 16777216) : catS x y = some (x ++ y) := by unfold catS; rw [if_pos h]
theorem joinP_ones {ys : List Str} (h : ∀ y ∈ ys, y.length = 1) (hz : ys.length ≤ 16777216) : Ok (joinP "" ys) fun s => s.length = ys.length := by
  have hs : (ys.map (·.length)).sum = ys.length := by
    clear hz
    induction ys with
    | nil => rfl
    | cons y ys ih =>
      rw [List.map_cons, List.sum_cons, ih fun z hz => h z (List.mem_cons_of_mem _ hz), h y List.mem_cons_self, List.length_cons]
      omega
  have he : ("" : Str).length = 0 := by decide +kernel
  unfold joinP
  rw [if_pos (by rw [hs, he, Nat.mul_zero]; exact hz)]
  refine Ok.some ?_
  show (Builtin.Str.glued "" ys).length = _
  rw [size_glued, hs, he, Nat.mul_zero]
  rfl
theorem mulS_ok {x : Str} {n : Int} {L M : Nat} (hx : x.length ≤ L) (h0 : 0 ≤ n) (hn : n ≤ (M : Int)) (hM : M ≤ 16777216) (hLM : L * M ≤ 16777216) : Ok (mulS x n) fun s => s = Txt.mul x n ∧ s.length ≤ L * M := by
  unfold mulS
  rw [if_pos (PyProof.Rows.mulOk_of L M hx hn (by omega) hM hLM)]
  exact Ok.some ⟨rfl, len_mul_leN hx hn⟩
/-! ### the draws that most laws begin with -/
def drawsM (p_script : (List Int)) (p_count : Int) : Option (List Int) := (lcC (fun _ : Int => some true) (fun v_cell_55 : Int => some (absI v_cell_55)) p_script).bind fun v_cells_53 => (if (decide (((List.length v_cells_53 : Int)) = ((0 : Int)))) = true then let v_cells_64 := ([((0 : Int))] : (List Int)); some v_cells_64 else some v_cells_53).bind fun s_63 : (List Int) => let v_many_68 := (List.length s_63 : Int); let v_draws_70 := ([] : (List Int)); (rngP 0 p_count).bind fun y_74 => (foldO (fun (s_72 : ((List Int) × (List Int))) (v_k_73 : Int) => (modP v_k_73 v_many_68).bind fun v_at_75 => (atI s_72.1 v_at_75).bind fun v_cell_78 => (if (decide (((1000000000000000000 : Int)) ≤ v_cell_78)) = true then (appP s_72.2 ((Int.fmod v_cell_78 (1009 : Int)))).bind fun v_draws_86 => (setP s_72.1 v_at_75 ((Int.fdiv v_cell_78 (1009 : Int)))).bind fun v_cells_88 => some (v_cells_88, v_draws_86) else let v_mixed_94 := (Int.fmod ((((((v_cell_78 * (48271 : Int))) + ((v_k_73 * (69621 : Int))))) + ((40503 : Int)))) (2147483647 : Int)); ((((mulP v_mixed_94 v_mixed_94).bind fun y_105 => some ((y_105 + ((v_cell_78 * (16807 : Int)))))).bind fun y_107 => some ((y_107 + v_k_73))).bind fun y_109 => some ((Int.fmod y_109 (2147483629 : Int)))).bind fun y_111 => (appP s_72.2 y_111).bind fun v_draws_110 => some (s_72.1, v_draws_110)).bind fun s_83 : ((List Int) × (List Int)) => some (s_83.1, s_83.2)) (s_63, v_draws_70) y_74).bind fun s_72 => some s_72.2
theorem draws_ok {script : List Int} {n : Nat} (hs : script.length ≤ 63) (hn : n ≤ 100000) : Ok (drawsM script (n : Int)) fun ds => ds.length = n ∧ ∀ d ∈ ds, 0 ≤ d ∧ d < 2147483629 := by
  unfold drawsM
  refine Ok.one (lcC_map (g := absI) (by omega) fun x hx => rfl) ?_
  refine Ok.bind (P := fun cells => 0 < cells.length ∧ cells.length ≤ 63) (Ok.ite (fun h => Ok.some ⟨by decide, by decide⟩) fun h => Ok.some ⟨?_, by rw [List.length_map]; exact hs⟩) ?_
  · simp at h
    rw [List.length_map]
    exact List.length_pos_iff.mpr h
  rintro cells ⟨p0, p1⟩
  refine Ok.one (rngP_eq (by omega) (by omega)) ?_
  refine Ok.bind (P := fun s => s.1.length = cells.length ∧ s.2.length = n ∧ ∀ d ∈ s.2, 0 ≤ d ∧ d < 2147483629) ?_ fun s h => Ok.some h.2
  refine Ok.fold (fun i s => s.1.length = cells.length ∧ s.2.length = i ∧ ∀ d ∈ s.2, 0 ≤ d ∧ d < 2147483629) ⟨rfl, rfl, fun d h => by cases h⟩ ?_ fun s h => by rw [rng_len] at h; exact h
  rintro i x ⟨cs, ds⟩ hx ⟨q1, q2, q3⟩
  obtain ⟨hi, rfl⟩ := rng_nat hx
  refine Ok.one (modP_eq (by omega)) ?_
  have m0 := fmod_lo (x := (i : Int)) (show (0 : Int) < (cells.length : Int) by omega)
  have m1 := fmod_hi (x := (i : Int)) (show (0 : Int) < (cells.length : Int) by omega)
  obtain ⟨cell, e1, _⟩ := atI_of (xs := cs) m0 (by rw [q1]; exact m1)
  refine Ok.one e1 ?_
  have app : ∀ d : Int, 0 ≤ d → d < 2147483629 → ∀ d' ∈ ds ++ [d], 0 ≤ d' ∧ d' < 2147483629 := fun d a b d' h => by
    rcases List.mem_append.mp h with h | h
    · exact q3 d' h
    · rw [List.mem_singleton.mp h]; exact ⟨a, b⟩
  refine Ok.bind (P := fun s => s.1.length = cells.length ∧ s.2.length = i + 1 ∧ ∀ d ∈ s.2, 0 ≤ d ∧ d < 2147483629) (Ok.ite (fun h => ?_) fun h => ?_) fun s h => Ok.some h
  · refine Ok.one (appP_eq (by show ds.length < _; have q2 : ds.length = i := q2; omega)) (Ok.one (setP_of m0 (by show _ < (cs.length : Int); have q1 : cs.length = cells.length := q1; rw [q1]; exact m1)) (Ok.some ⟨?_, ?_, ?_⟩))
    · show (cs.set _ _).length = _
      rw [List.length_set]; exact q1
    · show (ds ++ _).length = _
      rw [List.length_append]; exact congrArg (· + 1) q2
    · exact app _ (fmod_lo (by decide)) (Int.lt_trans (fmod_hi (by decide)) (by decide))
  · have b0 := fmod_lo (x := cell * 48271 + (i : Int) * 69621 + 40503) (show (0 : Int) < 2147483647 by decide)
    have b1 := fmod_hi (x := cell * 48271 + (i : Int) * 69621 + 40503) (show (0 : Int) < 2147483647 by decide)
    refine Ok.one (a := ?v) ?e ?_
    case e =>
      rw [mulP_eq (Or.inl (by omega))]
      rfl
    refine Ok.one (appP_eq (by show ds.length < _; have q2 : ds.length = i := q2; omega)) (Ok.some ⟨q1, ?_, ?_⟩)
    · show (ds ++ _).length = _
      rw [List.length_append]; exact congrArg (· + 1) q2
    · exact app _ (fmod_lo (by decide)) (fmod_hi (by decide))
/-! ### loops that never leave -/
theorem Ok.loop {f : S → α → Option (Fl ρ S S)} {xs : List α} {s0 : S} {φ : ρ → β} {kk : S → Option β} {P : β → Prop} (Inv : Nat → S → Prop) (h0 : Inv 0 s0)
    (st : ∀ i x s, xs[i]? = Option.some x → Inv i s → Ok (f s x) fun o => ∃ s', (o = .nx s' ∨ o = .ct s') ∧ Inv (i + 1) s') (hk : ∀ s, Inv xs.length s → Ok (kk s) P) : Ok ((loopO f s0 xs).bind (Lp.go φ kk)) P := by
  obtain ⟨s', e, h⟩ := loopO_ok (f := f) (xs := xs) (s0 := s0) Inv h0 fun i x s hx hs => by
    obtain ⟨o, e1, s', e2, h⟩ := st i x s hx hs
    rcases e2 with rfl | rfl
    · exact ⟨s', .inl e1, h⟩
    · exact ⟨s', .inr e1, h⟩
  rw [e]
  exact hk s' h
/-- a loop whose turns change nothing -/
theorem Ok.loop0 {f : Unit → α → Option (Fl ρ Unit Unit)} {xs : List α} {φ : ρ → β} {kk : Unit → Option β} {P : β → Prop} (st : ∀ x, x ∈ xs → f () x = Option.some (Fl.nx ())) (hk : Ok (kk ()) P) : Ok ((loopO f () xs).bind (Lp.go φ kk)) P :=
  Ok.loop (fun _ _ => True) trivial (fun i x s hx _ => Ok.eq (st x (List.mem_of_getElem? hx)) ⟨(), .inl rfl, trivial⟩) fun s _ => hk
/-! ### the comparison that most laws make -/
def sameM : Nat → D → D → Option Bool
  | 0, _, _ => none
  | n + 1, p_actual, p_due => ((some p_due).bind fun y_122 => isiP "bool" (em y_122)).bind fun c_185 => if c_185 = true then ((andO ((some p_actual).bind fun y_123 => isiP "bool" (em y_123)) ((some p_actual).bind fun y_124 => (some p_due).bind fun y_125 => eqD y_124 y_125)).bind fun r_126 => some r_126).bind fun r_184 => some (id r_184) else ((some p_due).bind fun y_127 => isiP "int" (em y_127)).bind fun c_183 => if c_183 = true then ((andO ((some p_actual).bind fun y_128 => isiP "int" (em y_128)) (andO (((some p_actual).bind fun y_129 => isiP "bool" (em y_129)).bind fun y_130 => some (!y_130)) ((some p_actual).bind fun y_131 => (some p_due).bind fun y_132 => eqD y_131 y_132))).bind fun r_133 => some r_133).bind fun r_182 => some (id r_182) else ((some p_due).bind fun y_134 => isiP "str" (em y_134)).bind fun c_181 => if c_181 = true then ((andO ((some p_actual).bind fun y_135 => isiP "str" (em y_135)) ((some p_actual).bind fun y_136 => (some p_due).bind fun y_137 => eqD y_136 y_137)).bind fun r_138 => some r_138).bind fun r_180 => some (id r_180) else ((some p_due).bind fun y_139 => some (isN (em y_139))).bind fun c_179 => if c_179 = true then (((some p_actual).bind fun y_140 => some (isN (em y_140))).bind fun r_141 => some r_141).bind fun r_178 => some (id r_178) else (andO ((some p_due).bind fun y_142 => isiP "tuple" (em y_142)) (((some p_actual).bind fun y_143 => isiP "tuple" (em y_143)).bind fun y_144 => some (!y_144))).bind fun c_177 => if c_177 = true then ((some false).bind fun r_145 => some r_145).bind fun r_176 => some (id r_176) else (andO ((some p_due).bind fun y_146 => isiP "list" (em y_146)) (((some p_actual).bind fun y_147 => isiP "list" (em y_147)).bind fun y_148 => some (!y_148))).bind fun c_175 => if c_175 = true then ((some false).bind fun r_149 => some r_149).bind fun r_174 => some (id r_174) else (((some p_actual).bind fun y_150 => lenD y_150).bind fun y_152 => ((some p_due).bind fun y_151 => lenD y_151).bind fun y_153 => some (!decide (y_152 = y_153))).bind fun c_173 => if c_173 = true then ((some false).bind fun r_154 => some r_154).bind fun r_172 => some (id r_172) else ((some p_actual).bind fun y_155 => (some p_due).bind fun y_156 => zipD y_155 y_156).bind fun y_159 => (loopO (fun (s_157 : Unit) (v_one_158 : (D × D)) => (((((some v_one_158.1).bind fun y_162 => ((some v_one_158.2).bind fun y_160 => (some ()).bind fun y_161 => some (y_160, y_161)).bind fun y_163 => some (y_162, y_163)).bind (fun a : D × D × Unit => sameM n a.1 a.2.1)).bind fun y_166 => some (!y_166)).bind fun c_169 => if c_169 = true then ((some false).bind fun r_167 => some r_167).bind fun r_168 => some (Fl.rt r_168) else some (Fl.nx ()) : Option (Fl Bool Unit Unit))) () y_159).bind (Lp.go (fun x => x) fun s_157 : Unit => (some true).bind fun r_170 => some r_170)
/-- data of lists, tuples and plain values, of a depth below n -/
def okD : Nat → D → Prop
  | 0, _ => False
  | n + 1, .tup l => ∀ x ∈ l, okD n x
  | n + 1, .lst l => ∀ x ∈ l, okD n x
  | _ + 1, .ins _ _ _ => False
  | _ + 1, _ => True
theorem same_its {f : D × D → Option Bool} : ∀ {l : List D}, (∀ x ∈ l, f (x, x) = some true) → ∃ s, loopO (fun (_ : Unit) (p : D × D) => (f p).bind fun x => if (!x) = true then some (Fl.rt false) else some (Fl.nx ())) () (l.zip l) = some (Lp.fin (ρ := Bool) s)
  | [], _ => ⟨(), rfl⟩
  | x :: l, h => by
    obtain ⟨s, e⟩ := same_its (f := f) fun y hy => h y (List.mem_cons_of_mem _ hy)
    refine ⟨s, ?_⟩
    rw [List.zip_cons_cons]
    show ((f (x, x)).bind _).bind _ = _
    rw [h x List.mem_cons_self]
    exact e
theorem same_refl : ∀ (n : Nat) (d : D), okD n d → sameM n d d = some true
  | 0, _, h => h.elim
  | n + 1, d, h => by
    unfold sameM
    simp only [bsm, basm]
    cases d with
    | non => rfl
    | bl b => simp [isiP, isD, tyD, em, Em.em, eqD, andO]
    | int b => simp [isiP, isD, tyD, em, Em.em, eqD, andO]
    | str b => simp [isiP, isD, tyD, em, Em.em, eqD, andO]
    | ins _ _ _ => exact h.elim
    | tup l =>
      obtain ⟨s, e⟩ := same_its (l := l) (f := fun p => sameM n p.1 p.2) fun x hx => same_refl n x (h x hx)
      simp only [show isiP "bool" (em (D.tup l)) = some false from rfl, show isiP "int" (em (D.tup l)) = some false from rfl, show isiP "str" (em (D.tup l)) = some false from rfl, show isiP "tuple" (em (D.tup l)) = some true from rfl, show isiP "list" (em (D.tup l)) = some false from rfl,
        show isN (em (D.tup l)) = false from rfl, show lenD (D.tup l) = some (l.length : Int) from rfl, show zipD (D.tup l) (D.tup l) = some (l.zip l) from rfl, bsm, andO_some, Bool.false_eq_true, if_false, if_true, Bool.not_true, decide_true]
      rw [e]
      rfl
    | lst l =>
      obtain ⟨s, e⟩ := same_its (l := l) (f := fun p => sameM n p.1 p.2) fun x hx => same_refl n x (h x hx)
      simp only [show isiP "bool" (em (D.lst l)) = some false from rfl, show isiP "int" (em (D.lst l)) = some false from rfl, show isiP "str" (em (D.lst l)) = some false from rfl, show isiP "tuple" (em (D.lst l)) = some false from rfl, show isiP "list" (em (D.lst l)) = some true from rfl,
        show isN (em (D.lst l)) = false from rfl, show lenD (D.lst l) = some (l.length : Int) from rfl, show zipD (D.lst l) (D.lst l) = some (l.zip l) from rfl, bsm, andO_some, Bool.false_eq_true, if_false, if_true, Bool.not_true, decide_true]
      rw [e]
      rfl
/-! ### loops that append -/
theorem fold_rng {f : List β → Int → Option (List β)} {g : Nat → β} {n : Nat} (h : ∀ (i : Nat) (s : List β), i < n → s.length = i → f s (i : Int) = some (s ++ [g i])) : foldO f [] (rng 0 (n : Int)) = some ((List.range n).map g) := by
  refine Ok.get (Ok.fold (fun i s => s = (List.range i).map g) rfl ?_ fun s h => by rw [rng_len] at h; exact h)
  rintro i x s hx rfl
  obtain ⟨hi, rfl⟩ := rng_nat hx
  refine Ok.eq (h i _ hi (by simp)) ?_
  rw [List.range_succ, List.map_append]
  rfl
theorem fold_map {f : List β → α → Option (List β)} {g : α → β} {xs : List α} (hz : xs.length ≤ 16777216) (h : ∀ (s : List β) x, x ∈ xs → s.length < xs.length → f s x = some (s ++ [g x])) : foldO f [] xs = some (xs.map g) := by
  refine Ok.get (Ok.fold (fun i s => s = (xs.take i).map g) rfl ?_ fun s h => by rw [List.take_length] at h; exact h)
  rintro i x s hx rfl
  obtain ⟨hi, e⟩ := List.getElem?_eq_some_iff.mp hx
  refine Ok.eq (h _ x (List.mem_of_getElem? hx) (by rw [List.length_map, List.length_take]; omega)) ?_
  rw [List.take_add_one, List.map_append, hx]
  rfl
theorem okD_em [Em τ] {n : Nat} {l : List τ} (h : ∀ x ∈ l, okD n (em x)) : ∀ x ∈ l.map em, okD n x := fun x hx => by
  obtain ⟨y, hy, rfl⟩ := List.mem_map.mp hx
  exact h y hy
theorem okD_vt [Em τ] {n : Nat} {l : Vt τ} (h : ∀ x ∈ l.l, okD n (em x)) : okD (n + 1) (em l) := okD_em h
theorem okD_list [Em τ] {n : Nat} {l : List τ} (h : ∀ x ∈ l, okD n (em x)) : okD (n + 1) (em l) := okD_em h
theorem rngP_nat {n : Nat} (h : n ≤ 16777216) : rngP 0 (n : Int) = some (rng 0 (n : Int)) := rngP_eq (by omega) (by omega)
/-! ### loops that may hand back a value -/
def LpP (Inv : S → Prop) (R : ρ → Prop) : Lp ρ S → Prop
  | .fin s => Inv s
  | .ret r => R r
def FlP (Inv : S → Prop) (R : ρ → Prop) : Fl ρ S S → Prop
  | .nx s => Inv s
  | .ct s => Inv s
  | .bk s => Inv s
  | .rt r => R r
theorem Ok.loopAny {f : S → α → Option (Fl ρ S S)} (Inv : S → Prop) (R : ρ → Prop) : ∀ {xs : List α} {s0 : S}, Inv s0 → (∀ x s, x ∈ xs → Inv s → Ok (f s x) (FlP Inv R)) → Ok (loopO f s0 xs) (LpP Inv R)
  | [], s0, h0, _ => ⟨_, rfl, h0⟩
  | x :: xs, s0, h0, st => by
    obtain ⟨o, e1, h1⟩ := st x s0 (List.mem_cons_self) h0
    have nxt : ∀ s', Inv s' → Ok (loopO f s' xs) (LpP Inv R) := fun s' h => Ok.loopAny Inv R h fun y s hy hs => st y s (List.mem_cons_of_mem _ hy) hs
    show Ok ((f s0 x).bind _) _
    refine Ok.one e1 ?_
    cases o with
    | nx s' => exact nxt s' h1
    | ct s' => exact nxt s' h1
    | bk s' => exact ⟨_, rfl, h1⟩
    | rt r => exact ⟨_, rfl, h1⟩
theorem Ok.go {φ : ρ → β} {kk : S → Option β} {Inv : S → Prop} {R : ρ → Prop} {P : β → Prop} {o : Lp ρ S} (h : LpP Inv R o) (h1 : ∀ r, R r → P (φ r)) (h2 : ∀ s, Inv s → Ok (kk s) P) : Ok (Lp.go φ kk o) P := by
  cases o with
  | fin s => exact h2 s h
  | ret r => exact ⟨_, rfl, h1 r h⟩
end T

set_option Elab.async false
set_option linter.all false
set_option maxRecDepth 100000
set_option maxHeartbeats 4000000
namespace K20
open PySem PySem.Spec PyProof.Rows L2 T
def LEAF : List Str := ["kind", "name"]
def NUM : List Str := ["atleast", "atmost", "exactly"]
def ONE : List Str := ["non", "every", "some", "no", "notevery", "not", "isle"]
def TWO : List Str := ["both", "either", "say", "and", "or", "if"]
/-- a term of a depth of n at most -/
inductive Tm : Nat → D → Prop
  | leaf {n : Nat} {w s : Str} : w ∈ LEAF → PyData.strOk s = true → s.length ≤ 12 → Tm (n + 1) (.tup [.str w, .str s])
  | num {n : Nat} {w : Str} {i : Int} {t : D} : w ∈ NUM → Tm n t → Tm (n + 1) (.tup [.str w, .int i, t])
  | one {n : Nat} {w : Str} {t : D} : w ∈ ONE → Tm n t → Tm (n + 1) (.tup [.str w, t])
  | two {n : Nat} {w : Str} {t u : D} : w ∈ TWO → Tm n t → Tm n u → Tm (n + 1) (.tup [.str w, t, u])
theorem Tm.up {n : Nat} {d : D} (h : Tm n d) : ∀ {m : Nat}, n ≤ m → Tm m d := by
  induction h with
  | leaf a b c => intro m hm; obtain ⟨k, rfl⟩ : ∃ k, m = k + 1 := ⟨m - 1, by omega⟩; exact .leaf a b c
  | num a _ ih => intro m hm; obtain ⟨k, rfl⟩ : ∃ k, m = k + 1 := ⟨m - 1, by omega⟩; exact .num a (ih (by omega))
  | one a _ ih => intro m hm; obtain ⟨k, rfl⟩ : ∃ k, m = k + 1 := ⟨m - 1, by omega⟩; exact .one a (ih (by omega))
  | two a _ _ ih ih2 => intro m hm; obtain ⟨k, rfl⟩ : ∃ k, m = k + 1 := ⟨m - 1, by omega⟩; exact .two a (ih (by omega)) (ih2 (by omega))
theorem Tm.tup {n : Nat} {d : D} (h : Tm n d) : ∃ l, d = .tup l := by cases h <;> exact ⟨_, rfl⟩
/-! ### small words -/
theorem asV_tup (l : List D) : asV (.tup l) = some ⟨l⟩ := rfl
theorem asS_str (s : Str) : asS (.str s) = some s := rfl
theorem asI_int (s : Int) : asI (.int s) = some s := rfl
theorem atI_0 {α : Type} (x : α) (l : List α) : atI (x :: l) 0 = some x := atI_nat (j := 0) rfl (by simp)
theorem atI_1 {α : Type} (x y : α) (l : List α) : atI (x :: y :: l) 1 = some y := atI_nat (j := 1) rfl (by simp)
theorem atI_2 {α : Type} (x y z : α) (l : List α) : atI (x :: y :: z :: l) 2 = some z := atI_nat (j := 2) rfl (by simp)
theorem cut1 {α : Type} (x : α) (l : List α) : cutT ⟨x :: l⟩ (some 1) none = some ⟨l⟩ := by
  have h : HT.sIx (x :: l).length 0 (some (1 : Int)) = 1 := by
    have := HT.sIx_nat (l.length + 1) 0 1
    rw [List.length_cons]
    refine this.trans ?_
    omega
  unfold cutT
  show (if HT.sIx (x :: l).length 0 (some 1) = 0 ∧ _ then none else some (⟨T.cut (x :: l) (some 1) none⟩ : Vt α)) = _
  rw [if_neg (by rw [h]; omega)]
  unfold T.cut
  rw [h, HT.sIx_none]
  simp
theorem isi_str (s : Str) : isiP "tuple" (em (D.str s)) = some false := rfl
theorem isi_int (s : Int) : isiP "tuple" (em (D.int s)) = some false := rfl
theorem isi_tup (s : List D) : isiP "tuple" (em (D.tup s)) = some true := rfl
theorem Tm.isi {n : Nat} {d : D} (h : Tm n d) : isiP "tuple" (em d) = some true := by cases h <;> rfl
theorem leaf_w : ∀ w ∈ LEAF, memB w K_LEAVES = true := by decide +kernel
theorem num_w : ∀ w ∈ NUM, memB w K_LEAVES = false ∧ memB w C_NUMBERED.l = true := by decide +kernel
theorem one_w : ∀ w ∈ ONE, memB w K_LEAVES = false ∧ memB w C_NUMBERED.l = false := by decide +kernel
theorem two_w : ∀ w ∈ TWO, memB w K_LEAVES = false ∧ memB w C_NUMBERED.l = false := by decide +kernel
theorem first_t {w : Str} (h : memB w C_NUMBERED.l = true) : M_first_part w = some 2 := by
  unfold M_first_part
  simp only [bsm, basm, h, if_true]
theorem first_f {w : Str} (h : memB w C_NUMBERED.l = false) : M_first_part w = some 1 := by
  unfold M_first_part
  simp only [bsm, basm, h, Bool.false_eq_true, if_false]
theorem inner_leaf {w : Str} {l : List D} (h : w ∈ LEAF) : M_inner (.tup (.str w :: l)) = some (.tup []) := by
  unfold M_inner
  simp only [bsm, basm, asV_tup, atI_0, asS_str, leaf_w w h, if_true]
  rfl
theorem inner_num {w : Str} {x t : D} (h : w ∈ NUM) : M_inner (.tup [.str w, x, t]) = some (.tup [t]) := by
  unfold M_inner
  simp only [bsm, basm, asV_tup, atI_0, asS_str, (num_w w h).1, Bool.false_eq_true, if_false, first_t (num_w w h).2]
  rfl
theorem inner_one {w : Str} {t : D} (h : w ∈ ONE) : M_inner (.tup [.str w, t]) = some (.tup [t]) := by
  unfold M_inner
  simp only [bsm, basm, asV_tup, atI_0, asS_str, (one_w w h).1, Bool.false_eq_true, if_false, first_f (one_w w h).2]
  rfl
theorem inner_two {w : Str} {t u : D} (h : w ∈ TWO) : M_inner (.tup [.str w, t, u]) = some (.tup [t, u]) := by
  unfold M_inner
  simp only [bsm, basm, asV_tup, atI_0, asS_str, (two_w w h).1, Bool.false_eq_true, if_false, first_f (two_w w h).2]
  rfl
theorem lc1 {α β : Type} {f : α → Option β} {x : α} {y : β} (h : f x = some y) : lcC (fun _ => some true) f [x] = some [y] := by
  rw [lcC_t]
  unfold mapC mapO
  rw [if_pos (show sz [x].length from (by decide : (1 : Nat) < 16777216)), h, bsm]
  unfold mapO
  rw [bsm]
theorem lc2 {α β : Type} {f : α → Option β} {x x' : α} {y y' : β} (h : f x = some y) (h' : f x' = some y') : lcC (fun _ => some true) f [x, x'] = some [y, y'] := by
  rw [lcC_t]
  unfold mapC mapO
  rw [if_pos (show sz [x, x'].length from (by decide : (2 : Nat) < 16777216)), h, bsm]
  unfold mapO
  rw [h', bsm]
  unfold mapO
  rw [bsm, bsm]
/-! ### sizes -/
theorem size_ok {n : Nat} {d : D} (h : Tm n d) : ∃ s : Int, ∀ m, n ≤ m → R_size m d = some s ∧ R__law_size m d = some s := by
  induction h with
  | @leaf n w s a b c =>
    refine ⟨1, fun m hm => ?_⟩
    obtain ⟨k, rfl⟩ : ∃ k, m = k + 1 := ⟨m - 1, by omega⟩
    constructor
    · unfold R_size
      simp only [bsm, basm, inner_leaf a, asV_tup]
      rfl
    · unfold R__law_size
      simp only [bsm, basm, asV_tup]
      rw [cut1, bsm]
      simp only [foldO, isi_str, bsm, Bool.false_eq_true, if_false]
  | @num n w i t a ht ih =>
    obtain ⟨s, ih⟩ := ih
    refine ⟨1 + s, fun m hm => ?_⟩
    obtain ⟨k, rfl⟩ : ∃ k, m = k + 1 := ⟨m - 1, by omega⟩
    obtain ⟨i1, i2⟩ := ih k (by omega)
    constructor
    · unfold R_size
      simp only [bsm, basm, inner_num a, asV_tup]
      rw [lc1 i1, bsm]
      simp
    · unfold R__law_size
      simp only [bsm, basm, asV_tup]
      rw [cut1, bsm]
      simp only [foldO, isi_int, ht.isi, bsm, basm, Bool.false_eq_true, if_false, if_true, i2]
  | @one n w t a ht ih =>
    obtain ⟨s, ih⟩ := ih
    refine ⟨1 + s, fun m hm => ?_⟩
    obtain ⟨k, rfl⟩ : ∃ k, m = k + 1 := ⟨m - 1, by omega⟩
    obtain ⟨i1, i2⟩ := ih k (by omega)
    constructor
    · unfold R_size
      simp only [bsm, basm, inner_one a, asV_tup]
      rw [lc1 i1, bsm]
      simp
    · unfold R__law_size
      simp only [bsm, basm, asV_tup]
      rw [cut1, bsm]
      simp only [foldO, ht.isi, bsm, basm, if_true, i2]
  | @two n w t u a ht hu ih ih2 =>
    obtain ⟨s, ih⟩ := ih
    obtain ⟨s', ih2⟩ := ih2
    refine ⟨1 + s + s', fun m hm => ?_⟩
    obtain ⟨k, rfl⟩ : ∃ k, m = k + 1 := ⟨m - 1, by omega⟩
    obtain ⟨i1, i2⟩ := ih k (by omega)
    obtain ⟨j1, j2⟩ := ih2 k (by omega)
    constructor
    · unfold R_size
      simp only [bsm, basm, inner_two a, asV_tup]
      rw [lc2 i1 j1, bsm]
      simp only [List.sum_cons, List.sum_nil]
      congr 1
      omega
    · unfold R__law_size
      simp only [bsm, basm, asV_tup]
      rw [cut1, bsm]
      simp only [foldO, ht.isi, hu.isi, bsm, basm, if_true, i2, j2]
/-! ### the order -/
/-- how two items compare: r is 0, -1 or 1 -/
structure Cm (n : Nat) (x y : D) (r : Int) : Prop where
  step : ((andO (isiP "tuple" (em x)) (isiP "tuple" (em y))).bind fun c_550 =>
      if c_550 = true then (R__law_walk n x y).bind fun b => if (!decide (b = 0)) = true then some (Fl.rt (B := Unit) (S := Unit) b) else some (Fl.nx ())
      else (eqP (em x) (em y)).bind fun z => if (!z) = true then (ltO (em x) (em y)).bind fun z => some (Fl.rt (1 - 2 * if z = true then 1 else 0)) else some (Fl.nx ())) = some (if r = 0 then Fl.nx () else Fl.rt r)
  eqv : PyData.eqv (toPy x) (toPy y) = decide (r = 0)
  lt : r ≠ 0 → ltP (toPy x) (toPy y) = some (decide (r < 0))
def fst0 : List Int → Int
  | [] => 0
  | r :: rs => if r = 0 then fst0 rs else r
theorem fst0_c (r : Int) (rs : List Int) : fst0 (r :: rs) = if r = 0 then fst0 rs else r := rfl
inductive Cms (n : Nat) : List D → List D → List Int → Prop
  | nil : Cms n [] [] []
  | cons {x y : D} {r : Int} {xs ys : List D} {rs : List Int} : Cm n x y r → Cms n xs ys rs → Cms n (x :: xs) (y :: ys) (r :: rs)
theorem Cms.all {n : Nat} : ∀ {xs ys : List D} {rs : List Int}, Cms n xs ys rs →
    loopO (fun (_ : Unit) (p : D × D) => thenF ((andO (isiP "tuple" (em p.1)) (isiP "tuple" (em p.2))).bind fun c_550 =>
      if c_550 = true then (R__law_walk n p.1 p.2).bind fun b => if (!decide (b = 0)) = true then some (Fl.rt (B := Unit) (S := Unit) b) else some (Fl.nx ())
      else (eqP (em p.1) (em p.2)).bind fun z => if (!z) = true then (ltO (em p.1) (em p.2)).bind fun z => some (Fl.rt (1 - 2 * if z = true then 1 else 0)) else some (Fl.nx ())) fun s => some (Fl.nx ())) () (xs.zip ys) = some (if fst0 rs = 0 then Lp.fin () else Lp.ret (fst0 rs)) ∧
    PyData.eqvAll (toPyA xs) (toPyA ys) = decide (fst0 rs = 0) ∧ ltPA (toPyA xs) (toPyA ys) = some (decide (fst0 rs < 0))
  | _, _, _, .nil => ⟨rfl, by simp [toPyA, PyData.eqvAll, fst0], by simp [toPyA, ltPA, fst0]⟩
  | x :: xs, y :: ys, r :: rs, .cons c t => by
    obtain ⟨h1, h2, h3⟩ := t.all
    refine ⟨?_, ?_, ?_⟩
    · rw [List.zip_cons_cons]
      show (thenF _ _).bind _ = _
      rw [c.step]
      by_cases hr : r = 0
      · rw [if_pos hr]
        rw [fst0_c]
        rw [if_pos hr]
        exact h1
      · rw [if_neg hr]
        rw [fst0_c]
        rw [if_neg hr, if_neg hr]
        rfl
    · show PyData.eqvAll (toPy x :: toPyA xs) (toPy y :: toPyA ys) = _
      rw [PyData.eqvAll, c.eqv, h2]
      rw [fst0_c]
      by_cases hr : r = 0
      · simp [hr]
      · simp [hr]
    · show ltPA (toPy x :: toPyA xs) (toPy y :: toPyA ys) = _
      rw [ltPA, c.eqv]
      rw [fst0_c]
      by_cases hr : r = 0
      · rw [if_pos (by simpa using hr), if_pos hr]; exact h3
      · rw [if_neg (by simpa using hr), if_neg hr]; exact c.lt hr
/-! ### plain items -/
theorem lt_total : ∀ (a b : List Nat), a ≠ b → decide (b < a) = !decide (a < b) := by
  intro a
  induction a with
  | nil =>
    intro b h
    cases b with
    | nil => exact absurd rfl h
    | cons y b => simp
  | cons x a ih =>
    intro b h
    cases b with
    | nil => simp
    | cons y b =>
      simp only [List.cons_lt_cons_iff]
      rcases Nat.lt_trichotomy x y with q | q | q
      · have q1 : ¬ y < x := by omega
        have q2 : ¬ y = x := by omega
        simp [q, q1, q2]
      · subst q
        have h' : a ≠ b := fun z => h (by rw [z])
        have := ih b h'
        simpa using this
      · have q1 : ¬ x < y := by omega
        have q2 : ¬ x = y := by omega
        simp [q, q1, q2]
theorem eqP_str {x y : Str} (hx : PyData.strOk x = true) (hy : PyData.strOk y = true) : eqP (em (D.str x)) (em (D.str y)) = some (decide (x = y)) := by
  unfold eqP
  rw [if_pos ⟨rfl, rfl, by show (PyData.canLay0 (.str x) && _) = true; simp [PyData.canLay0, hx, PyData.depth, toPy, em, Em.em], by show (PyData.canLay0 (.str y) && _) = true; simp [PyData.canLay0, hy, PyData.depth, toPy, em, Em.em]⟩]
  simp [em, Em.em, toPy, PyData.eqv]
  exact Bool.eq_iff_iff.mpr (by simp)
theorem ltO_str {x y : Str} (hx : PyData.strOk x = true) (hy : PyData.strOk y = true) : ltO (em (D.str x)) (em (D.str y)) = some (decide (x.cps.toList < y.cps.toList)) := by
  unfold ltO
  rw [if_pos ⟨rfl, rfl, by show (PyData.canLay0 (.str x) && _) = true; simp [PyData.canLay0, hx, PyData.depth, toPy, em, Em.em], by show (PyData.canLay0 (.str y) && _) = true; simp [PyData.canLay0, hy, PyData.depth, toPy, em, Em.em]⟩]
  simp [em, Em.em, toPy, ltP]
theorem eqP_int (x y : Int) : eqP (em (D.int x)) (em (D.int y)) = some (decide (x = y)) := by
  unfold eqP
  rw [if_pos ⟨rfl, rfl, rfl, rfl⟩]
  simp [em, Em.em, toPy, PyData.eqv]
  exact Bool.eq_iff_iff.mpr (by simp)
theorem ltO_int (x y : Int) : ltO (em (D.int x)) (em (D.int y)) = some (decide (x < y)) := by
  unfold ltO
  rw [if_pos ⟨rfl, rfl, rfl, rfl⟩]
  simp [em, Em.em, toPy, ltP]
/-- what a walk says of two texts -/
def rS (x y : Str) : Int := if x = y then 0 else if x.cps.toList < y.cps.toList then -1 else 1
def rI (x y : Int) : Int := if x = y then 0 else if x < y then -1 else 1
theorem rS_neg (x y : Str) : rS y x = - rS x y := by
  unfold rS
  by_cases h : x = y
  · simp [h]
  · have h2 : x.cps.toList ≠ y.cps.toList := fun z => h (ext_of z)
    have := lt_total _ _ h2
    rw [if_neg h, if_neg (fun z => h z.symm)]
    by_cases q : x.cps.toList < y.cps.toList
    · rw [if_pos q, if_neg (by simpa [q] using this)]; rfl
    · rw [if_neg q, if_pos (by simpa [q] using this)]
where ext_of {x y : Str} (h : x.cps.toList = y.cps.toList) : x = y := Str.ext' (Array.toList_inj.mp h)
theorem rI_neg (x y : Int) : rI y x = - rI x y := by
  unfold rI
  by_cases h : x = y
  · simp [h]
  · rw [if_neg h, if_neg (fun z => h z.symm)]
    by_cases q : x < y
    · rw [if_pos q, if_neg (by omega)]; rfl
    · rw [if_neg q, if_pos (by omega)]
theorem cm_str {n : Nat} {x y : Str} (hx : PyData.strOk x = true) (hy : PyData.strOk y = true) : Cm n (.str x) (.str y) (rS x y) := by
  refine ⟨?_, ?_, fun h => ?_⟩
  · rw [isi_str, andO_some, if_neg Bool.false_ne_true]
    simp only [bsm, Bool.false_eq_true, if_false]
    rw [eqP_str hx hy, ltO_str hx hy]
    simp only [bsm]
    unfold rS
    by_cases q : x = y
    · simp [q]
    · by_cases l : x.cps.toList < y.cps.toList
      · simp [q, l]
      · simp [q, l]
  · unfold rS
    show PyData.eqv (.str x) (.str y) = _
    by_cases q : x = y
    · simp [q, PyData.eqv]
    · by_cases l : x.cps.toList < y.cps.toList
      · simp [q, l, PyData.eqv]
      · simp [q, l, PyData.eqv]
  · show ltP (.str x) (.str y) = _
    unfold ltP rS
    unfold rS at h
    by_cases q : x = y
    · rw [if_pos q] at h; exact absurd rfl h
    · by_cases l : x.cps.toList < y.cps.toList
      · simp [q, l]
      · simp [q, l]
theorem cm_int {n : Nat} (x y : Int) : Cm n (.int x) (.int y) (rI x y) := by
  refine ⟨?_, ?_, fun h => ?_⟩
  · rw [isi_int, andO_some, if_neg Bool.false_ne_true]
    simp only [bsm, Bool.false_eq_true, if_false]
    rw [eqP_int, ltO_int]
    simp only [bsm]
    unfold rI
    by_cases q : x = y
    · simp [q]
    · by_cases l : x < y
      · simp [q, l]
      · simp [q, l]
  · unfold rI
    show PyData.eqv (.int x) (.int y) = _
    by_cases q : x = y
    · simp [q, PyData.eqv]
    · by_cases l : x < y
      · simp [q, l, PyData.eqv]
      · simp [q, l, PyData.eqv]
  · show ltP (.int x) (.int y) = _
    unfold ltP rI
    unfold rI at h
    by_cases q : x = y
    · rw [if_pos q] at h; exact absurd rfl h
    · by_cases l : x < y
      · simp [q, l]
      · simp [q, l]
/-- two tuples -/
structure Wk (n : Nat) (x y : D) (r : Int) : Prop where
  walk : R__law_walk n x y = some r
  eqv : PyData.eqv (toPy x) (toPy y) = decide (r = 0)
  lt : ltP (toPy x) (toPy y) = some (decide (r < 0))
theorem Wk.of {n : Nat} {l m : List D} {rs : List Int} (h : Cms n l m rs) : Wk (n + 1) (.tup l) (.tup m) (fst0 rs) := by
  obtain ⟨h1, h2, h3⟩ := h.all
  refine ⟨?_, ?_, ?_⟩
  · unfold R__law_walk
    simp only [bsm, basm]
    rw [show zipD (.tup l) (.tup m) = some (l.zip m) from rfl, bsm]
    refine Eq.trans (congrArg (fun q => Option.bind q _) h1) ?_
    by_cases q : fst0 rs = 0
    · rw [if_pos q, bsm, q]; rfl
    · rw [if_neg q, bsm]; rfl
  · show PyData.eqv (.tuple (toPyA l)) (.tuple (toPyA m)) = _
    rw [PyData.eqv, h2]
  · show ltP (.tuple (toPyA l)) (.tuple (toPyA m)) = _
    rw [ltP, h3]
theorem Wk.cm {n : Nat} {x y : D} {r : Int} (h : Wk n x y r) (hx : isiP "tuple" (em x) = some true) (hy : isiP "tuple" (em y) = some true) : Cm n x y r := by
  refine ⟨?_, h.eqv, fun _ => h.lt⟩
  rw [hx, hy, andO_some, if_pos rfl]
  simp only [bsm, if_true]
  rw [h.walk]
  simp only [bsm]
  by_cases q : r = 0
  · simp [q]
  · simp [q]
theorem words_ok : ∀ w ∈ LEAF ++ NUM ++ ONE ++ TWO, PyData.strOk w = true := by decide +kernel
/-- only the first words differ: the rest is not asked -/
theorem Wk.word {n : Nat} {w v : Str} {l m : List D} (hw : PyData.strOk w = true) (hv : PyData.strOk v = true) (h : w ≠ v) : Wk (n + 1) (.tup (.str w :: l)) (.tup (.str v :: m)) (rS w v) := by
  have c := cm_str (n := n) hw hv
  have hr : rS w v ≠ 0 := by
    unfold rS
    rw [if_neg h]
    split <;> decide
  refine ⟨?_, ?_, ?_⟩
  · unfold R__law_walk
    simp only [bsm, basm]
    rw [show zipD (.tup (.str w :: l)) (.tup (.str v :: m)) = some ((D.str w, D.str v) :: l.zip m) from rfl, bsm]
    show ((thenF _ _).bind _).bind _ = _
    have s := c.step
    rw [if_neg hr] at s
    refine Eq.trans (congrArg (fun q => ((thenF q _).bind _).bind _) s) ?_
    rfl
  · show PyData.eqv (.tuple (toPy (.str w) :: toPyA l)) (.tuple (toPy (.str v) :: toPyA m)) = _
    rw [PyData.eqv, PyData.eqvAll, c.eqv]
    simp [hr]
  · show ltP (.tuple (toPy (.str w) :: toPyA l)) (.tuple (toPy (.str v) :: toPyA m)) = _
    rw [ltP, ltPA, c.eqv, if_neg (by simpa using hr)]
    exact c.lt hr
theorem fst0_neg : ∀ rs : List Int, fst0 (rs.map fun r => -r) = - fst0 rs
  | [] => rfl
  | r :: rs => by
    rw [List.map_cons, fst0_c, fst0_c, fst0_neg rs]
    by_cases h : r = 0
    · simp [h]
    · rw [if_neg h, if_neg (by omega)]
theorem disj1 : ∀ w ∈ LEAF, w ∉ NUM ∧ w ∉ ONE ∧ w ∉ TWO := by decide +kernel
theorem disj2 : ∀ w ∈ NUM, w ∉ ONE ∧ w ∉ TWO := by decide +kernel
theorem disj3 : ∀ w ∈ ONE, w ∉ TWO := by decide +kernel
/-- the walk tells the order, both ways -/
theorem walk_ok : ∀ {n : Nat} {d e : D}, Tm n d → Tm n e → ∃ r : Int, Wk n d e r ∧ Wk n e d (-r) := by
  intro n
  induction n with
  | zero => intro d e h; cases h
  | succ n ih =>
    intro d e hd he
    have key : ∀ {l m : List D} {w v : Str}, d = .tup (.str w :: l) → e = .tup (.str v :: m) → PyData.strOk w = true → PyData.strOk v = true → w ≠ v → ∃ r : Int, Wk (n + 1) d e r ∧ Wk (n + 1) e d (-r) := fun {l m w v} e1 e2 o1 o2 h => by
      subst e1 e2
      exact ⟨rS w v, Wk.word o1 o2 h, by rw [← rS_neg]; exact Wk.word o2 o1 fun z => h z.symm⟩
    have oL : ∀ w ∈ LEAF, PyData.strOk w = true := fun w h => words_ok w (by simp [h])
    have oN : ∀ w ∈ NUM, PyData.strOk w = true := fun w h => words_ok w (by simp [h])
    have oO : ∀ w ∈ ONE, PyData.strOk w = true := fun w h => words_ok w (by simp [h])
    have oT : ∀ w ∈ TWO, PyData.strOk w = true := fun w h => words_ok w (by simp [h])
    have fin : ∀ {l m : List D} {rs : List Int}, d = .tup l → e = .tup m → Cms n l m rs → Cms n m l (rs.map fun r => -r) → ∃ r : Int, Wk (n + 1) d e r ∧ Wk (n + 1) e d (-r) := fun {l m rs} e1 e2 c1 c2 => by
      subst e1 e2
      exact ⟨fst0 rs, Wk.of c1, by rw [← fst0_neg]; exact Wk.of c2⟩
    have self : ∀ w : Str, PyData.strOk w = true → Cm n (.str w) (.str w) 0 := fun w o => by
      have := cm_str (n := n) o o
      rwa [show rS w w = 0 by unfold rS; rw [if_pos rfl]] at this
    cases hd with
    | @leaf _ w s a o1 _ =>
      cases he with
      | @leaf _ v t b o2 _ =>
        by_cases h : w = v
        · subst h
          refine fin (rs := [0, rS s t]) rfl rfl (.cons (self w (oL w a)) (.cons (cm_str o1 o2) .nil)) (.cons (self w (oL w a)) (.cons ?_ .nil))
          show Cm n (.str t) (.str s) (-rS s t)
          rw [← rS_neg]; exact cm_str o2 o1
        · exact key rfl rfl (oL w a) (oL v b) h
      | num b _ => exact key rfl rfl (oL w a) (oN _ b) fun z => (disj1 w a).1 (z ▸ b)
      | one b _ => exact key rfl rfl (oL w a) (oO _ b) fun z => (disj1 w a).2.1 (z ▸ b)
      | two b _ _ => exact key rfl rfl (oL w a) (oT _ b) fun z => (disj1 w a).2.2 (z ▸ b)
    | @num _ w i t a ht =>
      cases he with
      | leaf b _ _ => exact key rfl rfl (oN w a) (oL _ b) fun z => (disj1 _ b).1 (z ▸ a)
      | @num _ v j u b hu =>
        by_cases h : w = v
        · subst h
          obtain ⟨r, w1, w2⟩ := ih ht hu
          refine fin (rs := [0, rI i j, r]) rfl rfl (.cons (self w (oN w a)) (.cons (cm_int i j) (.cons (w1.cm ht.isi hu.isi) .nil))) (.cons (self w (oN w a)) (.cons ?_ (.cons (w2.cm hu.isi ht.isi) .nil)))
          show Cm n (.int j) (.int i) (-rI i j)
          rw [← rI_neg]; exact cm_int j i
        · exact key rfl rfl (oN w a) (oN v b) h
      | one b _ => exact key rfl rfl (oN w a) (oO _ b) fun z => (disj2 w a).1 (z ▸ b)
      | two b _ _ => exact key rfl rfl (oN w a) (oT _ b) fun z => (disj2 w a).2 (z ▸ b)
    | @one _ w t a ht =>
      cases he with
      | leaf b _ _ => exact key rfl rfl (oO w a) (oL _ b) fun z => (disj1 _ b).2.1 (z ▸ a)
      | num b _ => exact key rfl rfl (oO w a) (oN _ b) fun z => (disj2 _ b).1 (z ▸ a)
      | @one _ v u b hu =>
        by_cases h : w = v
        · subst h
          obtain ⟨r, w1, w2⟩ := ih ht hu
          exact fin (rs := [0, r]) rfl rfl (.cons (self w (oO w a)) (.cons (w1.cm ht.isi hu.isi) .nil)) (.cons (self w (oO w a)) (.cons (w2.cm hu.isi ht.isi) .nil))
        · exact key rfl rfl (oO w a) (oO v b) h
      | two b _ _ => exact key rfl rfl (oO w a) (oT _ b) fun z => disj3 w a (z ▸ b)
    | @two _ w t u a ht hu =>
      cases he with
      | leaf b _ _ => exact key rfl rfl (oT w a) (oL _ b) fun z => (disj1 _ b).2.2 (z ▸ a)
      | num b _ => exact key rfl rfl (oT w a) (oN _ b) fun z => (disj2 _ b).2 (z ▸ a)
      | one b _ => exact key rfl rfl (oT w a) (oO _ b) fun z => disj3 _ b (z ▸ a)
      | @two _ v t' u' b ht' hu' =>
        by_cases h : w = v
        · subst h
          obtain ⟨r, w1, w2⟩ := ih ht ht'
          obtain ⟨r', w3, w4⟩ := ih hu hu'
          exact fin (rs := [0, r, r']) rfl rfl (.cons (self w (oT w a)) (.cons (w1.cm ht.isi ht'.isi) (.cons (w3.cm hu.isi hu'.isi) .nil))) (.cons (self w (oT w a)) (.cons (w2.cm ht'.isi ht.isi) (.cons (w4.cm hu'.isi hu.isi) .nil)))
        · exact key rfl rfl (oT w a) (oT v b) h
/-! ### terms that are made -/
theorem next_ok (a k : Int) : Ok (M__law_next a k) fun x => 0 ≤ x := by
  unfold M__law_next
  simp only [bsm, basm]
  exact Ok.some (fmod_lo (by decide))
theorem name_ok (a : Int) : Ok (M__law_name a) fun s => PyData.strOk s = true ∧ s.length ≤ 12 := by
  unfold M__law_name
  simp only [bsm, basm]
  refine Ok.one (lstP_eq (by decide)) ?_
  have b0 := fmod_lo (x := a) (show (0 : Int) < 11 by decide)
  have b1 := fmod_hi (x := a) (show (0 : Int) < 11 by decide)
  generalize a.fmod 11 = r at b0 b1 ⊢
  have : r = 0 ∨ r = 1 ∨ r = 2 ∨ r = 3 ∨ r = 4 ∨ r = 5 ∨ r = 6 ∨ r = 7 ∨ r = 8 ∨ r = 9 ∨ r = 10 := by omega
  refine Ok.bind (P := fun s : Str => PyData.strOk s = true ∧ s.length ≤ 12) ?_ fun s h => Ok.some h
  rcases this with rfl | rfl | rfl | rfl | rfl | rfl | rfl | rfl | rfl | rfl | rfl
  all_goals exact ⟨_, rfl, by decide +kernel, by decide +kernel⟩
theorem two_of {r : Int} (h0 : 0 ≤ r) (h1 : r < 2) : r = 0 ∨ r = 1 := by omega
theorem kind_ok : ∀ (n : Nat) (seed : Int) (m : Nat), 1 ≤ m → m ≤ n → Ok (R__law_kind n seed (m : Int)) (Tm m)
  | 0, _, m, h1, h2 => by omega
  | n + 1, seed, m, h1, h2 => by
    unfold R__law_kind
    simp only [bsm, basm]
    refine Ok.ite (fun h => ?_) fun h => ?_
    · refine (name_ok _).bind fun s hs => ?_
      refine Ok.one vtP_eq (Ok.some ?_)
      exact (Tm.leaf (n := 0) (by decide +kernel) hs.1 hs.2).up h1
    · have hm : m ≠ 1 := fun z => h (by simp [z])
      rw [orO_some]
      refine Ok.bind (P := fun c : Bool => c = false → m ≠ 2) ?_ fun c hc => ?_
      · refine Ok.ite (fun _ => Ok.some (by simp)) fun q => Ok.some fun _ z => q (by simp [z])
      refine Ok.ite (fun _ => ?_) fun q => ?_
      · refine (next_ok _ _).bind fun x _ => ?_
        rw [show ((m : Int) - 1) = ((m - 1 : Nat) : Int) by omega]
        refine (kind_ok n x (m - 1) (by omega) (by omega)).bind fun d hd => ?_
        refine Ok.one vtP_eq (Ok.some ?_)
        exact (Tm.one (by decide +kernel) hd).up (by omega)
      · have hm2 : m ≠ 2 := hc (by simpa using q)
        refine Ok.one (modP_eq (by omega)) ?_
        have c0 := fmod_lo (x := seed.fdiv 4) (y := (m : Int) - 2) (by omega)
        have c1 := fmod_hi (x := seed.fdiv 4) (y := (m : Int) - 2) (by omega)
        generalize (seed.fdiv 4).fmod ((m : Int) - 2) = l at c0 c1 ⊢
        refine (next_ok _ _).bind fun x _ => ?_
        rw [show (1 + l) = ((1 + l.toNat : Nat) : Int) by omega]
        refine (kind_ok n x _ (by omega) (by omega)).bind fun d hd => ?_
        refine Ok.one (lstP_eq (by decide)) ?_
        refine Ok.bind (P := fun w : Str => w ∈ TWO) ?_ fun w hw => ?_
        · rcases two_of (fmod_lo (x := seed.fdiv 64) (show (0 : Int) < 2 by decide)) (fmod_hi (by decide)) with e | e
          · rw [e]; exact ⟨_, rfl, by decide +kernel⟩
          · rw [e]; exact ⟨_, rfl, by decide +kernel⟩
        refine (next_ok _ _).bind fun y _ => ?_
        rw [show ((m : Int) - 1 - ((1 + l.toNat : Nat) : Int)) = ((m - 1 - (1 + l.toNat) : Nat) : Int) by omega]
        refine (kind_ok n y _ (by omega) (by omega)).bind fun e he => ?_
        refine Ok.one vtP_eq (Ok.some ?_)
        exact (Tm.two hw (hd.up (m := m - 1) (by omega)) (he.up (by omega))).up (by omega)
theorem in7 {r : Int} (h0 : 0 ≤ r) (h1 : r < 7) : r = 0 ∨ r = 1 ∨ r = 2 ∨ r = 3 ∨ r = 4 ∨ r = 5 ∨ r = 6 := by omega
theorem noun_ok (seed : Int) (m : Nat) (h1 : 1 ≤ m) (h2 : m ≤ 61) : Ok (M__law_noun seed (m : Int)) (Tm m) := by
  unfold M__law_noun
  simp only [bsm, basm]
  refine Ok.ite (fun h => ?_) fun h => ?_
  · refine (name_ok _).bind fun s hs => ?_
    refine Ok.one vtP_eq (Ok.some ?_)
    exact (Tm.leaf (n := 0) (by decide +kernel) hs.1 hs.2).up h1
  · have hm : m ≠ 1 := fun z => h (by simp [z])
    refine (next_ok _ _).bind fun x _ => ?_
    rw [show ((m : Int) - 1) = ((m - 1 : Nat) : Int) by omega]
    refine (kind_ok 64 x (m - 1) (by omega) (by omega)).bind fun d hd => ?_
    refine Ok.one (lstP_eq (by decide)) ?_
    have b0 := fmod_lo (x := seed) (show (0 : Int) < 7 by decide)
    have b1 := fmod_hi (x := seed) (show (0 : Int) < 7 by decide)
    generalize seed.fmod 7 = r at b0 b1 ⊢
    refine Ok.bind (P := fun w : Str => if r < 4 then w ∈ ONE else w ∈ NUM) ?_ fun w hw => ?_
    · rcases in7 b0 b1 with rfl | rfl | rfl | rfl | rfl | rfl | rfl
      all_goals exact ⟨_, rfl, by decide +kernel⟩
    refine Ok.ite (fun q => ?_) fun q => ?_
    · rw [if_pos (by simpa using q)] at hw
      refine Ok.one vtP_eq (Ok.some ?_)
      exact (Tm.one hw hd).up (by omega)
    · rw [if_neg (by simpa using q)] at hw
      refine Ok.one vtP_eq (Ok.some ?_)
      exact (Tm.num hw hd).up (by omega)
theorem sent_ok : ∀ (n : Nat) (seed : Int) (m : Nat), 3 ≤ m → m ≤ n → m ≤ 61 → Ok (R__law_sentence n seed (m : Int)) (Tm m)
  | 0, _, m, h1, h2, _ => by omega
  | n + 1, seed, m, h1, h2, h3 => by
    unfold R__law_sentence
    simp only [bsm, basm]
    have andc : ∀ a b : Bool, andO (some a) (some b) = some (a && b) := fun a b => by cases a <;> rfl
    rw [andc, andc]
    simp only [bsm]
    refine Ok.ite (fun h => ?_) fun h => ?_
    · have hm : 3 < m := by
        have := (Bool.and_eq_true_iff.mp h).1
        have := of_decide_eq_true this
        omega
      refine Ok.one (lstP_eq (by decide)) ?_
      refine Ok.bind (P := fun w : Str => w ∈ ONE) ?_ fun w hw => ?_
      · rcases two_of (fmod_lo (x := seed.fdiv 5) (show (0 : Int) < 2 by decide)) (fmod_hi (by decide)) with e | e
        · rw [e]; exact ⟨_, rfl, by decide +kernel⟩
        · rw [e]; exact ⟨_, rfl, by decide +kernel⟩
      refine (next_ok _ _).bind fun x _ => ?_
      rw [show ((m : Int) - 1) = ((m - 1 : Nat) : Int) by omega]
      refine (sent_ok n x (m - 1) (by omega) (by omega) (by omega)).bind fun d hd => ?_
      refine Ok.one vtP_eq (Ok.some ?_)
      exact (Tm.one hw hd).up (by omega)
    refine Ok.ite (fun q => ?_) fun q => ?_
    · have hm : 6 < m := by
        have := (Bool.and_eq_true_iff.mp q).1
        have := of_decide_eq_true this
        omega
      refine Ok.one (modP_eq (by omega)) ?_
      have c0 := fmod_lo (x := seed.fdiv 5) (y := (m : Int) - 6) (by omega)
      have c1 := fmod_hi (x := seed.fdiv 5) (y := (m : Int) - 6) (by omega)
      generalize (seed.fdiv 5).fmod ((m : Int) - 6) = l at c0 c1 ⊢
      refine (next_ok _ _).bind fun x _ => ?_
      rw [show (3 + l) = ((3 + l.toNat : Nat) : Int) by omega]
      refine (sent_ok n x _ (by omega) (by omega) (by omega)).bind fun d hd => ?_
      refine Ok.one (lstP_eq (by decide)) ?_
      refine Ok.bind (P := fun w : Str => w ∈ TWO) ?_ fun w hw => ?_
      · have b0 := fmod_lo (x := seed.fdiv 100) (show (0 : Int) < 3 by decide)
        have b1 := fmod_hi (x := seed.fdiv 100) (show (0 : Int) < 3 by decide)
        have : (seed.fdiv 100).fmod 3 = 0 ∨ (seed.fdiv 100).fmod 3 = 1 ∨ (seed.fdiv 100).fmod 3 = 2 := by omega
        rcases this with e | e | e
        · rw [e]; exact ⟨_, rfl, by decide +kernel⟩
        · rw [e]; exact ⟨_, rfl, by decide +kernel⟩
        · rw [e]; exact ⟨_, rfl, by decide +kernel⟩
      refine (next_ok _ _).bind fun y _ => ?_
      rw [show ((m : Int) - 1 - ((3 + l.toNat : Nat) : Int)) = ((m - 1 - (3 + l.toNat) : Nat) : Int) by omega]
      refine (sent_ok n y _ (by omega) (by omega) (by omega)).bind fun e he => ?_
      refine Ok.one vtP_eq (Ok.some ?_)
      exact (Tm.two hw (hd.up (m := m - 1) (by omega)) (he.up (by omega))).up (by omega)
    · refine Ok.one (modP_eq (by omega)) ?_
      have c0 := fmod_lo (x := seed.fdiv 5) (y := (m : Int) - 2) (by omega)
      have c1 := fmod_hi (x := seed.fdiv 5) (y := (m : Int) - 2) (by omega)
      generalize (seed.fdiv 5).fmod ((m : Int) - 2) = l at c0 c1 ⊢
      refine (next_ok _ _).bind fun x _ => ?_
      rw [show (1 + l) = ((1 + l.toNat : Nat) : Int) by omega]
      refine (noun_ok x _ (by omega) (by omega)).bind fun d hd => ?_
      refine (next_ok _ _).bind fun y _ => ?_
      rw [show ((m : Int) - 1 - ((1 + l.toNat : Nat) : Int)) = ((m - 1 - (1 + l.toNat) : Nat) : Int) by omega]
      refine (kind_ok 64 y _ (by omega) (by omega)).bind fun e he => ?_
      refine Ok.one vtP_eq (Ok.some ?_)
      exact (Tm.two (by decide +kernel) (hd.up (m := m - 1) (by omega)) (he.up (by omega))).up (by omega)
theorem made_ok (which seed : Int) (m : Nat) (h1 : 1 ≤ m) (h2 : m ≤ 61) : Ok (M__law_made which seed (m : Int)) (Tm 61) := by
  unfold M__law_made
  simp only [bsm, basm]
  refine Ok.ite (fun h => ?_) fun h => ?_
  · exact (kind_ok 64 seed m h1 (by omega)).bind fun d hd => Ok.some (hd.up h2)
  refine Ok.ite (fun h => ?_) fun h => ?_
  · exact (noun_ok seed m h1 h2).bind fun d hd => Ok.some (hd.up h2)
  · rw [show (if (m : Int) > 3 then (m : Int) else 3) = ((if m > 3 then m else 3 : Nat) : Int) by split <;> split <;> omega]
    exact (sent_ok 64 seed _ (by split <;> omega) (by split <;> omega) (by split <;> omega)).bind fun d hd => Ok.some (hd.up (by split <;> omega))
/-! ### before -/
theorem canLay_Tm : ∀ {n : Nat} {d : D}, Tm n d → plainD d = true ∧ PyData.canLay0 (toPy d) = true ∧ PyData.depth (toPy d) ≤ n := by
  intro n d h
  have ow : ∀ w : Str, (w ∈ LEAF ∨ w ∈ NUM ∨ w ∈ ONE ∨ w ∈ TWO) → PyData.strOk w = true := fun w h => words_ok w (by simpa [or_assoc] using h)
  induction h with
  | @leaf n w s a b c =>
    have := ow w (.inl a)
    refine ⟨rfl, by simp [toPy, toPyA, PyData.canLay0, PyData.canLayAll0, this, b], by simp [toPy, toPyA, PyData.depth, PyData.depthAll]⟩
  | @num n w i t a ht ih =>
    have := ow w (.inr (.inl a))
    obtain ⟨h1, h2, h3⟩ := ih
    refine ⟨by simp [plainD, plainA, h1], by simp [toPy, toPyA, PyData.canLay0, PyData.canLayAll0, this, h2], by simp [toPy, toPyA, PyData.depth, PyData.depthAll, h3]⟩
  | @one n w t a ht ih =>
    have := ow w (.inr (.inr (.inl a)))
    obtain ⟨h1, h2, h3⟩ := ih
    refine ⟨by simp [plainD, plainA, h1], by simp [toPy, toPyA, PyData.canLay0, PyData.canLayAll0, this, h2], by simp [toPy, toPyA, PyData.depth, PyData.depthAll, h3]⟩
  | @two n w t u a ht hu ih ih2 =>
    have := ow w (.inr (.inr (.inr a)))
    obtain ⟨h1, h2, h3⟩ := ih
    obtain ⟨h4, h5, h6⟩ := ih2
    refine ⟨by simp [plainD, plainA, h1, h4], by simp [toPy, toPyA, PyData.canLay0, PyData.canLayAll0, this, h2, h5], ?_⟩
    simp only [toPy, toPyA, PyData.depth, PyData.depthAll]
    omega
theorem before_ok {m : Nat} {d e : D} {s s' r : Int} (hd : Tm 61 d) (he : Tm 61 e) (h1 : R_size 64 d = some s) (h2 : R_size 64 e = some s') (w : Wk m d e r) : M_before d e = some (decide ((if s - s' = 0 then r else s - s') < 0)) := by
  unfold M_before
  simp only [bsm, basm]
  rw [h1, bsm, vtP_eq, bsm, h2, bsm, vtP_eq, bsm]
  obtain ⟨p1, c1, k1⟩ := canLay_Tm hd
  obtain ⟨p2, c2, k2⟩ := canLay_Tm he
  have pair : ∀ (s : Int) (d : D), plainD d = true → PyData.canLay0 (toPy d) = true → PyData.depth (toPy d) ≤ 61 → plainD (em (⟨[em s, d]⟩ : Vt D)) = true ∧ SeqAt.shaped (toPy (em (⟨[em s, d]⟩ : Vt D))) = true := fun s d p c k => by
    refine ⟨by show plainD (.tup [.int s, d]) = true; simp [plainD, plainA, p], ?_⟩
    show SeqAt.shaped (toPy (.tup [.int s, d])) = true
    unfold SeqAt.shaped
    simp only [toPy, toPyA, PyData.canLay0, PyData.canLayAll0, PyData.depth, PyData.depthAll, c, Bool.and_true, Bool.true_and, decide_eq_true_eq]
    omega
  obtain ⟨q1, q2⟩ := pair s d p1 c1 k1
  obtain ⟨q3, q4⟩ := pair s' e p2 c2 k2
  unfold ltO
  rw [if_pos ⟨q1, q3, q2, q4⟩]
  show (ltP (toPy (.tup [.int s, d])) (toPy (.tup [.int s', e]))).bind _ = _
  simp only [toPy, toPyA, ltP, ltPA, PyData.eqv, w.eqv, w.lt]
  by_cases hs : s = s'
  · subst hs
    simp only [beq_self_eq_true, if_true, Int.sub_self]
    by_cases hr : r = 0
    · simp [hr]
    · simp [hr]
  · have h3 : ¬ s - s' = 0 := by omega
    rw [if_neg (by simpa using hs), if_neg h3]
    show some (decide (s < s')) = _
    congr 1
    exact decide_eq_decide.mpr (by omega)
/-! ### twins -/
theorem eqP_nil : eqP (em ([] : List Int)) (em ([] : List Int)) = some true := by
  unfold eqP
  rw [if_pos ⟨rfl, rfl, rfl, rfl⟩]
  simp [em, Em.em, toPy, toPyA, PyData.eqv, PyData.eqvAll]
theorem eqP_one (a : Int) : eqP (em [a]) (em ([] : List Int)) = some false := by
  unfold eqP
  rw [if_pos ⟨rfl, rfl, rfl, rfl⟩]
  simp [em, Em.em, toPy, toPyA, PyData.eqv, PyData.eqvAll]
theorem eqP_two (a b : Int) : eqP (em [a, b]) (em ([] : List Int)) = some false := by
  unfold eqP
  rw [if_pos ⟨rfl, rfl, rfl, rfl⟩]
  simp [em, Em.em, toPy, toPyA, PyData.eqv, PyData.eqvAll]
theorem andc (a b : Bool) : andO (some a) (some b) = some (a && b) := by cases a <;> rfl
theorem orc (a b : Bool) : orO (some a) (some b) = some (a || b) := by cases a <;> rfl
def GROUPS : List (List Str) := [["both", "either"], ["every", "some", "no", "notevery"], ["atleast", "atmost", "exactly"], ["not", "isle"], ["and", "or", "if"]]
theorem groups_keep : ∀ g ∈ GROUPS, 0 < g.length ∧ ∀ w ∈ g, ∀ v ∈ g, (w ∈ NUM → v ∈ NUM) ∧ (w ∈ ONE → v ∈ ONE) ∧ (w ∈ TWO → v ∈ TWO) := by decide +kernel
theorem not_leaf : ∀ w ∈ NUM ++ ONE ++ TWO, decide (w = ("kind" : Str)) = false ∧ decide (w = ("name" : Str)) = false := by decide +kernel
theorem idx_ok {g : List Str} {w : Str} (h : memB w g = true) : Ok (idxP g w) fun i => 0 ≤ i := by
  unfold idxP
  cases e : g.findIdx? (fun y => decide (y = w)) with
  | none =>
    rw [List.findIdx?_eq_none_iff] at e
    have := e w (memB_iff.mp h)
    simp at this
  | some j => exact Ok.some (show (0 : Int) ≤ (j : Int) by omega)
/-- the word exchanged for one of its group -/
theorem swap_ok {w : Str} {l : List D} {b : Int} (hl : l.length ≤ 5) : Ok ((loopO (fun (s_784 : Unit) (v_group_785 : List Str) => (asS (.str w)).bind fun x => if memB x v_group_785 = true then (asS (.str w)).bind fun x => (idxP v_group_785 x).bind fun x => (modP (x + 1 + (b.fdiv 7).fmod 2) (v_group_785.length : Int)).bind fun x => (atI v_group_785 x).bind fun x => (vtP 1 [x]).bind fun x => (asV (em x)).bind fun x => (asV (.tup (.str w :: l))).bind fun x_4 => (cutT x_4 (some 1) none).bind fun x_5 => (asV (em x_5)).bind fun x_6 => (catT x x_6).bind fun x => some (Fl.rt (ρ := D) (B := Unit) (S := Unit) (em x)) else some (Fl.nx ())) () GROUPS).bind
    (Lp.go (fun x => x) fun s_784 => (vtP 1 [D.str w]).bind fun x => (asV (.tup (.str w :: l))).bind fun x_4 => (cutT x_4 (some 1) none).bind fun x_5 => (catT x x_5).bind fun y_610 => some (em y_610))) fun r => ∃ v, r = .tup (.str v :: l) ∧ (w ∈ NUM → v ∈ NUM) ∧ (w ∈ ONE → v ∈ ONE) ∧ (w ∈ TWO → v ∈ TWO) := by
  have fin : ∀ v : Str, em (⟨[D.str v] ++ l⟩ : Vt D) = .tup (.str v :: l) := fun v => by
    show D.tup (([D.str v] ++ l).map em) = _
    rw [map_em]
    rfl
  refine Ok.bind (Ok.loopAny (fun _ => True) (fun r => ∃ v, r = .tup (.str v :: l) ∧ (w ∈ NUM → v ∈ NUM) ∧ (w ∈ ONE → v ∈ ONE) ∧ (w ∈ TWO → v ∈ TWO)) trivial fun g s hg _ => ?_) fun o ho => Ok.go ho (fun r h => h) fun s _ => ?_
  · simp only [asS_str, bsm, asV_tup, cut1]
    refine Ok.ite (fun h => ?_) fun _ => Ok.some trivial
    obtain ⟨g0, gk⟩ := groups_keep g hg
    refine (idx_ok h).bind fun i _ => ?_
    refine Ok.one (modP_eq (by omega)) ?_
    obtain ⟨v, e, hv, _⟩ := atI_of (xs := g) (i := (i + 1 + (b.fdiv 7).fmod 2).fmod (g.length : Int)) (fmod_lo (by omega)) (fmod_hi (by omega))
    refine Ok.one e ?_
    refine Ok.one vtP_eq ?_
    refine Ok.one (show asV (em (⟨[v]⟩ : Vt Str)) = some ⟨[D.str v]⟩ from rfl) ?_
    refine Ok.one (show asV (em (⟨l⟩ : Vt D)) = some ⟨l⟩ from by show some (⟨l.map em⟩ : Vt D) = _; rw [map_em]) ?_
    refine Ok.one (show catT (⟨[D.str v]⟩ : Vt D) ⟨l⟩ = some ⟨[D.str v] ++ l⟩ from by unfold catT; rw [if_pos ⟨by simp, by simp; omega⟩]) (Ok.some ?_)
    exact ⟨v, fin v, gk w (memB_iff.mp h) v hv⟩
  · simp only [asV_tup, bsm, cut1]
    refine Ok.one vtP_eq ?_
    refine Ok.one (show catT (⟨[D.str w]⟩ : Vt D) ⟨l⟩ = some ⟨[D.str w] ++ l⟩ from by unfold catT; rw [if_pos ⟨by simp, by simp; omega⟩]) (Ok.some ?_)
    exact ⟨w, fin w, id, id, id⟩
theorem abz (x : Int) : Ok (T.strAt (Str.ofString "abz") ((x.fdiv 5).fmod 3)) fun c => PyData.strOk c = true ∧ c.length = 1 := by
  have b0 := fmod_lo (x := x.fdiv 5) (show (0 : Int) < 3 by decide)
  have b1 := fmod_hi (x := x.fdiv 5) (show (0 : Int) < 3 by decide)
  have : (x.fdiv 5).fmod 3 = 0 ∨ (x.fdiv 5).fmod 3 = 1 ∨ (x.fdiv 5).fmod 3 = 2 := by omega
  rcases this with e | e | e
  · rw [e]; exact ⟨⟨#[97]⟩, by decide +kernel, by decide +kernel, by decide +kernel⟩
  · rw [e]; exact ⟨⟨#[98]⟩, by decide +kernel, by decide +kernel, by decide +kernel⟩
  · rw [e]; exact ⟨⟨#[122]⟩, by decide +kernel, by decide +kernel, by decide +kernel⟩
theorem strOk_iff {s : Str} : PyData.strOk s = true ↔ ∀ c ∈ s.cps.toList, c < 1114112 := by
  unfold PyData.strOk
  rw [← Array.all_toList, List.all_eq_true]
  simp only [decide_eq_true_eq]
theorem strOk_cut {s : Str} (h : PyData.strOk s = true) (lo hi : Option Int) : PyData.strOk (cutS s lo hi) = true := by
  rw [strOk_iff] at h ⊢
  intro c hc
  unfold cutS at hc
  exact h c (List.mem_of_mem_drop (List.mem_of_mem_take hc))
theorem strOk_app {s t : Str} (h : PyData.strOk s = true) (h' : PyData.strOk t = true) : PyData.strOk (s ++ t) = true := by
  rw [strOk_iff] at h h' ⊢
  intro c hc
  have hc : c ∈ s.cps.toList ++ t.cps.toList := by rw [← TL.tl_append]; exact hc
  rcases List.mem_append.mp hc with hc | hc
  · exact h c hc
  · exact h' c hc
theorem cut_last (s : Str) (h : 0 < s.length) : (cutS s none (some (-1))).length ≤ s.length - 1 := by
  rw [slen]
  unfold cutS
  simp only [List.length_take]
  have : HT.sIx s.length s.length (some (-1)) = s.length - 1 := by
    unfold HT.sIx
    simp only [show (-1 : Int) < 0 by decide, if_true]
    omega
  rw [this]
  omega
theorem r12 : rng 1 2 = [1] := rfl
theorem r13 : rng 1 3 = [1, 2] := rfl
theorem rp2 : rngP 1 2 = some (rng 1 2) := by unfold rngP; rw [if_pos (by decide)]
theorem rp3 : rngP 1 3 = some (rng 1 3) := by unfold rngP; rw [if_pos (by decide)]
theorem lcf1 {α : Type} {c : α → Option Bool} {x : α} {b : Bool} (h : c x = some b) : lcC c (fun v => some v) [x] = some (if b = true then [x] else []) := by
  unfold lcC
  rw [if_pos (show sz [x].length from (by decide : (1 : Nat) < 16777216))]
  unfold lcO
  rw [h, bsm]
  cases b <;> rfl
theorem lcf2 {α : Type} {c : α → Option Bool} {x y : α} {b b' : Bool} (h : c x = some b) (h' : c y = some b') : lcC c (fun v => some v) [x, y] = some ((if b = true then [x] else []) ++ (if b' = true then [y] else [])) := by
  unfold lcC
  rw [if_pos (show sz [x, y].length from (by decide : (2 : Nat) < 16777216))]
  unfold lcO
  rw [h, bsm]
  unfold lcO
  rw [h', bsm]
  cases b <;> cases b' <;> rfl
theorem twin_ok : ∀ (m n : Nat) (d : D) (b : Int), Tm n d → n ≤ m → Ok (R__law_twin m d b) (Tm n)
  | 0, n, d, b, h, hm => by cases h <;> omega
  | m + 1, n, d, b, h, hm => by
    unfold R__law_twin
    simp only [bsm, basm]
    have fm1 : ∀ x : Int, x.fmod 1 = 0 := fun x => by
      have := fmod_lo (x := x) (show (0 : Int) < 1 by decide)
      have := fmod_hi (x := x) (show (0 : Int) < 1 by decide)
      omega
    cases h with
    | @leaf n w s a so sl =>
      rw [show lenD (.tup [.str w, .str s]) = some 2 from rfl, bsm, rp2, bsm, r12]
      refine Ok.one (lcf1 (b := false) (by rw [asV_tup, bsm, atI_1, bsm]; rfl)) ?_
      rw [if_neg Bool.false_ne_true, eqP_nil]
      simp only [bsm, andc, Bool.not_true, Bool.false_and, Bool.false_eq_true, if_false, asV_tup, atI_0, atI_1, asS_str]
      refine Ok.bind (P := fun c : Bool => c = true) ?_ fun c hc => ?_
      · have : w = "kind" ∨ w = "name" := by simpa [LEAF] using a
        rcases this with rfl | rfl
        · exact ⟨true, by decide +kernel, rfl⟩
        · exact ⟨true, by decide +kernel, rfl⟩
      rw [if_pos hc]
      refine Ok.one (cutP_eq (by omega)) ?_
      refine (abz b).bind fun c1 k1 => ?_
      have lc := cutS_len s none (some (-1))
      refine Ok.one (catS_eq (by omega)) ?_
      have s1 : PyData.strOk (cutS s none (some (-1)) ++ c1) = true ∧ (cutS s none (some (-1)) ++ c1).length ≤ 12 := by
        refine ⟨strOk_app (strOk_cut so _ _) k1.1, ?_⟩
        rw [append_len]
        by_cases z : 0 < s.length
        · have := cut_last s z; omega
        · omega
      have ln : lenD (.str s) = some (s.length : Int) := by show (if sz s.length then some (s.length : Int) else none) = _; rw [if_pos (show sz s.length by unfold sz; omega)]
      rw [ln]
      simp only [bsm, andc]
      refine Ok.bind (P := fun m : Str => PyData.strOk m = true ∧ m.length ≤ 12) (Ok.ite (fun q => ?_) fun _ => Ok.some s1) fun m hm => ?_
      · refine (abz b).bind fun c2 k2 => ?_
        have := (Bool.and_eq_true_iff.mp q).2
        have := of_decide_eq_true this
        refine Ok.one (catS_eq (by omega)) (Ok.some ⟨strOk_app so k2.1, ?_⟩)
        rw [append_len]; omega
      refine Ok.bind (P := fun m : Str => PyData.strOk m = true ∧ m.length ≤ 12) (Ok.ite (fun q => ?_) fun _ => Ok.some hm) fun m hm => ?_
      · refine Ok.one (cutP_eq (by omega)) (Ok.some ⟨strOk_cut so _ _, by omega⟩)
      refine Ok.one vtP_eq (Ok.some ?_)
      exact .leaf a hm.1 hm.2
    | @num n w i t a ht =>
      rw [show lenD (.tup [.str w, .int i, t]) = some 3 from rfl, bsm, rp3, bsm, r13]
      refine Ok.one (lcf2 (b := false) (b' := true) (by rw [asV_tup, bsm, atI_1, bsm]; rfl) (by rw [asV_tup, bsm, atI_2, bsm]; exact ht.isi)) ?_
      rw [if_neg Bool.false_ne_true, if_pos rfl, List.nil_append, eqP_one]
      simp only [bsm, andc, Bool.not_false, Bool.true_and, asV_tup, atI_0, atI_1, atI_2, asS_str, asI_int]
      refine Ok.ite (fun _ => ?_) fun _ => ?_
      · refine Ok.one (modP_eq (by decide)) ?_
        rw [show (([2] : List Int).length : Int) = 1 from rfl, fm1]
        refine Ok.one (atI_0 (2 : Int) []) ?_
        refine Ok.one (show cutT (⟨[.str w, .int i, t]⟩ : Vt D) none (some 2) = some ⟨[.str w, .int i]⟩ from rfl) ?_
        refine Ok.one (atI_2 _ _ _ _) ?_
        refine (next_ok _ _).bind fun x _ => ?_
        refine (twin_ok m n t x ht (by omega)).bind fun t' ht' => ?_
        refine Ok.one vtP_eq ?_
        refine Ok.one (show catT (⟨[.str w, .int i]⟩ : Vt D) ⟨[t']⟩ = some ⟨[.str w, .int i, t']⟩ from by unfold catT; rw [if_pos ⟨by simp, by simp⟩]; rfl) ?_
        refine Ok.one (show cutT (⟨[.str w, .int i, t]⟩ : Vt D) (some (2 + 1)) none = some ⟨[]⟩ from rfl) ?_
        refine Ok.one (show catT (⟨[.str w, .int i, t']⟩ : Vt D) ⟨[]⟩ = some ⟨[.str w, .int i, t']⟩ from by unfold catT; rw [if_pos ⟨by simp, by simp⟩]; rfl) (Ok.some ?_)
        exact .num a ht'
      · have nl := not_leaf w (by simp [a])
        refine Ok.one (show orO (eqD (.str w) (em (Str.ofString "kind"))) (eqD (.str w) (em (Str.ofString "name"))) = some false from by
          show orO (some (decide (w = ("kind" : Str)))) (some (decide (w = ("name" : Str)))) = some false
          rw [orc, nl.1, nl.2]; rfl) ?_
        rw [if_neg Bool.false_ne_true]
        rw [show vtP 3 [Str.ofString "atleast", Str.ofString "atmost", Str.ofString "exactly"] = some ⟨NUM⟩ from rfl]
        simp only [bsm, andc]
        refine Ok.ite (fun _ => ?_) fun _ => ?_
        · refine Ok.one vtP_eq (Ok.some ?_)
          exact .num a ht
        · have sw := swap_ok (w := w) (l := [.int i, t]) (b := b) (by simp)
          simp only [asV_tup, bsm, asS_str] at sw
          refine Ok.one (lstP_eq (by decide)) (Ok.one (lstP_eq (by decide)) (Ok.one (lstP_eq (by decide)) (Ok.one (lstP_eq (by decide)) (Ok.one (lstP_eq (by decide)) (Ok.one (lstP_eq (by decide)) (Ok.one (lstP_eq (by decide)) (Ok.one (catL_eq (by decide)) ?_)))))))
          exact sw.imp fun r ⟨v, e, k⟩ => by rw [e]; exact .num (k.1 a) ht
    | @one n w t a ht =>
      rw [show lenD (.tup [.str w, t]) = some 2 from rfl, bsm, rp2, bsm, r12]
      refine Ok.one (lcf1 (b := true) (by rw [asV_tup, bsm, atI_1, bsm]; exact ht.isi)) ?_
      rw [if_pos rfl, eqP_one]
      simp only [bsm, andc, Bool.not_false, Bool.true_and, asV_tup, atI_0, atI_1, asS_str]
      refine Ok.ite (fun _ => ?_) fun _ => ?_
      · refine Ok.one (modP_eq (by decide)) ?_
        rw [show (([1] : List Int).length : Int) = 1 from rfl, fm1]
        refine Ok.one (atI_0 (1 : Int) []) ?_
        refine Ok.one (show cutT (⟨[.str w, t]⟩ : Vt D) none (some 1) = some ⟨[.str w]⟩ from rfl) ?_
        refine Ok.one (atI_1 _ _ _) ?_
        refine (next_ok _ _).bind fun x _ => ?_
        refine (twin_ok m n t x ht (by omega)).bind fun t' ht' => ?_
        refine Ok.one vtP_eq ?_
        refine Ok.one (show catT (⟨[.str w]⟩ : Vt D) ⟨[t']⟩ = some ⟨[.str w, t']⟩ from by unfold catT; rw [if_pos ⟨by simp, by simp⟩]; rfl) ?_
        refine Ok.one (show cutT (⟨[.str w, t]⟩ : Vt D) (some (1 + 1)) none = some ⟨[]⟩ from rfl) ?_
        refine Ok.one (show catT (⟨[.str w, t']⟩ : Vt D) ⟨[]⟩ = some ⟨[.str w, t']⟩ from by unfold catT; rw [if_pos ⟨by simp, by simp⟩]; rfl) (Ok.some ?_)
        exact .one a ht'
      · have nl := not_leaf w (by simp [a])
        refine Ok.one (show orO (eqD (.str w) (em (Str.ofString "kind"))) (eqD (.str w) (em (Str.ofString "name"))) = some false from by
          show orO (some (decide (w = ("kind" : Str)))) (some (decide (w = ("name" : Str)))) = some false
          rw [orc, nl.1, nl.2]; rfl) ?_
        rw [if_neg Bool.false_ne_true]
        rw [show vtP 3 [Str.ofString "atleast", Str.ofString "atmost", Str.ofString "exactly"] = some ⟨NUM⟩ from rfl]
        simp only [bsm, andc, show memB w NUM = false from by cases h : memB w NUM with | false => rfl | true => exact absurd a (disj2 w (memB_iff.mp h)).1, Bool.false_and, Bool.false_eq_true, if_false]
        have sw := swap_ok (w := w) (l := [t]) (b := b) (by simp)
        simp only [asV_tup, bsm, asS_str] at sw
        refine Ok.one (lstP_eq (by decide)) (Ok.one (lstP_eq (by decide)) (Ok.one (lstP_eq (by decide)) (Ok.one (lstP_eq (by decide)) (Ok.one (lstP_eq (by decide)) (Ok.one (lstP_eq (by decide)) (Ok.one (lstP_eq (by decide)) (Ok.one (catL_eq (by decide)) ?_)))))))
        exact sw.imp fun r ⟨v, e, k⟩ => by rw [e]; exact .one (k.2.1 a) ht
    | @two n w t u a ht hu =>
      rw [show lenD (.tup [.str w, t, u]) = some 3 from rfl, bsm, rp3, bsm, r13]
      refine Ok.one (lcf2 (b := true) (b' := true) (by rw [asV_tup, bsm, atI_1, bsm]; exact ht.isi) (by rw [asV_tup, bsm, atI_2, bsm]; exact hu.isi)) ?_
      rw [if_pos rfl, if_pos rfl, List.singleton_append, eqP_two]
      simp only [bsm, andc, Bool.not_false, Bool.true_and, asV_tup, atI_0, atI_1, atI_2, asS_str]
      refine Ok.ite (fun _ => ?_) fun _ => ?_
      · refine Ok.one (modP_eq (by decide)) ?_
        rcases two_of (fmod_lo (x := b.fdiv 5) (show (0 : Int) < 2 by decide)) (fmod_hi (by decide)) with e | e
        · rw [show (([1, 2] : List Int).length : Int) = 2 from rfl, e]
          refine Ok.one (atI_0 (1 : Int) [2]) ?_
          refine Ok.one (show cutT (⟨[.str w, t, u]⟩ : Vt D) none (some 1) = some ⟨[.str w]⟩ from rfl) ?_
          refine Ok.one (atI_1 _ _ _) ?_
          refine (next_ok _ _).bind fun x _ => ?_
          refine (twin_ok m n t x ht (by omega)).bind fun t' ht' => ?_
          refine Ok.one vtP_eq ?_
          refine Ok.one (show catT (⟨[.str w]⟩ : Vt D) ⟨[t']⟩ = some ⟨[.str w, t']⟩ from by unfold catT; rw [if_pos ⟨by simp, by simp⟩]; rfl) ?_
          refine Ok.one (show cutT (⟨[.str w, t, u]⟩ : Vt D) (some (1 + 1)) none = some ⟨[u]⟩ from rfl) ?_
          refine Ok.one (show catT (⟨[.str w, t']⟩ : Vt D) ⟨[u]⟩ = some ⟨[.str w, t', u]⟩ from by unfold catT; rw [if_pos ⟨by simp, by simp⟩]; rfl) (Ok.some ?_)
          exact .two a ht' hu
        · rw [show (([1, 2] : List Int).length : Int) = 2 from rfl, e]
          refine Ok.one (atI_1 (1 : Int) 2 []) ?_
          refine Ok.one (show cutT (⟨[.str w, t, u]⟩ : Vt D) none (some 2) = some ⟨[.str w, t]⟩ from rfl) ?_
          refine Ok.one (atI_2 _ _ _ _) ?_
          refine (next_ok _ _).bind fun x _ => ?_
          refine (twin_ok m n u x hu (by omega)).bind fun t' ht' => ?_
          refine Ok.one vtP_eq ?_
          refine Ok.one (show catT (⟨[.str w, t]⟩ : Vt D) ⟨[t']⟩ = some ⟨[.str w, t, t']⟩ from by unfold catT; rw [if_pos ⟨by simp, by simp⟩]; rfl) ?_
          refine Ok.one (show cutT (⟨[.str w, t, u]⟩ : Vt D) (some (2 + 1)) none = some ⟨[]⟩ from rfl) ?_
          refine Ok.one (show catT (⟨[.str w, t, t']⟩ : Vt D) ⟨[]⟩ = some ⟨[.str w, t, t']⟩ from by unfold catT; rw [if_pos ⟨by simp, by simp⟩]; rfl) (Ok.some ?_)
          exact .two a ht ht'
      · have nl := not_leaf w (by simp [a])
        refine Ok.one (show orO (eqD (.str w) (em (Str.ofString "kind"))) (eqD (.str w) (em (Str.ofString "name"))) = some false from by
          show orO (some (decide (w = ("kind" : Str)))) (some (decide (w = ("name" : Str)))) = some false
          rw [orc, nl.1, nl.2]; rfl) ?_
        rw [if_neg Bool.false_ne_true]
        rw [show vtP 3 [Str.ofString "atleast", Str.ofString "atmost", Str.ofString "exactly"] = some ⟨NUM⟩ from rfl]
        simp only [bsm, andc, show memB w NUM = false from by cases h : memB w NUM with | false => rfl | true => exact absurd a (disj2 w (memB_iff.mp h)).2, Bool.false_and, Bool.false_eq_true, if_false]
        have sw := swap_ok (w := w) (l := [t, u]) (b := b) (by simp)
        simp only [asV_tup, bsm, asS_str] at sw
        refine Ok.one (lstP_eq (by decide)) (Ok.one (lstP_eq (by decide)) (Ok.one (lstP_eq (by decide)) (Ok.one (lstP_eq (by decide)) (Ok.one (lstP_eq (by decide)) (Ok.one (lstP_eq (by decide)) (Ok.one (lstP_eq (by decide)) (Ok.one (catL_eq (by decide)) ?_)))))))
        exact sw.imp fun r ⟨v, e, k⟩ => by rw [e]; exact .two (k.2.2 a) ht hu
/-! ### the law -/
theorem is_int (a b : Int) : M__law_is (em a) (em b) = some (decide (a = b)) := by
  unfold M__law_is
  simp only [bsm, basm]
  show (andO (some true) (andO (some true) (some (decide (a = b))))).bind _ = _
  rw [andc, andc]
  simp only [bsm, Bool.true_and]
theorem is_bool (a b : Bool) : M__law_is (em a) (em b) = some (decide (a = b)) := by
  unfold M__law_is
  simp only [bsm, basm]
  show (andO (some true) (some (decide (a = b)))).bind _ = _
  rw [andc]
  simp only [bsm, Bool.true_and, id]
def gz (d : D) : Int := (R__law_size 64 d).getD 0
theorem gz_ok {d : D} (h : Tm 61 d) : R_size 64 d = some (gz d) ∧ R__law_size 64 d = some (gz d) := by
  obtain ⟨s, hs⟩ := size_ok h
  obtain ⟨h1, h2⟩ := hs 64 (by omega)
  unfold gz
  rw [h2]
  exact ⟨h1, rfl⟩
theorem law_true (ns : List Int) (hl : ns.length ≤ 63) : M_law ns = some true := by
  refine Ok.get ?_
  unfold M_law
  rw [e__law_draws]
  simp only [basm, bsm, andc, orc]
  have dr : Ok (m__law_draws ns 40) _ := draws_ok (n := 40) hl (by decide)
  refine dr.bind ?_
  rintro ds ⟨dl, dd⟩
  have at0 : ∀ i : Int, 0 ≤ i → i < 40 → Ok (atI ds i) fun d => 0 ≤ d := fun i h hj => by
    obtain ⟨d, e, m, _⟩ := atI_of (xs := ds) (i := i) h (by rw [dl]; exact hj)
    exact ⟨d, e, (dd d m).1⟩
  refine Ok.one (rngP_nat (n := 3) (by decide)) ?_
  refine Ok.loop0 (fun t ht => ?_) (Ok.some rfl)
  refine Ok.get ?_
  obtain ⟨t0, t1⟩ := rng_mem ht
  have t1 : t < 3 := t1
  refine (at0 _ t0 (by omega)).bind fun d0 _ => ?_
  refine (at0 _ (by omega) (by omega)).bind fun d3 _ => ?_
  refine (at0 _ (by omega) (by omega)).bind fun d6 _ => ?_
  refine Ok.one (lstP_eq (by decide)) ?_
  refine (at0 _ (by omega) (by omega)).bind fun d9 _ => ?_
  have b0 := fmod_lo (x := d9) (show (0 : Int) < 3 by decide)
  have b1 := fmod_hi (x := d9) (show (0 : Int) < 3 by decide)
  generalize d9.fmod 3 = r at b0 b1 ⊢
  refine Ok.bind (P := fun s : Int => 0 < s ∧ s ≤ 59) ?_ fun top htop => ?_
  · have : r = 0 ∨ r = 1 ∨ r = 2 := by omega
    rcases this with rfl | rfl | rfl
    all_goals exact ⟨_, rfl, by decide, by decide⟩
  refine Ok.one (modP_eq (by omega)) ?_
  have c0 := fmod_lo (x := d6) (y := top) htop.1
  have c1 := fmod_hi (x := d6) (y := top) htop.1
  obtain ⟨m, hm⟩ : ∃ m : Nat, 1 + d6.fmod top = (m : Int) := ⟨(1 + d6.fmod top).toNat, by omega⟩
  rw [hm]
  have m1 : 1 ≤ m ∧ m ≤ 59 := by omega
  refine (made_ok _ _ m m1.1 (by omega)).bind fun a0 h0 => ?_
  refine (at0 _ (by omega) (by omega)).bind fun d12 _ => ?_
  refine (at0 _ (by omega) (by omega)).bind fun d15 _ => ?_
  refine (twin_ok 64 61 a0 _ h0 (by decide)).bind fun a1 h1 => ?_
  refine Ok.one (lstP_eq (by simp)) ?_
  refine Ok.one (atI_1 _ _ _) ?_
  refine (at0 _ (by omega) (by omega)).bind fun d18 _ => ?_
  refine (at0 _ (by omega) (by omega)).bind fun d21 _ => ?_
  refine (twin_ok 64 61 a1 _ h1 (by decide)).bind fun a2 h2 => ?_
  refine Ok.one (show appP [a0, a1] a2 = some [a0, a1, a2] from appP_eq (by simp)) ?_
  refine (at0 _ (by omega) (by omega)).bind fun d24 _ => ?_
  refine (next_ok _ _).bind fun x1 _ => ?_
  refine (made_ok _ _ m m1.1 (by omega)).bind fun a3 h3 => ?_
  refine Ok.one (show appP [a0, a1, a2] a3 = some [a0, a1, a2, a3] from appP_eq (by simp)) ?_
  refine (at0 _ (by omega) (by omega)).bind fun d27 _ => ?_
  refine (next_ok _ _).bind fun x2 _ => ?_
  rw [show ((m : Int) + 1) = ((m + 1 : Nat) : Int) by omega]
  refine (made_ok _ _ (m + 1) (by omega) (by omega)).bind fun a4 h4 => ?_
  refine Ok.one (show appP [a0, a1, a2, a3] a4 = some [a0, a1, a2, a3, a4] from appP_eq (by simp)) ?_
  refine (at0 _ (by omega) (by omega)).bind fun d30 _ => ?_
  refine (next_ok _ _).bind fun x3 _ => ?_
  refine (at0 _ (by omega) (by omega)).bind fun d33 _ => ?_
  have e0 := fmod_lo (x := d33) (show (0 : Int) < 2 by decide)
  have e1 := fmod_hi (x := d33) (show (0 : Int) < 2 by decide)
  obtain ⟨m', hm'⟩ : ∃ m' : Nat, (if (m : Int) - d33.fmod 2 > 1 then (m : Int) - d33.fmod 2 else 1) = (m' : Int) := ⟨(if (m : Int) - d33.fmod 2 > 1 then (m : Int) - d33.fmod 2 else 1).toNat, by split <;> omega⟩
  rw [hm']
  have hm1 : 1 ≤ m' ∧ m' ≤ 59 := by
    by_cases q : (m : Int) - d33.fmod 2 > 1
    · rw [if_pos q] at hm'; omega
    · rw [if_neg q] at hm'; omega
  refine (made_ok _ _ m' hm1.1 (by omega)).bind fun a5 h5 => ?_
  refine Ok.one (show appP [a0, a1, a2, a3, a4] a5 = some [a0, a1, a2, a3, a4, a5] from appP_eq (by simp)) ?_
  refine (at0 _ (by omega) (by omega)).bind fun d36 _ => ?_
  refine (next_ok _ _).bind fun x4 _ => ?_
  refine (at0 _ (by omega) (by omega)).bind fun d36' _ => ?_
  have f0 := fmod_lo (x := d36'.fdiv 3) (show (0 : Int) < 60 by decide)
  have f1 := fmod_hi (x := d36'.fdiv 3) (show (0 : Int) < 60 by decide)
  obtain ⟨m'', hm''⟩ : ∃ m'' : Nat, 1 + (d36'.fdiv 3).fmod 60 = (m'' : Int) := ⟨(1 + (d36'.fdiv 3).fmod 60).toNat, by omega⟩
  rw [hm'']
  refine (made_ok _ _ m'' (by omega) (by omega)).bind fun a6 h6 => ?_
  refine Ok.one (show appP [a0, a1, a2, a3, a4, a5] a6 = some [a0, a1, a2, a3, a4, a5, a6] from appP_eq (by simp)) ?_
  have near : ∀ d ∈ [a0, a1, a2, a3, a4, a5, a6], Tm 61 d := fun d hd => by
    simp only [List.mem_cons, List.not_mem_nil, or_false] at hd
    rcases hd with rfl | rfl | rfl | rfl | rfl | rfl | rfl <;> assumption
  refine Ok.one (lcC_map (g := gz) (by simp) fun d hd => (gz_ok (near d hd)).2) ?_
  have nl : [a0, a1, a2, a3, a4, a5, a6].length = 7 := rfl
  have cut7 : T.cut [a0, a1, a2, a3, a4, a5, a6] none (some 1) = [a0] := rfl
  rw [cut7]
  refine Ok.one (catL_eq (by simp)) ?_
  have sz : ∀ (i : Int) (j : Nat), i = (j : Int) → (hj : j < 7) → atI ([a0, a1, a2, a3, a4, a5, a6].map gz) i = some (gz ([a0, a1, a2, a3, a4, a5, a6][j]'hj)) := fun i j h hj => by
    rw [atI_nat h (by simpa using hj), List.getElem_map]
  refine Ok.loop0 (fun p hp => ?_) ?_
  · obtain ⟨k, hk⟩ := List.getElem?_of_mem hp
    obtain ⟨one, ho, rfl⟩ := enumL_get hk
    have hk8 : k < 8 := by have := (List.getElem?_eq_some_iff.mp ho).1; simpa using this
    have hko : ∃ j, k % 7 = j ∧ ∃ hj : j < 7, one = [a0, a1, a2, a3, a4, a5, a6][j]'hj := by
      refine ⟨k % 7, rfl, Nat.mod_lt _ (by decide), ?_⟩
      by_cases h7 : k < 7
      · rw [List.getElem?_append_left (by simpa using h7), List.getElem?_eq_getElem (by simpa using h7)] at ho
        have := Option.some.inj ho
        rw [← this]
        congr 1
        exact (Nat.mod_eq_of_lt h7).symm
      · obtain rfl : k = 7 := by omega
        have : some a0 = some one := ho
        exact (Option.some.inj this).symm
    obtain ⟨j, hj1, hj2, rfl⟩ := hko
    show (R_size 64 _).bind _ = _
    rw [(gz_ok (near _ (List.getElem_mem hj2))).1]
    simp only [bsm]
    rw [sz _ j (by show ((k : Int)).fmod 7 = _; rw [fmod_emod (by decide)]; omega) hj2]
    simp only [bsm, is_int, decide_true, Bool.not_true, Bool.false_eq_true, if_false]
  · refine Ok.one (lstP_eq (by decide)) ?_
    refine Ok.loop0 (fun p hp => ?_) (Ok.some rfl)
    have hp2 : ∃ i j : Nat, p = ((i : Int), (j : Int)) ∧ i < 7 ∧ j < 7 := by
      have : ∀ p ∈ ([(0, 1), (0, 2), (0, 3), (0, 4), (0, 5), (1, 2), (3, 4), (0, 0), (0, 6), (4, 6), (5, 6), (0, 1)] : List (Int × Int)), 0 ≤ p.1 ∧ p.1 < 7 ∧ 0 ≤ p.2 ∧ p.2 < 7 := by decide
      obtain ⟨q1, q2, q3, q4⟩ := this p hp
      exact ⟨p.1.toNat, p.2.toNat, by rw [Int.toNat_of_nonneg q1, Int.toNat_of_nonneg q3], by omega, by omega⟩
    obtain ⟨i, j, rfl, hi, hj⟩ := hp2
    refine Ok.get ?_
    refine Ok.one (T.atI_nat (xs := [a0, a1, a2, a3, a4, a5, a6]) (j := i) rfl hi) ?_
    refine Ok.one (T.atI_nat (xs := [a0, a1, a2, a3, a4, a5, a6]) (j := j) rfl hj) ?_
    refine Ok.one (sz _ i rfl hi) ?_
    refine Ok.one (sz _ j rfl hj) ?_
    have hd := near _ (List.getElem_mem (l := [a0, a1, a2, a3, a4, a5, a6]) hi)
    have he := near _ (List.getElem_mem (l := [a0, a1, a2, a3, a4, a5, a6]) hj)
    generalize [a0, a1, a2, a3, a4, a5, a6][i] = d at hd ⊢
    generalize [a0, a1, a2, a3, a4, a5, a6][j] = e at he ⊢
    obtain ⟨r, w1, w2⟩ := walk_ok (hd.up (m := 64) (by decide)) (he.up (m := 64) (by decide))
    refine Ok.one (a := if gz d - gz e = 0 then r else gz d - gz e) ?_ ?_
    · by_cases q : gz d - gz e = 0
      · rw [if_pos (by simpa using q), if_pos q, w1.walk]; rfl
      · rw [if_neg (by simpa using q), if_neg q]
    · rw [before_ok hd he (gz_ok hd).1 (gz_ok he).1 w1, before_ok he hd (gz_ok he).1 (gz_ok hd).1 w2]
      simp only [bsm, is_bool, orc]
      have : decide ((if gz e - gz d = 0 then -r else gz e - gz d) < 0) = decide (0 < if gz d - gz e = 0 then r else gz d - gz e) := by
        refine decide_eq_decide.mpr ?_
        by_cases q : gz d - gz e = 0
        · rw [if_pos q, if_pos (by omega)]; omega
        · rw [if_neg q, if_neg (by omega)]; omega
      rw [this]
      simp only [decide_true, Bool.not_true, Bool.or_self, Bool.false_eq_true, if_false]
      exact Ok.some rfl
end K20

set_option Elab.async false
set_option linter.all false
set_option maxRecDepth 100000
set_option maxHeartbeats 8000000
namespace K20
open PySem PySem.Spec PyProof.Rows L2 T
theorem all_mk {l : PySem.W.OpenLaw} {w : World} {K : PySem.W.Frag} {h : Heap} {mg : Str → Option Value} {fa f_first_part f_inner f_size f_before f__law_draws f__law_next f__law_name f__law_kind f__law_noun f__law_sentence f__law_size f__law_walk f__law_twin f__law_is f__law_made f_law : Addr} (X : K.In h) (G : h.Ns mainGlobals mg) (hfa : mg "law" = some (.ref fa))
    {t_NUMBERED_0 : Tok} {t_NUMBERED_1 : Tok} {t_NUMBERED_2 : Tok} {A_NUMBERED : Addr} {od_NUMBERED : Option Addr} {n_NUMBERED : Nat} {sl_NUMBERED : Array (Option Value)} {A_LEAVES : Addr} {t_LEAVES_0 : Tok} {tk_LEAVES_0 : Tok} {t_LEAVES_1 : Tok} {tk_LEAVES_1 : Tok} {n_LEAVES : Nat}
    {od_first_part an_first_part : Option Addr} {sl_first_part : Array (Option Value)} {oc_first_part kV_first_part dc_first_part pm_first_part cd_first_part ct_first_part : Value}
    {od_inner an_inner : Option Addr} {sl_inner : Array (Option Value)} {oc_inner kV_inner dc_inner pm_inner cd_inner ct_inner : Value}
    {od_size an_size : Option Addr} {sl_size : Array (Option Value)} {oc_size kV_size dc_size pm_size cd_size ct_size : Value}
    {od_before an_before : Option Addr} {sl_before : Array (Option Value)} {oc_before kV_before dc_before pm_before cd_before ct_before : Value}
    {od__law_draws an__law_draws : Option Addr} {sl__law_draws : Array (Option Value)} {oc__law_draws kV__law_draws dc__law_draws pm__law_draws cd__law_draws ct__law_draws : Value}
    {od__law_next an__law_next : Option Addr} {sl__law_next : Array (Option Value)} {oc__law_next kV__law_next dc__law_next pm__law_next cd__law_next ct__law_next : Value}
    {od__law_name an__law_name : Option Addr} {sl__law_name : Array (Option Value)} {oc__law_name kV__law_name dc__law_name pm__law_name cd__law_name ct__law_name : Value}
    {od__law_kind an__law_kind : Option Addr} {sl__law_kind : Array (Option Value)} {oc__law_kind kV__law_kind dc__law_kind pm__law_kind cd__law_kind ct__law_kind : Value}
    {od__law_noun an__law_noun : Option Addr} {sl__law_noun : Array (Option Value)} {oc__law_noun kV__law_noun dc__law_noun pm__law_noun cd__law_noun ct__law_noun : Value}
    {od__law_sentence an__law_sentence : Option Addr} {sl__law_sentence : Array (Option Value)} {oc__law_sentence kV__law_sentence dc__law_sentence pm__law_sentence cd__law_sentence ct__law_sentence : Value}
    {od__law_size an__law_size : Option Addr} {sl__law_size : Array (Option Value)} {oc__law_size kV__law_size dc__law_size pm__law_size cd__law_size ct__law_size : Value}
    {od__law_walk an__law_walk : Option Addr} {sl__law_walk : Array (Option Value)} {oc__law_walk kV__law_walk dc__law_walk pm__law_walk cd__law_walk ct__law_walk : Value}
    {od__law_twin an__law_twin : Option Addr} {sl__law_twin : Array (Option Value)} {oc__law_twin kV__law_twin dc__law_twin pm__law_twin cd__law_twin ct__law_twin : Value}
    {od__law_is an__law_is : Option Addr} {sl__law_is : Array (Option Value)} {oc__law_is kV__law_is dc__law_is pm__law_is cd__law_is ct__law_is : Value}
    {od__law_made an__law_made : Option Addr} {sl__law_made : Array (Option Value)} {oc__law_made kV__law_made dc__law_made pm__law_made cd__law_made ct__law_made : Value}
    {od_law an_law : Option Addr} {sl_law : Array (Option Value)} {oc_law kV_law dc_law pm_law cd_law ct_law : Value}
    (a_first_part : PySem.W.nsIn K mainGlobals "first_part" = some (some (.ref f_first_part))) (l_first_part : K.lookup f_first_part = some ⟨oc_first_part, od_first_part, .func (PySem.W.fnOf "first_part" "first_part" (defArgs s_first_part) (defBody s_first_part) (defScope s_first_part) .none kV_first_part dc_first_part pm_first_part an_first_part cd_first_part ct_first_part), sl_first_part⟩) (c_first_part : PySem.W.codeIn K cd_first_part "first_part" = true) (k_first_part : PySem.W.keepIn K (.ref f_first_part) = true)
    (a_inner : PySem.W.nsIn K mainGlobals "inner" = some (some (.ref f_inner))) (l_inner : K.lookup f_inner = some ⟨oc_inner, od_inner, .func (PySem.W.fnOf "inner" "inner" (defArgs s_inner) (defBody s_inner) (defScope s_inner) .none kV_inner dc_inner pm_inner an_inner cd_inner ct_inner), sl_inner⟩) (c_inner : PySem.W.codeIn K cd_inner "inner" = true) (k_inner : PySem.W.keepIn K (.ref f_inner) = true)
    (a_size : PySem.W.nsIn K mainGlobals "size" = some (some (.ref f_size))) (l_size : K.lookup f_size = some ⟨oc_size, od_size, .func (PySem.W.fnOf "size" "size" (defArgs s_size) (defBody s_size) (defScope s_size) .none kV_size dc_size pm_size an_size cd_size ct_size), sl_size⟩) (c_size : PySem.W.codeIn K cd_size "size" = true) (k_size : PySem.W.keepIn K (.ref f_size) = true)
    (a_before : PySem.W.nsIn K mainGlobals "before" = some (some (.ref f_before))) (l_before : K.lookup f_before = some ⟨oc_before, od_before, .func (PySem.W.fnOf "before" "before" (defArgs s_before) (defBody s_before) (defScope s_before) .none kV_before dc_before pm_before an_before cd_before ct_before), sl_before⟩) (c_before : PySem.W.codeIn K cd_before "before" = true) (k_before : PySem.W.keepIn K (.ref f_before) = true)
    (a__law_draws : PySem.W.nsIn K mainGlobals "_law_draws" = some (some (.ref f__law_draws))) (l__law_draws : K.lookup f__law_draws = some ⟨oc__law_draws, od__law_draws, .func (PySem.W.fnOf "_law_draws" "_law_draws" (defArgs s__law_draws) (defBody s__law_draws) (defScope s__law_draws) .none kV__law_draws dc__law_draws pm__law_draws an__law_draws cd__law_draws ct__law_draws), sl__law_draws⟩) (c__law_draws : PySem.W.codeIn K cd__law_draws "_law_draws" = true) (k__law_draws : PySem.W.keepIn K (.ref f__law_draws) = true)
    (a__law_next : PySem.W.nsIn K mainGlobals "_law_next" = some (some (.ref f__law_next))) (l__law_next : K.lookup f__law_next = some ⟨oc__law_next, od__law_next, .func (PySem.W.fnOf "_law_next" "_law_next" (defArgs s__law_next) (defBody s__law_next) (defScope s__law_next) .none kV__law_next dc__law_next pm__law_next an__law_next cd__law_next ct__law_next), sl__law_next⟩) (c__law_next : PySem.W.codeIn K cd__law_next "_law_next" = true) (k__law_next : PySem.W.keepIn K (.ref f__law_next) = true)
    (a__law_name : PySem.W.nsIn K mainGlobals "_law_name" = some (some (.ref f__law_name))) (l__law_name : K.lookup f__law_name = some ⟨oc__law_name, od__law_name, .func (PySem.W.fnOf "_law_name" "_law_name" (defArgs s__law_name) (defBody s__law_name) (defScope s__law_name) .none kV__law_name dc__law_name pm__law_name an__law_name cd__law_name ct__law_name), sl__law_name⟩) (c__law_name : PySem.W.codeIn K cd__law_name "_law_name" = true) (k__law_name : PySem.W.keepIn K (.ref f__law_name) = true)
    (a__law_kind : PySem.W.nsIn K mainGlobals "_law_kind" = some (some (.ref f__law_kind))) (l__law_kind : K.lookup f__law_kind = some ⟨oc__law_kind, od__law_kind, .func (PySem.W.fnOf "_law_kind" "_law_kind" (defArgs s__law_kind) (defBody s__law_kind) (defScope s__law_kind) .none kV__law_kind dc__law_kind pm__law_kind an__law_kind cd__law_kind ct__law_kind), sl__law_kind⟩) (c__law_kind : PySem.W.codeIn K cd__law_kind "_law_kind" = true) (k__law_kind : PySem.W.keepIn K (.ref f__law_kind) = true)
    (a__law_noun : PySem.W.nsIn K mainGlobals "_law_noun" = some (some (.ref f__law_noun))) (l__law_noun : K.lookup f__law_noun = some ⟨oc__law_noun, od__law_noun, .func (PySem.W.fnOf "_law_noun" "_law_noun" (defArgs s__law_noun) (defBody s__law_noun) (defScope s__law_noun) .none kV__law_noun dc__law_noun pm__law_noun an__law_noun cd__law_noun ct__law_noun), sl__law_noun⟩) (c__law_noun : PySem.W.codeIn K cd__law_noun "_law_noun" = true) (k__law_noun : PySem.W.keepIn K (.ref f__law_noun) = true)
    (a__law_sentence : PySem.W.nsIn K mainGlobals "_law_sentence" = some (some (.ref f__law_sentence))) (l__law_sentence : K.lookup f__law_sentence = some ⟨oc__law_sentence, od__law_sentence, .func (PySem.W.fnOf "_law_sentence" "_law_sentence" (defArgs s__law_sentence) (defBody s__law_sentence) (defScope s__law_sentence) .none kV__law_sentence dc__law_sentence pm__law_sentence an__law_sentence cd__law_sentence ct__law_sentence), sl__law_sentence⟩) (c__law_sentence : PySem.W.codeIn K cd__law_sentence "_law_sentence" = true) (k__law_sentence : PySem.W.keepIn K (.ref f__law_sentence) = true)
    (a__law_size : PySem.W.nsIn K mainGlobals "_law_size" = some (some (.ref f__law_size))) (l__law_size : K.lookup f__law_size = some ⟨oc__law_size, od__law_size, .func (PySem.W.fnOf "_law_size" "_law_size" (defArgs s__law_size) (defBody s__law_size) (defScope s__law_size) .none kV__law_size dc__law_size pm__law_size an__law_size cd__law_size ct__law_size), sl__law_size⟩) (c__law_size : PySem.W.codeIn K cd__law_size "_law_size" = true) (k__law_size : PySem.W.keepIn K (.ref f__law_size) = true)
    (a__law_walk : PySem.W.nsIn K mainGlobals "_law_walk" = some (some (.ref f__law_walk))) (l__law_walk : K.lookup f__law_walk = some ⟨oc__law_walk, od__law_walk, .func (PySem.W.fnOf "_law_walk" "_law_walk" (defArgs s__law_walk) (defBody s__law_walk) (defScope s__law_walk) .none kV__law_walk dc__law_walk pm__law_walk an__law_walk cd__law_walk ct__law_walk), sl__law_walk⟩) (c__law_walk : PySem.W.codeIn K cd__law_walk "_law_walk" = true) (k__law_walk : PySem.W.keepIn K (.ref f__law_walk) = true)
    (a__law_twin : PySem.W.nsIn K mainGlobals "_law_twin" = some (some (.ref f__law_twin))) (l__law_twin : K.lookup f__law_twin = some ⟨oc__law_twin, od__law_twin, .func (PySem.W.fnOf "_law_twin" "_law_twin" (defArgs s__law_twin) (defBody s__law_twin) (defScope s__law_twin) .none kV__law_twin dc__law_twin pm__law_twin an__law_twin cd__law_twin ct__law_twin), sl__law_twin⟩) (c__law_twin : PySem.W.codeIn K cd__law_twin "_law_twin" = true) (k__law_twin : PySem.W.keepIn K (.ref f__law_twin) = true)
    (a__law_is : PySem.W.nsIn K mainGlobals "_law_is" = some (some (.ref f__law_is))) (l__law_is : K.lookup f__law_is = some ⟨oc__law_is, od__law_is, .func (PySem.W.fnOf "_law_is" "_law_is" (defArgs s__law_is) (defBody s__law_is) (defScope s__law_is) .none kV__law_is dc__law_is pm__law_is an__law_is cd__law_is ct__law_is), sl__law_is⟩) (c__law_is : PySem.W.codeIn K cd__law_is "_law_is" = true) (k__law_is : PySem.W.keepIn K (.ref f__law_is) = true)
    (a__law_made : PySem.W.nsIn K mainGlobals "_law_made" = some (some (.ref f__law_made))) (l__law_made : K.lookup f__law_made = some ⟨oc__law_made, od__law_made, .func (PySem.W.fnOf "_law_made" "_law_made" (defArgs s__law_made) (defBody s__law_made) (defScope s__law_made) .none kV__law_made dc__law_made pm__law_made an__law_made cd__law_made ct__law_made), sl__law_made⟩) (c__law_made : PySem.W.codeIn K cd__law_made "_law_made" = true) (k__law_made : PySem.W.keepIn K (.ref f__law_made) = true)
    (a_law : PySem.W.nsIn K mainGlobals "law" = some (some (.ref f_law))) (l_law : K.lookup f_law = some ⟨oc_law, od_law, .func (PySem.W.fnOf "law" "law" (defArgs s_law) (defBody s_law) (defScope s_law) .none kV_law dc_law pm_law an_law cd_law ct_law), sl_law⟩) (c_law : PySem.W.codeIn K cd_law "law" = true) (k_law : PySem.W.keepIn K (.ref f_law) = true)
    (z_abs : PySem.W.nsIn K mainGlobals "abs" = some none)
    (z_bool : PySem.W.nsIn K mainGlobals "bool" = some none)
    (z_enumerate : PySem.W.nsIn K mainGlobals "enumerate" = some none)
    (z_int : PySem.W.nsIn K mainGlobals "int" = some none)
    (z_isinstance : PySem.W.nsIn K mainGlobals "isinstance" = some none)
    (z_len : PySem.W.nsIn K mainGlobals "len" = some none)
    (z_max : PySem.W.nsIn K mainGlobals "max" = some none)
    (z_range : PySem.W.nsIn K mainGlobals "range" = some none)
    (z_sum : PySem.W.nsIn K mainGlobals "sum" = some none)
    (z_tuple : PySem.W.nsIn K mainGlobals "tuple" = some none)
    (z_zip : PySem.W.nsIn K mainGlobals "zip" = some none)
    (g_NUMBERED : PySem.W.nsIn K mainGlobals "NUMBERED" = some (some (.ref A_NUMBERED)))
    (l_NUMBERED : K.lookup A_NUMBERED = some ⟨.type "tuple", od_NUMBERED, .seq #[.str ("atleast" : Str) t_NUMBERED_0, .str ("atmost" : Str) t_NUMBERED_1, .str ("exactly" : Str) t_NUMBERED_2] n_NUMBERED, sl_NUMBERED⟩)
    (g_LEAVES : PySem.W.nsIn K mainGlobals "LEAVES" = some (some (.ref A_LEAVES)))
    (d_LEAVES : K.lookup A_LEAVES = some ⟨.type "dict", none, .dict #[⟨PyData.keyHash w.params ("kind" : Str), .str ("kind" : Str) tk_LEAVES_0, .str ("kind" : Str) t_LEAVES_0⟩, ⟨PyData.keyHash w.params ("name" : Str), .str ("name" : Str) tk_LEAVES_1, .str ("noun" : Str) t_LEAVES_1⟩] n_LEAVES, #[]⟩)
    (s_LEAVES : (A_LEAVES == sysModules) = false)
    (v_LEAVES_0 : PySem.W.nsIn K A_LEAVES ("kind" : Str) = some (some (.str ("kind" : Str) t_LEAVES_0)))
    (v_LEAVES_1 : PySem.W.nsIn K A_LEAVES ("name" : Str) = some (some (.str ("noun" : Str) t_LEAVES_1)))
    : ∃ fd : FuncData, (∀ (s : Shared) (v : Value), BindsTo s fd ⟨[v], []⟩ [("script", v)]) ∧ ∀ base : Heap, K.In base → base.Ns mainGlobals mg → FnOk l.prog w K mg base CX0 134 fa fd ["script"] (spLaw K) := by
  have e := hfa.symm.trans (PySem.W.mg_of X G a_law)
  cases e
  have Z : Zs K w mg := ⟨PySem.W.mg_none_of X G z_abs, PySem.W.mg_none_of X G z_bool, PySem.W.mg_none_of X G z_enumerate, PySem.W.mg_none_of X G z_int, PySem.W.mg_none_of X G z_isinstance, PySem.W.mg_none_of X G z_len, PySem.W.mg_none_of X G z_max, PySem.W.mg_none_of X G z_range, PySem.W.mg_none_of X G z_sum, PySem.W.mg_none_of X G z_tuple, PySem.W.mg_none_of X G z_zip, ⟨_, PySem.W.mg_of X G g_NUMBERED, (cs_tup l_NUMBERED (.cons cs_str (.cons cs_str (.cons cs_str .nil))))⟩, kd_mk (PySem.W.mg_of X G g_LEAVES) (dicW_of d_LEAVES s_LEAVES) (kv_cons v_LEAVES_0 cs_str (kv_cons v_LEAVES_1 cs_str kv_nil))⟩
  have F_first_part := fun_mk (st := s_first_part) l_first_part c_first_part k_first_part
  have b_first_part := F_first_part.binds (ps := ["word"]) fun _ _ _ _ _ _ us hl => match us, hl with | [_], _ => rfl
  have F_inner := fun_mk (st := s_inner) l_inner c_inner k_inner
  have b_inner := F_inner.binds (ps := ["term"]) fun _ _ _ _ _ _ us hl => match us, hl with | [_], _ => rfl
  have F_size := fun_mk (st := s_size) l_size c_size k_size
  have b_size := F_size.binds (ps := ["term"]) fun _ _ _ _ _ _ us hl => match us, hl with | [_], _ => rfl
  have F_before := fun_mk (st := s_before) l_before c_before k_before
  have b_before := F_before.binds (ps := ["one", "other"]) fun _ _ _ _ _ _ us hl => match us, hl with | [_, _], _ => rfl
  have F__law_draws := fun_mk (st := s__law_draws) l__law_draws c__law_draws k__law_draws
  have b__law_draws := F__law_draws.binds (ps := ["script", "count"]) fun _ _ _ _ _ _ us hl => match us, hl with | [_, _], _ => rfl
  have F__law_next := fun_mk (st := s__law_next) l__law_next c__law_next k__law_next
  have b__law_next := F__law_next.binds (ps := ["seed", "k"]) fun _ _ _ _ _ _ us hl => match us, hl with | [_, _], _ => rfl
  have F__law_name := fun_mk (st := s__law_name) l__law_name c__law_name k__law_name
  have b__law_name := F__law_name.binds (ps := ["seed"]) fun _ _ _ _ _ _ us hl => match us, hl with | [_], _ => rfl
  have F__law_kind := fun_mk (st := s__law_kind) l__law_kind c__law_kind k__law_kind
  have b__law_kind := F__law_kind.binds (ps := ["seed", "many"]) fun _ _ _ _ _ _ us hl => match us, hl with | [_, _], _ => rfl
  have F__law_noun := fun_mk (st := s__law_noun) l__law_noun c__law_noun k__law_noun
  have b__law_noun := F__law_noun.binds (ps := ["seed", "many"]) fun _ _ _ _ _ _ us hl => match us, hl with | [_, _], _ => rfl
  have F__law_sentence := fun_mk (st := s__law_sentence) l__law_sentence c__law_sentence k__law_sentence
  have b__law_sentence := F__law_sentence.binds (ps := ["seed", "many"]) fun _ _ _ _ _ _ us hl => match us, hl with | [_, _], _ => rfl
  have F__law_size := fun_mk (st := s__law_size) l__law_size c__law_size k__law_size
  have b__law_size := F__law_size.binds (ps := ["term"]) fun _ _ _ _ _ _ us hl => match us, hl with | [_], _ => rfl
  have F__law_walk := fun_mk (st := s__law_walk) l__law_walk c__law_walk k__law_walk
  have b__law_walk := F__law_walk.binds (ps := ["one", "other"]) fun _ _ _ _ _ _ us hl => match us, hl with | [_, _], _ => rfl
  have F__law_twin := fun_mk (st := s__law_twin) l__law_twin c__law_twin k__law_twin
  have b__law_twin := F__law_twin.binds (ps := ["term", "seed"]) fun _ _ _ _ _ _ us hl => match us, hl with | [_, _], _ => rfl
  have F__law_is := fun_mk (st := s__law_is) l__law_is c__law_is k__law_is
  have b__law_is := F__law_is.binds (ps := ["actual", "due"]) fun _ _ _ _ _ _ us hl => match us, hl with | [_, _], _ => rfl
  have F__law_made := fun_mk (st := s__law_made) l__law_made c__law_made k__law_made
  have b__law_made := F__law_made.binds (ps := ["which", "seed", "many"]) fun _ _ _ _ _ _ us hl => match us, hl with | [_, _, _], _ => rfl
  have F_law := fun_mk (st := s_law) l_law c_law k_law
  refine ⟨PySem.W.fnOf "law" "law" (defArgs s_law) (defBody s_law) (defScope s_law) .none kV_law dc_law pm_law an_law cd_law ct_law, fun s v => .of_eq rfl, fun base _ _ => ?_⟩
  have D_first_part : Df l.prog w K mg base 1 "first_part" f_first_part _ ["word"] (spF K (fun a : Str × Unit => [.dat (em a.1)]) (fun a : Str × Unit => M_first_part a.1) fun x : Int => .dat (em x)) := ⟨ok_first_part F_first_part Z, PySem.W.mg_of X G a_first_part, k_first_part, b_first_part⟩
  have D_inner : Df l.prog w K mg base 2 "inner" f_inner _ ["term"] (spF K (fun a : D × Unit => [.dat (em a.1)]) (fun a : D × Unit => M_inner a.1) fun x : D => .dat (em x)) := ⟨ok_inner F_inner Z D_first_part, PySem.W.mg_of X G a_inner, k_inner, b_inner⟩
  have D_size : Df l.prog w K mg base 67 "size" f_size _ ["term"] (spF K (fun a : D × Unit => [.dat (em a.1)]) (fun a : D × Unit => R_size 64 a.1) fun x : Int => .dat (em x)) := ⟨ok_size F_size Z D_inner (PySem.W.mg_of X G a_size) k_size b_size 64, PySem.W.mg_of X G a_size, k_size, b_size⟩
  have D_before : Df l.prog w K mg base 68 "before" f_before _ ["one", "other"] (spF K (fun a : D × D × Unit => [.dat (em a.1), .dat (em a.2.1)]) (fun a : D × D × Unit => M_before a.1 a.2.1) fun x : Bool => .dat (em x)) := ⟨ok_before F_before Z D_size, PySem.W.mg_of X G a_before, k_before, b_before⟩
  have D__law_draws : Df l.prog w K mg base 1 "_law_draws" f__law_draws _ ["script", "count"] (spF K (fun a : (List Int) × Int × Unit => [.bor (List.map em a.1), .dat (em a.2.1)]) (fun a : (List Int) × Int × Unit => M__law_draws a.1 a.2.1) fun x : (List Int) => .own (List.map em x)) := ⟨ok__law_draws F__law_draws Z, PySem.W.mg_of X G a__law_draws, k__law_draws, b__law_draws⟩
  have D__law_next : Df l.prog w K mg base 1 "_law_next" f__law_next _ ["seed", "k"] (spF K (fun a : Int × Int × Unit => [.dat (em a.1), .dat (em a.2.1)]) (fun a : Int × Int × Unit => M__law_next a.1 a.2.1) fun x : Int => .dat (em x)) := ⟨ok__law_next F__law_next Z, PySem.W.mg_of X G a__law_next, k__law_next, b__law_next⟩
  have D__law_name : Df l.prog w K mg base 1 "_law_name" f__law_name _ ["seed"] (spF K (fun a : Int × Unit => [.dat (em a.1)]) (fun a : Int × Unit => M__law_name a.1) fun x : Str => .dat (em x)) := ⟨ok__law_name F__law_name Z, PySem.W.mg_of X G a__law_name, k__law_name, b__law_name⟩
  have D__law_kind : Df l.prog w K mg base 66 "_law_kind" f__law_kind _ ["seed", "many"] (spF K (fun a : Int × Int × Unit => [.dat (em a.1), .dat (em a.2.1)]) (fun a : Int × Int × Unit => R__law_kind 64 a.1 a.2.1) fun x : D => .dat (em x)) := ⟨ok__law_kind F__law_kind Z D__law_name D__law_next (PySem.W.mg_of X G a__law_kind) k__law_kind b__law_kind 64, PySem.W.mg_of X G a__law_kind, k__law_kind, b__law_kind⟩
  have D__law_noun : Df l.prog w K mg base 67 "_law_noun" f__law_noun _ ["seed", "many"] (spF K (fun a : Int × Int × Unit => [.dat (em a.1), .dat (em a.2.1)]) (fun a : Int × Int × Unit => M__law_noun a.1 a.2.1) fun x : D => .dat (em x)) := ⟨ok__law_noun F__law_noun Z D__law_kind D__law_name D__law_next, PySem.W.mg_of X G a__law_noun, k__law_noun, b__law_noun⟩
  have D__law_sentence : Df l.prog w K mg base 132 "_law_sentence" f__law_sentence _ ["seed", "many"] (spF K (fun a : Int × Int × Unit => [.dat (em a.1), .dat (em a.2.1)]) (fun a : Int × Int × Unit => R__law_sentence 64 a.1 a.2.1) fun x : D => .dat (em x)) := ⟨ok__law_sentence F__law_sentence Z D__law_kind D__law_next D__law_noun (PySem.W.mg_of X G a__law_sentence) k__law_sentence b__law_sentence 64, PySem.W.mg_of X G a__law_sentence, k__law_sentence, b__law_sentence⟩
  have D__law_size : Df l.prog w K mg base 65 "_law_size" f__law_size _ ["term"] (spF K (fun a : D × Unit => [.dat (em a.1)]) (fun a : D × Unit => R__law_size 64 a.1) fun x : Int => .dat (em x)) := ⟨ok__law_size F__law_size Z (PySem.W.mg_of X G a__law_size) k__law_size b__law_size 64, PySem.W.mg_of X G a__law_size, k__law_size, b__law_size⟩
  have D__law_walk : Df l.prog w K mg base 65 "_law_walk" f__law_walk _ ["one", "other"] (spF K (fun a : D × D × Unit => [.dat (em a.1), .dat (em a.2.1)]) (fun a : D × D × Unit => R__law_walk 64 a.1 a.2.1) fun x : Int => .dat (em x)) := ⟨ok__law_walk F__law_walk Z (PySem.W.mg_of X G a__law_walk) k__law_walk b__law_walk 64, PySem.W.mg_of X G a__law_walk, k__law_walk, b__law_walk⟩
  have D__law_twin : Df l.prog w K mg base 66 "_law_twin" f__law_twin _ ["term", "seed"] (spF K (fun a : D × Int × Unit => [.dat (em a.1), .dat (em a.2.1)]) (fun a : D × Int × Unit => R__law_twin 64 a.1 a.2.1) fun x : D => .dat (em x)) := ⟨ok__law_twin F__law_twin Z D__law_next (PySem.W.mg_of X G a__law_twin) k__law_twin b__law_twin 64, PySem.W.mg_of X G a__law_twin, k__law_twin, b__law_twin⟩
  have D__law_is : Df l.prog w K mg base 1 "_law_is" f__law_is _ ["actual", "due"] (spF K (fun a : D × D × Unit => [.dat (em a.1), .dat (em a.2.1)]) (fun a : D × D × Unit => M__law_is a.1 a.2.1) fun x : Bool => .dat (em x)) := ⟨ok__law_is F__law_is Z, PySem.W.mg_of X G a__law_is, k__law_is, b__law_is⟩
  have D__law_made : Df l.prog w K mg base 133 "_law_made" f__law_made _ ["which", "seed", "many"] (spF K (fun a : Int × Int × Int × Unit => [.dat (em a.1), .dat (em a.2.1), .dat (em a.2.2.1)]) (fun a : Int × Int × Int × Unit => M__law_made a.1 a.2.1 a.2.2.1) fun x : D => .dat (em x)) := ⟨ok__law_made F__law_made Z D__law_kind D__law_noun D__law_sentence, PySem.W.mg_of X G a__law_made, k__law_made, b__law_made⟩
  exact law_ok (m := fun a => M_law a.1) (ok_law F_law Z D__law_draws D__law_is D__law_made D__law_next D__law_size D__law_twin D__law_walk D_before D_size) fun ns hl => law_true ns hl
end K20
open PySem PySem.W PyProof.Rows
set_option maxRecDepth 100000 in
set_option maxHeartbeats 0 in
theorem PySem.Challenge.cw_saidback_k20_sizes_and_order_of_terms_holds : PySem.Challenge.rw_saidback_k20_sizes_and_order_of_terms.Holds := by
  w_on; o_law; k_head; (case hw => w_witness2)
  k_fill
  refine T.law_walk (k := 134) (l := PySem.Challenge.rw_saidback_k20_sizes_and_order_of_terms) rfl rfl (fun w h Y => PySem.W.kIn_of Y) ⟨rfl, by decide, by decide⟩ ?F
  case F =>
    intro w mg fa h KX G hmg
    refine' K20.all_mk KX G hmg ?a_first_part ?l_first_part ?c_first_part ?k_first_part ?a_inner ?l_inner ?c_inner ?k_inner ?a_size ?l_size ?c_size ?k_size ?a_before ?l_before ?c_before ?k_before ?a__law_draws ?l__law_draws ?c__law_draws ?k__law_draws ?a__law_next ?l__law_next ?c__law_next ?k__law_next ?a__law_name ?l__law_name ?c__law_name ?k__law_name ?a__law_kind ?l__law_kind ?c__law_kind ?k__law_kind ?a__law_noun ?l__law_noun ?c__law_noun ?k__law_noun ?a__law_sentence ?l__law_sentence ?c__law_sentence ?k__law_sentence ?a__law_size ?l__law_size ?c__law_size ?k__law_size ?a__law_walk ?l__law_walk ?c__law_walk ?k__law_walk ?a__law_twin ?l__law_twin ?c__law_twin ?k__law_twin ?a__law_is ?l__law_is ?c__law_is ?k__law_is ?a__law_made ?l__law_made ?c__law_made ?k__law_made ?a_law ?l_law ?c_law ?k_law ?z_abs ?z_bool ?z_enumerate ?z_int ?z_isinstance ?z_len ?z_max ?z_range ?z_sum ?z_tuple ?z_zip ?g_NUMBERED ?l_NUMBERED ?g_LEAVES ?d_LEAVES ?s_LEAVES ?v_LEAVES_0 ?v_LEAVES_1
    (case a_first_part => k_is); (case l_first_part => k_is); (case c_first_part => k_is); (case k_first_part => k_is)
    (case a_inner => k_is); (case l_inner => k_is); (case c_inner => k_is); (case k_inner => k_is)
    (case a_size => k_is); (case l_size => k_is); (case c_size => k_is); (case k_size => k_is)
    (case a_before => k_is); (case l_before => k_is); (case c_before => k_is); (case k_before => k_is)
    (case a__law_draws => k_is); (case l__law_draws => k_is); (case c__law_draws => k_is); (case k__law_draws => k_is)
    (case a__law_next => k_is); (case l__law_next => k_is); (case c__law_next => k_is); (case k__law_next => k_is)
    (case a__law_name => k_is); (case l__law_name => k_is); (case c__law_name => k_is); (case k__law_name => k_is)
    (case a__law_kind => k_is); (case l__law_kind => k_is); (case c__law_kind => k_is); (case k__law_kind => k_is)
    (case a__law_noun => k_is); (case l__law_noun => k_is); (case c__law_noun => k_is); (case k__law_noun => k_is)
    (case a__law_sentence => k_is); (case l__law_sentence => k_is); (case c__law_sentence => k_is); (case k__law_sentence => k_is)
    (case a__law_size => k_is); (case l__law_size => k_is); (case c__law_size => k_is); (case k__law_size => k_is)
    (case a__law_walk => k_is); (case l__law_walk => k_is); (case c__law_walk => k_is); (case k__law_walk => k_is)
    (case a__law_twin => k_is); (case l__law_twin => k_is); (case c__law_twin => k_is); (case k__law_twin => k_is)
    (case a__law_is => k_is); (case l__law_is => k_is); (case c__law_is => k_is); (case k__law_is => k_is)
    (case a__law_made => k_is); (case l__law_made => k_is); (case c__law_made => k_is); (case k__law_made => k_is)
    (case a_law => k_is); (case l_law => k_is); (case c_law => k_is); (case k_law => k_is)
    (case z_abs => k_is)
    (case z_bool => k_is)
    (case z_enumerate => k_is)
    (case z_int => k_is)
    (case z_isinstance => k_is)
    (case z_len => k_is)
    (case z_max => k_is)
    (case z_range => k_is)
    (case z_sum => k_is)
    (case z_tuple => k_is)
    (case z_zip => k_is)
    (case g_NUMBERED => k_is)
    (case l_NUMBERED => k_is)
    (case g_LEAVES => k_is)
    (case d_LEAVES => k_is)
    (case s_LEAVES => exact rfl)
    (case v_LEAVES_0 => k_is)
    (case v_LEAVES_1 => k_is)
#print axioms PySem.Challenge.cw_saidback_k20_sizes_and_order_of_terms_holds

