import PyProof.Rows.All
import Wide.All
import OpenK.AllK
import Wide.FinOn
import HandS.ForMost
import HandS.AnyAll
import HandS.ForExc
import KE.KRevSl
import PyProof.Draws
import HandS.IsInst
import HandS.Conv
import HandS.Style
import HandS.Zip
import HandS.More
import HandS.TupLe
import HandS.Deep
import KE.LtSeq
import KE.DataCmp
import HandS.HeadHook3
import HandS.EndTab
import HandS.EndOwn
import PyProof.FString5
import HandS.Wide
import KE.KMathGC
import HandS.Gcd
import HandS.ExcInit
import HandS.ExcIs
import HandS.ExcField
import HandS.WordsExc
import KE.KExcIs
import HandS.Strs
import PySem.Challenge.RW_saidback_k41_signature
set_option Elab.async false
set_option linter.all false
set_option maxRecDepth 100000
set_option maxHeartbeats 4000000
/-! TCore: typed refinement over HandS. A def's mirror is a Lean function in Option; its walk is put together from the rules below. -/
namespace T
open PySem PySem.Spec PyProof.Rows L2

/-! ### data -/
inductive D where
  | non
  | bl (b : Bool)
  | int (i : Int)
  | str (s : Str)
  | tup (xs : List D)
  | lst (xs : List D)
  | ins (c : Str) (fs : List Str) (ds : List D)

/-- the code tables of the defs whose texts hold a generator expression: they grow; the classes of the module by name -/
class Tabs where
  tab : Addr → Prop
  cls : Str → Addr
/-- where no text holds one -/
instance (priority := low) noTabs : Tabs := ⟨fun _ => False, fun _ => 0⟩
section
variable [Tabs]
mutual
inductive Rp (K : PySem.W.Frag) (H : Hp) : V → D → Prop
  | non : Rp K H .non .non
  | bl (b : Bool) : Rp K H (.bl b) (.bl b)
  | int (i : Int) : Rp K H (.int i) (.int i)
  | str (x : Str) : Rp K H (.str x) (.str x)
  | tup {a : Addr} {vs : List V} {ds : List D} : SqT K H a vs → RpA K H vs ds → Rp K H (.ref a) (.tup ds)
  | lst {a : Addr} {vs : List V} {ds : List D} : SqL K H a vs → RpA K H vs ds → Rp K H (.ref a) (.lst ds)
  | ins {a dx : Addr} {c : Str} {vs : List (Str × V)} {fs : List Str} {ds : List D} : H a = some (.ins (Tabs.cls c) dx vs) → vs.map (·.1) = fs → RpA K H (vs.map (·.2)) ds → Rp K H (.ref a) (.ins c fs ds)
inductive RpA (K : PySem.W.Frag) (H : Hp) : List V → List D → Prop
  | nil : RpA K H [] []
  | cons {v : V} {vs : List V} {d : D} {ds : List D} : Rp K H v d → RpA K H vs ds → RpA K H (v :: vs) (d :: ds)
end
theorem same_t {K : PySem.W.Frag} {H H' : Hp} {a : Addr} {xs : List V} (e : Same H H') (h : SqT K H a xs) : SqT K H' a xs := by
  rcases h with (h | ⟨o, h⟩) | h
  · exact .inl (.inl (e _ _ h))
  · exact .inl (.inr ⟨o, e _ _ h⟩)
  · exact .inr h
mutual
theorem Rp.mono {K : PySem.W.Frag} {H H' : Hp} (e : Same H H') : ∀ (d : D) (v : V), Rp K H v d → Rp K H' v d
  | .non, _, h => by cases h; exact .non
  | .bl _, _, h => by cases h; exact .bl _
  | .int _, _, h => by cases h; exact .int _
  | .str _, _, h => by cases h; exact .str _
  | .tup ds, _, h => by
    cases h with
    | tup h1 h2 => exact .tup (same_t e h1) (RpA.mono e ds _ h2)
  | .lst ds, _, h => by
    cases h with
    | lst h1 h2 => exact .lst (e.seq h1) (RpA.mono e ds _ h2)
  | .ins C fs ds, _, h => by
    cases h with
    | ins h1 h2 h3 => exact .ins (e _ _ h1) h2 (RpA.mono e ds _ h3)
theorem RpA.mono {K : PySem.W.Frag} {H H' : Hp} (e : Same H H') : ∀ (ds : List D) (vs : List V), RpA K H vs ds → RpA K H' vs ds
  | [], _, h => by cases h; exact .nil
  | d :: ds, _, h => by
    cases h with
    | cons h1 h2 => exact .cons (Rp.mono e d _ h1) (RpA.mono e ds _ h2)
end
section
variable {K : PySem.W.Frag} {H H' : Hp}
theorem RpA.length : ∀ {vs : List V} {ds : List D}, RpA K H vs ds → vs.length = ds.length
  | _, _, .nil => rfl
  | _, _, .cons _ t => by rw [List.length_cons, List.length_cons, RpA.length t]
theorem RpA.append : ∀ {vs ws : List V} {ds es : List D}, RpA K H vs ds → RpA K H ws es → RpA K H (vs ++ ws) (ds ++ es)
  | _, _, _, _, .nil, h => h
  | _, _, _, _, .cons r t, h => .cons r (RpA.append t h)
theorem RpA.get : ∀ {vs : List V} {ds : List D} {i : Nat} {d : D}, RpA K H vs ds → ds[i]? = some d → ∃ v, vs[i]? = some v ∧ Rp K H v d
  | _, _, _, _, .nil, e => by simp at e
  | _, _, 0, d, .cons r _, e => by simp at e; subst e; exact ⟨_, rfl, r⟩
  | _, _, i + 1, d, .cons _ t, e => by
    obtain ⟨v, h1, h2⟩ := RpA.get (i := i) (d := d) t (by simpa using e)
    exact ⟨v, by simpa using h1, h2⟩
theorem RpA.getV : ∀ {vs : List V} {ds : List D} {i : Nat} {v : V}, RpA K H vs ds → vs[i]? = some v → ∃ d, ds[i]? = some d ∧ Rp K H v d
  | _, _, _, _, .nil, e => by simp at e
  | _, _, 0, d, .cons r _, e => by simp at e; subst e; exact ⟨_, rfl, r⟩
  | _, _, i + 1, d, .cons _ t, e => by
    obtain ⟨v, h1, h2⟩ := RpA.getV (i := i) (v := d) t (by simpa using e)
    exact ⟨v, by simpa using h1, h2⟩
theorem RpA.set {v : V} {d : D} (r : Rp K H v d) : ∀ {vs : List V} {ds : List D} (i : Nat), RpA K H vs ds → RpA K H (vs.set i v) (ds.set i d)
  | _, _, _, .nil => .nil
  | _, _, 0, .cons _ t => .cons r t
  | _, _, i + 1, .cons q t => .cons q (RpA.set r i t)
theorem RpA.take : ∀ {vs : List V} {ds : List D} (n : Nat), RpA K H vs ds → RpA K H (vs.take n) (ds.take n)
  | _, _, 0, _ => .nil
  | _, _, _ + 1, .nil => .nil
  | _, _, n + 1, .cons r t => .cons r (RpA.take n t)
theorem RpA.drop : ∀ {vs : List V} {ds : List D} (n : Nat), RpA K H vs ds → RpA K H (vs.drop n) (ds.drop n)
  | _, _, 0, r => r
  | _, _, _ + 1, .nil => .nil
  | _, _, n + 1, .cons _ t => RpA.drop n t
theorem RpA.reverse {vs : List V} {ds : List D} (h : RpA K H vs ds) : RpA K H vs.reverse ds.reverse := by
  induction vs generalizing ds with
  | nil => cases h; exact .nil
  | cons v vs ih =>
    cases h with
    | cons r t =>
      rw [List.reverse_cons, List.reverse_cons]
      exact (ih t).append (.cons r .nil)
theorem Rp.int_iff {v : V} {i : Int} : Rp K H v (.int i) ↔ v = .int i := ⟨fun h => by cases h; rfl, fun h => h ▸ .int _⟩
theorem Rp.str_iff {v : V} {i : Str} : Rp K H v (.str i) ↔ v = .str i := ⟨fun h => by cases h; rfl, fun h => h ▸ .str _⟩
theorem Rp.bl_iff {v : V} {i : Bool} : Rp K H v (.bl i) ↔ v = .bl i := ⟨fun h => by cases h; rfl, fun h => h ▸ .bl _⟩
end

end
/-! ### typed data -/
class Em (τ : Type) where
  em : τ → D
abbrev em {τ : Type} [Em τ] (x : τ) : D := Em.em x

instance : Em Int := ⟨.int⟩
instance : Em Bool := ⟨.bl⟩
instance : Em Str := ⟨.str⟩
instance : Em D := ⟨id⟩
instance : Em Unit := ⟨fun _ => .non⟩
instance {α : Type} [Em α] : Em (List α) := ⟨fun xs => .lst (xs.map em)⟩
instance {α β : Type} [Em α] [Em β] : Em (α × β) := ⟨fun p => .tup [em p.1, em p.2]⟩
instance {α : Type} [Em α] : Em (Option α) := ⟨fun o => match o with | none => .non | some x => em x⟩
/-- a tuple of any length, its items of one type -/
structure Vt (α : Type) where
  l : List α
instance {α : Type} [Em α] : Em (Vt α) := ⟨fun t => .tup (t.l.map em)⟩
structure T3 (α β γ : Type) where
  a : α
  b : β
  c : γ
instance {α β γ : Type} [Em α] [Em β] [Em γ] : Em (T3 α β γ) := ⟨fun t => .tup [em t.a, em t.b, em t.c]⟩
structure T4 (α β γ δ : Type) where
  a : α
  b : β
  c : γ
  d : δ
instance {α β γ δ : Type} [Em α] [Em β] [Em γ] [Em δ] : Em (T4 α β γ δ) := ⟨fun t => .tup [em t.a, em t.b, em t.c, em t.d]⟩
structure T5 (α β γ δ ε : Type) where
  a : α
  b : β
  c : γ
  d : δ
  e : ε
instance {α β γ δ ε : Type} [Em α] [Em β] [Em γ] [Em δ] [Em ε] : Em (T5 α β γ δ ε) := ⟨fun t => .tup [em t.a, em t.b, em t.c, em t.d, em t.e]⟩

/-! ### worlds: b what is frozen for good (data leans on it alone), h all that is tracked -/
structure Wd where
  b : Hp
  h : Hp
def TabO (o : HO) : Prop := ∃ ps : Array Value, o = .tbl ps ∧ GxR.TabG (fun _ => some o) 0
/-- what stands is kept, but for tables, which may grow -/
def SameT (H H' : Hp) : Prop := ∀ a o, H a = some o → H' a = some o ∨ (TabO o ∧ ∃ o', H' a = some o' ∧ TabO o')
theorem SameT.of {H H' : Hp} (h : Same H H') : SameT H H' := fun a o e => .inl (h a o e)
theorem SameT.refl (H : Hp) : SameT H H := .of (Same.refl H)
theorem SameT.trans {H H1 H2 : Hp} (h : SameT H H1) (k : SameT H1 H2) : SameT H H2 := fun a o e => by
  rcases h a o e with e1 | ⟨t, o1, e1, t1⟩
  · exact k a o e1
  · rcases k a o1 e1 with e2 | ⟨_, o2, e2, t2⟩
    · exact .inr ⟨t, o1, e2, t1⟩
    · exact .inr ⟨t, o2, e2, t2⟩
theorem SameT.some {H H' : Hp} (h : SameT H H') {a : Addr} {o : HO} (e : H a = some o) : ∃ o', H' a = Option.some o' := by
  rcases h a o e with e1 | ⟨_, o1, e1, _⟩
  · exact ⟨o, e1⟩
  · exact ⟨o1, e1⟩
theorem SameT.free {H H' : Hp} (h : SameT H H') {a : Addr} (e : H' a = none) : H a = none := by
  cases q : H a with
  | none => rfl
  | some o =>
    obtain ⟨o', e'⟩ := h.some q
    rw [e] at e'; cases e'
theorem SameT.at {H H' : Hp} (h : SameT H H') {a : Addr} {o : HO} (e : H a = Option.some o) (n : ¬ TabO o) : H' a = Option.some o := by
  rcases h a o e with e1 | ⟨t, _⟩
  · exact e1
  · exact absurd t n
theorem SameT.lst {H H' : Hp} (h : SameT H H') {a : Addr} {vs : List V} (e : H a = Option.some (.lst vs)) : H' a = Option.some (.lst vs) := h.at e fun ⟨_, z, _⟩ => by cases z
theorem SameT.seq {K : PySem.W.Frag} {H H' : Hp} (h : SameT H H') {a : Addr} {vs : List V} (s : SqL K H a vs) : SqL K H' a vs := by
  rcases s with (s | ⟨o, s⟩) | s
  · exact .inl (.inl (h.lst s))
  · exact .inl (.inr ⟨o, h.at s fun ⟨_, z, _⟩ => by cases z⟩)
  · exact .inr s
theorem SameT.upd {H H' : Hp} (h : SameT H H') {a : Addr} {o : HO} (e : H a = none) : SameT H (L2.upd H' a o) := fun c u z => by
  have q0 : L2.upd H' a o c = H' c := upd_ne (ne_of_none z e)
  rcases h c u z with q | ⟨t, o', q, t'⟩
  · exact .inl (q0.trans q)
  · exact .inr ⟨t, o', q0.trans q, t'⟩
theorem SameT.tab {H H' : Hp} (h : SameT H H') {P : Addr} (t : GxR.TabG H P) : GxR.TabG H' P := by
  obtain ⟨ps, e, k⟩ := t
  rcases h P _ e with e1 | ⟨_, o1, e1, ps1, z, ps2, q, k2⟩
  · exact ⟨ps, e1, k⟩
  · cases q
    exact ⟨ps2, e1, k2⟩
structure Le (W W' : Wd) : Prop where
  b : Same W.b W'.b
  h : SameT W.h W'.h
  f : ∀ a o, W.h a = some o → W'.b a = W.b a
  ok : Same W'.b W'.h
theorem Le.refl {W : Wd} (ok : Same W.b W.h) : Le W W := ⟨Same.refl _, SameT.refl _, fun _ _ _ => rfl, ok⟩
theorem Le.trans {W W1 W2 : Wd} (a : Le W W1) (c : Le W1 W2) : Le W W2 := ⟨a.b.trans c.b, a.h.trans c.h, fun x o h => (let ⟨o', h'⟩ := a.h.some h; c.f x o' h').trans (a.f x o h), c.ok⟩
theorem Same.new {H : Hp} {p : Addr} {o : HO} (h : H p = none) : Same H (upd H p o) := fun a u e => by
  rw [upd_ne (ne_of_none e h)]
  exact e
/-- a new object, frozen at once -/
theorem Le.lay {W : Wd} (ok : Same W.b W.h) {p : Addr} {o : HO} (h : W.h p = none) : Le W ⟨upd W.b p o, upd W.h p o⟩ := by
  have hb : W.b p = Option.none := ok.free h
  refine ⟨Same.new hb, .of (Same.new h), fun a u e => upd_ne (ne_of_none e h), fun a u e => ?_⟩
  have e : upd W.b p o a = some u := e
  show upd W.h p o a = some u
  by_cases ha : a = p
  · subst ha; rw [upd_same] at e ⊢; exact e
  · rw [upd_ne ha] at e ⊢; exact ok a u e
/-- a new object that may still change -/
theorem Le.layM {W : Wd} (ok : Same W.b W.h) {p : Addr} {o : HO} (h : W.h p = none) : Le W ⟨W.b, upd W.h p o⟩ :=
  ⟨Same.refl _, .of (Same.new h), fun a u e => rfl, ok.trans (Same.new h)⟩
/-- what was laid so is frozen -/
theorem Le.freeze {W W' : Wd} (ok : Same W.b W.h) (l : Le W W') {p : Addr} {o : HO} (h0 : W.h p = none) (h : W'.h p = some o) (hb : W'.b p = none) : Le W ⟨upd W'.b p o, W'.h⟩ := by
  refine ⟨l.b.trans (Same.new hb), l.h, fun a u e => ?_, fun a u e => ?_⟩
  · show upd W'.b p o a = W.b a
    rw [upd_ne (ne_of_none e h0)]; exact l.f a u e
  · have e : upd W'.b p o a = some u := e
    by_cases ha : a = p
    · subst ha; rw [upd_same] at e; exact h.trans e
    · rw [upd_ne ha] at e; exact l.ok a u e

/-! ### slots -/
/-- what a name holds: nothing known | data | a list that only this name holds | a list that is read only | just this value | the law's tape (count, digits, seeds) | an instance that is being made -/
structure Tp where
  c : Int
  ds : List Int
  ss : List Int
/-- an error: its class, its fields -/
structure Ex where
  c : Str
  fs : List (Str × D)
inductive SV where
  | any
  | dat (d : D)
  | own (ds : List D)
  | bor (ds : List D)
  | val (v : V)
  | tp (p d s : Addr) (t : Tp)
  | slf (a dx : Addr) (c : Str) (fs : List (Str × D))
  | exc (a : Addr) (cls : Value) (d : Option Addr) (e : Ex)
/-- the addresses that the slot owns -/
def fpS : SV → Option V → List Addr
  | .own _, some (.ref a) => [a]
  | .tp p d s _, _ => [p, d, s]
  | .slf a dx _ _, _ => [a, dx]
  | _, _ => []
variable [Tabs]
/-- the tape at p: its list of digits at d, its list of seeds at s -/
structure TapeAt (W : Wd) (p d s : Addr) (t : Tp) : Prop where
  hp : W.h p = some (.lst [.int t.c, .ref d, .ref s])
  hd : W.h d = some (.lst (t.ds.map V.int))
  hs : W.h s = some (.lst (t.ss.map V.int))
  bp : W.b p = none
  bd : W.b d = none
  bs : W.b s = none
  pd : p ≠ d
  ps : p ≠ s
  ds : d ≠ s
/-- fields of an instance -/
inductive RpF (K : PySem.W.Frag) (H : Hp) : List (Str × V) → List (Str × D) → Prop
  | nil : RpF K H [] []
  | cons {f : Str} {v : V} {d : D} {vs : List (Str × V)} {ds : List (Str × D)} : Rp K H v d → RpF K H vs ds → RpF K H ((f, v) :: vs) ((f, d) :: ds)
theorem RpF.mono {K : PySem.W.Frag} {H H' : Hp} (e : Same H H') : ∀ {vs : List (Str × V)} {ds : List (Str × D)}, RpF K H vs ds → RpF K H' vs ds
  | _, _, .nil => .nil
  | _, _, .cons r t => .cons (r.mono e) (RpF.mono e t)
theorem RpF.names {K : PySem.W.Frag} {H : Hp} : ∀ {vs : List (Str × V)} {ds : List (Str × D)}, RpF K H vs ds → vs.map (·.1) = ds.map (·.1) ∧ RpA K H (vs.map (·.2)) (ds.map (·.2))
  | _, _, .nil => ⟨rfl, .nil⟩
  | _, _, .cons r t => ⟨by rw [List.map_cons, List.map_cons, (RpF.names t).1], .cons r (RpF.names t).2⟩
theorem RpF.lookup {K : PySem.W.Frag} {H : Hp} {f : Str} {d : D} : ∀ {vs : List (Str × V)} {ds : List (Str × D)}, RpF K H vs ds → ds.lookup f = some d → ∃ v, vs.lookup f = some v ∧ Rp K H v d
  | _, _, .nil, h => by cases h
  | _, _, .cons (f := g) r t, h => by
    rw [List.lookup_cons] at h ⊢
    by_cases e : (f == g) = true
    · rw [e] at h ⊢
      cases h
      exact ⟨_, rfl, r⟩
    · have e : (f == g) = false := by simpa using e
      rw [e] at h ⊢
      exact t.lookup h
/-- the error that stands: its class, its dict (frozen) -/
def ExR (K : PySem.W.Frag) (B : Hp) (cls : Value) (d : Option Addr) (e : Ex) : Prop := cls = .ref (Tabs.cls e.c) ∧ ((e.fs = [] ∧ d = none) ∨ ∃ dx vs, d = some dx ∧ B dx = some (.xd vs) ∧ RpF K B vs e.fs)
theorem ExR.mono {K : PySem.W.Frag} {B B' : Hp} {cls : Value} {d : Option Addr} {e : Ex} (s : Same B B') (h : ExR K B cls d e) : ExR K B' cls d e := by
  obtain ⟨h1, h2⟩ := h
  rcases h2 with h2 | ⟨dx, vs, q1, q2, q3⟩
  · exact ⟨h1, .inl h2⟩
  · exact ⟨h1, .inr ⟨dx, vs, q1, s _ _ q2, q3.mono s⟩⟩
structure SlfAt (K : PySem.W.Frag) (W : Wd) (a dx : Addr) (c : Str) (fs : List (Str × D)) : Prop where
  ha : ∃ vs, W.h a = some (.ins (Tabs.cls c) dx vs) ∧ RpF K W.b vs fs
  hd : W.h dx = some (.own a)
  ba : W.b a = none
  bd : W.b dx = none
  ne : a ≠ dx
def SlotR (K : PySem.W.Frag) (W0 W : Wd) (o : Option V) : SV → Prop
  | .any => True
  | .dat d => ∃ v, o = some v ∧ Rp K W.b v d
  | .own ds => ∃ a vs, o = some (.ref a) ∧ W.h a = some (.lst vs) ∧ W.b a = none ∧ W0.h a = none ∧ RpA K W.b vs ds
  | .bor ds => ∃ a vs, o = some (.ref a) ∧ SqL K W0.h a vs ∧ RpA K W0.b vs ds
  | .val v => o = some v
  | .tp p d s t => o = some (.ref p) ∧ TapeAt W p d s t ∧ W0.h p = none ∧ W0.h d = none ∧ W0.h s = none
  | .slf a dx c fs => o = some (.ref a) ∧ SlfAt K W a dx c fs ∧ W0.h a = none ∧ W0.h dx = none
  | .exc a cls d e => o = some (.ref a) ∧ ExR K W.b cls d e
/-- the tables stand, and no data leans on them -/
def TabsOk (W : Wd) : Prop := ∀ P, Tabs.tab P → GxR.TabG W.h P ∧ W.b P = none
theorem TabsOk.mono {W W' : Wd} (l : Le W W') (t : TabsOk W) : TabsOk W' := fun P h => ⟨l.h.tab (t P h).1, by obtain ⟨⟨ps, e, _⟩, b⟩ := t P h; exact (l.f _ _ e).trans b⟩
structure EnvR (K : PySem.W.Frag) (W0 W : Wd) (env : List SV) (σ : L2.St) : Prop where
  le : Le W0 W
  len : σ.length = env.length
  slot : ∀ (i : Nat) (sv : SV), env[i]? = some sv → ∃ o, σ[i]? = some o ∧ SlotR K W0 W o sv
  apart : ∀ (i j : Nat) (sv sw : SV) (o o' : Option V), i ≠ j → env[i]? = some sv → env[j]? = some sw → σ[i]? = some o → σ[j]? = some o' → ∀ a ∈ fpS sv o, a ∉ fpS sw o'
  tbl : TabsOk W
section
variable {K : PySem.W.Frag} {W0 W W' : Wd} {env : List SV} {σ : L2.St}
theorem EnvR.ok (E : EnvR K W0 W env σ) : Same W.b W.h := E.le.ok
/-- what a slot owns stands, is not frozen, was not there at the def's entry -/
theorem SlotR.fp {o : Option V} {sv : SV} (h : SlotR K W0 W o sv) : ∀ a ∈ fpS sv o, (∃ u, W.h a = some u ∧ ¬ TabO u) ∧ W.b a = none ∧ W0.h a = none := by
  intro a ha
  have nl : ∀ xs, ¬ TabO (.lst xs) := fun xs ⟨_, z, _⟩ => by cases z
  cases sv with
  | any => simp [fpS] at ha
  | dat d => simp [fpS] at ha
  | bor d => simp [fpS] at ha
  | val d => simp [fpS] at ha
  | exc a cls d e => simp [fpS] at ha
  | own ds =>
    obtain ⟨c, vs, e, h1, h2, h0, r⟩ := h
    subst e
    obtain rfl : a = c := by simpa [fpS] using ha
    exact ⟨⟨_, h1, nl _⟩, h2, h0⟩
  | tp p d s t =>
    obtain ⟨e, t, h1, h2, h3⟩ := h
    have ha : a = p ∨ a = d ∨ a = s := by simpa [fpS] using ha
    rcases ha with rfl | rfl | rfl
    · exact ⟨⟨_, t.hp, nl _⟩, t.bp, h1⟩
    · exact ⟨⟨_, t.hd, nl _⟩, t.bd, h2⟩
    · exact ⟨⟨_, t.hs, nl _⟩, t.bs, h3⟩
  | slf b dx c fs =>
    obtain ⟨e, t, h1, h2⟩ := h
    have ha : a = b ∨ a = dx := by simpa [fpS] using ha
    rcases ha with rfl | rfl
    · obtain ⟨vs, e, _⟩ := t.ha
      exact ⟨⟨_, e, fun ⟨_, z, _⟩ => by cases z⟩, t.ba, h1⟩
    · exact ⟨⟨_, t.hd, fun ⟨_, z, _⟩ => by cases z⟩, t.bd, h2⟩
/-- a slot holds what it held where its own addresses are as they were -/
theorem SlotR.chg {o : Option V} {sv : SV} (sb : Same W.b W'.b) (hf : ∀ a ∈ fpS sv o, W'.h a = W.h a ∧ W'.b a = W.b a) (h : SlotR K W0 W o sv) : SlotR K W0 W' o sv := by
  cases sv with
  | any => trivial
  | dat d => obtain ⟨v, e, r⟩ := h; exact ⟨v, e, r.mono sb⟩
  | bor ds => exact h
  | val v => exact h
  | exc a cls d e => exact ⟨h.1, h.2.mono sb⟩
  | own ds =>
    obtain ⟨a, vs, e, h1, h2, h0, r⟩ := h
    subst e
    obtain ⟨q1, q2⟩ := hf a (by simp [fpS])
    exact ⟨a, vs, rfl, q1.trans h1, q2.trans h2, h0, r.mono sb⟩
  | tp p d s t =>
    obtain ⟨e, t, h0⟩ := h
    obtain ⟨p1, p2⟩ := hf p (by simp [fpS])
    obtain ⟨d1, d2⟩ := hf d (by simp [fpS])
    obtain ⟨s1, s2⟩ := hf s (by simp [fpS])
    exact ⟨e, ⟨p1.trans t.hp, d1.trans t.hd, s1.trans t.hs, p2.trans t.bp, d2.trans t.bd, s2.trans t.bs, t.pd, t.ps, t.ds⟩, h0⟩
  | slf b dx c fs =>
    obtain ⟨e, t, h0⟩ := h
    obtain ⟨p1, p2⟩ := hf b (by simp [fpS])
    obtain ⟨d1, d2⟩ := hf dx (by simp [fpS])
    obtain ⟨vs, q1, q2⟩ := t.ha
    exact ⟨e, ⟨⟨vs, p1.trans q1, q2.mono sb⟩, d1.trans t.hd, p2.trans t.ba, d2.trans t.bd, t.ne⟩, h0⟩
theorem SlotR.mono {o : Option V} {sv : SV} (l : Le W W') (h : SlotR K W0 W o sv) : SlotR K W0 W' o sv :=
  h.chg l.b fun a ha => by
    obtain ⟨⟨u, e, n⟩, _, _⟩ := h.fp a ha
    exact ⟨(l.h.at e n).trans e.symm, l.f _ _ e⟩
theorem EnvR.mono (E : EnvR K W0 W env σ) (l : Le W W') : EnvR K W0 W' env σ :=
  ⟨E.le.trans l, E.len, fun i sv e => let ⟨o, h1, h2⟩ := E.slot i sv e; ⟨o, h1, h2.mono l⟩, E.apart, E.tbl.mono l⟩
theorem EnvR.dat {i : Nat} {d : D} (E : EnvR K W0 W env σ) (h : env[i]? = some (.dat d)) : ∃ v, σ[i]? = some (some v) ∧ Rp K W.b v d := by
  obtain ⟨o, h1, v, e, r⟩ := E.slot i _ h
  subst e
  exact ⟨v, h1, r⟩
theorem EnvR.own {i : Nat} {ds : List D} (E : EnvR K W0 W env σ) (h : env[i]? = some (.own ds)) : ∃ a vs, σ[i]? = some (some (.ref a)) ∧ W.h a = some (.lst vs) ∧ W.b a = none ∧ W0.h a = none ∧ RpA K W.b vs ds := by
  obtain ⟨o, h1, a, vs, e, r⟩ := E.slot i _ h
  subst e
  exact ⟨a, vs, h1, r⟩
theorem EnvR.bor {i : Nat} {ds : List D} (E : EnvR K W0 W env σ) (h : env[i]? = some (.bor ds)) : ∃ a vs, σ[i]? = some (some (.ref a)) ∧ SqL K W.h a vs ∧ RpA K W.b vs ds := by
  obtain ⟨o, h1, a, vs, e, r1, r2⟩ := E.slot i _ h
  subst e
  exact ⟨a, vs, h1, E.le.h.seq r1, r2.mono E.le.b⟩
theorem set_get {α : Type} {l : List α} {i j : Nat} {x y : α} (h : (l.set i x)[j]? = some y) : (j = i ∧ i < l.length ∧ y = x) ∨ (j ≠ i ∧ l[j]? = some y) := by
  by_cases e : j = i
  · subst e
    have hl : j < l.length := by have := (List.getElem?_eq_some_iff.mp h).1; rwa [List.length_set] at this
    rw [List.getElem?_set_self hl] at h
    exact .inl ⟨rfl, hl, (Option.some.inj h).symm⟩
  · rw [List.getElem?_set_ne (Ne.symm e)] at h
    exact .inr ⟨e, h⟩
/-- apartness behind a change of one slot -/
theorem apart_set {i : Nat} {sv : SV} {v : Option V} (E : EnvR K W0 W env σ) (ap : ∀ a ∈ fpS sv v, ∀ j sj oj, j ≠ i → env[j]? = some sj → σ[j]? = some oj → a ∉ fpS sj oj) :
    ∀ (x j : Nat) (sx sj : SV) (o o' : Option V), x ≠ j → (env.set i sv)[x]? = some sx → (env.set i sv)[j]? = some sj → (σ.set i v)[x]? = some o → (σ.set i v)[j]? = some o' → ∀ a ∈ fpS sx o, a ∉ fpS sj o' := by
  intro x j sx sj o o' n e1 e2 s1 s2 a ha hb
  rcases set_get e1 with ⟨rfl, hl, rfl⟩ | ⟨n1, e1'⟩
  · rcases set_get e2 with ⟨e', _, _⟩ | ⟨n2, e2'⟩
    · exact absurd e'.symm n
    · rcases set_get s1 with ⟨_, _, rfl⟩ | ⟨z, _⟩
      · rcases set_get s2 with ⟨z, _, _⟩ | ⟨_, s2'⟩
        · exact absurd z.symm n
        · exact ap a ha j sj o' n2 e2' s2' hb
      · exact absurd rfl z
  · rcases set_get s1 with ⟨z, _, _⟩ | ⟨_, s1'⟩
    · exact absurd z n1
    · rcases set_get e2 with ⟨rfl, hl, rfl⟩ | ⟨n2, e2'⟩
      · rcases set_get s2 with ⟨_, _, rfl⟩ | ⟨z, _⟩
        · exact ap a hb x sx o n1 e1' s1' ha
        · exact absurd rfl z
      · rcases set_get s2 with ⟨z, _, _⟩ | ⟨_, s2'⟩
        · exact absurd z n2
        · exact E.apart x j sx sj o o' n e1' e2' s1' s2' a ha hb
/-- a slot gets a value that owns nothing of what other slots own -/
theorem EnvR.put {i : Nat} {v : V} {sv : SV} (E : EnvR K W0 W env σ) (r : SlotR K W0 W (some v) sv) (ap : ∀ a ∈ fpS sv (some v), ∀ j sj oj, j ≠ i → env[j]? = some sj → σ[j]? = some oj → a ∉ fpS sj oj) :
    EnvR K W0 W (env.set i sv) (σ.set i (some v)) := by
  refine ⟨E.le, by rw [List.length_set, List.length_set]; exact E.len, fun j sj e => ?_, apart_set E ap, E.tbl⟩
  rcases set_get e with ⟨rfl, hl, rfl⟩ | ⟨n, e⟩
  · exact ⟨_, List.getElem?_set_self (by rw [E.len]; exact hl), r⟩
  · rw [List.getElem?_set_ne (Ne.symm n)]; exact E.slot j sj e
theorem EnvR.putD {i : Nat} {v : V} {d : D} (E : EnvR K W0 W env σ) (r : Rp K W.b v d) : EnvR K W0 W (env.set i (.dat d)) (σ.set i (some v)) :=
  E.put ⟨v, rfl, r⟩ fun a h => by simp [fpS] at h
theorem EnvR.putV {i : Nat} {v : V} (E : EnvR K W0 W env σ) : EnvR K W0 W (env.set i (.val v)) (σ.set i (some v)) :=
  E.put rfl fun a h => by simp [fpS] at h
/-- what is new at W' is owned by no slot -/
theorem EnvR.fresh (E : EnvR K W0 W env σ) {a : Addr} (h0 : W.h a = none) : ∀ (j : Nat) (sj : SV) (oj : Option V), env[j]? = some sj → σ[j]? = some oj → a ∉ fpS sj oj := by
  intro j sj oj ej s hb
  obtain ⟨o, s', r⟩ := E.slot j sj ej
  rw [s] at s'
  cases s'
  obtain ⟨⟨u, e, _⟩, _⟩ := r.fp a hb
  rw [h0] at e; cases e
/-- a new list -/
theorem EnvR.putL {i : Nat} {a : Addr} {vs : List V} {ds : List D} (E : EnvR K W0 W env σ) (l : Le W W') (h0 : W.h a = none) (h1 : W'.h a = some (.lst vs)) (h2 : W'.b a = none) (r : RpA K W'.b vs ds) :
    EnvR K W0 W' (env.set i (.own ds)) (σ.set i (some (.ref a))) := by
  refine (E.mono l).put ⟨a, vs, rfl, h1, h2, E.le.h.free h0, r⟩ fun b hb j sj oj _ ej sj' => ?_
  obtain rfl : b = a := by simpa [fpS] using hb
  exact E.fresh h0 j sj oj ej sj'
/-- the world changes within what slot i owns, and slot i tells how -/
theorem EnvR.chg {i : Nat} {sv sw : SV} {o : Option V} (E : EnvR K W0 W env σ) (hi : env[i]? = some sv) (hs : σ[i]? = some o) (sb : Same W.b W'.b) (ok : Same W'.b W'.h)
    (hf : ∀ a, a ∉ fpS sv o → (∀ u, W.h a = some u → (W'.h a = some u ∨ (TabO u ∧ ∃ u', W'.h a = some u' ∧ TabO u')) ∧ W'.b a = W.b a)) (hfp : ∀ a ∈ fpS sw o, a ∈ fpS sv o) (r : SlotR K W0 W' o sw) : EnvR K W0 W' (env.set i sw) σ := by
  have R0 : SlotR K W0 W o sv := by
    obtain ⟨o', h1, h2⟩ := E.slot i sv hi
    rw [hs] at h1; cases h1; exact h2
  have hnot : ∀ a u, W0.h a = some u → a ∉ fpS sv o := fun a u z m => by
    obtain ⟨_, _, h0⟩ := R0.fp a m
    rw [h0] at z; cases z
  have hset : σ = σ.set i o := by
    obtain ⟨hl, e⟩ := List.getElem?_eq_some_iff.mp hs
    rw [← e]; simp
  refine ⟨⟨E.le.b.trans sb, fun c u z => ?_, fun c u z => ?_, ok⟩, by rw [List.length_set]; exact E.len, fun j sj e => ?_, ?_, fun P hP => ?_⟩
  · rcases E.le.h c u z with q | ⟨t, o1, q, t1⟩
    · exact (hf c (hnot c u z) u q).1
    · rcases (hf c (hnot c u z) o1 q).1 with q2 | ⟨_, q2⟩
      · exact .inr ⟨t, o1, q2, t1⟩
      · exact .inr ⟨t, q2⟩
  · obtain ⟨o1, q⟩ := E.le.h.some z
    exact ((hf c (hnot c u z) o1 q).2).trans (E.le.f c u z)
  · rcases set_get e with ⟨rfl, _, rfl⟩ | ⟨n, e⟩
    · exact ⟨_, hs, r⟩
    · obtain ⟨oj, h1, h2⟩ := E.slot j sj e
      refine ⟨oj, h1, h2.chg sb fun a ha => ?_⟩
      obtain ⟨⟨u, q, nt⟩, _⟩ := h2.fp a ha
      obtain ⟨k1, k2⟩ := hf a (fun m => E.apart j i sj sv oj o n e hi h1 hs a ha m) u q
      rcases k1 with k1 | ⟨t, _⟩
      · exact ⟨k1.trans q.symm, k2⟩
      · exact absurd t nt
  · have := apart_set (i := i) (sv := sw) (v := o) E fun a ha j sj oj n ej sj' => E.apart i j sv sj o oj (Ne.symm n) hi ej hs sj' a (hfp a ha)
    rw [← hset] at this
    exact this
  · obtain ⟨⟨ps, e, k⟩, b⟩ := E.tbl P hP
    have nP : P ∉ fpS sv o := fun m => by
      obtain ⟨⟨u, q, n⟩, _⟩ := R0.fp P m
      rw [e] at q; cases q
      exact n ⟨_, rfl, _, rfl, k⟩
    obtain ⟨k1, k2⟩ := hf P nP _ e
    refine ⟨?_, k2.trans b⟩
    rcases k1 with k1 | ⟨_, u', k1, ps', rfl, ps'', q, k'⟩
    · exact ⟨ps, k1, k⟩
    · cases q
      exact ⟨ps', k1, k'⟩
/-- an owned list changes -/
theorem EnvR.write {i : Nat} {a : Addr} {vs : List V} {ds es : List D} (E : EnvR K W0 W env σ) (hi : env[i]? = some (.own ds)) (hs : σ[i]? = some (some (.ref a))) (r : RpA K W.b vs es) :
    EnvR K W0 ⟨W.b, upd W.h a (.lst vs)⟩ (env.set i (.own es)) σ := by
  obtain ⟨a', ws, e1, e2, e3, e0, e4⟩ := E.own hi
  rw [hs] at e1
  injection e1 with e1; injection e1 with e1; injection e1 with e1
  subst e1
  refine E.chg hi hs (Same.refl _) (fun c u z => ?_) (fun c hc u z => ⟨.inl ?_, rfl⟩) (fun b hb => hb) ⟨a, vs, rfl, upd_same, e3, e0, r⟩
  · show upd W.h a _ c = some u
    rw [upd_ne (ne_of_none z e3)]; exact E.le.ok c u z
  · show upd W.h a _ c = some u
    rw [upd_ne (fun q => hc (by rw [q]; simp [fpS]))]; exact z
/-- an owned list becomes data for good -/
theorem EnvR.freeze {i : Nat} {ds : List D} (E : EnvR K W0 W env σ) (hi : env[i]? = some (.own ds)) : ∃ W', W'.h = W.h ∧ Same W.b W'.b ∧ EnvR K W0 W' (env.set i (.dat (.lst ds))) σ := by
  obtain ⟨a, vs, h1, h2, h3, h0, r1⟩ := E.own hi
  have sb : Same W.b (upd W.b a (.lst vs)) := Same.new h3
  refine ⟨⟨upd W.b a (.lst vs), W.h⟩, rfl, sb, E.chg hi h1 sb (fun c u q => ?_) (fun c hc u z => ⟨.inl z, ?_⟩) (fun b hb => by simp [fpS] at hb) ⟨_, rfl, .lst (SqL.of (show upd W.b a (.lst vs) a = _ from upd_same)) (r1.mono sb)⟩⟩
  · have q : upd W.b a (.lst vs) c = some u := q
    show W.h c = some u
    by_cases hc : c = a
    · subst hc; rw [upd_same] at q; exact h2.trans q
    · rw [upd_ne hc] at q; exact E.le.ok c u q
  · show upd W.b a _ c = _
    rw [upd_ne fun q => hc (by rw [q]; simp [fpS])]
/-- the world without some addresses: what may change there is not asked -/
def hide (F : List Addr) (W : Wd) : Wd := ⟨W.b, fun a => if a ∈ F then none else W.h a⟩
theorem hide_in {F : List Addr} {a : Addr} (h : a ∈ F) : (hide F W).h a = none := if_pos h
theorem hide_out {F : List Addr} {a : Addr} (h : a ∉ F) : (hide F W).h a = W.h a := if_neg h
/-- a call changed what slot i owns, and nothing else that stands -/
theorem EnvR.step {i : Nat} {sv sw : SV} {o : Option V} (E : EnvR K W0 W env σ) (hi : env[i]? = some sv) (hs : σ[i]? = some o) (l : Le (hide (fpS sv o) W) W') (hb : ∀ a ∈ fpS sv o, W'.b a = none) (hfp : ∀ a ∈ fpS sw o, a ∈ fpS sv o) (r : SlotR K W0 W' o sw) :
    EnvR K W0 W' (env.set i sw) σ :=
  E.chg hi hs l.b l.ok (fun a ha u z => ⟨l.h a u ((hide_out ha).trans z), l.f a u ((hide_out ha).trans z)⟩) hfp r
/-- a slot is forgotten -/
theorem EnvR.drop (E : EnvR K W0 W env σ) (i : Nat) : EnvR K W0 W (env.set i .any) σ := by
  refine ⟨E.le, by rw [List.length_set]; exact E.len, fun x sv ex => ?_, fun x y sx sy o o' n ex ey s1 s2 a ha hb => ?_, E.tbl⟩
  · rcases set_get ex with ⟨rfl, hlt, rfl⟩ | ⟨_, ex⟩
    · have hl : x < σ.length := by rw [E.len]; exact hlt
      exact ⟨_, List.getElem?_eq_some_iff.mpr ⟨hl, rfl⟩, trivial⟩
    · exact E.slot x sv ex
  · rcases set_get ex with ⟨_, _, rfl⟩ | ⟨_, ex⟩
    · simp [fpS] at ha
    · rcases set_get ey with ⟨_, _, rfl⟩ | ⟨_, ey⟩
      · simp [fpS] at hb
      · exact E.apart x y sx sy o o' n ex ey s1 s2 a ha hb
end
/-- what may be forgotten -/
inductive EnvLe : List SV → List SV → Prop
  | nil : EnvLe [] []
  | same {x : SV} {a b : List SV} : EnvLe a b → EnvLe (x :: a) (x :: b)
  | drop {x : SV} {a b : List SV} : EnvLe a b → EnvLe (x :: a) (.any :: b)
theorem EnvLe.len : ∀ {a b : List SV}, EnvLe a b → a.length = b.length
  | _, _, .nil => rfl
  | _, _, .same h => by rw [List.length_cons, List.length_cons, EnvLe.len h]
  | _, _, .drop h => by rw [List.length_cons, List.length_cons, EnvLe.len h]
theorem EnvLe.get : ∀ {a b : List SV} {i : Nat} {sv : SV}, EnvLe a b → b[i]? = some sv → ∃ sw, a[i]? = some sw ∧ (sw = sv ∨ sv = .any)
  | _, _, _, _, .nil, e => by simp at e
  | _, _, 0, sv, .same h, e => ⟨_, rfl, .inl (by simpa using e)⟩
  | _, _, 0, sv, .drop h, e => ⟨_, rfl, .inr (by simpa using e.symm)⟩
  | _, _, i + 1, sv, .same h, e => by
    obtain ⟨sw, h1, h2⟩ := EnvLe.get (i := i) (sv := sv) h (by simpa using e)
    exact ⟨sw, by simpa using h1, h2⟩
  | _, _, i + 1, sv, .drop h, e => by
    obtain ⟨sw, h1, h2⟩ := EnvLe.get (i := i) (sv := sv) h (by simpa using e)
    exact ⟨sw, by simpa using h1, h2⟩
theorem EnvR.weak {K : PySem.W.Frag} {W0 W : Wd} {env env' : List SV} {σ : L2.St} (E : EnvR K W0 W env σ) (l : EnvLe env env') : EnvR K W0 W env' σ := by
  refine ⟨E.le, E.len.trans l.len, fun i sv e => ?_, fun i j sv sw o o' n e1 e2 s1 s2 a ha hb => ?_, E.tbl⟩
  · obtain ⟨sw, h1, h2⟩ := l.get e
    obtain ⟨o, q1, q2⟩ := E.slot i sw h1
    rcases h2 with rfl | rfl
    · exact ⟨o, q1, q2⟩
    · exact ⟨o, q1, trivial⟩
  · obtain ⟨su, h1, h2⟩ := l.get e1
    obtain ⟨su', h1', h2'⟩ := l.get e2
    rcases h2 with rfl | rfl
    · rcases h2' with rfl | rfl
      · exact E.apart i j su su' o o' n h1 h1' s1 s2 a ha hb
      · simp [fpS] at hb
    · simp [fpS] at ha
end T

set_option Elab.async false
set_option linter.all false
set_option maxRecDepth 100000
set_option maxHeartbeats 4000000
namespace T
open PySem PySem.Spec PyProof.Rows L2
abbrev St := L2.St

/-! ### what is known of the place where code runs -/
def visB (sc : Scope) (x : Str) : Bool := match sc.names.lookup x with
  | some .local => true
  | some .cell => true
  | some .free => true
  | _ => false
def glbB (sc : Scope) (x : Str) : Bool := match sc.names.lookup x with
  | some .globalImplicit => true
  | _ => false
def locB (sc : Scope) (fb : Str → Bool) (x : Str) : Bool := match sc.names.lookup x with
  | some .local => true
  | some .cell => fb x
  | _ => false
theorem visB_ok {sc : Scope} {x : Str} (h : visB sc x = true) : Vis sc x := by
  unfold visB at h
  split at h <;> first | exact .inl (by assumption) | exact .inr (.inl (by assumption)) | exact .inr (.inr (by assumption)) | cases h
theorem glbB_ok {sc : Scope} {x : Str} (h : glbB sc x = true) : sc.names.lookup x = some .globalImplicit := by
  unfold glbB at h
  split at h <;> first | assumption | cases h
theorem locB_ok {sc : Scope} {fb : Str → Bool} {x : Str} (h : locB sc fb x = true) : Loc sc x := by
  unfold locB at h
  split at h <;> first | exact .inl (by assumption) | exact .inr (by assumption) | cases h
theorem locB_fn {sc : Scope} {fb : Str → Bool} {x : Str} (h : locB sc fb x = true) : fb x = true ∨ sc.names.lookup x = some .local := by
  unfold locB at h
  split at h <;> first | exact .inr (by assumption) | exact .inl h | cases h
inductive Cf (X : Cx) : List Str → Scope → (Str → Bool) → PySem.W.Frag → (Str → Option Value) → Program → World → Heap → Nat → Prop
  | mk {k : Nat} (nd : X.N.Nodup) (calm : X.calm = true) (po : PassesOwn (model X.prog X.w) X.A X.env X.xe) (rm : Room k X.A) :
    Cf X X.N X.env.scope X.fn X.K X.mg X.prog X.w X.base k

/-! ### readings, weakened -/
section
variable {X : Cx}
theorem peImp {e : Expr} {t t' : TE} (h : PE X e t) (k : ∀ σ H Q, t' σ H Q → t σ H Q) : PE X e t' := ⟨fun pins s σ H Q I q => h.run pins s σ H Q I (k σ H Q q)⟩
theorem ptImp {e : Expr} {t t' : TT} (h : PT X e t) (k : ∀ σ H Q, t' σ H Q → t σ H Q) : PT X e t' := ⟨fun pins s σ H Q I q => h.run pins s σ H Q I (k σ H Q q)⟩
theorem pwImp {e : Expr} {t t' : TT} (h : PW X e t) (k : ∀ σ H Q, t' σ H Q → t σ H Q) : PW X e t' := ⟨fun wh pins s σ H Q I q => h.run wh pins s σ H Q I (k σ H Q q)⟩
theorem paImp {es : List Expr} {t t' : TA} (h : PA X es t) (k : ∀ σ H Q, t' σ H Q → t σ H Q) : PA X es t' := ⟨fun p pins s σ H Q I q => h.run p pins s σ H Q I (k σ H Q q)⟩
theorem psImp {st : Stmt} {t t' : TS} (h : PS X st t) (k : ∀ D σ H, t' D σ H → t D σ H) : PS X st t' := ⟨fun pins s σ H D I q => h.run pins s σ H D I (k D σ H q)⟩
theorem pssImp {st : List Stmt} {t t' : TS} (h : PSs X st t) (k : ∀ D σ H, t' D σ H → t D σ H) : PSs X st t' := ⟨fun pins s σ H D I q => h.run pins s σ H D I (k D σ H q)⟩
theorem piImp {tg it : Expr} {t t' : TI} (h : PI X tg it t) (k : ∀ σ H R, t' σ H R → t σ H R) : PI X tg it t' := ⟨fun pins s σ H R I q => h.run pins s σ H R I (k σ H R q)⟩
theorem pgImp {tg : Expr} {t t' : TG} (h : PG X tg t) (k : ∀ v σ H Q, t' v σ H Q → t v σ H Q) : PG X tg t' := ⟨fun pins s σ H v u Q I r q => h.run pins s σ H v u Q I r (k v σ H Q q)⟩
theorem peEx {ι : Type} {e : Expr} {t : ι → TE} (h : ∀ i, PE X e (t i)) : PE X e (fun σ H Q => ∃ i, t i σ H Q) := ⟨fun pins s σ H Q I ⟨i, q⟩ => (h i).run pins s σ H Q I q⟩
theorem ptEx {ι : Type} {e : Expr} {t : ι → TT} (h : ∀ i, PT X e (t i)) : PT X e (fun σ H Q => ∃ i, t i σ H Q) := ⟨fun pins s σ H Q I ⟨i, q⟩ => (h i).run pins s σ H Q I q⟩
theorem ptsEx {ι : Type} {e : List Expr} {t : ι → TT} (h : ∀ i, PTs X e (t i)) : PTs X e (fun σ H Q => ∃ i, t i σ H Q) := ⟨fun pins s σ H Q I ⟨i, q⟩ => (h i).run pins s σ H Q I q⟩
theorem pssEx {ι : Type} {e : List Stmt} {t : ι → TS} (h : ∀ i, PSs X e (t i)) : PSs X e (fun D σ H => ∃ i, t i D σ H) := ⟨fun pins s σ H D I ⟨i, q⟩ => (h i).run pins s σ H D I q⟩
end

/-! ### the canonical readings -/
variable {τ α β γ δ : Type}
variable [Tabs]
theorem bind_some {m : Option α} {f : α → Option β} {y : β} (h : m.bind f = some y) : ∃ x, m = some x ∧ f x = some y := by
  cases m with
  | none => cases h
  | some x => exact ⟨x, rfl, h⟩
def tX [Em τ] (K : PySem.W.Frag) (env : List SV) (m : Option τ) : TE := fun σ H Q =>
  ∃ W0 W : Wd, W.h = H ∧ EnvR K W0 W env σ ∧ ∃ x, m = some x ∧ ∀ v W', Le W W' → Rp K W'.b v (em x) → Q v W'.h
/-- a list that may be read -/
def tQ [Em τ] (K : PySem.W.Frag) (env : List SV) (m : Option (List τ)) : TE := fun σ H Q =>
  ∃ W0 W : Wd, W.h = H ∧ EnvR K W0 W env σ ∧ ∃ x, m = some x ∧ ∀ a vs W', Le W W' → SqL K W'.h a vs → RpA K W'.b vs (x.map em) → Q (.ref a) W'.h
/-- a new list -/
def tL [Em τ] (K : PySem.W.Frag) (env : List SV) (m : Option (List τ)) : TE := fun σ H Q =>
  ∃ W0 W : Wd, W.h = H ∧ EnvR K W0 W env σ ∧ ∃ x, m = some x ∧ ∀ a vs W', Le W W' → W.h a = none → W'.h a = some (.lst vs) → W'.b a = none → RpA K W'.b vs (x.map em) → Q (.ref a) W'.h
def tC' (K : PySem.W.Frag) (env : List SV) (m : Option Bool) : TT := fun σ H Q =>
  ∃ W0 W : Wd, W.h = H ∧ EnvR K W0 W env σ ∧ ∃ x, m = some x ∧ ∀ W', Le W W' → Q x W'.h
inductive Args (K : PySem.W.Frag) (W : Wd) : List V → List SV → Prop
  | nil : Args K W [] []
  | dat {v : V} {d : D} {vs : List V} {svs : List SV} : Rp K W.b v d → Args K W vs svs → Args K W (v :: vs) (.dat d :: svs)
  | bor {a : Addr} {ws : List V} {ds : List D} {vs : List V} {svs : List SV} : SqL K W.h a ws → RpA K W.b ws ds → Args K W vs svs → Args K W (.ref a :: vs) (.bor ds :: svs)
theorem Args.mono {K : PySem.W.Frag} {W W' : Wd} (l : Le W W') : ∀ {vs : List V} {svs : List SV}, Args K W vs svs → Args K W' vs svs
  | _, _, .nil => .nil
  | _, _, .dat r t => .dat (r.mono l.b) (Args.mono l t)
  | _, _, .bor s r t => .bor (l.h.seq s) (r.mono l.b) (Args.mono l t)
def tA (K : PySem.W.Frag) (env : List SV) (m : Option α) (svs : α → List SV) : TA := fun σ H Q =>
  ∃ W0 W : Wd, W.h = H ∧ EnvR K W0 W env σ ∧ ∃ x, m = some x ∧ ∀ vs W', Le W W' → Args K W' vs (svs x) → Q vs W'.h
abbrev XE [Em τ] (X : Cx) (env : List SV) (e : Expr) (m : Option τ) : Prop := PE X e (tX X.K env m)
abbrev XQ [Em τ] (X : Cx) (env : List SV) (e : Expr) (m : Option (List τ)) : Prop := PE X e (tQ X.K env m)
abbrev XL [Em τ] (X : Cx) (env : List SV) (e : Expr) (m : Option (List τ)) : Prop := PE X e (tL X.K env m)
abbrev XT (X : Cx) (env : List SV) (e : Expr) (m : Option Bool) : Prop := PT X e (tC' X.K env m)
abbrev XA (X : Cx) (env : List SV) (es : List Expr) (m : Option α) (svs : α → List SV) : Prop := PA X es (tA X.K env m svs)

section
variable {X : Cx} {env : List SV} {e a b c : Expr} {pos : Pos} [Em τ] [Em α] [Em β] [Em γ]
/-- the shape of most rules -/
theorem x_of {t : TE} {m : Option τ} (h : PE X e t)
    (k : ∀ (W0 W : Wd) (σ : St), EnvR X.K W0 W env σ → ∀ x, m = some x → ∀ Q : VK, (∀ v W', Le W W' → Rp X.K W'.b v (em x) → Q v W'.h) → t σ W.h Q) : XE X env e m :=
  peImp h fun σ H Q ⟨W0, W, hH, E, x, hx, q⟩ => by subst hH; exact k W0 W σ E x hx Q q
theorem q_of {t : TE} {m : Option (List τ)} (h : PE X e t)
    (k : ∀ (W0 W : Wd) (σ : St), EnvR X.K W0 W env σ → ∀ x, m = some x → ∀ Q : VK, (∀ a vs W', Le W W' → SqL X.K W'.h a vs → RpA X.K W'.b vs (x.map em) → Q (.ref a) W'.h) → t σ W.h Q) : XQ X env e m :=
  peImp h fun σ H Q ⟨W0, W, hH, E, x, hx, q⟩ => by subst hH; exact k W0 W σ E x hx Q q
theorem l_of {t : TE} {m : Option (List τ)} (h : PE X e t)
    (k : ∀ (W0 W : Wd) (σ : St), EnvR X.K W0 W env σ → ∀ x, m = some x → ∀ Q : VK, (∀ a vs W', Le W W' → W.h a = none → W'.h a = some (.lst vs) → W'.b a = none → RpA X.K W'.b vs (x.map em) → Q (.ref a) W'.h) → t σ W.h Q) : XL X env e m :=
  peImp h fun σ H Q ⟨W0, W, hH, E, x, hx, q⟩ => by subst hH; exact k W0 W σ E x hx Q q
theorem t_of {t : TT} {m : Option Bool} (h : PT X e t)
    (k : ∀ (W0 W : Wd) (σ : St), EnvR X.K W0 W env σ → ∀ x, m = some x → ∀ Q : Bool → Hp → Prop, (∀ W', Le W W' → Q x W'.h) → t σ W.h Q) : XT X env e m :=
  ptImp h fun σ H Q ⟨W0, W, hH, E, x, hx, q⟩ => by subst hH; exact k W0 W σ E x hx Q q
variable {K : PySem.W.Frag} {W0 W : Wd} {σ : St}
theorem use_x {m : Option τ} {x : τ} {Q : VK} (E : EnvR K W0 W env σ) (h : m = some x) (q : ∀ v W', Le W W' → Rp K W'.b v (em x) → Q v W'.h) : tX K env m σ W.h Q := ⟨W0, W, rfl, E, x, h, q⟩
theorem use_q {m : Option (List τ)} {x : List τ} {Q : VK} (E : EnvR K W0 W env σ) (h : m = some x) (q : ∀ a vs W', Le W W' → SqL K W'.h a vs → RpA K W'.b vs (x.map em) → Q (.ref a) W'.h) : tQ K env m σ W.h Q := ⟨W0, W, rfl, E, x, h, q⟩
theorem use_l {m : Option (List τ)} {x : List τ} {Q : VK} (E : EnvR K W0 W env σ) (h : m = some x) (q : ∀ a vs W', Le W W' → W.h a = none → W'.h a = some (.lst vs) → W'.b a = none → RpA K W'.b vs (x.map em) → Q (.ref a) W'.h) : tL K env m σ W.h Q := ⟨W0, W, rfl, E, x, h, q⟩
theorem use_t {m : Option Bool} {x : Bool} {Q : Bool → Hp → Prop} (E : EnvR K W0 W env σ) (h : m = some x) (q : ∀ W', Le W W' → Q x W'.h) : tC' K env m σ W.h Q := ⟨W0, W, rfl, E, x, h, q⟩
theorem use_a {m : Option δ} {svs : δ → List SV} {x : δ} {Q : List V → Hp → Prop} (E : EnvR K W0 W env σ) (h : m = some x) (q : ∀ vs W', Le W W' → Args K W' vs (svs x) → Q vs W'.h) : tA K env m svs σ W.h Q := ⟨W0, W, rfl, E, x, h, q⟩
theorem XE.is {m m' : Option τ} (h : XE X env e m) (q : m = m') : XE X env e m' := q ▸ h
theorem XT.is {m m' : Option Bool} (h : XT X env e m) (q : m = m') : XT X env e m' := q ▸ h

/-! ### constants, names -/
theorem x_int {i : Int} {j : Nat} : XE X env (.Constant (.int i) j pos) (some i) := x_of pe_int fun W0 W σ E x hx Q q => by cases hx; exact q _ W (Le.refl E.ok) (.int _)
theorem x_bl {i : Bool} {j : Nat} : XE X env (.Constant (.bool i) j pos) (some i) := x_of pe_bl fun W0 W σ E x hx Q q => by cases hx; exact q _ W (Le.refl E.ok) (.bl _)
theorem x_str {i : Str} {j : Nat} : XE X env (.Constant (.str i) j pos) (some i) := x_of pe_str fun W0 W σ E x hx Q q => by cases hx; exact q _ W (Le.refl E.ok) (.str _)
theorem x_non {j : Nat} : XE X env (.Constant .none j pos) (some ()) := x_of pe_non fun W0 W σ E x hx Q q => by cases hx; exact q _ W (Le.refl E.ok) .non
theorem x_nonO {j : Nat} : XE X env (.Constant .none j pos) (some (none : Option τ)) := x_of pe_non fun W0 W σ E x hx Q q => by cases hx; exact q _ W (Le.refl E.ok) .non
theorem x_some {m : Option τ} (h : XE X env e m) : XE X env e (m.bind fun x => some (some x)) := x_of h fun W0 W σ E x hx Q q => by
  obtain ⟨y, rfl, hy⟩ := bind_some hx
  cases hy
  exact use_x E rfl q
theorem x_D {m : Option τ} (h : XE X env e m) : XE X env e (m.bind fun x => some (em x)) := x_of h fun W0 W σ E x hx Q q => by
  obtain ⟨y, rfl, hy⟩ := bind_some hx
  cases hy
  exact use_x E rfl q
variable {N : List Str} {sc : Scope} {fb : Str → Bool} {mg : Str → Option Value} {P : Program} {w : World} {base : Heap} {k : Nat}
theorem Cf.n (C : Cf X N sc fb K mg P w base k) : X.N = N := by cases C; rfl
theorem x_var (C : Cf X N sc fb K mg P w base k) (i : Nat) {n : Str} {x : τ} (he : env[i]? = some (.dat (em x)) := by rfl) (hi : N[i]? = some n := by rfl) (hv : visB sc n = true := by decide +kernel)
    (hd : (n == ("__debug__" : Str)) = false := by decide) (hc : (n == ("__classdict__" : Str)) = false := by decide) : XE X env (.Name n pos) (some x) := by
  cases C
  refine x_of (pe_var hi (visB_ok hv) hd hc) fun W0 W σ E y hy Q q => ?_
  cases hy
  obtain ⟨v, h1, r⟩ := E.dat he
  exact ⟨v, h1, q v W (Le.refl E.ok) r⟩
theorem q_own (C : Cf X N sc fb K mg P w base k) (i : Nat) {n : Str} {x : List τ} (he : env[i]? = some (.own (x.map em)) := by rfl) (hi : N[i]? = some n := by rfl) (hv : visB sc n = true := by decide +kernel)
    (hd : (n == ("__debug__" : Str)) = false := by decide) (hc : (n == ("__classdict__" : Str)) = false := by decide) : XQ X env (.Name n pos) (some x) := by
  cases C
  refine q_of (pe_var hi (visB_ok hv) hd hc) fun W0 W σ E y hy Q q => ?_
  cases hy
  obtain ⟨a, vs, h1, h2, h3, h0, r⟩ := E.own he
  exact ⟨_, h1, q a vs W (Le.refl E.ok) (SqL.of h2) r⟩
theorem q_bor (C : Cf X N sc fb K mg P w base k) (i : Nat) {n : Str} {x : List τ} (he : env[i]? = some (.bor (x.map em)) := by rfl) (hi : N[i]? = some n := by rfl) (hv : visB sc n = true := by decide +kernel)
    (hd : (n == ("__debug__" : Str)) = false := by decide) (hc : (n == ("__classdict__" : Str)) = false := by decide) : XQ X env (.Name n pos) (some x) := by
  cases C
  refine q_of (pe_var hi (visB_ok hv) hd hc) fun W0 W σ E y hy Q q => ?_
  cases hy
  obtain ⟨a, vs, h1, h2, r⟩ := E.bor he
  exact ⟨_, h1, q a vs W (Le.refl E.ok) h2 r⟩
/-- from one kind of list to another -/
theorem q_x {m : Option (List τ)} (h : XE X env e m) : XQ X env e m := q_of h fun W0 W σ E x hx Q q => use_x E hx fun v W' l r => by
  have r : Rp X.K W'.b v (.lst (x.map em)) := r
  cases r with
  | lst h1 h2 => exact q _ _ W' l (l.ok.seq h1) h2
theorem q_l {m : Option (List τ)} (h : XL X env e m) : XQ X env e m := q_of h fun W0 W σ E x hx Q q => use_l E hx fun a vs W' l h0 h1 hb r => q a vs W' l (SqL.of h1) r
theorem x_l {m : Option (List τ)} (h : XL X env e m) : XE X env e m := x_of h fun W0 W σ E x hx Q q => use_l E hx fun a vs W' l h0 h1 hb r => by
  refine q (.ref a) ⟨upd W'.b a (.lst vs), W'.h⟩ (Le.freeze E.ok l h0 h1 hb) ?_
  exact .lst (SqL.of (show upd W'.b a (.lst vs) a = some (.lst vs) from upd_same)) (r.mono (Same.new hb))

/-! ### operators -/
theorem x_bin {op : Operator} {r : R2} {ma : Option α} {mb : Option β} {f : α → β → Option γ} (ho : OpR X (binaryOp op) r) (ha : XE X env a ma) (hb : XE X env b mb)
    (hr : ∀ x y z, f x y = some z → ∀ (W : Wd) (u v : V), Same W.b W.h → Rp X.K W.b u (em x) → Rp X.K W.b v (em y) → ∀ Q : VK, (∀ v W', Le W W' → Rp X.K W'.b v (em z) → Q v W'.h) → r u v W.h Q) :
    XE X env (.BinOp a op b pos) (ma.bind fun x => mb.bind fun y => f x y) := by
  refine x_of (pe_op ho ha hb) fun W0 W σ E z hz Q q => ?_
  obtain ⟨x, hx, hz⟩ := bind_some hz
  obtain ⟨y, hy, hz⟩ := bind_some hz
  refine use_x E hx fun u W1 l1 r1 => ?_
  refine use_x (E.mono l1) hy fun v W2 l2 r2 => ?_
  exact hr x y z hz W2 u v l2.ok (r1.mono l2.b) r2 Q fun v' W3 l3 r3 => q v' W3 (l1.trans (l2.trans l3)) r3
theorem x_cmp {op : CmpOp} {r : R2} {ma : Option α} {mb : Option β} {f : α → β → Option γ} (ho : OpR X (compareOp op) r) (ha : XE X env a ma) (hb : XE X env b mb) (hm : behindInMarks op b = false)
    (hr : ∀ x y z, f x y = some z → ∀ (W : Wd) (u v : V), Same W.b W.h → Rp X.K W.b u (em x) → Rp X.K W.b v (em y) → ∀ Q : VK, (∀ v W', Le W W' → Rp X.K W'.b v (em z) → Q v W'.h) → r u v W.h Q) :
    XE X env (.Compare a [op] [b] pos) (ma.bind fun x => mb.bind fun y => f x y) := by
  refine x_of (pe_cmpR ho ha hb hm) fun W0 W σ E z hz Q q => ?_
  obtain ⟨x, hx, hz⟩ := bind_some hz
  obtain ⟨y, hy, hz⟩ := bind_some hz
  refine use_x E hx fun u W1 l1 r1 => ?_
  refine use_x (E.mono l1) hy fun v W2 l2 r2 => ?_
  exact hr x y z hz W2 u v l2.ok (r1.mono l2.b) r2 Q fun v' W3 l3 r3 => q v' W3 (l1.trans (l2.trans l3)) r3
/-- ints, without a condition -/
theorem x_binI {op : Operator} {g : Int → Int → Int} {ma mb : Option Int} (ho : OpR X (binaryOp op) (rI0 fun i j => .int (g i j))) (ha : XE X env a ma) (hb : XE X env b mb) :
    XE X env (.BinOp a op b pos) (ma.bind fun x => mb.bind fun y => some (g x y)) :=
  x_bin ho ha hb fun x y z hz W u v ok ru rv Q q => by
    cases hz
    cases ru; cases rv
    exact ⟨x, y, rfl, rfl, q _ W (Le.refl ok) (.int _)⟩
theorem x_binIc {op : Operator} {Cn : Int → Int → Prop} {g : Int → Int → Int} {f : Int → Int → Option Int} {ma mb : Option Int} (ho : OpR X (binaryOp op) (rI Cn fun i j => .int (g i j)))
    (hf : ∀ x y z, f x y = some z → Cn x y ∧ g x y = z) (ha : XE X env a ma) (hb : XE X env b mb) :
    XE X env (.BinOp a op b pos) (ma.bind fun x => mb.bind fun y => f x y) :=
  x_bin ho ha hb fun x y z hz W u v ok ru rv Q q => by
    obtain ⟨h1, h2⟩ := hf x y z hz
    subst h2
    cases ru; cases rv
    exact ⟨x, y, rfl, rfl, h1, q _ W (Le.refl ok) (.int _)⟩
theorem x_cmpI {op : CmpOp} {g : Int → Int → Bool} {ma mb : Option Int} (ho : OpR X (compareOp op) (rI0 fun i j => .bl (g i j))) (ha : XE X env a ma) (hb : XE X env b mb) (hm : behindInMarks op b = false) :
    XE X env (.Compare a [op] [b] pos) (ma.bind fun x => mb.bind fun y => some (g x y)) :=
  x_cmp ho ha hb hm fun x y z hz W u v ok ru rv Q q => by
    cases hz
    cases ru; cases rv
    exact ⟨x, y, rfl, rfl, q _ W (Le.refl ok) (.bl _)⟩
end
/-- what the arithmetic of the model carries -/
def mulP (x y : Int) : Option Int := if (-18446744073709551616 < x ∧ x < 18446744073709551616) ∨ (-18446744073709551616 < y ∧ y < 18446744073709551616) then some (x * y) else none
def modP (x y : Int) : Option Int := if y = 0 then none else some (x.fmod y)
def divP (x y : Int) : Option Int := if y = 0 then none else if y.natAbs < 1073741824 then some (x.fdiv y) else none
def powP (x y : Int) : Option Int := if 0 ≤ y ∧ y ≤ 1000000 ∧ x.natAbs < 18446744073709551616 then some (x ^ y.toNat) else none
section
variable {X : Cx} {env : List SV} {e a b c : Expr} {pos : Pos} [Em τ] [Em α] [Em β] [Em γ]
theorem x_add {ma mb : Option Int} (ha : XE X env a ma) (hb : XE X env b mb) : XE X env (.BinOp a .Add b pos) (ma.bind fun x => mb.bind fun y => some (x + y)) := x_binI op_add ha hb
theorem x_sub {ma mb : Option Int} (ha : XE X env a ma) (hb : XE X env b mb) : XE X env (.BinOp a .Sub b pos) (ma.bind fun x => mb.bind fun y => some (x - y)) := x_binI op_sub ha hb
theorem x_mul {ma mb : Option Int} (ha : XE X env a ma) (hb : XE X env b mb) : XE X env (.BinOp a .Mult b pos) (ma.bind fun x => mb.bind fun y => mulP x y) :=
  x_binIc op_mul (fun x y z h => by
    unfold mulP at h
    split at h
    · exact ⟨by unfold CMul; omega, Option.some.inj h⟩
    · cases h) ha hb
theorem x_mod {ma mb : Option Int} (ha : XE X env a ma) (hb : XE X env b mb) : XE X env (.BinOp a .Mod b pos) (ma.bind fun x => mb.bind fun y => modP x y) :=
  x_binIc op_modN (fun x y z h => by
    unfold modP at h
    split at h
    · cases h
    · exact ⟨by assumption, Option.some.inj h⟩) ha hb
theorem x_div {ma mb : Option Int} (ha : XE X env a ma) (hb : XE X env b mb) : XE X env (.BinOp a .FloorDiv b pos) (ma.bind fun x => mb.bind fun y => divP x y) :=
  x_binIc op_fdivN (fun x y z h => by
    unfold divP at h
    split at h
    · cases h
    · split at h
      · exact ⟨⟨by assumption, by assumption⟩, Option.some.inj h⟩
      · cases h) ha hb
theorem x_pow {ma mb : Option Int} (ha : XE X env a ma) (hb : XE X env b mb) : XE X env (.BinOp a .Pow b pos) (ma.bind fun x => mb.bind fun y => powP x y) :=
  x_binIc op_pow (fun x y z h => by
    unfold powP at h
    split at h
    · rename_i q
      exact ⟨⟨q.1, q.2.1, by simpa using q.2.2⟩, Option.some.inj h⟩
    · cases h) ha hb
theorem x_lt {ma mb : Option Int} (ha : XE X env a ma) (hb : XE X env b mb) : XE X env (.Compare a [.Lt] [b] pos) (ma.bind fun x => mb.bind fun y => some (decide (x < y))) := x_cmpI op_lt ha hb (nomark _)
theorem x_le {ma mb : Option Int} (ha : XE X env a ma) (hb : XE X env b mb) : XE X env (.Compare a [.LtE] [b] pos) (ma.bind fun x => mb.bind fun y => some (decide (x ≤ y))) := x_cmpI op_le ha hb (nomark _)
theorem x_gt {ma mb : Option Int} (ha : XE X env a ma) (hb : XE X env b mb) : XE X env (.Compare a [.Gt] [b] pos) (ma.bind fun x => mb.bind fun y => some (decide (y < x))) := x_cmpI op_gt ha hb (nomark _)
theorem x_ge {ma mb : Option Int} (ha : XE X env a ma) (hb : XE X env b mb) : XE X env (.Compare a [.GtE] [b] pos) (ma.bind fun x => mb.bind fun y => some (decide (y ≤ x))) := x_cmpI op_ge ha hb (nomark _)
/-- ==, != of two of one plain kind -/
class Pl (τ : Type) extends Em τ where
  dec : DecidableEq τ
  eq : ∀ [Tabs] {K : PySem.W.Frag} {H : Hp} {x y : τ} {u v : V}, Rp K H u (em x) → Rp K H v (em y) → scal u v = true ∧ (u = v ↔ x = y)
instance : Pl Int := { dec := inferInstance, eq := fun r q => by cases r; cases q; exact ⟨rfl, by simp⟩ }
instance : Pl Bool := { dec := inferInstance, eq := fun r q => by cases r; cases q; exact ⟨rfl, by simp⟩ }
instance : Pl Str := { dec := inferInstance, eq := fun r q => by cases r; cases q; exact ⟨rfl, by simp⟩ }
instance {τ : Type} [Pl τ] : DecidableEq τ := Pl.dec
theorem x_eq {τ : Type} [Pl τ] {ma mb : Option τ} (ha : XE X env a ma) (hb : XE X env b mb) : XE X env (.Compare a [.Eq] [b] pos) (ma.bind fun x => mb.bind fun y => some (decide (x = y))) :=
  x_cmp op_eq ha hb (nomark _) fun x y z hz W u v ok ru rv Q q => by
    cases hz
    obtain ⟨h1, h2⟩ := Pl.eq ru rv
    refine ⟨h1, ?_⟩
    rw [show decide (u = v) = decide (x = y) from decide_eq_decide.mpr h2]
    exact q _ W (Le.refl ok) (.bl _)
theorem x_ne {τ : Type} [Pl τ] {ma mb : Option τ} (ha : XE X env a ma) (hb : XE X env b mb) : XE X env (.Compare a [.NotEq] [b] pos) (ma.bind fun x => mb.bind fun y => some (!decide (x = y))) :=
  x_cmp op_ne ha hb (nomark _) fun x y z hz W u v ok ru rv Q q => by
    cases hz
    obtain ⟨h1, h2⟩ := Pl.eq ru rv
    refine ⟨h1, ?_⟩
    rw [show decide (u = v) = decide (x = y) from decide_eq_decide.mpr h2]
    exact q _ W (Le.refl ok) (.bl _)
/-! ### tests -/
theorem t_x {m : Option Bool} (h : XE X env e m) (he : ∀ whole, isTrue e X.env whole = (do let v ← whole; standAt e.pos; holding [v] (truthy v)) := by intro _; rfl) : XT X env e m :=
  t_of (pt_val h he) fun W0 W σ E x hx Q q => use_x E hx fun v W' l r => by
    cases r
    exact ⟨x, rfl, q W' l⟩
end
end T

set_option Elab.async false
set_option linter.all false
set_option maxRecDepth 100000
set_option maxHeartbeats 4000000
namespace T
open PySem PySem.Spec PyProof.Rows L2
variable {τ α β γ δ : Type}
variable [Tabs]
section
variable {X : Cx} {env : List SV} {e a b c : Expr} {pos : Pos} [Em τ] [Em α] [Em β] [Em γ]
/-! ### and, or, not, if else -/
theorem t_not {m : Option Bool} (h : XT X env a m) : XT X env (.UnaryOp .Not a pos) (m.bind fun x => some (!x)) :=
  t_of (pt_not h) fun W0 W σ E x hx Q q => by
    obtain ⟨y, hy, hx⟩ := bind_some hx
    cases hx
    exact use_t E hy fun W' l => q W' l
theorem x_not {m : Option Bool} (h : XE X env a m) : XE X env (.UnaryOp .Not a pos) (m.bind fun x => some (!x)) :=
  x_of (pe_not h) fun W0 W σ E x hx Q q => by
    obtain ⟨y, hy, hx⟩ := bind_some hx
    cases hx
    exact use_x E hy fun v W' l r => by
      cases r
      exact ⟨y, rfl, q _ W' l (.bl _)⟩
/-- a and b, lazily -/
def andO (x y : Option Bool) : Option Bool := x.bind fun b => if b = true then y else some false
def orO (x y : Option Bool) : Option Bool := x.bind fun b => if b = true then some true else y
abbrev XW (X : Cx) (env : List SV) (e : Expr) (m : Option Bool) : Prop := PW X e (tC' X.K env m)
theorem w_and1 {m : Option Bool} (h : XT X env a m) : XW X env (.BoolOp .And [a] pos) m := pw_and1 h
theorem w_or1 {m : Option Bool} (h : XT X env a m) : XW X env (.BoolOp .Or [a] pos) m := pw_or1 h
theorem w_and {ma mb : Option Bool} {rest : List Expr} (ha : XT X env a ma) (hb : XW X env (.BoolOp .And (b :: rest) pos) mb) : XW X env (.BoolOp .And (a :: b :: rest) pos) (andO ma mb) := by
  refine pwImp (pw_and ha hb) fun σ H Q ⟨W0, W, hH, E, x, hx, q⟩ => ?_
  subst hH
  obtain ⟨y, hy, hx⟩ := bind_some hx
  refine use_t E hy fun W1 l1 => ?_
  cases y with
  | true => exact use_t (E.mono l1) (by simpa using hx) fun W2 l2 => q W2 (l1.trans l2)
  | false =>
    have e : false = x := Option.some.inj (by simpa using hx)
    subst e
    exact q W1 l1
theorem w_or {ma mb : Option Bool} {rest : List Expr} (ha : XT X env a ma) (hb : XW X env (.BoolOp .Or (b :: rest) pos) mb) : XW X env (.BoolOp .Or (a :: b :: rest) pos) (orO ma mb) := by
  refine pwImp (pw_or ha hb) fun σ H Q ⟨W0, W, hH, E, x, hx, q⟩ => ?_
  subst hH
  obtain ⟨y, hy, hx⟩ := bind_some hx
  refine use_t E hy fun W1 l1 => ?_
  cases y with
  | false => exact use_t (E.mono l1) (by simpa using hx) fun W2 l2 => q W2 (l1.trans l2)
  | true =>
    have e : true = x := Option.some.inj (by simpa using hx)
    subst e
    exact q W1 l1
theorem t_w {m : Option Bool} (h : XW X env e m) : XT X env e m := h.pt
theorem x_one {op : BoolOp} {m : Option Bool} (h : XE X env a m) : XE X env (.BoolOp op [a] pos) m := pe_one h
theorem x_and {ma mb : Option Bool} {rest : List Expr} (ha : XE X env a ma) (hb : XE X env (.BoolOp .And (b :: rest) pos) mb) : XE X env (.BoolOp .And (a :: b :: rest) pos) (andO ma mb) := by
  refine x_of (pe_and ha hb) fun W0 W σ E x hx Q q => ?_
  obtain ⟨y, hy, hx⟩ := bind_some hx
  refine use_x E hy fun v W1 l1 r => ?_
  cases r
  refine ⟨y, rfl, ?_⟩
  cases y with
  | true => exact use_x (E.mono l1) (by simpa using hx) fun v W2 l2 r2 => q v W2 (l1.trans l2) r2
  | false =>
    have e : false = x := Option.some.inj (by simpa using hx)
    subst e
    exact q _ W1 l1 (.bl _)
theorem x_or {ma mb : Option Bool} {rest : List Expr} (ha : XE X env a ma) (hb : XE X env (.BoolOp .Or (b :: rest) pos) mb) : XE X env (.BoolOp .Or (a :: b :: rest) pos) (orO ma mb) := by
  refine x_of (pe_or ha hb) fun W0 W σ E x hx Q q => ?_
  obtain ⟨y, hy, hx⟩ := bind_some hx
  refine use_x E hy fun v W1 l1 r => ?_
  cases r
  refine ⟨y, rfl, ?_⟩
  cases y with
  | false => exact use_x (E.mono l1) (by simpa using hx) fun v W2 l2 r2 => q v W2 (l1.trans l2) r2
  | true =>
    have e : true = x := Option.some.inj (by simpa using hx)
    subst e
    exact q _ W1 l1 (.bl _)
theorem x_if {mc : Option Bool} {ma mb : Option τ} (hc : XT X env c mc) (ha : XE X env a ma) (hb : XE X env b mb) : XE X env (.IfExp c a b pos) (mc.bind fun x => if x = true then ma else mb) := by
  refine x_of (pe_ifExp hc ha hb) fun W0 W σ E x hx Q q => ?_
  obtain ⟨y, hy, hx⟩ := bind_some hx
  refine use_t E hy fun W1 l1 => ?_
  cases y with
  | true => exact use_x (E.mono l1) (by simpa using hx) fun v W2 l2 r2 => q v W2 (l1.trans l2) r2
  | false => exact use_x (E.mono l1) (by simpa using hx) fun v W2 l2 r2 => q v W2 (l1.trans l2) r2
/-! ### arguments, displays -/
theorem a_nil : XA X env [] (some ()) (fun _ => []) := paImp pa_nil fun σ H Q ⟨W0, W, hH, E, x, hx, q⟩ => by
  subst hH
  exact q [] W (Le.refl E.ok) .nil
theorem a_dat {es : List Expr} {m : Option τ} {ms : Option δ} {svs : δ → List SV} (h : XE X env e m) (hs : XA X env es ms svs) (hst : starEach (e :: es) X.env = (false, eval e X.env) :: starEach es X.env := by rfl) :
    XA X env (e :: es) (m.bind fun x => ms.bind fun y => some (x, y)) (fun p => .dat (em p.1) :: svs p.2) := by
  refine paImp (pa_cons h hs hst) fun σ H Q ⟨W0, W, hH, E, z, hz, q⟩ => ?_
  subst hH
  obtain ⟨x, hx, hz⟩ := bind_some hz
  obtain ⟨y, hy, hz⟩ := bind_some hz
  cases hz
  refine use_x E hx fun v W1 l1 r1 => ?_
  refine use_a (E.mono l1) hy fun vs W2 l2 r2 => ?_
  exact q _ W2 (l1.trans l2) (.dat (r1.mono l2.b) r2)
theorem a_bor {es : List Expr} {m : Option (List τ)} {ms : Option δ} {svs : δ → List SV} (h : XQ X env e m) (hs : XA X env es ms svs) (hst : starEach (e :: es) X.env = (false, eval e X.env) :: starEach es X.env := by rfl) :
    XA X env (e :: es) (m.bind fun x => ms.bind fun y => some (x, y)) (fun p => .bor (p.1.map em) :: svs p.2) := by
  refine paImp (pa_cons h hs hst) fun σ H Q ⟨W0, W, hH, E, z, hz, q⟩ => ?_
  subst hH
  obtain ⟨x, hx, hz⟩ := bind_some hz
  obtain ⟨y, hy, hz⟩ := bind_some hz
  cases hz
  refine use_q E hx fun a vs W1 l1 s1 r1 => ?_
  refine use_a (E.mono l1) hy fun us W2 l2 r2 => ?_
  exact q _ W2 (l1.trans l2) (.bor (l2.h.seq s1) (r1.mono l2.b) r2)
/-- items of one type, as data -/
abbrev XI [Em τ] (X : Cx) (env : List SV) (es : List Expr) (m : Option (List τ)) : Prop := PA X es (tA X.K env m fun xs => xs.map fun x => SV.dat (em x))
theorem i_nil : XI (τ := τ) X env [] (some []) := paImp pa_nil fun σ H Q ⟨W0, W, hH, E, x, hx, q⟩ => by
  subst hH
  cases hx
  exact q [] W (Le.refl E.ok) .nil
theorem i_cons {es : List Expr} {m : Option τ} {ms : Option (List τ)} (h : XE X env e m) (hs : XI X env es ms) (hst : starEach (e :: es) X.env = (false, eval e X.env) :: starEach es X.env := by rfl) :
    XI X env (e :: es) (m.bind fun x => ms.bind fun y => some (x :: y)) := by
  refine paImp (pa_cons h hs hst) fun σ H Q ⟨W0, W, hH, E, z, hz, q⟩ => ?_
  subst hH
  obtain ⟨x, hx, hz⟩ := bind_some hz
  obtain ⟨y, hy, hz⟩ := bind_some hz
  cases hz
  refine use_x E hx fun v W1 l1 r1 => ?_
  refine use_a (E.mono l1) hy fun vs W2 l2 r2 => ?_
  exact q _ W2 (l1.trans l2) (.dat (r1.mono l2.b) r2)
theorem Args.items {K : PySem.W.Frag} {W : Wd} : ∀ {vs : List V} {xs : List τ}, Args K W vs (xs.map fun x => SV.dat (em x)) → RpA K W.b vs (xs.map em)
  | _, [], .nil => .nil
  | _, _ :: _, .dat r t => .cons r (Args.items t)
theorem Args.dats {K : PySem.W.Frag} {W : Wd} : ∀ {vs : List V} {ds : List D}, Args K W vs (ds.map SV.dat) → RpA K W.b vs ds
  | _, [], .nil => .nil
  | _, _ :: _, .dat r t => .cons r (Args.dats t)
theorem Args.length {K : PySem.W.Frag} {W : Wd} : ∀ {vs : List V} {svs : List SV}, Args K W vs svs → vs.length = svs.length
  | _, _, .nil => rfl
  | _, _, .dat _ t => by rw [List.length_cons, List.length_cons, Args.length t]
  | _, _, .bor _ _ t => by rw [List.length_cons, List.length_cons, Args.length t]
def sz (n : Nat) : Prop := n < 16777216
instance (n : Nat) : Decidable (sz n) := inferInstanceAs (Decidable (n < 16777216))
theorem sz_line {n : Nat} (h : sz n) : n < sizeLine := by rw [sizeLine_eq]; exact h
def lstP (xs : List τ) : Option (List τ) := if sz xs.length then some xs else none
theorem lstP_some {xs ys : List τ} (h : lstP xs = some ys) : ys = xs ∧ sz xs.length := by
  unfold lstP at h
  split at h
  · exact ⟨(Option.some.inj h).symm, by assumption⟩
  · cases h
/-- [a, b, ..] -/
theorem l_lst {es : List Expr} {m : Option (List τ)} (h : XI X env es m) (hl : es.length < 16777216 := by decide) : XL X env (.List es pos) (m.bind lstP) := by
  refine l_of (pe_lst h) fun W0 W σ E x hx Q q => ?_
  obtain ⟨y, hy, hx⟩ := bind_some hx
  obtain ⟨rfl, hz⟩ := lstP_some hx
  refine use_a E hy fun vs W1 l1 r1 => ?_
  have r := r1.items
  refine ⟨by have := r.length; rw [List.length_map] at this; exact Nat.le_of_lt (by rw [this]; exact sz_line hz), fun p hp => ?_⟩
  exact q p vs ⟨W1.b, upd W1.h p (.lst vs)⟩ (l1.trans (Le.layM l1.ok hp)) (l1.h.free hp) upd_same (l1.ok.free hp) r
theorem l_nil : XL (τ := τ) X env (.List [] pos) (some []) := by
  refine l_of (pe_lst pa_nil) fun W0 W σ E x hx Q q => ?_
  cases hx
  refine ⟨by rw [sizeLine_eq]; decide, fun p hp => ?_⟩
  exact q p [] ⟨W.b, upd W.h p (.lst [])⟩ (Le.layM E.ok hp) hp upd_same (E.ok.free hp) .nil
/-- a written display of at least one item -/
theorem l_lst1 {es : List Expr} {m : Option (List τ)} (h : XI X env es m) (hm : ∀ x, m = some x → x.length < 16777216) : XL X env (.List es pos) m := by
  refine l_of (pe_lst h) fun W0 W σ E x hx Q q => ?_
  refine use_a E hx fun vs W1 l1 r1 => ?_
  have r := r1.items
  refine ⟨by have := r.length; rw [List.length_map] at this; exact Nat.le_of_lt (by rw [this]; exact sz_line (hm x hx)), fun p hp => ?_⟩
  exact q p vs ⟨W1.b, upd W1.h p (.lst vs)⟩ (l1.trans (Le.layM l1.ok hp)) (l1.h.free hp) upd_same (l1.ok.free hp) r
/-- (a, b, ..): items by their own types -/
theorem x_tupA {es : List Expr} {x1 : Nat} {m : Option δ} {ds : δ → List D} {f : δ → τ} (h : XA X env es m (fun d => (ds d).map SV.dat)) (hf : ∀ d, em (f d) = .tup (ds d)) (hl : ∀ d, (ds d).length < 16777216) :
    XE X env (.Tuple es x1 pos) (m.bind fun d => some (f d)) := by
  refine x_of (pe_tup h) fun W0 W σ E x hx Q q => ?_
  obtain ⟨y, hy, hx⟩ := bind_some hx
  cases hx
  refine use_a E hy fun vs W1 l1 r1 => ?_
  have r : RpA X.K W1.b vs (ds y) := by
    exact Args.dats r1
  refine ⟨by rw [r.length]; exact Nat.le_of_lt (sz_line (hl y)), fun p hp => ?_⟩
  refine q (.ref p) _ (l1.trans (Le.lay l1.ok (o := .tup vs) hp)) ?_
  rw [hf]
  exact .tup (SqT.of upd_same) (r.mono (Same.new (l1.ok.free hp)))
theorem x_tup2 {x1 : Nat} {ma : Option α} {mb : Option β} (ha : XE X env a ma) (hb : XE X env b mb) (h1 : starEach [a, b] X.env = (false, eval a X.env) :: starEach [b] X.env := by rfl) (h2 : starEach [b] X.env = (false, eval b X.env) :: starEach [] X.env := by rfl) :
    XE X env (.Tuple [a, b] x1 pos) (ma.bind fun x => mb.bind fun y => some (x, y)) := by
  refine (x_tupA (f := fun p : α × β × Unit => (p.1, p.2.1)) (ds := fun p => [em p.1, em p.2.1]) (a_dat ha (a_dat hb a_nil h2) h1) (fun _ => rfl) (fun _ => (by decide : 2 < 16777216))).is ?_
  cases ma with
  | none => rfl
  | some x => cases mb <;> rfl
theorem x_tup3 {x1 : Nat} {ma : Option α} {mb : Option β} {mc : Option γ} (ha : XE X env a ma) (hb : XE X env b mb) (hc : XE X env c mc) (h1 : starEach [a, b, c] X.env = (false, eval a X.env) :: starEach [b, c] X.env := by rfl) (h2 : starEach [b, c] X.env = (false, eval b X.env) :: starEach [c] X.env := by rfl)
    (h3 : starEach [c] X.env = (false, eval c X.env) :: starEach [] X.env := by rfl) :
    XE X env (.Tuple [a, b, c] x1 pos) (ma.bind fun x => mb.bind fun y => mc.bind fun z => some (⟨x, y, z⟩ : T3 α β γ)) := by
  refine (x_tupA (f := fun p : α × β × γ × Unit => (⟨p.1, p.2.1, p.2.2.1⟩ : T3 α β γ)) (ds := fun p => [em p.1, em p.2.1, em p.2.2.1]) (a_dat ha (a_dat hb (a_dat hc a_nil h3) h2) h1) (fun _ => rfl) (fun _ => (by decide : 3 < 16777216))).is ?_
  cases ma with
  | none => rfl
  | some x =>
    cases mb with
    | none => rfl
    | some y => cases mc <;> rfl
/-- a tuple of items of one type -/
theorem x_tupV {es : List Expr} {x1 : Nat} {m : Option (List τ)} (h : XI X env es m) (hm : ∀ x, m = some x → x.length < 16777216) : XE X env (.Tuple es x1 pos) (m.bind fun d => some (⟨d⟩ : Vt τ)) := by
  refine x_of (pe_tup h) fun W0 W σ E x hx Q q => ?_
  obtain ⟨y, hy, hx⟩ := bind_some hx
  cases hx
  refine use_a E hy fun vs W1 l1 r1 => ?_
  have r := r1.items
  refine ⟨by have := r.length; rw [List.length_map] at this; exact Nat.le_of_lt (by rw [this]; exact sz_line (hm y hy)), fun p hp => ?_⟩
  refine q (.ref p) _ (l1.trans (Le.lay l1.ok (o := .tup vs) hp)) ?_
  exact .tup (SqT.of upd_same) (r.mono (Same.new (l1.ok.free hp)))

/-! ### items, lengths -/
theorem atI_rp {K : PySem.W.Frag} {H : Hp} {vs : List V} {ds : List D} {i : Int} {d : D} (r : RpA K H vs ds) (h : atI ds i = some d) : ∃ v, atI vs i = some v ∧ Rp K H v d := by
  unfold atI at h ⊢
  rw [r.length]
  obtain ⟨j, h1, h2⟩ := bind_some h
  obtain ⟨v, h3, h4⟩ := r.get h2
  exact ⟨v, by rw [h1]; exact h3, h4⟩
theorem atI_map {f : α → β} {xs : List α} {i : Int} {x : α} (h : atI xs i = some x) : atI (xs.map f) i = some (f x) := by
  unfold atI at h ⊢
  rw [List.length_map]
  obtain ⟨j, h1, h2⟩ := bind_some h
  rw [h1]
  show (xs.map f)[j]? = some (f x)
  rw [List.getElem?_map, h2]
  rfl
theorem x_ixQ {ma : Option (List τ)} {mi : Option Int} (ha : XQ X env a ma) (hi : XE X env b mi) (hs : PlainIx b := by exact fun _ _ => rfl) : XE X env (.Subscript a b pos) (ma.bind fun xs => mi.bind fun i => atI xs i) := by
  refine x_of (pe_ix ix_list ha hi hs) fun W0 W σ E z hz Q q => ?_
  obtain ⟨x, hx, hz⟩ := bind_some hz
  obtain ⟨y, hy, hz⟩ := bind_some hz
  refine use_q E hx fun p vs W1 l1 s1 r1 => ?_
  refine use_x (E.mono l1) hy fun v W2 l2 r2 => ?_
  cases r2
  obtain ⟨u, h1, h2⟩ := atI_rp r1 (atI_map (f := em) hz)
  exact ⟨p, vs, y, u, rfl, rfl, l2.h.seq s1, h1, q u W2 (l1.trans l2) (h2.mono l2.b)⟩
theorem x_ixV {ma : Option (Vt τ)} {mi : Option Int} (ha : XE X env a ma) (hi : XE X env b mi) (hs : PlainIx b := by exact fun _ _ => rfl) : XE X env (.Subscript a b pos) (ma.bind fun xs => mi.bind fun i => atI xs.l i) := by
  refine x_of (pe_ix ix_tup ha hi hs) fun W0 W σ E z hz Q q => ?_
  obtain ⟨x, hx, hz⟩ := bind_some hz
  obtain ⟨y, hy, hz⟩ := bind_some hz
  refine use_x E hx fun p W1 l1 r1 => ?_
  refine use_x (E.mono l1) hy fun v W2 l2 r2 => ?_
  cases r2
  have r1 : Rp X.K W1.b p (.tup (x.l.map em)) := r1
  cases r1 with
  | tup s1 r1 =>
    obtain ⟨u, h1, h2⟩ := atI_rp r1 (atI_map (f := em) hz)
    exact ⟨_, _, y, u, rfl, rfl, same_t (l2.b.trans l2.ok) s1, h1, q u W2 (l1.trans l2) (h2.mono l2.b)⟩
/-- an item of a tuple of known length: i its place, g what it is -/
theorem x_ixT {ma : Option α} {i : Int} {j : Nat} {p : Pos} {g : α → γ} (ha : XE X env a ma) (hd : ∀ x : α, ∃ ds, em x = .tup ds ∧ atI ds i = some (em (g x))) :
    XE X env (.Subscript a (.Constant (.int i) j p) pos) (ma.bind fun x => some (g x)) := by
  refine x_of (pe_ix ix_tup ha (x_int (env := env)) (fun _ _ => rfl)) fun W0 W σ E z hz Q q => ?_
  obtain ⟨x, hx, hz⟩ := bind_some hz
  cases hz
  refine use_x E hx fun p W1 l1 r1 => ?_
  refine use_x (E.mono l1) rfl fun v W2 l2 r2 => ?_
  cases r2
  obtain ⟨ds, e1, e2⟩ := hd x
  rw [e1] at r1
  cases r1 with
  | tup s1 r1 =>
    obtain ⟨u, h1, h2⟩ := atI_rp r1 e2
    exact ⟨_, _, i, u, rfl, rfl, same_t (l2.b.trans l2.ok) s1, h1, q u W2 (l1.trans l2) (h2.mono l2.b)⟩
def strAt (s : Str) (i : Int) : Option Str := if sz s.length then (atI s.cps.toList i).map fun c => ⟨#[c]⟩ else none
theorem x_ixS {ma : Option Str} {mi : Option Int} (ha : XE X env a ma) (hi : XE X env b mi) (hs : PlainIx b := by exact fun _ _ => rfl) : XE X env (.Subscript a b pos) (ma.bind fun xs => mi.bind fun i => strAt xs i) := by
  refine x_of (pe_ix ix_str ha hi hs) fun W0 W σ E z hz Q q => ?_
  obtain ⟨x, hx, hz⟩ := bind_some hz
  obtain ⟨y, hy, hz⟩ := bind_some hz
  refine use_x E hx fun p W1 l1 r1 => ?_
  refine use_x (E.mono l1) hy fun v W2 l2 r2 => ?_
  cases r1; cases r2
  unfold strAt at hz
  split at hz
  · rename_i hl
    cases hc : atI x.cps.toList y with
    | none => rw [hc] at hz; cases hz
    | some cc =>
      rw [hc] at hz
      cases hz
      exact ⟨x, y, cc, rfl, rfl, Nat.le_of_lt (sz_line hl), hc, q _ W2 (l1.trans l2) (.str _)⟩
  · cases hz
end
section
variable {X : Cx} {env : List SV} {e a b c : Expr} {es : List Expr} {pos p : Pos} [Em τ] [Em α] [Em β] [Em γ] {N : List Str} {sc : Scope} {fb : Str → Bool} {K : PySem.W.Frag} {mg : Str → Option Value} {P : Program} {w : World} {base : Heap} {k : Nat}
/-! ### built-ins by name -/
theorem x_cB {x : Str} {id : String} {r : List V → Hp → VK → Prop} {m : Option δ} {svs : δ → List SV} {f : δ → Option τ} (C : Cf X N sc fb K mg P w base k) (hc : CallR X (.builtin id) r) (ha : XA X env (e :: es) m svs)
    (hr : ∀ d y, f d = some y → ∀ (W : Wd) (vs : List V), Same W.b W.h → Args X.K W vs (svs d) → ∀ Q : VK, (∀ v W', Le W W' → Rp X.K W'.b v (em y) → Q v W'.h) → r vs W.h Q)
    (hm : mg x = none) (hv : bootBuiltins x = some (.builtin id) := by decide +kernel) (hg : glbB sc x = true := by decide +kernel) (hn : x ≠ "__name__" := by decide) (hdb : (x == ("__debug__" : Str)) = false := by decide)
    (he : starEach (e :: es) X.env = (false, eval e X.env) :: starEach es X.env := by rfl) (hpl : (backTo pos (starEach es X.env)).any (·.1) = false := by rfl) : XE X env (.Call (.Name x p) (e :: es) [] pos) (m.bind f) := by
  cases C
  refine x_of (pe_callB hc (glbB_ok hg) hm hv ha hn hdb he hpl) fun W0 W σ E z hz Q q => ?_
  obtain ⟨d, hd, hz⟩ := bind_some hz
  refine use_a E hd fun vs W1 l1 r1 => ?_
  exact hr d z hz W1 vs l1.ok r1 Q fun v W2 l2 r2 => q v W2 (l1.trans l2) r2
theorem x_cT {x : Str} {id : String} {r : List V → Hp → VK → Prop} {m : Option δ} {svs : δ → List SV} {f : δ → Option τ} (C : Cf X N sc fb K mg P w base k) (hc : CallR X (.type id) r) (ha : XA X env (e :: es) m svs)
    (hr : ∀ d y, f d = some y → ∀ (W : Wd) (vs : List V), Same W.b W.h → Args X.K W vs (svs d) → ∀ Q : VK, (∀ v W', Le W W' → Rp X.K W'.b v (em y) → Q v W'.h) → r vs W.h Q)
    (hm : mg x = none) (hv : bootBuiltins x = some (.type id) := by decide +kernel) (hg : glbB sc x = true := by decide +kernel) (hn : x ≠ "__name__" := by decide) (hdb : (x == ("__debug__" : Str)) = false := by decide)
    (he : starEach (e :: es) X.env = (false, eval e X.env) :: starEach es X.env := by rfl) (hpl : (backTo pos (starEach es X.env)).any (·.1) = false := by rfl) : XE X env (.Call (.Name x p) (e :: es) [] pos) (m.bind f) := by
  cases C
  refine x_of (pe_callTy hc (glbB_ok hg) hm hv ha hn hdb he hpl) fun W0 W σ E z hz Q q => ?_
  obtain ⟨d, hd, hz⟩ := bind_some hz
  refine use_a E hd fun vs W1 l1 r1 => ?_
  exact hr d z hz W1 vs l1.ok r1 Q fun v W2 l2 r2 => q v W2 (l1.trans l2) r2
end
end T

set_option Elab.async false
set_option linter.all false
set_option maxRecDepth 100000
set_option maxHeartbeats 4000000
namespace T
open PySem PySem.Spec PyProof.Rows L2
variable {τ α β γ δ ρ B S ι : Type}
variable [Tabs]
/-! ### results, ends of a block -/
inductive RV where
  | er (e : Ex) (E : XK)
  | dat (d : D)
  | own (ds : List D)
  | dtp (x : D) (p d s : Addr) (t : Tp)
  | tape (t : Tp)
def ResR (K : PySem.W.Frag) (W0 W : Wd) (v : V) : RV → Prop
  | .er _ _ => False
  | .dat d => Rp K W.b v d
  | .own ds => ∃ a vs, v = .ref a ∧ W.h a = some (.lst vs) ∧ W.b a = none ∧ W0.h a = none ∧ RpA K W.b vs ds
  | .dtp x p d s t => Rp K W.b v x ∧ SlotR K W0 W (some (.ref p)) (.tp p d s t)
  | .tape t => ∃ p d s, v = .ref p ∧ SlotR K W0 W (some (.ref p)) (.tp p d s t)
/-- what is wanted of a result: the value goes to Q, an error to its E -/
def RtQ (K : PySem.W.Frag) (W0 : Wd) (Q : VK) : RV → Prop
  | .er e E => ∀ cls d W', Le W0 W' → ExR K W'.b cls d e → E cls d W'.h
  | .dat d => ∀ v W', Le W0 W' → ResR K W0 W' v (.dat d) → Q v W'.h
  | .own d => ∀ v W', Le W0 W' → ResR K W0 W' v (.own d) → Q v W'.h
  | .dtp x p d s t => ∀ v W', Le W0 W' → ResR K W0 W' v (.dtp x p d s t) → Q v W'.h
  | .tape t => ∀ v W', Le W0 W' → ResR K W0 W' v (.tape t) → Q v W'.h
theorem RtQ.use {K : PySem.W.Frag} {W0 W' : Wd} {Q : VK} {v : V} {r : RV} (h : RtQ K W0 Q r) (l : Le W0 W') (q : ResR K W0 W' v r) : Q v W'.h := by
  cases r with
  | er e E => exact q.elim
  | dat d => exact h v W' l q
  | own d => exact h v W' l q
  | dtp x p d s t => exact h v W' l q
  | tape t => exact h v W' l q
inductive Fl (ρ B S : Type) where
  | nx (s : S)
  | rt (r : ρ)
  | bk (b : B)
  | ct (b : B)
def tG (K : PySem.W.Frag) (env : List SV) (m : Option α) (Z : α → Wd → Hp → Ends → Prop) : TS := fun D σ H =>
  ∃ (W0 W : Wd) (B : Hp), W.h = H ∧ EnvR K W0 W env σ ∧ Same B W.b ∧ ∃ r, m = some r ∧ Z r W0 B D
/-- what must follow: the block's end with the state s | a return | .. -/
def ZN (K : PySem.W.Frag) (envJ : S → List SV) : S → Wd → Hp → Ends → Prop := fun s W0 B D => ∀ W' σ', Same B W'.b → EnvR K W0 W' (envJ s) σ' → D.nx σ' W'.h
def ZR (K : PySem.W.Frag) (res : ρ → RV) : ρ → Wd → Hp → Ends → Prop := fun r W0 _ D => RtQ K W0 D.rt (res r)
/-- a def's whole body: the end without a return hands back None -/
def ZRn (K : PySem.W.Frag) (res : ρ → RV) : ρ → Wd → Hp → Ends → Prop := fun r W0 _ D => RtQ K W0 D.rt (res r) ∧ ∀ σ W', Le W0 W' → ResR K W0 W' .non (res r) → D.nx σ W'.h
def ZF (K : PySem.W.Frag) (res : ρ → RV) (envB : B → List SV) (envJ : S → List SV) : Fl ρ B S → Wd → Hp → Ends → Prop := fun f W0 B' D => match f with
  | .nx s => ∀ W' σ', Same B' W'.b → EnvR K W0 W' (envJ s) σ' → D.nx σ' W'.h
  | .rt r => RtQ K W0 D.rt (res r)
  | .bk b => ∀ W' σ', Same B' W'.b → EnvR K W0 W' (envB b) σ' → D.bk σ' W'.h
  | .ct b => ∀ W' σ', Same B' W'.b → EnvR K W0 W' (envB b) σ' → D.ct σ' W'.h
/-- an early end: φ r is an end for Z where r is one for Z', whatever follows the block -/
def Early (φ : α → β) (Z' : α → Wd → Hp → Ends → Prop) (Z : β → Wd → Hp → Ends → Prop) : Prop := ∀ r W0 B D u, Z (φ r) W0 B D → Z' r W0 B { D with nx := u }
theorem early_r {K : PySem.W.Frag} {res : ρ → RV} : Early id (ZR K res) (ZR K res) := fun _ _ _ _ _ h => h
theorem early_rn {K : PySem.W.Frag} {res : ρ → RV} : Early id (ZR K res) (ZRn K res) := fun _ _ _ _ _ h => h.1
theorem early_rf {K : PySem.W.Frag} {res : ρ → RV} {envB : B → List SV} {envJ : S → List SV} : Early Fl.rt (ZR K res) (ZF K res envB envJ) := fun _ _ _ _ _ h => h
/-- break, continue -/
def ZB (K : PySem.W.Frag) (envB : B → List SV) : B → Wd → Hp → Ends → Prop := fun b W0 B' D => ∀ W' σ', Same B' W'.b → EnvR K W0 W' (envB b) σ' → D.bk σ' W'.h
def ZC (K : PySem.W.Frag) (envB : B → List SV) : B → Wd → Hp → Ends → Prop := fun b W0 B' D => ∀ W' σ', Same B' W'.b → EnvR K W0 W' (envB b) σ' → D.ct σ' W'.h
theorem early_bf {K : PySem.W.Frag} {res : ρ → RV} {envB : B → List SV} {envJ : S → List SV} : Early Fl.bk (ZB K envB) (ZF K res envB envJ) := fun _ _ _ _ _ h => h
theorem early_cf {K : PySem.W.Frag} {res : ρ → RV} {envB : B → List SV} {envJ : S → List SV} : Early Fl.ct (ZC K envB) (ZF K res envB envJ) := fun _ _ _ _ _ h => h
section
variable {X : Cx} {env env' : List SV} {e a b c : Expr} {st : Stmt} {rest : List Stmt} {pos p : Pos} [Em τ] [Em α] [Em β] [Em γ] {N : List Str} {sc : Scope} {fb : Str → Bool} {K : PySem.W.Frag} {mg : Str → Option Value} {P : Program} {w : World} {base : Heap} {k : Nat}
variable {Z : ρ → Wd → Hp → Ends → Prop}
abbrev GS (X : Cx) (env : List SV) (sts : List Stmt) (m : Option ρ) (Z : ρ → Wd → Hp → Ends → Prop) : Prop := PSs X sts (tG X.K env m Z)
theorem g_is {sts : List Stmt} {m m' : Option ρ} (h : GS X env sts m Z) (q : m = m' := by rfl) : GS X env sts m' Z := q ▸ h
theorem g_env {sts : List Stmt} {m : Option ρ} (h : GS X env' sts m Z) (q : EnvLe env env') : GS X env sts m Z := pssImp h fun D σ H ⟨W0, W, B, hH, E, sb, r, hr, z⟩ => ⟨W0, W, B, hH, E.weak q, sb, r, hr, z⟩
/-- a statement, then the rest -/
theorem g_of {t : TS} {u : ι → TS} {m : Option ρ} (h1 : PS X st t) (h2 : ∀ i, PSs X rest (u i))
    (kk : ∀ (W0 W : Wd) (B : Hp) (σ : St) (D : Ends) (r : ρ), EnvR X.K W0 W env σ → Same B W.b → m = some r → Z r W0 B D → t { D with nx := fun σ' H' => ∃ i, u i D σ' H' } σ W.h) : GS X env (st :: rest) m Z := by
  refine pssImp (pss_cons h1 (pssEx h2)) fun D σ H ⟨W0, W, B, hH, E, sb, r, hr, z⟩ => ?_
  subst hH
  exact kk W0 W B σ D r E sb hr z
theorem use_g {W0 W : Wd} {B : Hp} {σ : St} {m : Option ρ} {r : ρ} {D : Ends} (E : EnvR K W0 W env σ) (sb : Same B W.b) (h : m = some r) (z : Z r W0 B D) : tG K env m Z D σ W.h := ⟨W0, W, B, rfl, E, sb, r, h, z⟩

/-! ### assignments -/
theorem g_set (C : Cf X N sc fb K mg P w base k) (i : Nat) {n : Str} {p' : Pos} {me : Option τ} {f : τ → Option ρ} (he : XE X env e me) (hr : ∀ x, GS X (env.set i (.dat (em x))) rest (f x) Z)
    (hi : N[i]? = some n := by rfl) (hl : locB sc fb n = true := by decide +kernel) (hs : ∀ E : Env, swapsWith e (some (.Name n p')) pos.line E = pure false := by intro _; rfl) :
    GS X env (.Assign [.Name n p'] e pos :: rest) (me.bind f) Z := by
  cases C with
  | mk nd calm po rm =>
    refine g_of (ps_set nd hi (locB_ok hl) he (hs _) (locB_fn hl)) hr fun W0 W B σ D r E sb hm z => ?_
    · obtain ⟨x, hx, hm⟩ := bind_some hm
      exact use_x E hx fun v W1 l1 r1 => ⟨x, use_g ((E.mono l1).putD r1) (sb.trans l1.b) hm z⟩
theorem g_setL (C : Cf X N sc fb K mg P w base k) (i : Nat) {n : Str} {p' : Pos} {me : Option (List τ)} {f : List τ → Option ρ} (he : XL X env e me) (hr : ∀ x, GS X (env.set i (.own (x.map em))) rest (f x) Z)
    (hi : N[i]? = some n := by rfl) (hl : locB sc fb n = true := by decide +kernel) (hs : ∀ E : Env, swapsWith e (some (.Name n p')) pos.line E = pure false := by intro _; rfl) :
    GS X env (.Assign [.Name n p'] e pos :: rest) (me.bind f) Z := by
  cases C with
  | mk nd calm po rm =>
    refine g_of (ps_set nd hi (locB_ok hl) he (hs _) (locB_fn hl)) hr fun W0 W B σ D r E sb hm z => ?_
    · obtain ⟨x, hx, hm⟩ := bind_some hm
      exact use_l E hx fun a vs W1 l1 h0 h1 hb r1 => ⟨x, use_g (E.putL l1 h0 h1 hb r1) (sb.trans l1.b) hm z⟩
/-- y = x, x an owned list that is not asked any more -/
theorem g_move (C : Cf X N sc fb K mg P w base k) (i j : Nat) {n n' : Str} {p' p2 : Pos} {ds : List D} {m : Option ρ} (hj : env[j]? = some (.own ds) := by rfl) (hr : GS X ((env.set j .any).set i (.own ds)) rest m Z)
    (hi : N[i]? = some n := by rfl) (hl : locB sc fb n = true := by decide +kernel) (hi' : N[j]? = some n' := by rfl) (hv : visB sc n' = true := by decide +kernel)
    (hd : (n' == ("__debug__" : Str)) = false := by decide) (hc : (n' == ("__classdict__" : Str)) = false := by decide) :
    GS X env (.Assign [.Name n p'] (.Name n' p2) pos :: rest) m Z := by
  cases C with
  | mk nd calm po rm =>
    refine g_of (ι := Unit) (ps_set nd hi (locB_ok hl) (pe_var hi' (visB_ok hv) hd hc) rfl (locB_fn hl)) (fun _ => hr) fun W0 W B σ D r E sb hm z => ?_
    · obtain ⟨a, vs, h1, h2, h3, h0, r1⟩ := E.own hj
      refine ⟨_, h1, (), ?_⟩
      refine use_g ((E.drop j).put (sv := .own ds) ⟨a, vs, rfl, h2, h3, h0, r1⟩ fun c hc x sx ox nx ex zz => ?_) sb hm z
      rcases set_get ex with ⟨_, _, rfl⟩ | ⟨nj, ex⟩
      · simp [fpS]
      · exact fun q => E.apart x j sx _ ox _ nj ex hj zz h1 c q hc
/-- an expression as a statement -/
theorem g_drop {me : Option τ} {f : τ → Option ρ} (he : XE X env e me) (hr : ∀ x, GS X env rest (f x) Z) (hs : ∀ E : Env, swapsWith e none pos.line E = pure false := by intro _; rfl) : GS X env (.Expr e pos :: rest) (me.bind f) Z :=
  g_of (ps_expr he (hs _)) hr fun W0 W B σ D r E sb hm z => by
    obtain ⟨x, hx, hm⟩ := bind_some hm
    exact use_x E hx fun v W1 l1 r1 => ⟨x, use_g (E.mono l1) (sb.trans l1.b) hm z⟩
theorem g_pass {m : Option ρ} (hr : GS X env rest m Z) : GS X env (.Pass pos :: rest) m Z :=
  g_of (ι := Unit) ps_pass (fun _ => hr) fun W0 W B σ D r E sb hm z => ⟨(), use_g E sb hm z⟩
/-! ### lists that change -/
def appP (xs : List τ) (x : τ) : Option (List τ) := if sz xs.length then some (xs ++ [x]) else none
theorem appP_some {xs ys : List τ} {x : τ} (h : appP xs x = some ys) : ys = xs ++ [x] ∧ sz xs.length := by
  unfold appP at h
  split at h
  · exact ⟨(Option.some.inj h).symm, by assumption⟩
  · cases h

/-- xs.append(e) -/
theorem g_append (C : Cf X N sc fb K mg P w base k) (i : Nat) {n : Str} {p1 apos p3 : Pos} {xs : List τ} {me : Option τ} {f : List τ → Option ρ} (he : XE X env e me) (hr : ∀ ys : List τ, GS X (env.set i (.own (ys.map em))) rest (f ys) Z)
    (hx : env[i]? = some (.own (xs.map em)) := by rfl) (hi : N[i]? = some n := by rfl) (hv : visB sc n = true := by decide +kernel)
    (hd : (n == ("__debug__" : Str)) = false := by decide) (hcd : (n == ("__classdict__" : Str)) = false := by decide)
    (hbase : ∀ E : Env, attributeBase (.Name n p1) "append" E (eval (.Name n p1) E) = eval (.Name n p1) E := by intro _; rfl)
    (hfew : ∀ E : Env, ((backTo p3 (starEach [e] E)).all (fun x => !x.1) && (backToKw p3 (keywordEach [] E)).all (fun x => x.1.isSome)
      && decide ([e].length + ([] : List Keyword).length + (if ([] : List Keyword).isEmpty then 0 else 1) < 30)) = true := by intro _; rfl)
    (hline : (apos.endLine == p3.line) = true := by rfl) (hs : ∀ E : Env, starEach [e] E = (false, eval e E) :: starEach [] E := by intro _; rfl) (hplain : ∀ E : Env, (backTo p3 (starEach ([] : List Expr) E)).any (·.1) = false := by intro _; rfl) :
    GS X env (.Expr (.Call (.Attribute (.Name n p1) "append" apos) [e] [] p3) pos :: rest) (me.bind fun x => (appP xs x).bind f) Z := by
  cases C
  refine g_of (ps_expr (pe_bm PySem.F.plainAttrs_list PySem.F.slot_list_append PySem.F.type_list_append mt_append (pe_var hi (visB_ok hv) hd hcd) (pa_cons he pa_nil (hs _)) (hbase _) (hfew _) hline (hs _) (hplain _)) rfl) hr fun W0 W B σ D r E sb hm z => ?_
  obtain ⟨x, hme, hm⟩ := bind_some hm
  obtain ⟨ys, hy, hm⟩ := bind_some hm
  obtain ⟨rfl, hz⟩ := appP_some hy
  obtain ⟨a, vs, h1, h2, h3, h0, r1⟩ := E.own hx
  refine ⟨_, h1, Or.inl ⟨rfl, _, SqL.of h2⟩, ?_⟩
  refine use_x E hme fun v W1 l1 rv => ?_
  have E1 := E.mono l1
  have hl : vs.length = xs.length := by have := r1.length; rwa [List.length_map] at this
  refine ⟨a, vs, v, rfl, rfl, l1.h.lst h2, by rw [hl]; exact sz_line hz, xs ++ [x], ?_⟩
  refine use_g (E1.write (es := (xs ++ [x]).map em) hx h1 ?_) (sb.trans l1.b) hm z
  rw [List.map_append]
  exact (r1.mono l1.b).append (.cons rv .nil)
def setP (xs : List τ) (i : Int) (x : τ) : Option (List τ) := (ixN xs.length i).map fun j => xs.set j x
/-- xs[j] = e -/
theorem g_setItem (C : Cf X N sc fb K mg P w base k) (i : Nat) {n : Str} {p1 p2 : Pos} {xs : List τ} {me : Option τ} {mi : Option Int} {f : List τ → Option ρ} (he : XE X env e me) (hj : XE X env b mi)
    (hr : ∀ ys : List τ, GS X (env.set i (.own (ys.map em))) rest (f ys) Z)
    (hx : env[i]? = some (.own (xs.map em)) := by rfl) (hi : N[i]? = some n := by rfl) (hv : visB sc n = true := by decide +kernel)
    (hd : (n == ("__debug__" : Str)) = false := by decide) (hcd : (n == ("__classdict__" : Str)) = false := by decide)
    (ha : ∀ E : Env, ∀ v, assign (.Subscript (.Name n p1) b p2) E v = (do
      let ov ← holding [v] (eval (.Name n p1) E)
      let iv ← holding [v, ov] (eval b E)
      standAt p2
      holding [v, ov, iv] (setItem ov iv v)
      release [v, ov, iv] []) := by intro _ _; rfl)
    (hs : ∀ E : Env, swapsWithSole [.Subscript (.Name n p1) b p2] e pos.line E = pure false := by intro _; rfl) (hw : ∀ E : Env, swappedStores [.Subscript (.Name n p1) b p2] e E = pure none := by intro _; rfl)
    (h1 : ∀ E : Env, (assignEach [.Subscript (.Name n p1) b p2] E).map (·.2) = [assign (.Subscript (.Name n p1) b p2) E] := by intro _; rfl) :
    GS X env (.Assign [.Subscript (.Name n p1) b p2] e pos :: rest) (me.bind fun x => mi.bind fun j => (setP xs j x).bind f) Z := by
  cases C
  refine g_of (ps_asg he (pg_sub (pe_var hi (visB_ok hv) hd hcd) hj set_list (ha _)) (hs _) (hw _) (h1 _)) hr fun W0 W B σ D r E sb hm z => ?_
  obtain ⟨x, hme, hm⟩ := bind_some hm
  obtain ⟨j, hmj, hm⟩ := bind_some hm
  obtain ⟨ys, hy, hm⟩ := bind_some hm
  unfold setP at hy
  cases q : ixN xs.length j with
  | none => rw [q] at hy; cases hy
  | some t =>
    rw [q] at hy
    have hy : xs.set t x = ys := Option.some.inj hy
    subst hy
    refine use_x E hme fun v W1 l1 rv => ?_
    have E1 := E.mono l1
    obtain ⟨a, vs, h1, h2, h3, h0, r1⟩ := E1.own hx
    refine ⟨_, h1, ?_⟩
    refine use_x E1 hmj fun u W2 l2 ru => ?_
    cases ru
    have hl : vs.length = xs.length := by have := r1.length; rwa [List.length_map] at this
    refine ⟨a, vs, j, t, rfl, rfl, l2.h.lst h2, by rw [hl]; exact q, xs.set t x, ?_⟩
    refine use_g ((E1.mono l2).write (es := (xs.set t x).map em) hx h1 ?_) ((sb.trans l1.b).trans l2.b) hm z
    rw [List.map_set]
    exact (r1.mono l2.b).set (rv.mono l2.b) t
theorem g_freeze (i : Nat) {sts : List Stmt} {ds : List D} {m : Option ρ} (hi : env[i]? = some (.own ds)) (h : GS X (env.set i (.dat (.lst ds))) sts m Z) : GS X env sts m Z :=
  pssImp h fun D σ H ⟨W0, W, B, hH, E, sb, r, hr, z⟩ => by
    subst hH
    obtain ⟨W', e, sb', E'⟩ := E.freeze hi
    exact ⟨W0, W', B, e, E', sb.trans sb', r, hr, z⟩
/-! ### the end of a block, returns -/
theorem g_nil {envJ : ρ → List SV} {s : ρ} (h : EnvLe env (envJ s)) : GS X env [] (some s) (ZN X.K envJ) := pssImp pss_nil fun D σ H ⟨W0, W, B, hH, E, sb, r, hr, z⟩ => by
  subst hH
  cases hr
  exact z W σ sb (E.weak h)
theorem g_nilF {res : α → RV} {envB : B → List SV} {envJ : S → List SV} {s : S} (h : EnvLe env (envJ s)) : GS X env [] (some (Fl.nx s : Fl α B S)) (ZF X.K res envB envJ) := pssImp pss_nil fun D σ H ⟨W0, W, B, hH, E, sb, r, hr, z⟩ => by
  subst hH
  cases hr
  exact z W σ sb (E.weak h)
theorem g_nilR {res : ρ → RV} {r : ρ} (h : res r = .dat .non) : GS X env [] (some r) (ZRn X.K res) := pssImp pss_nil fun D σ H ⟨W0, W, B, hH, E, sb, r', hr, z⟩ => by
  subst hH
  cases hr
  exact z.2 σ W E.le (by rw [h]; exact .non)
theorem g_ret {φ : τ → ρ} {me : Option τ} (he : XE X env e me) (hz : ∀ x W0 B D, Z (φ x) W0 B D → ZR X.K (fun x : τ => RV.dat (em x)) x W0 B D) : GS X env (.Return (some e) pos :: rest) (me.bind fun x => some (φ x)) Z :=
  g_of (ι := Empty) (u := fun _ => tNever) (ps_ret he) (fun i => i.elim) fun W0 W B σ D r E sb hm z => by
    obtain ⟨x, hx, hm⟩ := bind_some hm
    cases hm
    exact use_x E hx fun v W1 l1 r1 => hz x W0 B D z v W1 (E.le.trans l1) r1
theorem g_retL {φ : List τ → ρ} {me : Option (List τ)} (he : XL X env e me) (hz : ∀ x W0 B D, Z (φ x) W0 B D → ZR X.K (fun x : List τ => RV.own (x.map em)) x W0 B D) : GS X env (.Return (some e) pos :: rest) (me.bind fun x => some (φ x)) Z :=
  g_of (ι := Empty) (u := fun _ => tNever) (ps_ret he) (fun i => i.elim) fun W0 W B σ D r E sb hm z => by
    obtain ⟨x, hx, hm⟩ := bind_some hm
    cases hm
    exact use_l E hx fun a vs W1 l1 h0 h1 hb r1 => hz x W0 B D z _ W1 (E.le.trans l1) ⟨a, vs, rfl, h1, hb, E.le.h.free h0, r1⟩
theorem g_retO (C : Cf X N sc fb K mg P w base k) (i : Nat) {n : Str} {p' : Pos} {x : List τ} {r : ρ} (hz : ∀ W0 B D, Z r W0 B D → ZR X.K (fun x : List τ => RV.own (x.map em)) x W0 B D)
    (hx : env[i]? = some (.own (x.map em)) := by rfl) (hi : N[i]? = some n := by rfl) (hv : visB sc n = true := by decide +kernel)
    (hd : (n == ("__debug__" : Str)) = false := by decide) (hcd : (n == ("__classdict__" : Str)) = false := by decide) : GS X env (.Return (some (.Name n p')) pos :: rest) (some r) Z := by
  cases C
  refine g_of (ι := Empty) (u := fun _ => tNever) (ps_ret (pe_var hi (visB_ok hv) hd hcd)) (fun i => i.elim) fun W0 W B σ D r E sb hm z => ?_
  cases hm
  obtain ⟨a, vs, h1, h2, h3, h0, r1⟩ := E.own hx
  exact ⟨_, h1, hz W0 B D z _ W E.le ⟨a, vs, rfl, h2, h3, h0, r1⟩⟩
theorem g_retN {r : ρ} (hz : ∀ W0 B D, Z r W0 B D → ZR X.K (fun _ : Unit => RV.dat .non) () W0 B D) : GS X env (.Return none pos :: rest) (some r) Z :=
  g_of (ι := Empty) (u := fun _ => tNever) ps_retN (fun i => i.elim) fun W0 W B σ D r E sb hm z => by
    cases hm
    exact hz W0 B D z _ W E.le .non
theorem g_break {b : B} {φ : B → ρ} {envB : B → List SV} (hz : ∀ b W0 B' D, Z (φ b) W0 B' D → ZB X.K envB b W0 B' D) (h : EnvLe env (envB b)) : GS X env (.Break pos :: rest) (some (φ b)) Z :=
  g_of (ι := Empty) (u := fun _ => tNever) ps_break (fun i => i.elim) fun W0 W B σ D r E sb hm z => by
    cases hm
    exact hz b W0 _ D z W σ sb (E.weak h)
theorem g_continue {b : B} {φ : B → ρ} {envB : B → List SV} (hz : ∀ b W0 B' D, Z (φ b) W0 B' D → ZC X.K envB b W0 B' D) (h : EnvLe env (envB b)) : GS X env (.Continue pos :: rest) (some (φ b)) Z :=
  g_of (ι := Empty) (u := fun _ => tNever) ps_continue (fun i => i.elim) fun W0 W B σ D r E sb hm z => by
    cases hm
    exact hz b W0 _ D z W σ sb (E.weak h)
/-! ### if -/
/-- the first way leaves -/
theorem g_ifX {Z' : α → Wd → Hp → Ends → Prop} {φ : α → ρ} {mc : Option Bool} {m1 : Option α} {m2 : Option ρ} {thn : List Stmt} (hc : XT X env c mc) (h1 : GS X env thn m1 Z') (hz : Early φ Z' Z) (h2 : GS X env rest m2 Z) :
    GS X env (.If c thn [] pos :: rest) (mc.bind fun x => if x = true then m1.bind fun r => some (φ r) else m2) Z :=
  g_of (ι := Unit) (ps_if hc h1 pss_nil) (fun _ => h2) fun W0 W B σ D r E sb hm z => by
    obtain ⟨x, hx, hm⟩ := bind_some hm
    refine use_t E hx fun W1 l1 => ?_
    cases x with
    | true =>
      obtain ⟨y, hy, hm⟩ := bind_some (show m1.bind (fun r => some (φ r)) = some r by simpa using hm)
      cases hm
      exact use_g (E.mono l1) (sb.trans l1.b) hy (hz y W0 _ D _ z)
    | false => exact ⟨(), use_g (E.mono l1) (sb.trans l1.b) (by simpa using hm) z⟩
/-- both ways leave -/
theorem g_ifXX {mc : Option Bool} {m1 m2 : Option ρ} {thn els : List Stmt} (hc : XT X env c mc) (h1 : GS X env thn m1 Z) (h2 : GS X env els m2 Z) (hz : ∀ r W0 B D u, Z r W0 B D → Z r W0 B { D with nx := u }) :
    GS X env (.If c thn els pos :: rest) (mc.bind fun x => if x = true then m1 else m2) Z :=
  g_of (ι := Empty) (u := fun _ => tNever) (ps_if hc h1 h2) (fun i => i.elim) fun W0 W B σ D r E sb hm z => by
    obtain ⟨x, hx, hm⟩ := bind_some hm
    refine use_t E hx fun W1 l1 => ?_
    cases x with
    | true => exact use_g (E.mono l1) (sb.trans l1.b) (by simpa using hm) (hz r W0 _ D _ z)
    | false => exact use_g (E.mono l1) (sb.trans l1.b) (by simpa using hm) (hz r W0 _ D _ z)
/-- both ways meet behind -/
theorem g_ifJ {envJ : S → List SV} {mc : Option Bool} {m1 m2 : Option S} {kk : S → Option ρ} {thn els : List Stmt} (hc : XT X env c mc) (h1 : GS X env thn m1 (ZN X.K envJ)) (h2 : GS X env els m2 (ZN X.K envJ))
    (hr : ∀ s, GS X (envJ s) rest (kk s) Z) : GS X env (.If c thn els pos :: rest) ((mc.bind fun x => if x = true then m1 else m2).bind kk) Z :=
  g_of (ps_if hc h1 h2) hr fun W0 W B σ D r E sb hm z => by
    obtain ⟨s, hs, hm⟩ := bind_some hm
    obtain ⟨x, hx, hs⟩ := bind_some hs
    refine use_t E hx fun W1 l1 => ?_
    cases x with
    | true => exact use_g (E.mono l1) (sb.trans l1.b) (by simpa using hs) fun W' σ' sb' E' => ⟨s, use_g E' sb' hm z⟩
    | false => exact use_g (E.mono l1) (sb.trans l1.b) (by simpa using hs) fun W' σ' sb' E' => ⟨s, use_g E' sb' hm z⟩
/-- ways that leave or meet: in a loop's body -/
def thenF (m : Option (Fl α B S)) (f : S → Option (Fl α B δ)) : Option (Fl α B δ) := m.bind fun x => match x with
  | .nx s => f s
  | .rt r => some (.rt r)
  | .bk b => some (.bk b)
  | .ct b => some (.ct b)
theorem g_ifF {res : α → RV} {envB : B → List SV} {envJ : S → List SV} {envE : δ → List SV} {mc : Option Bool} {m1 m2 : Option (Fl α B S)} {kk : S → Option (Fl α B δ)} {thn els : List Stmt} (hc : XT X env c mc)
    (h1 : GS X env thn m1 (ZF X.K res envB envJ)) (h2 : GS X env els m2 (ZF X.K res envB envJ)) (hr : ∀ s, GS X (envJ s) rest (kk s) (ZF X.K res envB envE)) :
    GS X env (.If c thn els pos :: rest) (thenF (mc.bind fun x => if x = true then m1 else m2) kk) (ZF X.K res envB envE) :=
  g_of (ps_if hc h1 h2) hr fun W0 W B σ D r E sb hm z => by
    obtain ⟨y, hy, hm⟩ := bind_some hm
    obtain ⟨x, hx, hy⟩ := bind_some hy
    have zz : ZF X.K res envB envJ y W0 B { D with nx := fun σ' H' => ∃ i, tG X.K (envJ i) (kk i) (ZF X.K res envB envE) D σ' H' } := by
      cases y with
      | nx s => exact fun W' σ' sb' E' => ⟨s, use_g E' sb' hm z⟩
      | rt r' => cases hm; exact z
      | bk b => cases hm; exact z
      | ct b => cases hm; exact z
    refine use_t E hx fun W1 l1 => ?_
    cases x with
    | true => exact use_g (E.mono l1) (sb.trans l1.b) (by simpa using hy) zz
    | false => exact use_g (E.mono l1) (sb.trans l1.b) (by simpa using hy) zz
end
end T

set_option Elab.async false
set_option linter.all false
set_option maxRecDepth 100000
set_option maxHeartbeats 4000000
namespace T
open PySem PySem.Spec PyProof.Rows L2
variable {τ α β γ δ ρ B S ι : Type}
variable [Tabs]
/-! ### what is walked -/
structure Walk [Em τ] (K : PySem.W.Frag) (W0 W1 : Wd) (J : It) (xs : List τ) : Prop where
  item : ∀ (i : Nat) (x : τ) (W : Wd), xs[i]? = some x → Same W1.b W.b → Le W0 W → J.go i W.h ∧ ∀ v H', J.yld i W.h v H' → ∃ W', Le W W' ∧ W'.h = H' ∧ Rp K W'.b v (em x)
  stop : ∀ W : Wd, Same W1.b W.b → Le W0 W → J.stop xs.length W.h
def tW [Em τ] (K : PySem.W.Frag) (env : List SV) (m : Option (List τ)) : TI := fun σ H R =>
  ∃ W0 W : Wd, W.h = H ∧ EnvR K W0 W env σ ∧ ∃ x, m = some x ∧ ∀ J W', Le W W' → Walk K W0 W' J x → R J W'.h
abbrev XWk [Em τ] (X : Cx) (env : List SV) (tg e : Expr) (m : Option (List τ)) : Prop := PI X tg e (tW X.K env m)
/-- targets: is are the slots that are stored -/
def tGt [Em τ] (K : PySem.W.Frag) (env : List SV) (env' : τ → List SV) (is : List Nat) : TG := fun v σ H Q =>
  ∃ (W0 W : Wd) (x : τ), W.h = H ∧ EnvR K W0 W env σ ∧ Rp K W.b v (em x) ∧ ∀ σ', EnvR K W0 W (env' x) σ' → (∀ vs : List Nat, (∀ i ∈ is, i ∈ vs) → wipe σ' vs = wipe σ vs) → Q σ' W.h
abbrev XG [Em τ] (X : Cx) (env : List SV) (tg : Expr) (env' : τ → List SV) (is : List Nat) : Prop := PG X tg (tGt X.K env env' is)
theorem wipe_set {σ : St} {v : Option V} : ∀ {vs : List Nat} {i : Nat}, i ∈ vs → wipe (σ.set i v) vs = wipe σ vs
  | u :: vs, i, h => by
    by_cases hv : i ∈ vs
    · unfold wipe
      rw [wipe_set hv]
    · have e : i = u := by
        rcases List.mem_cons.mp h with e | e
        · exact e
        · exact absurd e hv
      subst e
      unfold wipe
      have aux : ∀ {ws : List Nat} {τ : St}, i ∉ ws → wipe (τ.set i v) ws = (wipe τ ws).set i v := by
        intro ws
        induction ws with
        | nil => intro τ _; rfl
        | cons z zs ih =>
          intro τ hz
          have h1 : i ≠ z := fun e => hz (e ▸ List.mem_cons_self)
          have h2 : i ∉ zs := fun e => hz (List.mem_cons_of_mem _ e)
          unfold wipe
          rw [ih h2, List.set_comm _ _ h1]
      rw [aux hv, List.set_set]
section
variable {X : Cx} {env env' : List SV} {e a b c tg : Expr} {st : Stmt} {body rest : List Stmt} {pos p p2 : Pos} [Em τ] [Em α] [Em β] [Em γ] {N : List Str} {sc : Scope} {fb : Str → Bool} {K : PySem.W.Frag} {mg : Str → Option Value} {P : Program} {w : World} {base : Heap} {k : Nat}
variable {Z : ρ → Wd → Hp → Ends → Prop}
theorem use_w {W0 W : Wd} {σ : St} {m : Option (List τ)} {x : List τ} {R : It → Hp → Prop} (E : EnvR K W0 W env σ) (h : m = some x) (q : ∀ J W', Le W W' → Walk K W0 W' J x → R J W'.h) : tW K env m σ W.h R := ⟨W0, W, rfl, E, x, h, q⟩
/-- a list that stands for good -/
theorem w_x {m : Option (List τ)} (h : XE X env e m) : XWk X env tg e m := by
  refine piImp (pi_list h) fun σ H R ⟨W0, W, hH, E, x, hx, q⟩ => ?_
  subst hH
  refine use_x E hx fun v W1 l1 r1 => ?_
  have r1 : Rp X.K W1.b v (.lst (x.map em)) := r1
  cases r1 with
  | @lst ad vs _ s1 r1 =>
    refine ⟨ad, rfl, ⟨_, l1.ok.seq s1⟩, q _ W1 l1 ⟨fun i y W2 hy sb l0 => ?_, fun W2 sb l0 => ?_⟩⟩
    · obtain ⟨u, h1, h2⟩ := r1.get (show (x.map em)[i]? = some (em y) by rw [List.getElem?_map, hy]; rfl)
      have s2 : SqL X.K W2.h ad vs := l0.ok.seq (sb.seq s1)
      refine ⟨⟨vs, u, s2, h1⟩, fun v' H' ⟨e1, e2⟩ => ?_⟩
      subst e1
      have := e2 _ s2
      rw [h1] at this
      cases this
      exact ⟨W2, Le.refl l0.ok, rfl, h2.mono sb⟩
    · refine ⟨vs, l0.ok.seq (sb.seq s1), ?_⟩
      have := r1.length
      rw [List.length_map] at this
      omega
theorem w_l {m : Option (List τ)} (h : XL X env e m) : XWk X env tg e m := w_x (x_l h)
/-- a list that was handed in -/
theorem w_bor (C : Cf X N sc fb K mg P w base k) (j : Nat) {n : Str} {x : List τ} (he : env[j]? = some (.bor (x.map em)) := by rfl) (hi : N[j]? = some n := by rfl) (hv : visB sc n = true := by decide +kernel)
    (hd : (n == ("__debug__" : Str)) = false := by decide) (hc : (n == ("__classdict__" : Str)) = false := by decide) : XWk X env tg (.Name n pos) (some x) := by
  cases C
  refine piImp (pi_list (pe_var hi (visB_ok hv) hd hc)) fun σ H R ⟨W0, W, hH, E, y, hy, q⟩ => ?_
  subst hH
  cases hy
  obtain ⟨o, h1, ad, vs, e1, s1, r1⟩ := E.slot j _ he
  subst e1
  refine ⟨_, h1, ad, rfl, ⟨vs, E.le.h.seq s1⟩, q _ W (Le.refl E.ok) ⟨fun i y W2 hy sb l0 => ?_, fun W2 sb l0 => ?_⟩⟩
  · obtain ⟨u, h1, h2⟩ := r1.get (show (x.map em)[i]? = some (em y) by rw [List.getElem?_map, hy]; rfl)
    have s2 : SqL X.K W2.h ad vs := l0.h.seq s1
    refine ⟨⟨vs, u, s2, h1⟩, fun v' H' ⟨e1, e2⟩ => ?_⟩
    subst e1
    have := e2 _ s2
    rw [h1] at this
    cases this
    exact ⟨W2, Le.refl l0.ok, rfl, h2.mono l0.b⟩
  · refine ⟨vs, l0.h.seq s1, ?_⟩
    have := r1.length
    rw [List.length_map] at this
    omega
theorem w_tup {m : Option (Vt τ)} (h : XE X env e m) : XWk X env tg e (m.bind fun t => some t.l) := by
  refine piImp (pi_tup h) fun σ H R ⟨W0, W, hH, E, x, hx, q⟩ => ?_
  subst hH
  obtain ⟨x', hx', hx⟩ := bind_some hx
  cases hx
  refine use_x E hx' fun v W1 l1 r1 => ?_
  have r1 : Rp X.K W1.b v (.tup (x'.l.map em)) := r1
  cases r1 with
  | @tup ad vs _ s1 r1 =>
    refine ⟨ad, rfl, ⟨_, same_t l1.ok s1⟩, q _ W1 l1 ⟨fun i y W2 hy sb l0 => ?_, fun W2 sb l0 => ?_⟩⟩
    · obtain ⟨u, h1, h2⟩ := r1.get (show (x'.l.map em)[i]? = some (em y) by rw [List.getElem?_map, hy]; rfl)
      have s2 : SqT X.K W2.h ad vs := same_t l0.ok (same_t sb s1)
      refine ⟨⟨vs, u, s2, h1⟩, fun v' H' ⟨e1, e2⟩ => ?_⟩
      subst e1
      have := e2 _ s2
      rw [h1] at this
      cases this
      exact ⟨W2, Le.refl l0.ok, rfl, h2.mono sb⟩
    · refine ⟨vs, same_t l0.ok (same_t sb s1), ?_⟩
      have := r1.length
      rw [List.length_map] at this
      omega
/-- the signs of a text -/
def signs (s : Str) : List Str := s.cps.toList.map fun c => ⟨#[c]⟩
theorem w_str {m : Option Str} (h : XE X env e m) : XWk X env tg e (m.bind fun s => some (signs s)) := by
  refine piImp (pi_str h) fun σ H R ⟨W0, W, hH, E, x, hx, q⟩ => ?_
  subst hH
  obtain ⟨s, hs, hx⟩ := bind_some hx
  cases hx
  refine use_x E hs fun v W1 l1 r1 => ?_
  cases r1
  refine ⟨s, rfl, q _ W1 l1 ⟨fun i y W2 hy sb l0 => ?_, fun W2 sb l0 => ?_⟩⟩
  · unfold signs at hy
    rw [List.getElem?_map] at hy
    cases hc : s.cps.toList[i]? with
    | none => rw [hc] at hy; cases hy
    | some cc =>
      rw [hc] at hy
      cases hy
      have hi : i < s.cps.size := by have := (List.getElem?_eq_some_iff.mp hc).1; simpa using this
      refine ⟨hi, fun v' H' ⟨e1, c', e2, e3⟩ => ?_⟩
      subst e1 e3
      have : c' = cc := by
        have h2 : s.cps.toList[i]? = some c' := by simpa using e2
        rw [hc] at h2; cases h2; rfl
      subst this
      exact ⟨W2, Le.refl l0.ok, rfl, .str _⟩
  · show s.cps.size ≤ (signs s).length
    unfold signs
    simp
/-- lo, lo + 1, .. -/
def rng (lo hi : Int) : List Int := (List.range (hi - lo).toNat).map fun (i : Nat) => lo + (i : Int)
def rngP (lo hi : Int) : Option (List Int) := if -4611686018427387904 ≤ lo ∧ lo < 4611686018427387904 ∧ -4611686018427387904 ≤ hi ∧ hi < 4611686018427387904 then some (rng lo hi) else none
theorem rng_get {lo hi : Int} {i : Nat} {y : Int} (h : (rng lo hi)[i]? = some y) : i < (hi - lo).toNat ∧ y = lo + i := by
  unfold rng at h
  rw [List.getElem?_map] at h
  cases hc : (List.range (hi - lo).toNat)[i]? with
  | none => rw [hc] at h; cases h
  | some j =>
    rw [hc] at h
    cases h
    obtain ⟨h1, h2⟩ := List.getElem?_eq_some_iff.mp hc
    rw [List.getElem_range] at h2
    subst h2
    exact ⟨by simpa using h1, rfl⟩
theorem walk_rng {W0 W1 : Wd} {lo hi : Int} : Walk (τ := Int) K W0 W1 (Itr lo (hi - lo).toNat) (rng lo hi) where
  item := fun i y W2 hy sb l0 => by
    obtain ⟨h1, rfl⟩ := rng_get hy
    exact ⟨h1, fun v H' ⟨e1, e2⟩ => ⟨W2, Le.refl l0.ok, e1.symm, e2 ▸ .int _⟩⟩
  stop := fun W2 sb l0 => by show (hi - lo).toNat ≤ (rng lo hi).length; unfold rng; simp
theorem w_rng1 (C : Cf X N sc fb K mg P w base k) {m : Option Int} (h : XE X env a m) (hm : mg "range" = none) (hg : glbB sc "range" = true := by decide +kernel)
    (hst : starEach [a] X.env = (false, eval a X.env) :: starEach [] X.env := by rfl) (hs : starEach [a] X.env = [(false, eval a X.env)] := by rfl) :
    XWk X env tg (.Call (.Name "range" p) [a] [] pos) (m.bind fun n => rngP 0 n) := by
  cases C
  refine piImp (pi_range1 (glbB_ok hg) hm (a_dat h a_nil hst) hs) fun σ H R ⟨W0, W, hH, E, x, hx, q⟩ => ?_
  subst hH
  obtain ⟨n, hn, hx⟩ := bind_some hx
  unfold rngP at hx
  split at hx
  · rename_i hr
    cases hx
    refine use_a E (x := (n, ())) (by rw [hn]; rfl) fun vs W1 l1 r1 => ?_
    cases r1 with
    | dat r1 r2 =>
      cases r2
      cases r1
      refine ⟨n, rfl, by omega, by omega, ?_⟩
      have := q (Itr 0 (n - 0).toNat) W1 l1 walk_rng
      simpa using this
  · cases hx
theorem w_rng2 (C : Cf X N sc fb K mg P w base k) {ma mb : Option Int} (h : XE X env a ma) (h' : XE X env b mb) (hm : mg "range" = none) (hg : glbB sc "range" = true := by decide +kernel)
    (hs : starEach [a, b] X.env = [(false, eval a X.env), (false, eval b X.env)] := by rfl) (hs2 : starEach [b] X.env = [(false, eval b X.env)] := by rfl)
    (h1 : starEach [a, b] X.env = (false, eval a X.env) :: starEach [b] X.env := by rfl) (h2 : starEach [b] X.env = (false, eval b X.env) :: starEach [] X.env := by rfl) :
    XWk X env tg (.Call (.Name "range" p) [a, b] [] pos) (ma.bind fun m => mb.bind fun n => rngP m n) := by
  cases C
  refine piImp (pi_range2 (glbB_ok hg) hm (a_dat h (a_dat h' a_nil h2) h1) hs hs2) fun σ H R ⟨W0, W, hH, E, x, hx, q⟩ => ?_
  subst hH
  obtain ⟨m, hm, hx⟩ := bind_some hx
  obtain ⟨n, hn, hx⟩ := bind_some hx
  unfold rngP at hx
  split at hx
  · rename_i hr
    cases hx
    refine use_a E (x := (m, n, ())) (by rw [hm, hn]; rfl) fun vs W1 l1 r1 => ?_
    cases r1 with
    | dat r1 r2 =>
      cases r2 with
      | dat r2 r3 =>
        cases r3
        cases r1
        cases r2
        exact ⟨m, n, rfl, ⟨by omega, by omega, by omega, by omega⟩, q (Itr m (n - m).toNat) W1 l1 walk_rng⟩
  · cases hx
/-- zip of two lists -/
theorem w_zip (C : Cf X N sc fb K mg P w base k) {elts : List Expr} {kk : Nat} {tpos : Pos} {ma : Option (List α)} {mb : Option (List β)} (h : XE X env a ma) (h' : XE X env b mb) (hm : mg "zip" = none) (hg : glbB sc "zip" = true := by decide +kernel)
    (h1 : starEach [a, b] X.env = (false, eval a X.env) :: starEach [b] X.env := by rfl) (h2 : starEach [b] X.env = (false, eval b X.env) :: starEach [] X.env := by rfl) (hpl : (backTo pos (starEach [b] X.env)).any (·.1) = false := by rfl) :
    XWk X env (.Tuple elts kk tpos) (.Call (.Name "zip" p) [a, b] [] pos) (ma.bind fun x => mb.bind fun y => some (x.zip y)) := by
  cases C
  refine piImp (pi_zip (glbB_ok hg) hm (a_dat h (a_dat h' a_nil h2) h1) h1 hpl) fun σ H R ⟨W0, W, hH, E, x, hx, q⟩ => ?_
  subst hH
  obtain ⟨xs, hxs, hx⟩ := bind_some hx
  obtain ⟨ys, hys, hx⟩ := bind_some hx
  cases hx
  refine use_a E (x := (xs, ys, ())) (by rw [hxs, hys]; rfl) fun vs W1 l1 r1 => ?_
  cases r1 with
  | dat r1 r2 =>
    cases r2 with
    | dat r2 r3 =>
      cases r3
      have r1 : Rp X.K W1.b _ (.lst (xs.map em)) := r1
      have r2 : Rp X.K W1.b _ (.lst (ys.map em)) := r2
      cases r1 with
      | lst s1 r1 =>
        cases r2 with
        | lst s2 r2 =>
          refine ⟨_, _, _, _, rfl, l1.ok.seq s1, l1.ok.seq s2, q _ W1 l1 ⟨fun i z W2 hz sb l0 => ?_, fun W2 sb l0 => ?_⟩⟩
          · have hz := List.getElem?_zip_eq_some.mp hz
            obtain ⟨u, g1, g2⟩ := r1.get (show (xs.map em)[i]? = some (em z.1) by rw [List.getElem?_map, hz.1]; rfl)
            obtain ⟨v, g3, g4⟩ := r2.get (show (ys.map em)[i]? = some (em z.2) by rw [List.getElem?_map, hz.2]; rfl)
            have q1 := l0.ok.seq (sb.seq s1)
            have q2 := l0.ok.seq (sb.seq s2)
            refine ⟨⟨_, _, u, v, q1, q2, g1, g3⟩, fun v' H' ⟨T, x', y', e1, e2, e3, e4, e5⟩ => ?_⟩
            have e4 := e4 _ q1
            have e5 := e5 _ q2
            rw [g1] at e4
            rw [g3] at e5
            cases e4; cases e5
            subst e1 e3
            have sbT : Same W2.b (upd W2.b T (.tup [u, v])) := Same.new (l0.ok.free e2)
            refine ⟨_, Le.lay l0.ok (o := .tup [u, v]) e2, rfl, ?_⟩
            exact .tup (SqT.of upd_same) (.cons ((g2.mono sb).mono sbT) (.cons ((g4.mono sb).mono sbT) .nil))
          · refine ⟨_, _, l0.ok.seq (sb.seq s1), l0.ok.seq (sb.seq s2), ?_⟩
            have h1 := r1.length
            have h2 := r2.length
            rw [List.length_map] at h1 h2
            rw [List.length_zip]
            omega
/-! ### targets -/
theorem gt_name (C : Cf X N sc fb K mg P w base k) (i : Nat) {n : Str} (hi : N[i]? = some n := by rfl) (hl : locB sc fb n = true := by decide +kernel) : XG (τ := τ) X env (.Name n pos) (fun x => env.set i (.dat (em x))) [i] := by
  cases C with
  | mk nd calm po rm =>
    refine pgImp (pg_name nd hi (locB_ok hl) (locB_fn hl)) fun v σ H Q ⟨W0, W, x, hH, E, r, q⟩ => ?_
    · subst hH
      exact q _ (E.putD r) fun vs h => wipe_set (h i (by simp))
/-- several names, one after another -/
def tGs (K : PySem.W.Frag) (env : List SV) (ds : δ → List D) (env' : δ → List SV) (is : List Nat) : TGs := fun vs σ H Q =>
  ∃ (W0 W : Wd) (x : δ), W.h = H ∧ EnvR K W0 W env σ ∧ RpA K W.b vs (ds x) ∧ ∀ σ', EnvR K W0 W (env' x) σ' → (∀ ws : List Nat, (∀ i ∈ is, i ∈ ws) → wipe σ' ws = wipe σ ws) → Q σ' W.h
theorem gs_nil : PGs X [] (tGs X.K env (fun _ : Unit => []) (fun _ => env) []) := ⟨fun pins s σ H vs us Q I r ⟨W0, W, x, hH, E, ra, q⟩ => by
  subst hH
  cases ra
  exact pgs_nil.run pins s σ _ [] us Q I r ⟨rfl, q σ E fun _ _ => rfl⟩⟩
theorem pgEx {ι : Type} {t : ι → TG} (h : ∀ i, PG X tg (t i)) : PG X tg (fun v σ H Q => ∃ i, t i v σ H Q) := ⟨fun pins s σ H v u Q I r ⟨i, q⟩ => (h i).run pins s σ H v u Q I r q⟩
theorem pgsEx {ι : Type} {tgs : List Expr} {t : ι → TGs} (h : ∀ i, PGs X tgs (t i)) : PGs X tgs (fun v σ H Q => ∃ i, t i v σ H Q) := ⟨fun pins s σ H v u Q I r ⟨i, q⟩ => (h i).run pins s σ H v u Q I r q⟩
theorem gs_cons {es : List Expr} {envX : τ → List SV} {is js : List Nat} {ds : δ → List D} {env' : τ → δ → List SV} (h1 : XG X env e envX is) (h2 : ∀ x, PGs X es (tGs X.K (envX x) ds (env' x) js))
    (hs : (assignEach (e :: es) X.env).map (·.2) = assign e X.env :: (assignEach es X.env).map (·.2) := by rfl) : PGs X (e :: es) (tGs X.K env (fun p : τ × δ => em p.1 :: ds p.2) (fun p => env' p.1 p.2) (is ++ js)) :=
  ⟨fun pins s σ H vs us Q I r ⟨W0, W, x, hH, E, ra, q⟩ => by
    subst hH
    cases ra with
    | cons r1 r2 =>
      refine (pgs_cons h1 (pgsEx h2) hs).run pins s σ _ _ us Q I r ⟨_, _, rfl, W0, W, x.1, rfl, E, r1, fun σ' E' hw => ⟨x.1, W0, W, x.2, rfl, E', r2, fun σ2 E2 hw2 => q σ2 E2 fun ws hws => ?_⟩⟩
      rw [hw2 ws fun i hi => hws i (List.mem_append_right _ hi), hw ws fun i hi => hws i (List.mem_append_left _ hi)]⟩
theorem gt_tup (C : Cf X N sc fb K mg P w base k) {es : List Expr} {kk n : Nat} {ds : δ → List D} {env' : δ → List SV} {is : List Nat} {f : τ → δ} (h : PGs X es (tGs X.K env ds env' is)) (hf : ∀ x : τ, em x = .tup (ds (f x))) (hl : ∀ x, (ds x).length = n)
    (hn : (assignEach es X.env).length = n := by rfl) (hst : (assignEach es X.env).findIdx? (·.1) = none := by rfl) : XG X env (.Tuple es kk pos) (fun x : τ => env' (f x)) is := by
  cases C with
  | mk nd calm po rm =>
    refine pgImp (pg_tup calm h hn hst) fun v σ H Q ⟨W0, W, x, hH, E, r, q⟩ => ?_
    subst hH
    rw [hf] at r
    cases r with
    | tup s1 r1 => exact ⟨_, _, rfl, same_t E.ok s1, by rw [r1.length, hl], W0, W, f x, rfl, E, r1, q⟩
theorem gt_pair (C : Cf X N sc fb K mg P w base k) (i j : Nat) {n m : Str} {kk : Nat} {p1 : Pos} (hi : N[i]? = some n := by rfl) (hl : locB sc fb n = true := by decide +kernel) (hj : N[j]? = some m := by rfl) (hl' : locB sc fb m = true := by decide +kernel)
    (hn : ∀ E : Env, (assignEach [.Name n p1, .Name m p2] E).length = 2 := by intro _; rfl) (hst : ∀ E : Env, (assignEach [.Name n p1, .Name m p2] E).findIdx? (·.1) = none := by intro _; rfl)
    (h1 : ∀ E : Env, (assignEach [.Name n p1, .Name m p2] E).map (·.2) = assign (.Name n p1) E :: (assignEach [.Name m p2] E).map (·.2) := by intro _; rfl)
    (h2 : ∀ E : Env, (assignEach [.Name m p2] E).map (·.2) = assign (.Name m p2) E :: (assignEach ([] : List Expr) E).map (·.2) := by intro _; rfl) :
    XG (τ := α × β) X env (.Tuple [.Name n p1, .Name m p2] kk pos) (fun x => (env.set i (.dat (em x.1))).set j (.dat (em x.2))) [i, j] :=
  gt_tup (τ := α × β) (δ := α × β × Unit) (f := fun x : α × β => (x.1, x.2, ())) C (gs_cons (gt_name C i hi hl) (fun x => gs_cons (gt_name C j hj hl') (fun y => gs_nil) (h2 _)) (h1 _)) (fun x => rfl) (fun _ => rfl) (hn _) (hst _)
/-! ### loops -/
def foldO (f : S → α → Option S) : S → List α → Option S
  | s, [] => some s
  | s, x :: xs => (f s x).bind fun s' => foldO f s' xs
inductive Lp (ρ S : Type) where
  | ret (r : ρ)
  | fin (s : S)
def Lp.go (φ : α → ρ) (kk : S → Option ρ) : Lp α S → Option ρ
  | .ret r => some (φ r)
  | .fin s => kk s
def loopO (f : S → α → Option (Fl ρ S S)) : S → List α → Option (Lp ρ S)
  | s, [] => some (.fin s)
  | s, x :: xs => (f s x).bind fun o => match o with
    | .nx s' => loopO f s' xs
    | .ct s' => loopO f s' xs
    | .bk s' => some (.fin s')
    | .rt r => some (.ret r)
theorem drop_cons {xs : List α} {i : Nat} (h : i < xs.length) : xs.drop i = xs[i] :: xs.drop (i + 1) := List.drop_eq_getElem_cons h
theorem g_for {mxs : Option (List τ)} {envL : S → List SV} {envX : S → τ → List SV} {is : List Nat} {f : S → τ → Option S} {s0 : S} {kk : S → Option ρ} (C : Cf X N sc fb K mg P w base k) (hi : XWk X env tg e mxs) (hg : ∀ s, XG X (envL s) tg (envX s) is)
    (h0 : EnvLe env (envL s0)) (hb : ∀ s x, GS X (envX s x) body (f s x) (ZN X.K envL)) (hr : ∀ s, GS X (envL s) rest (kk s) Z) (hf : ∀ E : Env, ∀ x, foldedSetIterable e E x = pure x := by intro _ _; rfl) :
    GS X env (.For tg e body [] pos :: rest) (mxs.bind fun xs => (foldO f s0 xs).bind kk) Z := by
  cases C with
  | mk nd calm po rm =>
    refine g_of (ps_for po calm hi (pgEx hg) (pssEx (ι := S × τ) fun q => hb q.1 q.2) (hf _)) hr fun W0 W B' σ D r E sb0 hm z => ?_
    obtain ⟨xs, hxs, hm⟩ := bind_some hm
    obtain ⟨sf, hsf, hm⟩ := bind_some hm
    refine use_w E hxs fun J W1 l1 wk => ?_
    have E1 := (E.mono l1).weak h0
    refine ⟨fun i n σ' H' => ∃ W2 s, W2.h = H' ∧ Same W1.b W2.b ∧ EnvR X.K W0 W2 (envL s) σ' ∧ foldO f s (xs.drop i) = some sf ∧ n = xs.length - i ∧ i ≤ xs.length, ⟨xs.length, W1, s0, rfl, Same.refl _, E1, hsf, rfl, Nat.zero_le _⟩, ?_⟩
    rintro i n σ' H' ⟨W2, s, rfl, sb, E2, hs, rfl, hle⟩
    by_cases hlt : i < xs.length
    · have hx : xs[i]? = some xs[i] := by simp [hlt]
      obtain ⟨g1, g2⟩ := wk.item i _ W2 hx sb E2.le
      rw [drop_cons hlt] at hs
      obtain ⟨s', hs1, hs2⟩ := bind_some hs
      refine .inr ⟨g1, fun σ3 H3 => ∃ W3, W3.h = H3 ∧ Same W1.b W3.b ∧ EnvR X.K W0 W3 (envL s') σ3, ?_, ?_⟩
      · rintro σ3 H3 ⟨W3, rfl, sb3, E3⟩
        exact ⟨xs.length - (i + 1), by omega, W3, s', rfl, sb3, E3, hs2, rfl, hlt⟩
      · intro v H3 hy
        obtain ⟨W3, l3, rfl, r3⟩ := g2 v H3 hy
        refine ⟨s, W0, W3, xs[i], rfl, E2.mono l3, r3, fun σ4 E4 _ => ⟨(s, xs[i]), ?_⟩⟩
        exact use_g (B := W1.b) E4 (sb.trans l3.b) hs1 fun W5 σ5 sb5 E5 => ⟨W5, rfl, sb5, E5⟩
    · have hi : i = xs.length := by omega
      subst hi
      rw [List.drop_length] at hs
      cases hs
      exact .inl ⟨wk.stop W2 sb E2.le, sf, use_g E2 ((sb0.trans l1.b).trans sb) hm z⟩
/-- .. that may be left, or return -/
theorem g_forF {mxs : Option (List τ)} {envL : S → List SV} {envX : S → τ → List SV} {is : List Nat} {res : α → RV} {f : S → τ → Option (Fl α S S)} {s0 : S} {φ : α → ρ} {kk : S → Option ρ} (C : Cf X N sc fb K mg P w base k) (hi : XWk X env tg e mxs) (hg : ∀ s, XG X (envL s) tg (envX s) is)
    (h0 : EnvLe env (envL s0)) (hb : ∀ s x, GS X (envX s x) body (f s x) (ZF X.K res envL envL)) (hz : ∀ r W0 B D, Z (φ r) W0 B D → ZR X.K res r W0 B D) (hr : ∀ s, GS X (envL s) rest (kk s) Z) (hf : ∀ E : Env, ∀ x, foldedSetIterable e E x = pure x := by intro _ _; rfl) :
    GS X env (.For tg e body [] pos :: rest) (mxs.bind fun xs => (loopO f s0 xs).bind (Lp.go φ kk)) Z := by
  cases C with
  | mk nd calm po rm =>
    refine g_of (ps_for po calm hi (pgEx hg) (pssEx (ι := S × τ) fun q => hb q.1 q.2) (hf _)) hr fun W0 W B' σ D r E sb0 hm z => ?_
    obtain ⟨xs, hxs, hm⟩ := bind_some hm
    obtain ⟨o, ho, hm⟩ := bind_some hm
    refine use_w E hxs fun J W1 l1 wk => ?_
    have E1 := (E.mono l1).weak h0
    refine ⟨fun i n σ' H' => ∃ W2 s, W2.h = H' ∧ Same W1.b W2.b ∧ EnvR X.K W0 W2 (envL s) σ' ∧ loopO f s (xs.drop i) = some o ∧ n = xs.length - i ∧ i ≤ xs.length, ⟨xs.length, W1, s0, rfl, Same.refl _, E1, ho, rfl, Nat.zero_le _⟩, ?_⟩
    rintro i n σ' H' ⟨W2, s, rfl, sb, E2, hs, rfl, hle⟩
    by_cases hlt : i < xs.length
    · have hx : xs[i]? = some xs[i] := by simp [hlt]
      obtain ⟨g1, g2⟩ := wk.item i _ W2 hx sb E2.le
      rw [drop_cons hlt] at hs
      obtain ⟨q, hs1, hs2⟩ := bind_some hs
      refine .inr ⟨g1, fun σ3 H3 => ∃ W3 s', W3.h = H3 ∧ Same W1.b W3.b ∧ EnvR X.K W0 W3 (envL s') σ3 ∧ loopO f s' (xs.drop (i + 1)) = some o, ?_, ?_⟩
      · rintro σ3 H3 ⟨W3, s', rfl, sb3, E3, h3⟩
        exact ⟨xs.length - (i + 1), by omega, W3, s', rfl, sb3, E3, h3, rfl, hlt⟩
      · intro v H3 hy
        obtain ⟨W3, l3, rfl, r3⟩ := g2 v H3 hy
        refine ⟨s, W0, W3, xs[i], rfl, E2.mono l3, r3, fun σ4 E4 _ => ⟨(s, xs[i]), ?_⟩⟩
        refine use_g (B := W1.b) E4 (sb.trans l3.b) hs1 ?_
        cases q with
        | nx s' => exact fun W5 σ5 sb5 E5 => ⟨W5, s', rfl, sb5, E5, hs2⟩
        | ct s' => exact fun W5 σ5 sb5 E5 => ⟨W5, s', rfl, sb5, E5, hs2⟩
        | bk s' =>
          cases hs2
          exact fun W5 σ5 sb5 E5 => ⟨s', use_g E5 ((sb0.trans l1.b).trans sb5) hm z⟩
        | rt r' =>
          cases hs2
          cases hm
          exact hz r' W0 B' D z
    · have hi : i = xs.length := by omega
      subst hi
      rw [List.drop_length] at hs
      cases hs
      exact .inl ⟨wk.stop W2 sb E2.le, s, use_g E2 ((sb0.trans l1.b).trans sb) hm z⟩
/-! ### while: n turns at most -/
def whileO (c : S → Option Bool) (f : S → Option S) : Nat → S → Option S
  | 0, _ => none
  | n + 1, s => (c s).bind fun b => if b = true then (f s).bind fun s' => whileO c f n s' else some s
def whileF (c : S → Option Bool) (f : S → Option (Fl ρ S S)) : Nat → S → Option (Lp ρ S)
  | 0, _ => none
  | n + 1, s => (c s).bind fun b => if b = true then (f s).bind fun o => match o with
      | .nx s' => whileF c f n s'
      | .ct s' => whileF c f n s'
      | .bk s' => some (.fin s')
      | .rt r => some (.ret r)
    else some (.fin s)
theorem g_while {envL : S → List SV} {c' : S → Option Bool} {f : S → Option S} {n : Nat} {s0 : S} {kk : S → Option ρ} (C : Cf X N sc fb K mg P w base k) (hc : ∀ s, XT X (envL s) c (c' s))
    (h0 : EnvLe env (envL s0)) (hb : ∀ s, GS X (envL s) body (f s) (ZN X.K envL)) (hr : ∀ s, GS X (envL s) rest (kk s) Z) :
    GS X env (.While c body [] pos :: rest) ((whileO c' f n s0).bind kk) Z := by
  cases C with
  | mk nd calm po rm =>
    refine g_of (ps_while po (ptEx hc) (pssEx hb)) hr fun W0 W B' σ D r E sb0 hm z => ?_
    obtain ⟨sf, hsf, hm⟩ := bind_some hm
    refine ⟨fun i σ' H' => ∃ W2 s, W2.h = H' ∧ Same B' W2.b ∧ EnvR X.K W0 W2 (envL s) σ' ∧ whileO c' f i s = some sf, ⟨n, W, s0, rfl, sb0, E.weak h0, hsf⟩, ?_⟩
    rintro i σ' H' ⟨W2, s, rfl, sb, E2, hs⟩
    cases i with
    | zero => cases hs
    | succ i =>
      obtain ⟨b, hb1, hs⟩ := bind_some hs
      refine ⟨s, use_t E2 hb1 fun W3 l3 => ?_⟩
      cases b with
      | true =>
        obtain ⟨s', h1, h2⟩ := bind_some (show (f s).bind (fun s' => whileO c' f i s') = some sf by simpa using hs)
        rw [if_pos rfl]
        refine ⟨fun σ3 H3 => ∃ W4, W4.h = H3 ∧ Same B' W4.b ∧ EnvR X.K W0 W4 (envL s') σ3, ?_, s, ?_⟩
        · rintro σ3 H3 ⟨W4, rfl, sb4, E4⟩
          exact ⟨i, Nat.lt_succ_self _, W4, s', rfl, sb4, E4, h2⟩
        · exact use_g (E2.mono l3) (sb.trans l3.b) h1 fun W5 σ5 sb5 E5 => ⟨W5, rfl, sb5, E5⟩
      | false =>
        rw [if_neg Bool.false_ne_true]
        have e : s = sf := Option.some.inj (by simpa using hs)
        subst e
        exact ⟨s, use_g (E2.mono l3) (sb.trans l3.b) hm z⟩
theorem g_whileF {envL : S → List SV} {c' : S → Option Bool} {res : α → RV} {f : S → Option (Fl α S S)} {n : Nat} {s0 : S} {φ : α → ρ} {kk : S → Option ρ} (C : Cf X N sc fb K mg P w base k) (hc : ∀ s, XT X (envL s) c (c' s))
    (h0 : EnvLe env (envL s0)) (hb : ∀ s, GS X (envL s) body (f s) (ZF X.K res envL envL)) (hz : ∀ r W0 B D, Z (φ r) W0 B D → ZR X.K res r W0 B D) (hr : ∀ s, GS X (envL s) rest (kk s) Z) :
    GS X env (.While c body [] pos :: rest) ((whileF c' f n s0).bind (Lp.go φ kk)) Z := by
  cases C with
  | mk nd calm po rm =>
    refine g_of (ps_while po (ptEx hc) (pssEx hb)) hr fun W0 W B' σ D r E sb0 hm z => ?_
    obtain ⟨o, ho, hm⟩ := bind_some hm
    refine ⟨fun i σ' H' => ∃ W2 s, W2.h = H' ∧ Same B' W2.b ∧ EnvR X.K W0 W2 (envL s) σ' ∧ whileF c' f i s = some o, ⟨n, W, s0, rfl, sb0, E.weak h0, ho⟩, ?_⟩
    rintro i σ' H' ⟨W2, s, rfl, sb, E2, hs⟩
    cases i with
    | zero => cases hs
    | succ i =>
      obtain ⟨b, hb1, hs⟩ := bind_some hs
      refine ⟨s, use_t E2 hb1 fun W3 l3 => ?_⟩
      cases b with
      | true =>
        rw [if_pos rfl] at hs
        obtain ⟨q, h1, h2⟩ := bind_some hs
        rw [if_pos rfl]
        refine ⟨fun σ3 H3 => ∃ W4 s', W4.h = H3 ∧ Same B' W4.b ∧ EnvR X.K W0 W4 (envL s') σ3 ∧ whileF c' f i s' = some o, ?_, s, ?_⟩
        · rintro σ3 H3 ⟨W4, s', rfl, sb4, E4, h4⟩
          exact ⟨i, Nat.lt_succ_self _, W4, s', rfl, sb4, E4, h4⟩
        · refine use_g (E2.mono l3) (sb.trans l3.b) h1 ?_
          cases q with
          | nx s' => exact fun W5 σ5 sb5 E5 => ⟨W5, s', rfl, sb5, E5, h2⟩
          | ct s' => exact fun W5 σ5 sb5 E5 => ⟨W5, s', rfl, sb5, E5, h2⟩
          | bk s' =>
            cases h2
            exact fun W5 σ5 sb5 E5 => ⟨s', use_g E5 sb5 hm z⟩
          | rt r' =>
            cases h2
            cases hm
            exact hz r' W0 B' D z
      | false =>
        rw [if_neg Bool.false_ne_true] at hs
        rw [if_neg Bool.false_ne_true]
        cases hs
        exact ⟨s, use_g (E2.mono l3) (sb.trans l3.b) hm z⟩
/-! ### list comprehensions -/
def lcO (c : α → Option Bool) (f : α → Option β) : List α → Option (List β)
  | [] => some []
  | x :: xs => (c x).bind fun b => if b = true then (f x).bind fun y => (lcO c f xs).bind fun ys => some (y :: ys) else lcO c f xs
def mapO (f : α → Option β) : List α → Option (List β)
  | [] => some []
  | x :: xs => (f x).bind fun y => (mapO f xs).bind fun ys => some (y :: ys)
def lcC (c : α → Option Bool) (f : α → Option β) (xs : List α) : Option (List β) := if sz xs.length then lcO c f xs else none
def mapC (f : α → Option β) (xs : List α) : Option (List β) := if sz xs.length then mapO f xs else none
theorem lcO_true {f : α → Option β} : ∀ xs : List α, lcO (fun _ => some true) f xs = mapO f xs
  | [] => rfl
  | x :: xs => by
    show (some true).bind _ = _
    rw [Option.bind_some, if_pos rfl]
    show (f x).bind _ = (f x).bind _
    rw [lcO_true xs]
theorem EnvR.wipe {W0 W : Wd} {σ : St} (E : EnvR K W0 W env σ) {vs : List Nat} (h : ∀ i ∈ vs, env[i]? = some .any) : EnvR K W0 W env (wipe σ vs) := by
  refine ⟨E.le, by rw [wipe_length]; exact E.len, fun i sv e => ?_, fun i j sv sw o o' n e1 e2 s1 s2 a ha hb => ?_, E.tbl⟩
  · by_cases hi : i ∈ vs
    · rw [h i hi] at e
      cases e
      have hlt : i < (L2.wipe σ vs).length := by rw [wipe_length, E.len]; exact (List.getElem?_eq_some_iff.mp (h i hi)).1
      exact ⟨_, List.getElem?_eq_some_iff.mpr ⟨hlt, rfl⟩, trivial⟩
    · rw [wipe_out hi]
      exact E.slot i sv e
  · have hi : i ∉ vs := fun z => by rw [h i z] at e1; cases e1; simp [fpS] at ha
    have hj : j ∉ vs := fun z => by rw [h j z] at e2; cases e2; simp [fpS] at hb
    rw [wipe_out hi] at s1
    rw [wipe_out hj] at s2
    exact E.apart i j sv sw o o' n e1 e2 s1 s2 a ha hb
/-- the place of a comprehension's block -/
theorem Cf.blk (C : Cf X N sc fb K mg P w base k) (s : Shared) (H : Hp) (scope : Scope) (cl : List (Str × Addr)) (C' : Addr) (fp : List Addr) :
    Cf (X.blk s H scope (compEnvC scope cl C' X.env) fp) N (relS scope sc) (fun x => scope.names.lookup x == some .cell) K mg P w base k := by
  cases C with
  | mk nd calm po rm =>
    exact Cf.mk (X := X.blk s H scope (compEnvC scope cl C' X.env) fp) nd calm PassesOwn.never rm
end
end T

set_option Elab.async false
set_option linter.all false
set_option maxRecDepth 100000
set_option maxHeartbeats 4000000
namespace T
open PySem PySem.Spec PyProof.Rows L2
variable {τ α β γ δ ρ B S ι : Type}
variable [Tabs]
section
variable {X : Cx} {env env' : List SV} {e a b c tg iter elt : Expr} {st : Stmt} {es : List Expr} {body rest : List Stmt} {pos p p2 : Pos} [Em τ] [Em α] [Em β] [Em γ] {N : List Str} {sc : Scope} {fb : Str → Bool} {K : PySem.W.Frag} {mg : Str → Option Value} {P : Program} {w : World} {base : Heap} {k : Nat}
/-! ### list comprehensions -/
theorem lc_read {own : List (Str × Nat)} {mxs : Option (List α)} {envC : List SV} {envX : α → List SV} {is : List Nat} {c' : α → Option Bool} {f : α → Option β} (hw : ∀ i ∈ own.map (·.2), envC[i]? = some .any) (h0 : EnvLe env envC) (his : ∀ i ∈ is, i ∈ own.map (·.2)) :
    ∀ (σ : St) (H : Hp) (Q : VK), tL K env (mxs.bind fun xs => lcC c' f xs) σ H Q →
      tLc (tW K env mxs) (tGt K envC envX is) (fun σ H Q => ∃ x, tC' K (envX x) (c' x) σ H Q) (fun σ H Q => ∃ x, tX K (envX x) (f x) σ H Q) (own.map (·.2)) σ H Q := by
  intro σ H Q ⟨W0, W, hH, E, ys, hy, q⟩
  subst hH
  obtain ⟨xs, hxs, hy⟩ := bind_some hy
  unfold lcC at hy
  split at hy
  · rename_i hsz
    refine use_w E hxs fun J W1 l1 wk D0 hD => ?_
    have E1 := (E.mono l1).weak h0
    refine ⟨fun i m H => ∃ (W2 : Wd) (acc : List V) (dn rs : List β), W2.h = H ∧ Le W1 W2 ∧ W2.h D0 = some (.lst acc) ∧ W2.b D0 = none ∧ RpA K W2.b acc (dn.map em) ∧ lcO c' f (xs.drop i) = some rs ∧ ys = dn ++ rs ∧ dn.length ≤ i ∧ i ≤ xs.length ∧ m = xs.length - i,
      ⟨xs.length, ⟨W1.b, upd W1.h D0 (.lst [])⟩, [], [], ys, rfl, Le.layM l1.ok hD, upd_same, l1.ok.free hD, .nil, hy, rfl, Nat.le_refl _, Nat.zero_le _, rfl⟩, ?_⟩
    rintro i m H ⟨W2, acc, dn, rs, rfl, l2, d1, d2, ra, hl, hys, hdl, hle, rfl⟩
    by_cases hlt : i < xs.length
    · have hx : xs[i]? = some xs[i] := by simp [hlt]
      obtain ⟨g1, g2⟩ := wk.item i _ W2 hx l2.b (E1.le.trans l2)
      rw [drop_cons hlt] at hl
      obtain ⟨bb, hb1, hl⟩ := bind_some hl
      refine .inr ⟨g1, fun H' => ∃ (W3 : Wd) (acc' : List V) (dn' rs' : List β), W3.h = H' ∧ Le W1 W3 ∧ W3.h D0 = some (.lst acc') ∧ W3.b D0 = none ∧ RpA K W3.b acc' (dn'.map em) ∧ lcO c' f (xs.drop (i + 1)) = some rs' ∧ ys = dn' ++ rs' ∧ dn'.length ≤ i + 1, ?_, ?_⟩
      · rintro H' ⟨W3, acc', dn', rs', e1, e2, e3, e4, e5, e6, e7, e8⟩
        exact ⟨xs.length - (i + 1), by omega, W3, acc', dn', rs', e1, e2, e3, e4, e5, e6, e7, e8, hlt, rfl⟩
      · intro v H3 hyl
        obtain ⟨W3, l3, rfl, r3⟩ := g2 v H3 hyl
        have E3 := ((E1.mono l2).mono l3).wipe hw
        refine ⟨W0, W3, xs[i], rfl, E3, r3, fun σ4 E4 hwp => ⟨?_, ?_⟩⟩
        · rw [hwp _ his]
          have aux : ∀ {vs : List Nat} {τ : St}, L2.wipe (L2.wipe τ vs) vs = L2.wipe τ vs := by
            intro vs τ
            refine List.ext_getElem? fun j => ?_
            by_cases hj : j ∈ vs
            · have key : ∀ (ws : List Nat) (υ : St), j ∈ ws → (L2.wipe υ ws)[j]? = if j < υ.length then some none else none := by
                intro ws
                induction ws with
                | nil => intro υ h; simp at h
                | cons z zs ih =>
                  intro υ h
                  unfold L2.wipe
                  by_cases e : z = j
                  · subst e
                    by_cases hl : z < υ.length
                    · rw [List.getElem?_set_self (by rw [wipe_length]; exact hl), if_pos hl]
                    · rw [List.getElem?_eq_none (by rw [List.length_set, wipe_length]; omega), if_neg hl]
                  · rw [List.getElem?_set_ne e]
                    exact ih υ (by rcases List.mem_cons.mp h with q | q; exact absurd q.symm e; exact q)
              rw [key vs _ hj, key vs _ hj, wipe_length]
            · rw [wipe_out hj]
          exact aux
        · refine ⟨xs[i], use_t E4 hb1 fun W4 l4 => ?_⟩
          have l14 := (l2.trans l3).trans l4
          have d14 : W4.h D0 = some (.lst acc) := (l3.trans l4).h.lst d1
          have b14 : W4.b D0 = none := ((l3.trans l4).f _ _ d1).trans d2
          cases bb with
          | false =>
            rw [if_neg Bool.false_ne_true] at hl ⊢
            exact ⟨W4, acc, dn, rs, rfl, l14, d14, b14, ra.mono (l3.trans l4).b, hl, hys, by omega⟩
          | true =>
            rw [if_pos rfl] at hl ⊢
            obtain ⟨y, hy1, hl⟩ := bind_some hl
            obtain ⟨rs', hl1, hl⟩ := bind_some hl
            cases hl
            refine ⟨xs[i], use_x (E4.mono l4) hy1 fun u W5 l5 r5 => ?_⟩
            have d15 : W5.h D0 = some (.lst acc) := l5.h.lst d14
            have b15 : W5.b D0 = none := (l5.f _ _ d14).trans b14
            have l15 := l14.trans l5
            have hal : acc.length = dn.length := by have := ra.length; rwa [List.length_map] at this
            refine ⟨acc, d15, ?_, ⟨W5.b, upd W5.h D0 (.lst (acc ++ [u]))⟩, acc ++ [u], dn ++ [y], rs', rfl, ⟨l15.b, fun x o z => ?_, l15.f, fun x o z => ?_⟩, upd_same, b15, ?_, hl1, by rw [hys, List.append_assoc] <;> rfl, by rw [List.length_append, List.length_singleton]; omega⟩
            · exact Nat.lt_of_le_of_lt (by omega : acc.length ≤ xs.length) (sz_line hsz)
            · exact l15.h.upd hD x o z
            · show upd W5.h D0 _ x = some o
              rw [upd_ne (ne_of_none z b15)]; exact l15.ok x o z
            · rw [List.map_append]
              exact (ra.mono ((l3.trans l4).trans l5).b).append (.cons r5 .nil)
    · have hi' : i = xs.length := by omega
      subst hi'
      rw [List.drop_length] at hl
      cases hl
      rw [List.append_nil] at hys
      subst hys
      exact .inl ⟨wk.stop W2 l2.b (E1.le.trans l2), q D0 acc W2 (l1.trans l2) (l1.h.free hD) d1 d2 ra⟩
  · cases hy
/-- what a comprehension's parts are at any state that its block starts from -/
structure LcP (K : PySem.W.Frag) (tg elt : Expr) (ifs : List Expr) (scope : Scope) (envC : List SV) (envX : α → List SV) (is : List Nat) (c' : α → Option Bool) (f : α → Option β) (N : List Str) (sc : Scope) (mg : Str → Option Value) (P : Program) (w : World) (base : Heap) (k : Nat) : Prop where
  tgt : ∀ X', Cf X' N (relS scope sc) (fun x => scope.names.lookup x == some .cell) K mg P w base k → XG X' envC tg envX is
  tst : ∀ X', Cf X' N (relS scope sc) (fun x => scope.names.lookup x == some .cell) K mg P w base k → ∀ x, PTs X' ifs (tC' X'.K (envX x) (c' x))
  itm : ∀ X', Cf X' N (relS scope sc) (fun x => scope.names.lookup x == some .cell) K mg P w base k → ∀ x, XE X' (envX x) elt (f x)
theorem lc_gen {scope : Scope} {ifs : List Expr} {own : List (Str × Nat)} {mxs : Option (List α)} {envC : List SV} {envX : α → List SV} {is : List Nat} {c' : α → Option Bool} {f : α → Option β} (C : Cf X N sc fb K mg P w base k) (hi : XWk X env tg iter mxs)
    (L : LcP K tg elt ifs scope envC envX is c' f N sc mg P w base k) (ok : blkC N sc scope own = true) (hw : ∀ i ∈ own.map (·.2), envC[i]? = some .any) (h0 : EnvLe env envC) (his : ∀ i ∈ is, i ∈ own.map (·.2))
    (hf : ∀ E : Env, ∀ x, foldedSetIterable iter E x = pure x := by intro _ _; rfl) :
    XL X env (.ListComp elt [⟨tg, iter, ifs, 0⟩] scope pos) (mxs.bind fun xs => lcC c' f xs) := by
  have CC := C
  cases C with
  | mk nd calm po rm =>
    exact peImp (pe_lc (g := tGt X.K envC envX is) (tt := fun σ H Q => ∃ x, tC' X.K (envX x) (c' x) σ H Q) (te := fun σ H Q => ∃ x, tX X.K (envX x) (f x) σ H Q) calm nd hi (blkOk_by ok) (fun s H C' cl fp => L.tgt _ (CC.blk s H scope cl C' fp))
      (fun s H C' cl fp => ptsEx (t := fun x => tC' X.K (envX x) (c' x)) fun x => L.tst _ (CC.blk s H scope cl C' fp) x) (fun s H C' cl fp => peEx (t := fun x => tX X.K (envX x) (f x)) fun x => L.itm _ (CC.blk s H scope cl C' fp) x) (hf _)) (lc_read hw h0 his)
/-- y = [..], the name a local that no block captures, on one line -/
theorem g_setLc {ρ : Type} {Z : ρ → Wd → Hp → Ends → Prop} {scope : Scope} {ifs : List Expr} {own : List (Str × Nat)} {mxs : Option (List α)} {envC : List SV} {envX : α → List SV} {is : List Nat} {c' : α → Option Bool} {f : α → Option β} {kk : List β → Option ρ} {n : Str} {p' cp : Pos}
    (C : Cf X N sc fb K mg P w base k) (i : Nat) (hi : XWk X env tg iter mxs)
    (L : LcP K tg elt ifs scope envC envX is c' f N sc mg P w base k) (ok : blkC N sc scope own = true) (hw : ∀ i ∈ own.map (·.2), envC[i]? = some .any) (h0 : EnvLe env envC) (his : ∀ i ∈ is, i ∈ own.map (·.2))
    (hr : ∀ x, GS X (env.set i (.own (x.map em))) rest (kk x) Z)
    (hin : N[i]? = some n := by rfl) (hkd : sc.kind = .function := by rfl) (hl : sc.names.lookup n = some .local := by decide +kernel) (hln : (p'.line == cp.line) = true := by rfl) (hcl : (scope.names.any fun (m, k) => m == n && (k == .local || k == .cell)) = false := by decide +kernel)
    (hf : ∀ E : Env, ∀ x, foldedSetIterable iter E x = pure x := by intro _ _; rfl) :
    GS X env (.Assign [.Name n p'] (.ListComp elt [⟨tg, iter, ifs, 0⟩] scope cp) pos :: rest) ((mxs.bind fun xs => lcC c' f xs).bind kk) Z := by
  have CC := C
  cases C with
  | mk nd calm po rm =>
    refine g_of (ps_setLc (g := tGt X.K envC envX is) (tt := fun σ H Q => ∃ x, tC' X.K (envX x) (c' x) σ H Q) (te := fun σ H Q => ∃ x, tX X.K (envX x) (f x) σ H Q) calm nd hin hl (sw_true hkd hl hln hcl) hi (blkOk_by ok) (fun s H C' cl fp => L.tgt _ (CC.blk s H scope cl C' fp))
      (fun s H C' cl fp => ptsEx (t := fun x => tC' X.K (envX x) (c' x)) fun x => L.tst _ (CC.blk s H scope cl C' fp) x) (fun s H C' cl fp => peEx (t := fun x => tX X.K (envX x) (f x)) fun x => L.itm _ (CC.blk s H scope cl C' fp) x) (hf _)) hr fun W0 W B σ D r E sb hm z => ?_
    obtain ⟨x, hx, hm⟩ := bind_some hm
    exact lc_read hw h0 his σ W.h _ (use_l E hx fun a vs W1 l1 h0 h1 hb r1 => ⟨x, use_g (E.putL l1 h0 h1 hb r1) (sb.trans l1.b) hm z⟩)
theorem lcP_no {scope : Scope} {envC : List SV} {envX : α → List SV} {is : List Nat} {f : α → Option β}
    (hg : ∀ X', Cf X' N (relS scope sc) (fun x => scope.names.lookup x == some .cell) K mg P w base k → XG X' envC tg envX is)
    (he : ∀ X', Cf X' N (relS scope sc) (fun x => scope.names.lookup x == some .cell) K mg P w base k → ∀ x, XE X' (envX x) elt (f x)) : LcP K tg elt [] scope envC envX is (fun _ => some true) f N sc mg P w base k :=
  ⟨hg, fun X' C' x => ⟨fun pins s σ H Q I ⟨W0, W, hH, E, y, hy, q⟩ => by
    subst hH
    cases hy
    exact pts_nil.run pins s σ _ Q I (q W (Le.refl E.ok))⟩, he⟩
theorem lcP_if {scope : Scope} {envC : List SV} {envX : α → List SV} {is : List Nat} {c' : α → Option Bool} {f : α → Option β}
    (hg : ∀ X', Cf X' N (relS scope sc) (fun x => scope.names.lookup x == some .cell) K mg P w base k → XG X' envC tg envX is)
    (ht : ∀ X', Cf X' N (relS scope sc) (fun x => scope.names.lookup x == some .cell) K mg P w base k → ∀ x, XT X' (envX x) c (c' x))
    (he : ∀ X', Cf X' N (relS scope sc) (fun x => scope.names.lookup x == some .cell) K mg P w base k → ∀ x, XE X' (envX x) elt (f x)) : LcP K tg elt [c] scope envC envX is c' f N sc mg P w base k :=
  ⟨hg, fun X' C' x => pts_one (ht X' C' x), he⟩
theorem lcC_true {f : α → Option β} {xs : List α} : lcC (fun _ => some true) f xs = mapC f xs := by unfold lcC mapC; rw [lcO_true]
/-! ### defs -/
def spF {A : Type} (K : PySem.W.Frag) (svs : A → List SV) (m : A → Option ρ) (res : ρ → RV) : Sp := fun vs H Q _ =>
  ∃ (W : Wd) (a : A) (x : ρ), W.h = H ∧ Same W.b W.h ∧ TabsOk W ∧ Args K W vs (svs a) ∧ m a = some x ∧ RtQ K W Q (res x)
/-- a call -/
theorem x_call {A : Type} {svs : A → List SV} {m : A → Option τ} {ma : Option A} {x : Str} {f : Addr} {fd : FuncData} {ps : List Str} {j : Nat} (C : Cf X N sc fb K mg P w base k) (G : FnOk P w K mg base CX0 j f fd ps (spF K svs m fun x => .dat (em x)))
    (hm : mg x = some (.ref f)) (hk : PySem.W.keepIn K (.ref f) = true) (hb : Binds K fd ps []) (ha : XA X env (e :: es) ma svs) (hj : j ≤ k := by decide) (hg : glbB sc x = true := by decide +kernel)
    (hdb : (x == ("__debug__" : Str)) = false := by decide) (he : starEach (e :: es) X.env = (false, eval e X.env) :: starEach es X.env := by rfl) (hpl : (backTo pos (starEach es X.env)).any (·.1) = false := by rfl) :
    XE X env (.Call (.Name x p) (e :: es) [] pos) (ma.bind m) := by
  cases C with
  | mk nd calm po rm =>
    refine x_of (pe_call G (rm.mono hj) (glbB_ok hg) hm hk hb .nil pass0 ha hdb he hpl) fun W0 W σ E z hz Q q => ?_
    obtain ⟨y, hy, hz⟩ := bind_some hz
    refine use_a E hy fun vs W1 l1 r1 => ?_
    rw [List.append_nil]
    exact ⟨W1, y, z, rfl, l1.ok, (E.mono l1).tbl, r1, hz, fun v W2 l2 r2 => q v W2 (l1.trans l2) r2⟩
theorem l_call {A : Type} {svs : A → List SV} {m : A → Option (List τ)} {ma : Option A} {x : Str} {f : Addr} {fd : FuncData} {ps : List Str} {j : Nat} (C : Cf X N sc fb K mg P w base k) (G : FnOk P w K mg base CX0 j f fd ps (spF K svs m fun x => .own (x.map em)))
    (hm : mg x = some (.ref f)) (hk : PySem.W.keepIn K (.ref f) = true) (hb : Binds K fd ps []) (ha : XA X env (e :: es) ma svs) (hj : j ≤ k := by decide) (hg : glbB sc x = true := by decide +kernel)
    (hdb : (x == ("__debug__" : Str)) = false := by decide) (he : starEach (e :: es) X.env = (false, eval e X.env) :: starEach es X.env := by rfl) (hpl : (backTo pos (starEach es X.env)).any (·.1) = false := by rfl) :
    XL X env (.Call (.Name x p) (e :: es) [] pos) (ma.bind m) := by
  cases C with
  | mk nd calm po rm =>
    refine l_of (pe_call G (rm.mono hj) (glbB_ok hg) hm hk hb .nil pass0 ha hdb he hpl) fun W0 W σ E z hz Q q => ?_
    obtain ⟨y, hy, hz⟩ := bind_some hz
    refine use_a E hy fun vs W1 l1 r1 => ?_
    rw [List.append_nil]
    refine ⟨W1, y, z, rfl, l1.ok, (E.mono l1).tbl, r1, hz, fun v W2 l2 r2 => ?_⟩
    obtain ⟨ad, us, e1, e2, e3, e4, e5⟩ := r2
    subst e1
    exact q ad us W2 (l1.trans l2) (l1.h.free e4) e2 e3 e5
def NoOwn (svs : List SV) : Prop := ∀ sv ∈ svs, ∀ ds, sv ≠ .own ds
theorem Args.slots {W : Wd} : ∀ {vs : List V} {svs : List SV}, Args K W vs svs → ∀ (i : Nat) (sv : SV), svs[i]? = some sv → ∃ v, vs[i]? = some v ∧ SlotR K W W (some v) sv
  | _, _, .nil, i, sv, e => by simp at e
  | _, _, .dat r t, 0, sv, e => by
    simp at e
    subst e
    exact ⟨_, rfl, _, rfl, r⟩
  | _, _, .bor s r t, 0, sv, e => by
    simp at e
    subst e
    exact ⟨_, rfl, _, _, rfl, s, r⟩
  | _, _, .dat r t, i + 1, sv, e => by
    obtain ⟨v, h1, h2⟩ := Args.slots t i sv (by simpa using e)
    exact ⟨v, by simpa using h1, h2⟩
  | _, _, .bor s r t, i + 1, sv, e => by
    obtain ⟨v, h1, h2⟩ := Args.slots t i sv (by simpa using e)
    exact ⟨v, by simpa using h1, h2⟩
theorem Args.fp0 {W : Wd} : ∀ {vs : List V} {svs : List SV}, Args K W vs svs → ∀ {i : Nat} {sv : SV} {o : Option V} {a : Addr}, svs[i]? = some sv → a ∈ fpS sv o → False
  | _, _, .nil, i, sv, o, a, e, ha => by simp at e
  | _, _, .dat r t, 0, sv, o, a, e, ha => by simp at e; subst e; simp [fpS] at ha
  | _, _, .bor s r t, 0, sv, o, a, e, ha => by simp at e; subst e; simp [fpS] at ha
  | _, _, .dat r t, i + 1, sv, o, a, e, ha => Args.fp0 t (i := i) (by simpa using e) ha
  | _, _, .bor s r t, i + 1, sv, o, a, e, ha => Args.fp0 t (i := i) (by simpa using e) ha
theorem Args.envR {W : Wd} (ok : Same W.b W.h) (tb : TabsOk W) {vs : List V} {svs : List SV} (h : Args K W vs svs) : EnvR K W W svs (vs.map some) := by
  refine ⟨Le.refl ok, by rw [List.length_map]; exact h.length, fun i sv e => ?_, fun i j sv sw o o' _ e _ _ _ a ha _ => ?_, tb⟩
  · obtain ⟨v, h1, h2⟩ := h.slots i sv e
    exact ⟨some v, by rw [List.getElem?_map, h1]; rfl, h2⟩
  · exact h.fp0 e ha
/-- further slots, not known yet -/
theorem EnvR.ext {W0 W : Wd} {env : List SV} {vs : List V} (E : EnvR K W0 W env (vs.map some)) {n : Nat} (hn : N.length - vs.length = n) : EnvR K W0 W (env ++ List.replicate n .any) (start N vs) := by
  have hl : (vs.map some).length = env.length := E.len
  have hl' : vs.length = env.length := by rwa [List.length_map] at hl
  have key : ∀ (i : Nat) (sv : SV), (env ++ List.replicate n .any)[i]? = some sv → (env[i]? = some sv ∧ (start N vs)[i]? = (vs.map some)[i]?) ∨ (sv = .any ∧ (start N vs)[i]? = some none) := by
    intro i sv e
    unfold L2.start
    by_cases hi : i < env.length
    · rw [List.getElem?_append_left hi] at e
      exact .inl ⟨e, List.getElem?_append_left (by rw [hl]; exact hi)⟩
    · rw [List.getElem?_append_right (by omega)] at e
      obtain ⟨h1, h2⟩ := List.getElem?_eq_some_iff.mp e
      rw [List.getElem_replicate] at h2
      rw [List.length_replicate] at h1
      refine .inr ⟨h2.symm, ?_⟩
      rw [List.getElem?_append_right (by rw [hl]; omega), hl, List.getElem?_replicate]
      rw [if_pos (by rw [hn]; exact h1)]
  refine ⟨E.le, ?_, fun i sv e => ?_, fun i j sv sw o o' ne e1 e2 s1 s2 a ha hb => ?_, E.tbl⟩
  · unfold L2.start
    rw [List.length_append, List.length_append, List.length_replicate, List.length_replicate, hl, hn]
  · rcases key i sv e with ⟨e1, e2⟩ | ⟨rfl, e2⟩
    · obtain ⟨o, h1, h2⟩ := E.slot i sv e1
      exact ⟨o, e2.trans h1, h2⟩
    · exact ⟨none, e2, trivial⟩
  · rcases key i sv e1 with ⟨q1, t1⟩ | ⟨rfl, t1⟩
    · rcases key j sw e2 with ⟨q2, t2⟩ | ⟨rfl, t2⟩
      · exact E.apart i j sv sw o o' ne q1 q2 (t1.symm.trans s1) (t2.symm.trans s2) a ha hb
      · simp [fpS] at hb
    · simp [fpS] at ha
theorem EnvR.start {W : Wd} (ok : Same W.b W.h) (tb : TabsOk W) {vs : List V} {svs : List SV} (h : Args K W vs svs) {n : Nat} (hn : N.length - vs.length = n) : EnvR K W W (svs ++ List.replicate n .any) (start N vs) := (h.envR ok tb).ext hn
/-- THE RULE of a def -/
theorem fn_mk {A : Type} {svs : A → List SV} {m : A → Option ρ} {res : ρ → RV} {x qual : Str} {st : Stmt} {f : Addr} {fd : FuncData} {ps : List Str} (F : Fun K x qual st f fd) (S : FnScope N ps (defScope st)) (n : Nat) (hn : N.length - ps.length = n) (hl : ∀ a, (svs a).length = ps.length)
    (body : ∀ X, Cf X N (defScope st) (fun _ => true) K mg P w base k → ∀ a, GS X (svs a ++ List.replicate n .any) (defBody st) (m a) (ZRn X.K res)) : FnOk P w K mg base CX0 (k + 1) f fd ps (spF K svs m res) := by
  refine F.ok S (fun vs H Q E h => ?_) (fun cdv A' outer s H vs Q E hr h => ?_)
  · obtain ⟨W, a, y, _, _, _, r, _⟩ := h
    rw [r.length, hl]
  · obtain ⟨W, a, y, hH, ok, tb, r, hy, q⟩ := h
    subst hH
    refine ⟨_, body _ (Cf.mk S.nd rfl PassesOwn.never hr) a, W, W, W.b, rfl, EnvR.start ok tb r (by rw [r.length, hl]; exact hn), Same.refl _, y, hy, q, fun σ W' l r' => q.use l r'⟩
end
end T

set_option Elab.async false
set_option linter.all false
set_option maxRecDepth 100000
set_option maxHeartbeats 4000000
/-! rules at the layer's own level that HandS lacks -/
namespace T
open PySem PySem.Spec PyProof.Rows L2
section
variable {X : Cx}
/-! ### a text times a number -/
theorem op_mulS : OpR X (binaryOp .Mult) (fun x y H Q => ∃ (z : Str) (n : Int), x = .str z ∧ y = .int n ∧ MulOk z n ∧ Q (.str (Txt.mul z n)) H) := by
  intro pins s σ H x y v u Q I rx ry h
  obtain ⟨z, n, rfl, rfl, hk, q⟩ := h
  obtain ⟨t, rfl⟩ := rx
  obtain ⟨t', rfl⟩ := ry
  exact SB.mul hk fun t2 k => ⟨.str _, H, I.tok _, ⟨_, rfl⟩, q⟩
/-! ### list + list, whatever lists they are -/
def rCatQ (K : PySem.W.Frag) : R2 := fun x y H Q => ∃ l b xs zs, x = .ref l ∧ y = .ref b ∧ SqL K H l xs ∧ SqL K H b zs ∧ xs.length + zs.length ≤ sizeLine ∧ ∀ p, H p = none → Q (.ref p) (upd H p (.lst (xs ++ zs)))
theorem op_catQ : OpR X (binaryOp .Add) (rCatQ X.K) := by
  intro pins s σ H x y v u Q I rx ry h
  obtain ⟨l, b, xs, zs, rfl, rfl, hH, hB, hz, q⟩ := h
  cases rx
  cases ry
  obtain ⟨its, r, p1, hl⟩ := I.list hH
  obtain ⟨its2, r2, p2, hl2⟩ := I.list hB
  obtain ⟨⟨cls, dd, data, sl⟩, ho, hc, n, hd⟩ := p1.isList
  obtain ⟨⟨cls2, dd2, data2, sl2⟩, ho2, hc2, n2, hd2⟩ := p2.isList
  simp only at hc hd hc2 hd2
  subst hc hd hc2 hd2
  have e : its.toArray ++ its2.toArray = (its ++ its2).toArray := by simp
  refine concat_meets ⟨_, ho, rfl⟩ ⟨_, ho2, rfl⟩ noFill_list_add seq_list_add PySem.F.slot_list_add PySem.F.entry_list_add (PySem.F.args_list_add_2 _ _) (list_addW l b its.toArray its2.toArray n n2 dd dd2 sl sl2 (by rw [List.size_toArray, List.size_toArray, ← r.length, ← r2.length]; exact hz)) ⟨ho, ho2, ?_⟩
  rw [e]
  exact ⟨.ref _, _, I.lnew (t' := s.toks) (r.append r2) (by rw [List.length_append]; omega), rfl, q _ I.fresh⟩
/-! ### the least of three -/
theorem vals3 {x y z : V} {us : List Value} (r : Vals [x, y, z] us) : ∃ u v w', us = [u, v, w'] ∧ RelV x u ∧ RelV y v ∧ RelV z w' := by
  cases r with
  | cons r1 r =>
    cases r with
    | cons r2 r =>
      cases r with
      | cons r3 r =>
        cases r
        exact ⟨_, _, _, rfl, r1, r2, r3⟩
def min3 (a b c : Int) : Int := if b < a then (if c < b then c else b) else (if c < a then c else a)
theorem call_min3 (hc : X.calm = true) : CallR X (.builtin "min") (fun xs H Q => ∃ i j k, xs = [.int i, .int j, .int k] ∧ Q (.int (min3 i j k)) H) := by
  intro pins s σ H xs us Q I r h
  obtain ⟨i, j, k, rfl, q⟩ := h
  obtain ⟨u, v, w', rfl, ⟨t, rfl⟩, ⟨t', rfl⟩, ⟨t'', rfl⟩⟩ := vals3 r
  refine min_three_ints (I.ok.hd hc) fun h' tk hk => ⟨_, H, I.kept hk, ?_, q⟩
  unfold min3
  by_cases h1 : j < i
  · rw [if_pos h1, if_pos h1]
    by_cases h2 : k < j
    · rw [if_pos h2, if_pos h2]; exact ⟨_, rfl⟩
    · rw [if_neg h2, if_neg h2]; exact ⟨_, rfl⟩
  · rw [if_neg h1, if_neg h1]
    by_cases h2 : k < i
    · rw [if_pos h2, if_pos h2]; exact ⟨_, rfl⟩
    · rw [if_neg h2, if_neg h2]; exact ⟨_, rfl⟩
/-! ### s[::-1] -/
def revS (z : Str) : Str := ⟨z.cps.toList.reverse.toArray⟩
theorem picked_rev (z : Str) : ((Builtin.Str.strSliceIndices none none (-1) z.length).filterMap (z.cps[·]?)) = z.cps.toList.reverse := by
  have h1 : Builtin.Str.strSliceIndices none none (-1) z.length = sliceRange ((z.length : Int) - 1) (-1) (-1) := by
    first
    | rfl
    | simp [Builtin.Str.strSliceIndices]
  rw [h1, PySem.W.krv_sliceRange, PySem.W.krv_range, List.filterMap_reverse]
  have h2 := PySem.W.krv_all z.cps
  show ((List.range z.cps.size).filterMap (z.cps[·]?)).reverse = _
  rw [h2]
def tRevS (te : TE) : TE := fun σ H Q => te σ H fun x H1 => ∃ z, x = .str z ∧ z.length ≤ sizeLine ∧ Q (.str (revS z)) H1
theorem pe_revS {e : Expr} {te : TE} {k : Nat} {p1 p2 p3 pos : Pos} (he : PE X e te) : PE X (.Subscript e (.Slice none none (some (.UnaryOp .USub (.Constant (.int 1) k p1) p2)) p3) pos) (tRevS te) := by
  refine ⟨fun pins s σ H Q I h => ?_⟩
  refine Subscript_ (thn (he.run pins s σ H _ I h) fun v s1 ⟨x, H1, I1, r1, q1⟩ => ?_)
  obtain ⟨z, ex, hz, q⟩ := q1
  subst ex
  obtain ⟨t, rfl⟩ := r1
  have hst : PO X (some (.UnaryOp .USub (.Constant (.int 1) k p1) p2)) (tPart (tUn (rU fun i => .int (-i)) (tC (.int 1)))) := po_some (pe_un un_neg pe_int)
  refine wpAny_Slice (thn (po_none.run pins s1 σ H1 (fun o H2 => o = none ∧ H2 = H1) I1 ⟨rfl, rfl⟩) fun vl s2 ⟨l, H2, I2, pl, el, e2⟩ => ?_)
  subst el e2
  refine thn (po_none.run pins s2 σ H2 (fun o H3 => o = none ∧ H3 = H2) I2 ⟨rfl, rfl⟩) fun vu s3 ⟨u, H3, I3, pu, eu, e3⟩ => ?_
  subst eu e3
  refine thn (hst.run pins s3 σ H3 (fun o H4 => o = some (-1) ∧ H4 = H3) I3 ⟨1, rfl, -1, rfl, rfl, rfl⟩) fun vs s4 ⟨o, H4, I4, ps, eo, e4⟩ => ?_
  subst eo e4
  have I5 : Inv X pins σ H4 { s4 with heap := s4.heap.push { cls := .type "slice", data := .fields #[vl, vu, vs] } } := I4.kept (t' := s4.toks) fun b ob q => Heap.get?_push_of_some _ q
  obtain ⟨l, rfl, hl⟩ := IsPart.raw pl
  obtain ⟨u, rfl, hu⟩ := IsPart.raw pu
  obtain ⟨st, rfl, hst⟩ := IsPart.raw ps
  show wpAny (model X.prog X.w) X.A (subscriptTail e (.Slice none none (some (.UnaryOp .USub (.Constant (.int 1) k p1) p2)) p3) (.str z t) (.ref s4.heap.objs.size)) (EP X pins σ Q) X.xe { s4 with heap := s4.heap.push { cls := .type "slice", data := .fields #[partValue l, partValue u, partValue st] } }
  refine tail_any (T := "str") (ops := [.str z t, .ref s4.heap.objs.size]) (typeIs_str _ _ _) F.slot_str_getitem.lookup ?_ (by with_unfolding_all rfl)
  refine wpAny_getItem_str_slice (l := l) (u := u) (st := st) ⟨_, Heap.get?_push_size _ rfl, rfl, rfl⟩ (by rw [hst]; decide) ?_
  have e : sliceMade z t l u st = Made.str (revS z) := by
    unfold sliceMade slicePicked
    rw [hst, hl, hu]
    show (if ((-1 : Int) == 1 && _) = true then _ else Made.str ⟨((Builtin.Str.strSliceIndices none none (-1) z.length).filterMap (z.cps[·]?)).toArray⟩) = _
    rw [picked_rev]
    rfl
  rw [e]
  refine ⟨?_, .str _, H4, I5.tok _, ⟨_, rfl⟩, q⟩
  show z.cps.toList.reverse.toArray.size ≤ sizeLine
  rw [List.size_toArray, List.length_reverse, Array.length_toList]
  exact hz
/-! ### enumerate of a text -/
def Ites (x : Str) : It :=
  ⟨fun i _ => i < x.cps.size, fun i H v H' => ∃ T c, v = .ref T ∧ H T = none ∧ H' = upd H T (.tup [.int (i : Nat), .str ⟨#[c]⟩]) ∧ x.cps[i]? = some c, fun i _ => i = x.cps.size⟩
theorem turn_enumS {P : Program} {w : World} {K : PySem.W.Frag} {elts : List Expr} {kk : Nat} {tpos : Pos} (x : Str) (t : Tok) (e it : Addr) (hei : e ≠ it) (ty : String) (hty : ty = "str_ascii_iterator" ∨ ty = "str_iterator") :
    Turn P w K (.Tuple elts kk tpos) (Ites x) [e, it] e (fun i h => (∃ old, IsEnum h e it ((i : Nat) : Int) old) ∧ h.IsStrIter it ty x t i) where
  mem := by simp
  obj := fun i h st b hb => by
    obtain ⟨⟨old, he⟩, ⟨o, ho, hc, hd⟩⟩ := st
    have e' : b = e ∨ b = it := by simpa using hb
    rcases e' with z | z
    · rw [z]; exact ⟨_, he, fun v q => nomatch q⟩
    · rw [z]; exact ⟨o, ho, fun v q => by rw [hd] at q; cases q⟩
  keep := fun i h h' st k => let ⟨⟨old, he⟩, ⟨o, ho, hr⟩⟩ := st; ⟨⟨old, k e (by simp) _ he⟩, ⟨o, k it (by simp) _ ho, hr⟩⟩
  item := by
    intro X hP hw hK hc i pins s σ H E I hf st hg
    subst hP hw hK
    have D : Draws X.prog X.w X.A.in1 it [it] x.cps.size (SignAt x) (fun i h => h.IsStrIter it ty x t i) := by
      rcases hty with q | q
      · rw [q]; exact Draws.strAscii (A := X.A.in1) (I.ok.hd hc) it x t
      · rw [q]; exact Draws.strWide (A := X.A.in1) (I.ok.hd hc) it x t
    have W := WalksT.enumerateD D e hei (by simpa using hei) (by simp)
    have hel : e < s.heap.objs.size := by obtain ⟨⟨_, he⟩, _⟩ := st; exact Heap.lt_size he
    have hil : it < s.heap.objs.size := by obtain ⟨_, ⟨_, ho, _⟩⟩ := st; exact Heap.lt_size ho
    refine W.item i s _ _ hg st fun T vals h' tk hP hT hI hM hk => ?_
    obtain ⟨t', u, hS, rfl⟩ := hP
    obtain ⟨c, t2, hcx, rfl⟩ := hS
    refine ⟨_, rfl, W.go elts kk tpos i T { s with heap := h', toks := tk } _ _ hM fun h'' st' hk2 => ?_⟩
    have hTe : T ∉ [e, it] := W.apart _ _ _ hM
    have hT2 : h''.IsTuple T #[.int i t', .str ⟨#[c]⟩ t2] := by
      obtain ⟨o, h1, h2⟩ := hI
      exact ⟨o, hk2 T o hTe h1, h2⟩
    have new : ObjOk X.prog X.w (upd H T (.tup [.int (i : Nat), .str ⟨#[c]⟩])) h'' T (.tup [.int (i : Nat), .str ⟨#[c]⟩]) :=
      ⟨by show 2 ≤ sizeLine; decide, [.int i t', .str ⟨#[c]⟩ t2], .cons ⟨_, rfl⟩ (.cons ⟨_, rfl⟩ .nil), hT2⟩
    have I1 : Inv X pins σ (upd H T (.tup [.int (i : Nat), .str ⟨#[c]⟩])) { s with heap := h'', toks := tk } :=
      I.turnedNew (ch := [e, it]) (fun b ob hb q => hk2 b ob hb (hk b ob hb q)) hf hT new
    refine ⟨.ref T, _, I1, rfl, ⟨T, c, rfl, I.hok.fresh hT, rfl, hcx⟩, st', fun b hb => ?_⟩
    have hb' : b < s.heap.objs.size := by
      have e' : b = e ∨ b = it := by simpa using hb
      rcases e' with z | z
      · rw [z]; exact hel
      · rw [z]; exact hil
    rw [upd_ne (Nat.ne_of_lt (Nat.lt_of_lt_of_le hb' hT))]
    exact (hf b hb).1
  done := by
    intro X hP hw hK hc i pins s σ H E I hf st hg
    subst hP hw hK
    have hg : i = x.cps.size := hg
    subst hg
    have D : Draws X.prog X.w X.A.in1 it [it] x.cps.size (SignAt x) (fun i h => h.IsStrIter it ty x t i) := by
      rcases hty with q | q
      · rw [q]; exact Draws.strAscii (A := X.A.in1) (I.ok.hd hc) it x t
      · rw [q]; exact Draws.strWide (A := X.A.in1) (I.ok.hd hc) it x t
    have W := WalksT.enumerateD D e hei (by simpa using hei) (by simp)
    refine W.done s _ _ st fun h' tk hk => ⟨rfl, ?_⟩
    exact I.turnedL hk hf
  self := fun A i s Q E st h => let ⟨⟨_, he⟩, _⟩ := st; wpAny_pyIter_enum he h
def iEnumS (ta : TA) : TI := fun σ H R => ta σ H fun vs H1 => ∃ x, vs = [.str x] ∧ R (Ites x) H1
theorem pi_enumS {e : Expr} {ta : TA} {p pos tpos : Pos} {elts : List Expr} {kk : Nat} (hg : Gl X "enumerate") (hm : X.mg "enumerate" = none) (ha : PA X [e] ta) (hs : starEach [e] X.env = [(false, eval e X.env)] := by rfl) :
    PI X (.Tuple elts kk tpos) (.Call (.Name "enumerate" p) [e] [] pos) (iEnumS ta) := by
  refine ⟨fun pins s σ H R I h => ?_⟩
  refine Call_ (ld_blt I hg hm boot_enumerate (PyProof.Rows.callWith_type1 (thn (ha.run pos pins s σ H _ I h) fun us s1 ⟨vs, H1, I1, r1, q1⟩ => ?_) hs rfl))
  obtain ⟨x, ex, q⟩ := q1
  subst ex
  obtain ⟨u, rfl, t, rfl⟩ := vals1 r1
  refine call_enumerate_str fun h' he hit hsz hk => wpAny_pyIter_enum he ?_
  have I2 : Inv X pins σ H1 { s1 with heap := h' } := I1.kept (t' := s1.toks) hk
  have hty : strIterType x = "str_ascii_iterator" ∨ strIterType x = "str_iterator" := by
    unfold strIterType
    split
    · exact .inl rfl
    · exact .inr rfl
  refine ⟨s1.heap.objs.size + 1, [s1.heap.objs.size + 1, s1.heap.objs.size], _, _, H1, rfl, I2, turn_enumS x t (s1.heap.objs.size + 1) s1.heap.objs.size (Nat.succ_ne_self _) (strIterType x) hty, ⟨⟨.none, he⟩, hit⟩, fun b hb => ?_, q⟩
  have e' : b = s1.heap.objs.size + 1 ∨ b = s1.heap.objs.size := by simpa using hb
  have hle : s1.heap.objs.size ≤ b := by
    rcases e' with z | z
    · rw [z]; exact Nat.le_add_right _ _
    · rw [z]; exact Nat.le_refl _
  exact I1.fpOk hle (I1.hok.fresh hle)
end
end T

set_option Elab.async false
set_option linter.all false
set_option maxRecDepth 100000
set_option maxHeartbeats 4000000
namespace T
open PySem PySem.Spec PyProof.Rows L2
variable {τ α β γ δ ρ B S ι : Type}
variable [Tabs]
section
variable {X : Cx} {env env' : List SV} {e a b c tg iter elt o : Expr} {st : Stmt} {es : List Expr} {body rest : List Stmt} {pos p p2 apos : Pos} [Em τ] [Em α] [Em β] [Em γ] {N : List Str} {sc : Scope} {fb : Str → Bool} {K : PySem.W.Frag} {mg : Str → Option Value} {P : Program} {w : World} {base : Heap} {k : Nat}
theorem use_ax {W0 W : Wd} {σ : St} {m : Option τ} {x : τ} {Q : List V → Hp → Prop} (E : EnvR K W0 W env σ) (hx : m = some x) (q : ∀ v W', Le W W' → Rp K W'.b v (em x) → Q [v] W'.h) : tA K env (m.bind fun x => (some ()).bind fun y => some (x, y)) (fun p => .dat (em p.1) :: (fun _ => []) p.2) σ W.h Q := by
  refine use_a E (x := (x, ())) (by rw [hx]; rfl) fun vs W1 l1 r1 => ?_
  cases r1 with
  | dat r1 r2 =>
    cases r2
    exact q _ W1 l1 r1
/-- one data argument -/
theorem x_cB1 {x : Str} {id : String} {r : List V → Hp → VK → Prop} {m : Option α} {f : α → Option τ} (C : Cf X N sc fb K mg P w base k) (hc : CallR X (.builtin id) r) (ha : XE X env e m)
    (hr : ∀ d y, f d = some y → ∀ (W : Wd) (v : V), Same W.b W.h → Rp X.K W.b v (em d) → ∀ Q : VK, (∀ v W', Le W W' → Rp X.K W'.b v (em y) → Q v W'.h) → r [v] W.h Q)
    (hm : mg x = none) (hv : bootBuiltins x = some (.builtin id) := by decide +kernel) (hg : glbB sc x = true := by decide +kernel) (hn : x ≠ "__name__" := by decide) (hdb : (x == ("__debug__" : Str)) = false := by decide)
    (he : ∀ E : Env, starEach [e] E = (false, eval e E) :: starEach [] E := by intro _; rfl) (hpl : ∀ E : Env, (backTo pos (starEach ([] : List Expr) E)).any (·.1) = false := by intro _; rfl) : XE X env (.Call (.Name x p) [e] [] pos) (m.bind f) := by
  cases C
  refine x_of (pe_callB hc (glbB_ok hg) hm hv (a_dat ha a_nil (he _)) hn hdb (he _) (hpl _)) fun W0 W σ E z hz Q q => ?_
  obtain ⟨d, hd, hz⟩ := bind_some hz
  exact use_ax E hd fun v W1 l1 r1 => hr d z hz W1 v l1.ok r1 Q fun v W2 l2 r2 => q v W2 (l1.trans l2) r2
theorem x_cT1 {x : Str} {id : String} {r : List V → Hp → VK → Prop} {m : Option α} {f : α → Option τ} (C : Cf X N sc fb K mg P w base k) (hc : CallR X (.type id) r) (ha : XE X env e m)
    (hr : ∀ d y, f d = some y → ∀ (W : Wd) (v : V), Same W.b W.h → Rp X.K W.b v (em d) → ∀ Q : VK, (∀ v W', Le W W' → Rp X.K W'.b v (em y) → Q v W'.h) → r [v] W.h Q)
    (hm : mg x = none) (hv : bootBuiltins x = some (.type id) := by decide +kernel) (hg : glbB sc x = true := by decide +kernel) (hn : x ≠ "__name__" := by decide) (hdb : (x == ("__debug__" : Str)) = false := by decide)
    (he : ∀ E : Env, starEach [e] E = (false, eval e E) :: starEach [] E := by intro _; rfl) (hpl : ∀ E : Env, (backTo pos (starEach ([] : List Expr) E)).any (·.1) = false := by intro _; rfl) : XE X env (.Call (.Name x p) [e] [] pos) (m.bind f) := by
  cases C
  refine x_of (pe_callTy hc (glbB_ok hg) hm hv (a_dat ha a_nil (he _)) hn hdb (he _) (hpl _)) fun W0 W σ E z hz Q q => ?_
  obtain ⟨d, hd, hz⟩ := bind_some hz
  exact use_ax E hd fun v W1 l1 r1 => hr d z hz W1 v l1.ok r1 Q fun v W2 l2 r2 => q v W2 (l1.trans l2) r2
/-- one list that is read -/
theorem paQ {m : Option (List τ)} (h : XQ X env e m) (hst : starEach [e] X.env = (false, eval e X.env) :: starEach [] X.env) : PA X [e] (fun σ H Q => ∃ W0 W : Wd, W.h = H ∧ EnvR X.K W0 W env σ ∧ ∃ x, m = some x ∧ ∀ a vs W', Le W W' → SqL X.K W'.h a vs → RpA X.K W'.b vs (x.map em) → Q [.ref a] W'.h) :=
  paImp (pa_cons h pa_nil hst) fun σ H Q ⟨W0, W, hH, E, x, hx, q⟩ => ⟨W0, W, hH, E, x, hx, fun a vs W' l s r => q a vs W' l s r⟩
theorem x_cBQ {x : Str} {id : String} {r : List V → Hp → VK → Prop} {m : Option (List α)} {f : List α → Option τ} (C : Cf X N sc fb K mg P w base k) (hc : CallR X (.builtin id) r) (ha : XQ X env e m)
    (hr : ∀ d y, f d = some y → ∀ (W : Wd) (a : Addr) (vs : List V), Same W.b W.h → SqL X.K W.h a vs → RpA X.K W.b vs (d.map em) → ∀ Q : VK, (∀ v W', Le W W' → Rp X.K W'.b v (em y) → Q v W'.h) → r [.ref a] W.h Q)
    (hm : mg x = none) (hv : bootBuiltins x = some (.builtin id) := by decide +kernel) (hg : glbB sc x = true := by decide +kernel) (hn : x ≠ "__name__" := by decide) (hdb : (x == ("__debug__" : Str)) = false := by decide)
    (he : ∀ E : Env, starEach [e] E = (false, eval e E) :: starEach [] E := by intro _; rfl) (hpl : ∀ E : Env, (backTo pos (starEach ([] : List Expr) E)).any (·.1) = false := by intro _; rfl) : XE X env (.Call (.Name x p) [e] [] pos) (m.bind f) := by
  cases C
  refine x_of (pe_callB hc (glbB_ok hg) hm hv (paQ ha (he _)) hn hdb (he _) (hpl _)) fun W0 W σ E z hz Q q => ?_
  obtain ⟨d, hd, hz⟩ := bind_some hz
  exact ⟨W0, W, rfl, E, d, hd, fun a vs W1 l1 s1 r1 => hr d z hz W1 a vs l1.ok s1 r1 Q fun v W2 l2 r2 => q v W2 (l1.trans l2) r2⟩
theorem x_cTQ {x : Str} {id : String} {r : List V → Hp → VK → Prop} {m : Option (List α)} {f : List α → Option τ} (C : Cf X N sc fb K mg P w base k) (hc : CallR X (.type id) r) (ha : XQ X env e m)
    (hr : ∀ d y, f d = some y → ∀ (W : Wd) (a : Addr) (vs : List V), Same W.b W.h → SqL X.K W.h a vs → RpA X.K W.b vs (d.map em) → ∀ Q : VK, (∀ v W', Le W W' → Rp X.K W'.b v (em y) → Q v W'.h) → r [.ref a] W.h Q)
    (hm : mg x = none) (hv : bootBuiltins x = some (.type id) := by decide +kernel) (hg : glbB sc x = true := by decide +kernel) (hn : x ≠ "__name__" := by decide) (hdb : (x == ("__debug__" : Str)) = false := by decide)
    (he : ∀ E : Env, starEach [e] E = (false, eval e E) :: starEach [] E := by intro _; rfl) (hpl : ∀ E : Env, (backTo pos (starEach ([] : List Expr) E)).any (·.1) = false := by intro _; rfl) : XE X env (.Call (.Name x p) [e] [] pos) (m.bind f) := by
  cases C
  refine x_of (pe_callTy hc (glbB_ok hg) hm hv (paQ ha (he _)) hn hdb (he _) (hpl _)) fun W0 W σ E z hz Q q => ?_
  obtain ⟨d, hd, hz⟩ := bind_some hz
  exact ⟨W0, W, rfl, E, d, hd, fun a vs W1 l1 s1 r1 => hr d z hz W1 a vs l1.ok s1 r1 Q fun v W2 l2 r2 => q v W2 (l1.trans l2) r2⟩
/-! ### len -/
def lenS (s : Str) : Option Int := if sz s.length then some (s.length : Int) else none
theorem x_lenS {m : Option Str} (C : Cf X N sc fb K mg P w base k) (h : XE X env e m) (hm : mg "len" = none) (hg : glbB sc "len" = true := by decide +kernel)
    (he : ∀ E : Env, starEach [e] E = (false, eval e E) :: starEach [] E := by intro _; rfl) : XE X env (.Call (.Name "len" p) [e] [] pos) (m.bind lenS) :=
  x_cB1 C call_len_str h (fun d y hy W v ok r Q q => by
    cases r
    unfold lenS at hy
    split at hy
    · rename_i hz
      cases hy
      exact ⟨d, rfl, Nat.le_of_lt (sz_line hz), q _ W (Le.refl ok) (.int _)⟩
    · cases hy) hm PySem.boot_len hg (by decide) (by decide) he
theorem x_lenQ {m : Option (List τ)} (C : Cf X N sc fb K mg P w base k) (h : XQ X env e m) (hm : mg "len" = none) (hg : glbB sc "len" = true := by decide +kernel)
    (he : ∀ E : Env, starEach [e] E = (false, eval e E) :: starEach [] E := by intro _; rfl) : XE X env (.Call (.Name "len" p) [e] [] pos) (m.bind fun xs => some (xs.length : Int)) :=
  x_cBQ C call_len_seq h (fun d y hy W a vs ok s r Q q => by
    cases hy
    have hl := r.length
    rw [List.length_map] at hl
    refine ⟨a, vs, rfl, .inl s, ?_⟩
    rw [hl]
    exact q _ W (Le.refl ok) (.int _)) hm PySem.boot_len hg (by decide) (by decide) he
theorem x_lenV {m : Option (Vt τ)} (C : Cf X N sc fb K mg P w base k) (h : XE X env e m) (hm : mg "len" = none) (hg : glbB sc "len" = true := by decide +kernel)
    (he : ∀ E : Env, starEach [e] E = (false, eval e E) :: starEach [] E := by intro _; rfl) : XE X env (.Call (.Name "len" p) [e] [] pos) (m.bind fun t => some (t.l.length : Int)) :=
  x_cB1 C call_len_seq h (fun d y hy W v ok r Q q => by
    cases hy
    have r : Rp X.K W.b v (.tup (d.l.map em)) := r
    cases r with
    | tup s r =>
      have hl := r.length
      rw [List.length_map] at hl
      refine ⟨_, _, rfl, .inr (same_t ok s), ?_⟩
      rw [hl]
      exact q _ W (Le.refl ok) (.int _)) hm PySem.boot_len hg (by decide) (by decide) he
/-! ### numbers -/
def absI (i : Int) : Int := if i < 0 then -i else i
theorem x_abs {m : Option Int} (C : Cf X N sc fb K mg P w base k) (h : XE X env e m) (hm : mg "abs" = none) (hg : glbB sc "abs" = true := by decide +kernel)
    (he : ∀ E : Env, starEach [e] E = (false, eval e E) :: starEach [] E := by intro _; rfl) : XE X env (.Call (.Name "abs" p) [e] [] pos) (m.bind fun i => some (absI i)) :=
  x_cB1 C call_abs h (fun d y hy W v ok r Q q => by
    cases hy
    cases r
    exact ⟨d, rfl, q _ W (Le.refl ok) (.int _)⟩) hm (by decide +kernel) hg (by decide) (by decide) he
theorem x_intI {m : Option Int} (C : Cf X N sc fb K mg P w base k) (h : XE X env e m) (hm : mg "int" = none) (hg : glbB sc "int" = true := by decide +kernel)
    (he : ∀ E : Env, starEach [e] E = (false, eval e E) :: starEach [] E := by intro _; rfl) : XE X env (.Call (.Name "int" p) [e] [] pos) (m.bind fun i => some i) :=
  x_cT1 C call_int1 h (fun d y hy W v ok r Q q => by
    cases hy
    cases r
    exact .inl ⟨d, rfl, q _ W (Le.refl ok) (.int _)⟩) hm (by decide +kernel) hg (by decide) (by decide) he
theorem x_intB {m : Option Bool} (C : Cf X N sc fb K mg P w base k) (h : XE X env e m) (hm : mg "int" = none) (hg : glbB sc "int" = true := by decide +kernel)
    (he : ∀ E : Env, starEach [e] E = (false, eval e E) :: starEach [] E := by intro _; rfl) : XE X env (.Call (.Name "int" p) [e] [] pos) (m.bind fun b => some (if b = true then (1 : Int) else 0)) :=
  x_cT1 C call_int1 h (fun d y hy W v ok r Q q => by
    cases hy
    cases r
    exact .inr ⟨d, rfl, q _ W (Le.refl ok) (.int _)⟩) hm (by decide +kernel) hg (by decide) (by decide) he
theorem Cf.calm (C : Cf X N sc fb K mg P w base k) : X.calm = true := by cases C; assumption
theorem x_min2 {ma mb : Option Int} (C : Cf X N sc fb K mg P w base k) (ha : XE X env a ma) (hb : XE X env b mb) (hm : mg "min" = none) (hg : glbB sc "min" = true := by decide +kernel)
    (h1 : starEach [a, b] X.env = (false, eval a X.env) :: starEach [b] X.env := by rfl) (h2 : starEach [b] X.env = (false, eval b X.env) :: starEach [] X.env := by rfl) (hpl : (backTo pos (starEach [b] X.env)).any (·.1) = false := by rfl) :
    XE X env (.Call (.Name "min" p) [a, b] [] pos) (ma.bind fun x => mb.bind fun y => some (if y < x then y else x)) :=
  (x_cB (f := fun p : Int × Int × Unit => some (if p.2.1 < p.1 then p.2.1 else p.1)) C (call_min2 C.calm) (a_dat ha (a_dat hb a_nil h2) h1) (fun d y hy W vs ok r Q q => by
    cases hy
    cases r with
    | dat r1 r => cases r with
      | dat r2 r =>
        cases r
        cases r1
        cases r2
        exact ⟨_, _, rfl, q _ W (Le.refl ok) (.int _)⟩) hm (by decide +kernel) hg (by decide) (by decide) h1 hpl).is (by cases ma with | none => rfl | some x => cases mb <;> rfl)
theorem x_max2 {ma mb : Option Int} (C : Cf X N sc fb K mg P w base k) (ha : XE X env a ma) (hb : XE X env b mb) (hm : mg "max" = none) (hg : glbB sc "max" = true := by decide +kernel)
    (h1 : starEach [a, b] X.env = (false, eval a X.env) :: starEach [b] X.env := by rfl) (h2 : starEach [b] X.env = (false, eval b X.env) :: starEach [] X.env := by rfl) (hpl : (backTo pos (starEach [b] X.env)).any (·.1) = false := by rfl) :
    XE X env (.Call (.Name "max" p) [a, b] [] pos) (ma.bind fun x => mb.bind fun y => some (if y > x then y else x)) :=
  (x_cB (f := fun p : Int × Int × Unit => some (if p.2.1 > p.1 then p.2.1 else p.1)) C (call_max2 C.calm) (a_dat ha (a_dat hb a_nil h2) h1) (fun d y hy W vs ok r Q q => by
    cases hy
    cases r with
    | dat r1 r => cases r with
      | dat r2 r =>
        cases r
        cases r1
        cases r2
        exact ⟨_, _, rfl, q _ W (Le.refl ok) (.int _)⟩) hm (by decide +kernel) hg (by decide) (by decide) h1 hpl).is (by cases ma with | none => rfl | some x => cases mb <;> rfl)
theorem x_min3 {ma mb mc : Option Int} (C : Cf X N sc fb K mg P w base k) (ha : XE X env a ma) (hb : XE X env b mb) (hcc : XE X env c mc) (hm : mg "min" = none) (hg : glbB sc "min" = true := by decide +kernel)
    (h1 : starEach [a, b, c] X.env = (false, eval a X.env) :: starEach [b, c] X.env := by rfl) (h2 : starEach [b, c] X.env = (false, eval b X.env) :: starEach [c] X.env := by rfl) (h3 : starEach [c] X.env = (false, eval c X.env) :: starEach [] X.env := by rfl)
    (hpl : (backTo pos (starEach [b, c] X.env)).any (·.1) = false := by rfl) :
    XE X env (.Call (.Name "min" p) [a, b, c] [] pos) (ma.bind fun x => mb.bind fun y => mc.bind fun z => some (min3 x y z)) :=
  (x_cB (f := fun p : Int × Int × Int × Unit => some (min3 p.1 p.2.1 p.2.2.1)) C (call_min3 C.calm) (a_dat ha (a_dat hb (a_dat hcc a_nil h3) h2) h1) (fun d y hy W vs ok r Q q => by
    cases hy
    cases r with
    | dat r1 r => cases r with
      | dat r2 r => cases r with
        | dat r3 r =>
          cases r
          cases r1
          cases r2
          cases r3
          exact ⟨_, _, _, rfl, q _ W (Le.refl ok) (.int _)⟩) hm (by decide +kernel) hg (by decide) (by decide) h1 hpl).is (by cases ma with
    | none => rfl
    | some x => cases mb with
      | none => rfl
      | some y => cases mc <;> rfl)
/-! ### texts -/
def catS (x y : Str) : Option Str := if x.length + y.length < 16777216 then some (x ++ y) else none
theorem x_addS {ma mb : Option Str} (ha : XE X env a ma) (hb : XE X env b mb) : XE X env (.BinOp a .Add b pos) (ma.bind fun x => mb.bind fun y => catS x y) :=
  x_bin op_add_str ha hb fun x y z hz W u v ok ru rv Q q => by
    unfold catS at hz
    split at hz
    · rename_i hs
      cases hz
      cases ru; cases rv
      exact ⟨x, y, rfl, rfl, Nat.le_of_lt (sz_line hs), q _ W (Le.refl ok) (.str _)⟩
    · cases hz
instance (z : Str) (n : Int) : Decidable (MulOk z n) := by unfold MulOk; infer_instance
def mulS (x : Str) (n : Int) : Option Str := if MulOk x n then some (Txt.mul x n) else none
theorem x_mulS {ma : Option Str} {mb : Option Int} (ha : XE X env a ma) (hb : XE X env b mb) : XE X env (.BinOp a .Mult b pos) (ma.bind fun x => mb.bind fun y => mulS x y) :=
  x_bin op_mulS ha hb fun x y z hz W u v ok ru rv Q q => by
    unfold mulS at hz
    split at hz
    · rename_i hs
      cases hz
      cases ru; cases rv
      exact ⟨x, y, rfl, rfl, hs, q _ W (Le.refl ok) (.str _)⟩
    · cases hz
def revP (z : Str) : Option Str := if sz z.length then some (revS z) else none
theorem x_revS {m : Option Str} {kk : Nat} {p1 p2 p3 : Pos} (h : XE X env e m) : XE X env (.Subscript e (.Slice none none (some (.UnaryOp .USub (.Constant (.int 1) kk p1) p2)) p3) pos) (m.bind revP) :=
  x_of (pe_revS h) fun W0 W σ E z hz Q q => by
    obtain ⟨d, hd, hz⟩ := bind_some hz
    unfold revP at hz
    split at hz
    · rename_i hs
      cases hz
      refine use_x E hd fun v W1 l1 r1 => ?_
      cases r1
      exact ⟨d, rfl, Nat.le_of_lt (sz_line hs), q _ W1 l1 (.str _)⟩
    · cases hz
/-- a part of a slice -/
def tOp (K : PySem.W.Frag) (env : List SV) (m : Option (Option Int)) : TO := fun σ H Q =>
  ∃ W0 W : Wd, W.h = H ∧ EnvR K W0 W env σ ∧ ∃ x, m = some x ∧ ∀ W', Le W W' → Q x W'.h
abbrev XO (X : Cx) (env : List SV) (e : Option Expr) (m : Option (Option Int)) : Prop := PO X e (tOp X.K env m)
theorem poImp {e : Option Expr} {t t' : TO} (h : PO X e t) (kk : ∀ σ H Q, t' σ H Q → t σ H Q) : PO X e t' := ⟨fun pins s σ H Q I q => h.run pins s σ H Q I (kk σ H Q q)⟩
theorem o_none : XO X env none (some none) := poImp po_none fun σ H Q ⟨W0, W, hH, E, x, hx, q⟩ => by
  subst hH
  cases hx
  exact q W (Le.refl E.ok)
theorem o_some {m : Option Int} (h : XE X env e m) : XO X env (some e) (m.bind fun i => some (some i)) := poImp (po_some h) fun σ H Q ⟨W0, W, hH, E, x, hx, q⟩ => by
  subst hH
  obtain ⟨i, hi, hx⟩ := bind_some hx
  cases hx
  refine use_x E hi fun v W1 l1 r1 => ?_
  cases r1
  exact ⟨i, rfl, q W1 l1⟩
theorem use_o {W0 W : Wd} {σ : St} {m : Option (Option Int)} {x : Option Int} {Q : Option Int → Hp → Prop} (E : EnvR K W0 W env σ) (h : m = some x) (q : ∀ W', Le W W' → Q x W'.h) : tOp K env m σ W.h Q := ⟨W0, W, rfl, E, x, h, q⟩
def cutP (z : Str) (lo hi : Option Int) : Option Str := if sz z.length then some (cutS z lo hi) else none
theorem x_cutS {lo hi : Option Expr} {m : Option Str} {ml mh : Option (Option Int)} (h : XE X env e m) (hl : XO X env lo ml) (hh : XO X env hi mh) : XE X env (.Subscript e (.Slice lo hi none p2) pos) (m.bind fun z => ml.bind fun l => mh.bind fun u => cutP z l u) :=
  x_of (pe_slice sl_str h hl hh) fun W0 W σ E z hz Q q => by
    obtain ⟨d, hd, hz⟩ := bind_some hz
    obtain ⟨l, hl, hz⟩ := bind_some hz
    obtain ⟨u, hu, hz⟩ := bind_some hz
    unfold cutP at hz
    split at hz
    · rename_i hs
      cases hz
      refine use_x E hd fun v W1 l1 r1 => ?_
      refine use_o (E.mono l1) hl fun W2 l2 => ?_
      refine use_o ((E.mono l1).mono l2) hu fun W3 l3 => ?_
      cases r1
      exact ⟨d, rfl, Nat.le_of_lt (sz_line hs), q _ W3 (l1.trans (l2.trans l3)) (.str _)⟩
    · cases hz
/-- the items of a slice -/
def cut (xs : List τ) (lo hi : Option Int) : List τ := (xs.drop (HT.sIx xs.length 0 lo)).take (HT.sIx xs.length xs.length hi - HT.sIx xs.length 0 lo)
theorem RpA.cut {H : Hp} {vs : List V} {ds : List D} (r : RpA K H vs ds) (lo hi : Option Int) : RpA K H (cutV vs lo hi) (T.cut ds lo hi) := by
  unfold cutV T.cut
  rw [r.length]
  exact (r.drop _).take _
theorem cut_map {f : α → β} {xs : List α} {lo hi : Option Int} : T.cut (xs.map f) lo hi = (T.cut xs lo hi).map f := by
  unfold T.cut
  rw [List.length_map, List.map_take, List.map_drop]
theorem l_cutQ {lo hi : Option Expr} {m : Option (List τ)} {ml mh : Option (Option Int)} (h : XQ X env e m) (hl : XO X env lo ml) (hh : XO X env hi mh) : XL X env (.Subscript e (.Slice lo hi none p2) pos) (m.bind fun z => ml.bind fun l => mh.bind fun u => some (T.cut z l u)) :=
  l_of (pe_slice sl_list h hl hh) fun W0 W σ E z hz Q q => by
    obtain ⟨d, hd, hz⟩ := bind_some hz
    obtain ⟨l, hl, hz⟩ := bind_some hz
    obtain ⟨u, hu, hz⟩ := bind_some hz
    cases hz
    refine use_q E hd fun a vs W1 l1 s1 r1 => ?_
    refine use_o (E.mono l1) hl fun W2 l2 => ?_
    refine use_o ((E.mono l1).mono l2) hu fun W3 l3 => ?_
    have l13 := l1.trans (l2.trans l3)
    refine ⟨a, vs, rfl, (l2.trans l3).h.seq s1, fun p hp => ?_⟩
    refine q p _ ⟨W3.b, upd W3.h p (.lst (cutV vs l u))⟩ (l13.trans (Le.layM l13.ok hp)) (l13.h.free hp) upd_same (l13.ok.free hp) ?_
    rw [← cut_map]
    exact (r1.mono (l2.trans l3).b).cut l u
/-! ### lists -/
def catL (x y : List τ) : Option (List τ) := if x.length + y.length < 16777216 then some (x ++ y) else none
theorem l_cat {ma mb : Option (List τ)} (ha : XQ X env a ma) (hb : XQ X env b mb) : XL X env (.BinOp a .Add b pos) (ma.bind fun x => mb.bind fun y => catL x y) :=
  l_of (pe_op op_catQ ha hb) fun W0 W σ E z hz Q q => by
    obtain ⟨x, hx, hz⟩ := bind_some hz
    obtain ⟨y, hy, hz⟩ := bind_some hz
    unfold catL at hz
    split at hz
    · rename_i hs
      cases hz
      refine use_q E hx fun a vs W1 l1 s1 r1 => ?_
      refine use_q (E.mono l1) hy fun b us W2 l2 s2 r2 => ?_
      have h1 := r1.length
      have h2 := r2.length
      rw [List.length_map] at h1 h2
      have l12 := l1.trans l2
      refine ⟨a, b, vs, us, rfl, rfl, l2.h.seq s1, s2, by rw [h1, h2]; exact Nat.le_of_lt (sz_line hs), fun p hp => ?_⟩
      refine q p _ ⟨W2.b, upd W2.h p (.lst (vs ++ us))⟩ (l12.trans (Le.layM l12.ok hp)) (l12.h.free hp) upd_same (l12.ok.free hp) ?_
      rw [List.map_append]
      exact (r1.mono l2.b).append r2
    · cases hz
/-- list(xs) -/
theorem l_copy {m : Option (List τ)} (C : Cf X N sc fb K mg P w base k) (h : XQ X env e m) (hm : mg "list" = none) (hg : glbB sc "list" = true := by decide +kernel)
    (he : ∀ E : Env, starEach [e] E = (false, eval e E) :: starEach [] E := by intro _; rfl) (hpl : ∀ E : Env, (backTo pos (starEach ([] : List Expr) E)).any (·.1) = false := by intro _; rfl) : XL X env (.Call (.Name "list" p) [e] [] pos) m := by
  cases C
  refine l_of (pe_callTy call_list_of (glbB_ok hg) hm (by decide +kernel) (paQ h (he _)) (by decide) (by decide) (he _) (hpl _)) fun W0 W σ E z hz Q q => ?_
  refine ⟨W0, W, rfl, E, z, hz, fun a vs W1 l1 s1 r1 => ⟨a, vs, rfl, .inl s1, fun p hp => ?_⟩⟩
  exact q p vs ⟨W1.b, upd W1.h p (.lst vs)⟩ (l1.trans (Le.layM l1.ok hp)) (l1.h.free hp) upd_same (l1.ok.free hp) r1
/-- tuple(xs) -/
theorem x_tupleQ {m : Option (List τ)} (C : Cf X N sc fb K mg P w base k) (h : XQ X env e m) (hm : mg "tuple" = none) (hg : glbB sc "tuple" = true := by decide +kernel)
    (he : ∀ E : Env, starEach [e] E = (false, eval e E) :: starEach [] E := by intro _; rfl) : XE X env (.Call (.Name "tuple" p) [e] [] pos) (m.bind fun xs => some (⟨xs⟩ : Vt τ)) :=
  x_cTQ C call_tuple_of h (fun d y hy W a vs ok s r Q q => by
    cases hy
    refine ⟨a, vs, rfl, .inl ⟨s, fun l hl => ?_⟩⟩
    exact q (.ref l) _ (Le.lay ok (o := .tup vs) hl) (.tup (SqT.of upd_same) (r.mono (Same.new (ok.free hl))))) hm (by decide +kernel) hg (by decide) (by decide) he
/-- list(range(..)) -/
def rngL (lo hi : Int) : Option (List Int) := if -4611686018427387904 ≤ lo ∧ lo < 4611686018427387904 ∧ -4611686018427387904 ≤ hi ∧ hi < 4611686018427387904 ∧ (hi - lo).toNat ≤ 16777216 then some (rng lo hi) else none
theorem rgV_eq (lo hi : Int) : RpA K H (rgV lo hi) ((rng lo hi).map em) := by
  unfold rgV rng
  generalize (List.range (hi - lo).toNat) = l
  induction l with
  | nil => exact .nil
  | cons i l ih => exact .cons (.int _) ih
theorem l_listRng1 {m : Option Int} {q1 : Pos} (C : Cf X N sc fb K mg P w base k) (h : XE X env a m) (hm : mg "list" = none) (hm2 : mg "range" = none) (hg : glbB sc "list" = true := by decide +kernel) (hg2 : glbB sc "range" = true := by decide +kernel)
    (na : starEach [a] X.env = (false, eval a X.env) :: starEach [] X.env := by rfl) (na2 : starEach [.Call (.Name "range" q1) [a] [] p2] X.env = (false, eval (.Call (.Name "range" q1) [a] [] p2) X.env) :: starEach [] X.env := by rfl) :
    XL X env (.Call (.Name "list" p) [.Call (.Name "range" q1) [a] [] p2] [] pos) (m.bind fun n => rngL 0 n) := by
  cases C with
  | mk nd calm po rm =>
    refine l_of (pe_listRg calm (glbB_ok hg) hm (prg_1 (glbB_ok hg2) hm2 h na) na2) fun W0 W σ E z hz Q q => ?_
    obtain ⟨n, hn, hz⟩ := bind_some hz
    unfold rngL at hz
    split at hz
    · rename_i hr
      cases hz
      unfold tLstRg tRg1
      refine use_x E hn fun v W1 l1 r1 => ?_
      cases r1
      refine ⟨n, rfl, ⟨by omega, by omega, by omega, by omega, by omega⟩, fun p hp => ?_⟩
      exact q p _ ⟨W1.b, upd W1.h p (.lst (rgV 0 n))⟩ (l1.trans (Le.layM l1.ok hp)) (l1.h.free hp) upd_same (l1.ok.free hp) (rgV_eq 0 n)
    · cases hz
/-- sep.join(xs) -/
def joinP (a : Str) (ys : List Str) : Option Str := if (ys.map (·.length)).sum + ys.length * a.length ≤ 16777216 then some (Txt.join a ys) else none
theorem vs_str : ∀ {H : Hp} {vs : List V} {ys : List Str}, RpA K H vs (ys.map em) → vs = ys.map V.str
  | _, _, [], .nil => rfl
  | _, _, _ :: _, .cons r t => by
    cases r
    rw [List.map_cons, vs_str t]
theorem x_join {ma : Option Str} {m : Option (List Str)} (ha : XE X env o ma) (h : XQ X env e m) (hs : ∀ E : Env, starEach [e] E = [(false, eval e E)] := by intro _; rfl)
    (hbase : ∀ E : Env, attributeBase o "join" E (eval o E) = eval o E := by intro _; rfl) (hline : (apos.endLine == pos.line) = true := by rfl) : XE X env (.Call (.Attribute o "join" apos) [e] [] pos) (ma.bind fun x => m.bind fun y => joinP x y) :=
  x_of (pe_join ha h (hs _) (hbase _) hline) fun W0 W σ E z hz Q q => by
    obtain ⟨x, hx, hz⟩ := bind_some hz
    obtain ⟨y, hy, hz⟩ := bind_some hz
    unfold joinP at hz
    split at hz
    · rename_i hl
      cases hz
      refine use_x E hx fun v W1 l1 r1 => ?_
      cases r1
      refine ⟨⟨x, rfl⟩, ?_⟩
      refine use_q (E.mono l1) hy fun a vs W2 l2 s2 r2 => ?_
      have e2 := vs_str r2
      subst e2
      exact ⟨x, a, y, rfl, rfl, .inl s2, hl, q _ W2 (l1.trans l2) (.str _)⟩
    · cases hz
/-- enumerate(text) -/
def enumS (s : Str) : List (Int × Str) := (List.range s.cps.size).zip (signs s) |>.map fun p => ((p.1 : Int), p.2)
theorem enumS_length (s : Str) : (enumS s).length = s.cps.size := by simp [enumS, signs]
theorem w_enumS (C : Cf X N sc fb K mg P w base k) {elts : List Expr} {kk : Nat} {tpos : Pos} {m : Option Str} (h : XE X env e m) (hm : mg "enumerate" = none) (hg : glbB sc "enumerate" = true := by decide +kernel)
    (he : ∀ E : Env, starEach [e] E = (false, eval e E) :: starEach [] E := by intro _; rfl) (hs : ∀ E : Env, starEach [e] E = [(false, eval e E)] := by intro _; rfl) :
    XWk X env (.Tuple elts kk tpos) (.Call (.Name "enumerate" p) [e] [] pos) (m.bind fun s => some (enumS s)) := by
  cases C
  refine piImp (pi_enumS (glbB_ok hg) hm (a_dat h a_nil (he _)) (hs _)) fun σ H R ⟨W0, W, hH, E, x, hx, q⟩ => ?_
  subst hH
  obtain ⟨s, hs, hx⟩ := bind_some hx
  cases hx
  refine use_ax E hs fun v W1 l1 r1 => ?_
  cases r1
  refine ⟨s, rfl, q _ W1 l1 ⟨fun i y W2 hy sb l0 => ?_, fun W2 sb l0 => ?_⟩⟩
  · have hi : i < s.cps.size := by have := (List.getElem?_eq_some_iff.mp hy).1; rwa [enumS_length] at this
    refine ⟨hi, fun v' H' ⟨T, c, e1, hT, e3, e2⟩ => ?_⟩
    subst e1 e3
    have hc : s.cps.toList[i]? = some c := by simpa using e2
    have : y = ((i : Int), (⟨#[c]⟩ : Str)) := by
      have h2 : (enumS s)[i]? = some ((i : Int), (⟨#[c]⟩ : Str)) := by
        unfold enumS signs
        rw [List.getElem?_map, List.zip_eq_zipWith, List.getElem?_zipWith, List.getElem?_range hi, List.getElem?_map, hc]
        rfl
      rw [h2] at hy
      exact (Option.some.inj hy).symm
    subst this
    exact ⟨_, Le.lay l0.ok (o := .tup [.int (i : Nat), .str ⟨#[c]⟩]) hT, rfl, .tup (SqT.of upd_same) (.cons (.int _) (.cons (.str _) .nil))⟩
  · exact enumS_length s
/-! ### isinstance -/
def isD (tn : String) : D → Bool
  | .non => tn == "NoneType"
  | .bl _ => tn == "bool" || tn == "int"
  | .int _ => tn == "int"
  | .str _ => tn == "str"
  | .tup _ => tn == "tuple"
  | .lst _ => tn == "list"
  | .ins _ _ _ => false
def tyD : D → Option String
  | .non => some "NoneType"
  | .bl _ => some "bool"
  | .int _ => some "int"
  | .str _ => some "str"
  | .tup _ => some "tuple"
  | .lst _ => some "list"
  | .ins _ _ _ => none
def isiP (tn : String) (d : D) : Option Bool := (tyD d).map fun _ => isD tn d
theorem tyx_of {H : Hp} {W : Wd} (ok : Same W.b W.h) {v : V} {d : D} {t : String} (r : Rp K W.b v d) (h : tyD d = some t) : TyX K W.h v (.type t) := by
  cases r with
  | non => cases h; exact .base .non
  | bl b => cases h; exact .base (.bl b)
  | int i => cases h; exact .base (.int i)
  | str s => cases h; exact .base (.str s)
  | tup s _ =>
    cases h
    rcases s with (s | ⟨o, s⟩) | ⟨o, its, n, s, hc, _⟩
    · exact .base (.tup (ok _ _ s))
    · exact .fTuple (ok _ _ s)
    · exact .kTuple s hc
  | lst s _ =>
    cases h
    rcases s with (s | ⟨o, s⟩) | ⟨o, its, n, s, hc, _⟩
    · exact .base (.lst (ok _ _ s))
    · exact .base (.frz (ok _ _ s))
    · exact .kList s hc
  | ins _ _ _ => cases h
/-- a built-in type's name as an argument -/
theorem x_isi {m : Option τ} {q1 : Pos} {t : Str} {tn : String} (C : Cf X N sc fb K mg P w base k) (h : XE X env a m) (hk : ∀ U : String, U ∈ ["NoneType", "bool", "int", "str", "tuple", "list"] → kitB U tn = some (match U with
      | "bool" => tn == "bool" || tn == "int"
      | U => tn == U))
    (hm : mg "isinstance" = none) (hm2 : mg t = none) (hv2 : bootBuiltins t = some (.type tn) := by decide +kernel) (hg : glbB sc "isinstance" = true := by decide +kernel) (hg2 : glbB sc t = true := by decide +kernel) (hn2 : t ≠ "__name__" := by decide) (hdb2 : (t == ("__debug__" : Str)) = false := by decide)
    (h1 : ∀ E : Env, starEach [a, .Name t q1] E = (false, eval a E) :: starEach [.Name t q1] E := by intro _; rfl) (h2 : ∀ E : Env, starEach [.Name t q1] E = (false, eval (.Name t q1) E) :: starEach [] E := by intro _; rfl)
    (hpl : ∀ E : Env, (backTo pos (starEach [.Name t q1] E)).any (·.1) = false := by intro _; rfl) :
    XE X env (.Call (.Name "isinstance" p) [a, .Name t q1] [] pos) (m.bind fun x => isiP tn (em x)) := by
  cases C
  refine x_of (pe_callB call_isi (glbB_ok hg) hm (by decide +kernel) (pa_cons h (pa_cons (pe_bltn (v := .ty tn) (glbB_ok hg2) hm2 hv2 rfl hn2 hdb2) pa_nil (h2 _)) (h1 _)) (by decide) (by decide) (h1 _) (hpl _)) fun W0 W σ E z hz Q q => ?_
  obtain ⟨x, hx, hz⟩ := bind_some hz
  refine use_x E hx fun v W1 l1 r1 => ?_
  unfold isiP at hz
  cases ht : tyD (em x) with
  | none => rw [ht] at hz; cases hz
  | some U =>
    rw [ht] at hz
    have hz : isD tn (em x) = z := Option.some.inj hz
    subst hz
    refine ⟨v, .ty tn, .type U, .type tn, isD tn (em x), rfl, .ty tn, tyx_of (H := W1.h) l1.ok r1 ht, kit_ty ?_, q _ W1 l1 (.bl _)⟩
    have mem : U ∈ ["NoneType", "bool", "int", "str", "tuple", "list"] := by
      revert ht
      cases em x <;> intro ht <;> cases ht <;> decide
    rw [hk U mem]
    revert ht
    cases em x <;> intro ht <;> cases ht <;> rfl
end
theorem kit_int : ∀ U : String, U ∈ ["NoneType", "bool", "int", "str", "tuple", "list"] → kitB U "int" = some (match U with
      | "bool" => "int" == "bool" || "int" == "int"
      | U => "int" == U) := by decide +kernel
theorem kit_bool : ∀ U : String, U ∈ ["NoneType", "bool", "int", "str", "tuple", "list"] → kitB U "bool" = some (match U with
      | "bool" => "bool" == "bool" || "bool" == "int"
      | U => "bool" == U) := by decide +kernel
theorem kit_str : ∀ U : String, U ∈ ["NoneType", "bool", "int", "str", "tuple", "list"] → kitB U "str" = some (match U with
      | "bool" => "str" == "bool" || "str" == "int"
      | U => "str" == U) := by decide +kernel
theorem kit_tuple : ∀ U : String, U ∈ ["NoneType", "bool", "int", "str", "tuple", "list"] → kitB U "tuple" = some (match U with
      | "bool" => "tuple" == "bool" || "tuple" == "int"
      | U => "tuple" == U) := by decide +kernel
theorem kit_list : ∀ U : String, U ∈ ["NoneType", "bool", "int", "str", "tuple", "list"] → kitB U "list" = some (match U with
      | "bool" => "list" == "bool" || "list" == "int"
      | U => "list" == U) := by decide +kernel
end T

set_option Elab.async false
set_option linter.all false
set_option maxRecDepth 100000
set_option maxHeartbeats 4000000
namespace T
open PySem PySem.Spec PyProof.Rows L2
variable {τ α β γ δ ρ B S ι : Type}
variable [Tabs]
section
variable {X : Cx} {env env' : List SV} {e a b c tg iter elt o : Expr} {st : Stmt} {es : List Expr} {body rest : List Stmt} {pos p p2 p3 apos : Pos} [Em τ] [Em α] [Em β] [Em γ] {N : List Str} {sc : Scope} {fb : Str → Bool} {K : PySem.W.Frag} {mg : Str → Option Value} {P : Program} {w : World} {base : Heap} {k : Nat}
/-! ### written numbers -/
theorem x_mulCr {ma : Option Int} {c : Int} {j : Nat} (ha : XE X env a ma) (hc : c.natAbs < 18446744073709551616 := by decide) : XE X env (.BinOp a .Mult (.Constant (.int c) j p) pos) (ma.bind fun x => some (x * c)) :=
  (x_mul ha (x_int (i := c))).is (by
    cases ma with
    | none => rfl
    | some x =>
      show mulP x c = some (x * c)
      unfold mulP
      rw [if_pos (Or.inr (by omega))])
theorem x_mulCl {mb : Option Int} {c : Int} {j : Nat} (hb : XE X env b mb) (hc : c.natAbs < 18446744073709551616 := by decide) : XE X env (.BinOp (.Constant (.int c) j p) .Mult b pos) (mb.bind fun x => some (c * x)) :=
  (x_mul (x_int (i := c)) hb).is (by
    cases mb with
    | none => rfl
    | some x =>
      show mulP c x = some (c * x)
      unfold mulP
      rw [if_pos (Or.inl (by omega))])
theorem x_modC {ma : Option Int} {c : Int} {j : Nat} (ha : XE X env a ma) (hc : c ≠ 0 := by decide) : XE X env (.BinOp a .Mod (.Constant (.int c) j p) pos) (ma.bind fun x => some (x.fmod c)) :=
  (x_mod ha (x_int (i := c))).is (by
    cases ma with
    | none => rfl
    | some x =>
      show modP x c = some (x.fmod c)
      unfold modP
      rw [if_neg hc])
theorem x_divC {ma : Option Int} {c : Int} {j : Nat} (ha : XE X env a ma) (hc : c ≠ 0 ∧ c.natAbs < 1073741824 := by decide) : XE X env (.BinOp a .FloorDiv (.Constant (.int c) j p) pos) (ma.bind fun x => some (x.fdiv c)) :=
  (x_div ha (x_int (i := c))).is (by
    cases ma with
    | none => rfl
    | some x =>
      show divP x c = some (x.fdiv c)
      unfold divP
      rw [if_neg hc.1, if_pos hc.2])
theorem x_powC {c d r : Int} {i j : Nat} (hr : powP c d = some r := by decide +kernel) : XE X env (.BinOp (.Constant (.int c) i p) .Pow (.Constant (.int d) j p2) pos) (some r) :=
  (x_pow (x_int (i := c)) (x_int (i := d))).is hr
/-! ### comparisons as tests -/
theorem t_cmp {op : CmpOp} {r : R2} {ma : Option α} {mb : Option β} {f : α → β → Option Bool} (ho : OpR X (compareOp op) r) (ha : XE X env a ma) (hb : XE X env b mb) (hm : behindInMarks op b = false)
    (hr : ∀ x y z, f x y = some z → ∀ (W : Wd) (u v : V), Same W.b W.h → Rp X.K W.b u (em x) → Rp X.K W.b v (em y) → ∀ Q : VK, (∀ v W', Le W W' → Rp X.K W'.b v (em z) → Q v W'.h) → r u v W.h Q) :
    XT X env (.Compare a [op] [b] pos) (ma.bind fun x => mb.bind fun y => f x y) := by
  refine t_of (pt_cmpR ho ha hb hm) fun W0 W σ E z hz Q q => ?_
  obtain ⟨x, hx, hz⟩ := bind_some hz
  obtain ⟨y, hy, hz⟩ := bind_some hz
  unfold tTest L2.tOp
  refine use_x E hx fun u W1 l1 r1 => ?_
  refine use_x (E.mono l1) hy fun v W2 l2 r2 => ?_
  refine hr x y z hz W2 u v l2.ok (r1.mono l2.b) r2 _ fun v' W3 l3 r3 => ?_
  cases r3
  exact ⟨z, rfl, q W3 (l1.trans (l2.trans l3))⟩
theorem t_cmpI {op : CmpOp} {g : Int → Int → Bool} {ma mb : Option Int} (ho : OpR X (compareOp op) (rI0 fun i j => .bl (g i j))) (ha : XE X env a ma) (hb : XE X env b mb) (hm : behindInMarks op b = false) :
    XT X env (.Compare a [op] [b] pos) (ma.bind fun x => mb.bind fun y => some (g x y)) :=
  t_cmp ho ha hb hm fun x y z hz W u v ok ru rv Q q => by
    cases hz
    cases ru; cases rv
    exact ⟨x, y, rfl, rfl, q _ W (Le.refl ok) (.bl _)⟩
theorem t_lt {ma mb : Option Int} (ha : XE X env a ma) (hb : XE X env b mb) : XT X env (.Compare a [.Lt] [b] pos) (ma.bind fun x => mb.bind fun y => some (decide (x < y))) := t_cmpI op_lt ha hb (nomark _)
theorem t_le {ma mb : Option Int} (ha : XE X env a ma) (hb : XE X env b mb) : XT X env (.Compare a [.LtE] [b] pos) (ma.bind fun x => mb.bind fun y => some (decide (x ≤ y))) := t_cmpI op_le ha hb (nomark _)
theorem t_gt {ma mb : Option Int} (ha : XE X env a ma) (hb : XE X env b mb) : XT X env (.Compare a [.Gt] [b] pos) (ma.bind fun x => mb.bind fun y => some (decide (y < x))) := t_cmpI op_gt ha hb (nomark _)
theorem t_ge {ma mb : Option Int} (ha : XE X env a ma) (hb : XE X env b mb) : XT X env (.Compare a [.GtE] [b] pos) (ma.bind fun x => mb.bind fun y => some (decide (y ≤ x))) := t_cmpI op_ge ha hb (nomark _)
theorem t_eq {τ : Type} [Pl τ] {ma mb : Option τ} (ha : XE X env a ma) (hb : XE X env b mb) : XT X env (.Compare a [.Eq] [b] pos) (ma.bind fun x => mb.bind fun y => some (decide (x = y))) :=
  t_cmp op_eq ha hb (nomark _) fun x y z hz W u v ok ru rv Q q => by
    cases hz
    obtain ⟨h1, h2⟩ := Pl.eq ru rv
    refine ⟨h1, ?_⟩
    rw [show decide (u = v) = decide (x = y) from decide_eq_decide.mpr h2]
    exact q _ W (Le.refl ok) (.bl _)
theorem t_ne {τ : Type} [Pl τ] {ma mb : Option τ} (ha : XE X env a ma) (hb : XE X env b mb) : XT X env (.Compare a [.NotEq] [b] pos) (ma.bind fun x => mb.bind fun y => some (!decide (x = y))) :=
  t_cmp op_ne ha hb (nomark _) fun x y z hz W u v ok ru rv Q q => by
    cases hz
    obtain ⟨h1, h2⟩ := Pl.eq ru rv
    refine ⟨h1, ?_⟩
    rw [show decide (u = v) = decide (x = y) from decide_eq_decide.mpr h2]
    exact q _ W (Le.refl ok) (.bl _)
/-- a op b op' c over ints -/
def chI (g g' : Int → Int → Bool) (ma mb mc : Option Int) : Option Bool := ma.bind fun x => mb.bind fun y => if g x y = true then mc.bind fun z => some (g' y z) else some false
theorem x_chI {op op' : CmpOp} {g g' : Int → Int → Bool} {ma mb mc : Option Int} (ho : OpR X (compareOp op) (rI0 fun i j => .bl (g i j))) (ho' : OpR X (compareOp op') (rI0 fun i j => .bl (g' i j))) (ha : XE X env a ma) (hb : XE X env b mb) (hc : XE X env c mc)
    (hm : lastMarks [op, op'] [b, c] = false := by with_unfolding_all rfl) : XE X env (.Compare a [op, op'] [b, c] pos) (chI g g' ma mb mc) := by
  refine x_of (pe_chain ho ho' ha hb hc hm) fun W0 W σ E z hz Q q => ?_
  unfold chI at hz
  obtain ⟨x, hx, hz⟩ := bind_some hz
  obtain ⟨y, hy, hz⟩ := bind_some hz
  unfold tChain
  refine use_x E hx fun u W1 l1 r1 => ?_
  refine use_x (E.mono l1) hy fun v W2 l2 r2 => ?_
  cases r1; cases r2
  refine ⟨x, y, rfl, rfl, g x y, rfl, ?_⟩
  by_cases hg : g x y = true
  · rw [if_pos hg] at hz ⊢
    obtain ⟨t, ht, hz⟩ := bind_some hz
    cases hz
    refine use_x ((E.mono l1).mono l2) ht fun v W3 l3 r3 => ?_
    cases r3
    exact ⟨y, t, rfl, rfl, q _ W3 (l1.trans (l2.trans l3)) (.bl _)⟩
  · rw [if_neg hg] at hz ⊢
    cases hz
    exact q _ W2 (l1.trans l2) (.bl _)
theorem t_chI {op op' : CmpOp} {g g' : Int → Int → Bool} {ma mb mc : Option Int} (ho : OpR X (compareOp op) (rI0 fun i j => .bl (g i j))) (ho' : OpR X (compareOp op') (rI0 fun i j => .bl (g' i j))) (ha : XE X env a ma) (hb : XE X env b mb) (hc : XE X env c mc)
    (hm : lastMarks [op, op'] [b, c] = false := by with_unfolding_all rfl) : XT X env (.Compare a [op, op'] [b, c] pos) (chI g g' ma mb mc) := by
  refine t_of (pt_chain ho ho' ha hb hc hm) fun W0 W σ E z hz Q q => ?_
  unfold chI at hz
  obtain ⟨x, hx, hz⟩ := bind_some hz
  obtain ⟨y, hy, hz⟩ := bind_some hz
  unfold tTest tChain
  refine use_x E hx fun u W1 l1 r1 => ?_
  refine use_x (E.mono l1) hy fun v W2 l2 r2 => ?_
  cases r1; cases r2
  refine ⟨x, y, rfl, rfl, g x y, rfl, ?_⟩
  by_cases hg : g x y = true
  · rw [if_pos hg] at hz ⊢
    obtain ⟨t, ht, hz⟩ := bind_some hz
    cases hz
    refine use_x ((E.mono l1).mono l2) ht fun v W3 l3 r3 => ?_
    cases r3
    exact ⟨y, t, rfl, rfl, _, rfl, q W3 (l1.trans (l2.trans l3))⟩
  · rw [if_neg hg] at hz ⊢
    cases hz
    exact ⟨_, rfl, q W2 (l1.trans l2)⟩
theorem x_neg {m : Option Int} (h : XE X env a m) : XE X env (.UnaryOp .USub a pos) (m.bind fun i => some (-i)) :=
  x_of (pe_un un_neg h) fun W0 W σ E z hz Q q => by
    obtain ⟨x, hx, hz⟩ := bind_some hz
    cases hz
    refine use_x E hx fun u W1 l1 r1 => ?_
    cases r1
    exact ⟨x, rfl, q _ W1 l1 (.int _)⟩
/-- -3, written -/
theorem x_negL {i r : Int} {j : Nat} (h : -i = r := by rfl) : XE X env (.UnaryOp .USub (.Constant (.int i) j p) pos) (some r) := (x_neg x_int).is (by subst h; rfl)
/-! ### the slots of a block's own names -/
theorem own0 {Q : Nat → Prop} : ∀ i ∈ ([] : List (Str × Nat)).map (·.2), Q i := fun i h => by cases h
theorem ownS {Q : Nat → Prop} {n : Str} {j : Nat} {l : List (Str × Nat)} (h : Q j) (t : ∀ i ∈ l.map (·.2), Q i) : ∀ i ∈ ((n, j) :: l).map (·.2), Q i := fun i q => by
  rw [List.map_cons] at q
  rcases List.mem_cons.mp q with e | e
  · rw [e]; exact h
  · exact t i e
theorem is0 {Q : Nat → Prop} : ∀ i ∈ ([] : List Nat), Q i := fun i h => by cases h
theorem isS {Q : Nat → Prop} {j : Nat} {l : List Nat} (h : Q j) (t : ∀ i ∈ l, Q i) : ∀ i ∈ j :: l, Q i := fun i q => by
  rcases List.mem_cons.mp q with e | e
  · rw [e]; exact h
  · exact t i e
/-! ### a def as it stands at the top -/
structure Df (P : Program) (w : World) (K : PySem.W.Frag) (mg : Str → Option Value) (base : Heap) (j : Nat) (x : Str) (f : Addr) (fd : FuncData) (ps : List Str) (sp : Sp) : Prop where
  ok : FnOk P w K mg base CX0 j f fd ps sp
  mg : mg x = some (.ref f)
  kp : PySem.W.keepIn K (.ref f) = true
  bd : Binds K fd ps []
theorem x_callD {A : Type} {svs : A → List SV} {m : A → Option τ} {ma : Option A} {x : Str} {f : Addr} {fd : FuncData} {ps : List Str} {j : Nat} (C : Cf X N sc fb K mg P w base k) (G : Df P w K mg base j x f fd ps (spF K svs m fun x => .dat (em x)))
    (ha : XA X env (e :: es) ma svs) (hj : j ≤ k := by decide) (hg : glbB sc x = true := by decide +kernel)
    (hdb : (x == ("__debug__" : Str)) = false := by decide) (he : starEach (e :: es) X.env = (false, eval e X.env) :: starEach es X.env := by rfl) (hpl : (backTo pos (starEach es X.env)).any (·.1) = false := by rfl) :
    XE X env (.Call (.Name x p) (e :: es) [] pos) (ma.bind m) := x_call C G.ok G.mg G.kp G.bd ha hj hg hdb he hpl
theorem l_callD {A : Type} {svs : A → List SV} {m : A → Option (List τ)} {ma : Option A} {x : Str} {f : Addr} {fd : FuncData} {ps : List Str} {j : Nat} (C : Cf X N sc fb K mg P w base k) (G : Df P w K mg base j x f fd ps (spF K svs m fun x => .own (x.map em)))
    (ha : XA X env (e :: es) ma svs) (hj : j ≤ k := by decide) (hg : glbB sc x = true := by decide +kernel)
    (hdb : (x == ("__debug__" : Str)) = false := by decide) (he : starEach (e :: es) X.env = (false, eval e X.env) :: starEach es X.env := by rfl) (hpl : (backTo pos (starEach es X.env)).any (·.1) = false := by rfl) :
    XL X env (.Call (.Name x p) (e :: es) [] pos) (ma.bind m) := l_call C G.ok G.mg G.kp G.bd ha hj hg hdb he hpl
end
theorem hzD {K : PySem.W.Frag} {res : ρ → RV} : ∀ r W0 B D, ZRn K res r W0 B D → ZR K res r W0 B D := fun _ _ _ _ z => z.1
theorem hzO {K : PySem.W.Frag} {res : ρ → RV} {r : ρ} : ∀ W0 B D, ZRn K res r W0 B D → ZR K res r W0 B D := fun _ _ _ z => z.1
theorem hzI {K : PySem.W.Frag} {res : ρ → RV} : ∀ r W0 B D, ZR K res r W0 B D → ZR K res r W0 B D := fun _ _ _ _ z => z
/-! ### the law's own end -/
def spLaw (K : PySem.W.Frag) : Sp := fun vs H Q _ => ∃ (a : Addr) (ns : List Int), vs = [.ref a] ∧ SqL K H a (ns.map V.int) ∧ ns.length ≤ 63 ∧ (∀ P, Tabs.tab P → GxR.TabG H P) ∧ ∀ H', Q (.bl true) H'
theorem ints_rp {K : PySem.W.Frag} {H : Hp} : ∀ ns : List Int, RpA K H (ns.map V.int) (ns.map em)
  | [] => .nil
  | n :: ns => .cons (.int n) (ints_rp ns)
theorem law_ok {P : Program} {w : World} {K : PySem.W.Frag} {mg : Str → Option Value} {base : Heap} {k : Nat} {f : Addr} {fd : FuncData} {m : List Int × Unit → Option Bool}
    (G : FnOk P w K mg base CX0 k f fd ["script"] (spF K (fun a : List Int × Unit => [.bor (a.1.map em)]) m fun x => .dat (em x))) (hm : ∀ ns : List Int, ns.length ≤ 63 → m (ns, ()) = some true) : FnOk P w K mg base CX0 k f fd ["script"] (spLaw K) := by
  refine G.imp fun vs H Q E h => ?_
  obtain ⟨a, ns, rfl, hS, hl, ht, q⟩ := h
  exact ⟨⟨fun _ => none, H⟩, (ns, ()), true, rfl, (fun _ _ h => by cases h), (fun P hP => ⟨ht P hP, rfl⟩), .bor hS (ints_rp ns) .nil, hm ns hl, fun v W' l r => by cases r; exact q _⟩
theorem law_walk {l : PySem.W.OpenLaw} {k : Nat} {q : Program} {loose : List Str} {XP : (Str → Option Value) → Heap → Prop} {YP : World → Heap → Prop} {d : DefRec} {K : Params → PySem.W.Frag} (hn : l.most = some 63) (hdf : d.params.defaults = [])
    (hY : ∀ (w : World) (h : Heap), YP w h → (K w.params).In h) (hk : Room k callerA) (no : ∀ P, ¬ Tabs.tab P)
    (F : ∀ (w : World) (mg : Str → Option Value) (fa : Addr) (h : Heap), (K w.params).In h → h.Ns mainGlobals mg → mg d.name = some (.ref fa) →
      ∃ fd : FuncData, (∀ (s : Shared) (u : Value), BindsTo s fd ⟨[u], []⟩ [("script", u)]) ∧ ∀ base : Heap, (K w.params).In base → base.Ns mainGlobals mg → FnOk l.prog w (K w.params) mg base CX0 k fa fd ["script"] (spLaw (K w.params))) :
    PySem.W.WalkO q loose XP YP l.row.toRowW d [] (fun f vs => PySem.call f vs) :=
  L2.walk_of (n := 63) (k := k) (x := "script") (CX := fun _ => CX0) (sp := fun w => spLaw (K w.params)) hn (by decide) hdf hk hY F (fun _ _ a ns hl _ hS => ⟨a, ns, rfl, hS, hl, fun P hP => absurd hP (no P), fun _ => rfl⟩) fun _ _ _ _ _ z => z
end T

set_option Elab.async false
set_option linter.all false
set_option maxRecDepth 100000
set_option maxHeartbeats 4000000
/-! TData: values of any kind (D), sequences, membership, lists that are multiplied or grow within, defs that call themselves. -/
namespace T
open PySem PySem.Spec PyProof.Rows L2
variable {τ α β γ δ ρ B S ι : Type}
variable [Tabs]
section
variable {X : Cx} {env env' : List SV} {e a b c tg iter elt o : Expr} {st : Stmt} {es : List Expr} {body rest : List Stmt} {pos p p2 p3 apos : Pos} [Em τ] [Em α] [Em β] [Em γ] {N : List Str} {sc : Scope} {fb : Str → Bool} {K : PySem.W.Frag} {mg : Str → Option Value} {P : Program} {w : World} {base : Heap} {k : Nat}
variable {Z : ρ → Wd → Hp → Ends → Prop}
/-! ### data of any kind -/
def isN : D → Bool
  | .non => true
  | _ => false
def lenD : D → Option Int
  | .tup l => some l.length
  | .lst l => some l.length
  | .str s => if sz s.length then some (s.length : Int) else none
  | _ => none
/-- == of two plain values of one kind -/
def eqD : D → D → Option Bool
  | .bl x, .bl y => some (decide (x = y))
  | .int x, .int y => some (decide (x = y))
  | .str x, .str y => some (decide (x = y))
  | _, _ => none
def itsD : D → Option (List D)
  | .tup l => some l
  | .lst l => some l
  | _ => none
def zipD : D → D → Option (List (D × D))
  | .tup l, .tup m => some (l.zip m)
  | .lst l, .lst m => some (l.zip m)
  | _, _ => none
theorem map_em (l : List D) : l.map em = l := by induction l with
  | nil => rfl
  | cons x l ih => rw [List.map_cons, ih]; rfl
theorem isN_rp {K : PySem.W.Frag} {H : Hp} {v : V} {d : D} (r : Rp K H v d) : decide (v = .non) = isN d := by
  cases r <;> rfl
theorem x_isN {m : Option τ} {j : Nat} (h : XE X env a m) : XE X env (.Compare a [.Is] [.Constant .none j p] pos) (m.bind fun x => some (isN (em x))) :=
  (x_cmp (b := .Constant .none j p) (ma := m) (mb := some ()) (f := fun x _ => some (isN (em x))) op_isN h x_non (nomark _) fun x y z hz W u v ok ru rv Q q => by
    cases hz
    cases rv
    refine ⟨rfl, ?_⟩
    rw [isN_rp ru]
    exact q _ W (Le.refl ok) (.bl _)).is (by cases m <;> rfl)
theorem t_isN {m : Option τ} {j : Nat} (h : XE X env a m) : XT X env (.Compare a [.Is] [.Constant .none j p] pos) (m.bind fun x => some (isN (em x))) :=
  (t_cmp (b := .Constant .none j p) (ma := m) (mb := some ()) (f := fun x _ => some (isN (em x))) op_isN h x_non (nomark _) fun x y z hz W u v ok ru rv Q q => by
    cases hz
    cases rv
    refine ⟨rfl, ?_⟩
    rw [isN_rp ru]
    exact q _ W (Le.refl ok) (.bl _)).is (by cases m <;> rfl)
theorem x_notN {m : Option τ} {j : Nat} (h : XE X env a m) : XE X env (.Compare a [.IsNot] [.Constant .none j p] pos) (m.bind fun x => some (!isN (em x))) :=
  (x_cmp (b := .Constant .none j p) (ma := m) (mb := some ()) (f := fun x _ => some (!isN (em x))) op_notN h x_non (nomark _) fun x y z hz W u v ok ru rv Q q => by
    cases hz
    cases rv
    refine ⟨rfl, ?_⟩
    rw [isN_rp ru]
    exact q _ W (Le.refl ok) (.bl _)).is (by cases m <;> rfl)
theorem t_notN {m : Option τ} {j : Nat} (h : XE X env a m) : XT X env (.Compare a [.IsNot] [.Constant .none j p] pos) (m.bind fun x => some (!isN (em x))) :=
  (t_cmp (b := .Constant .none j p) (ma := m) (mb := some ()) (f := fun x _ => some (!isN (em x))) op_notN h x_non (nomark _) fun x y z hz W u v ok ru rv Q q => by
    cases hz
    cases rv
    refine ⟨rfl, ?_⟩
    rw [isN_rp ru]
    exact q _ W (Le.refl ok) (.bl _)).is (by cases m <;> rfl)
theorem eqD_rp {K : PySem.W.Frag} {H : Hp} {u v : V} {d e : D} {z : Bool} (r : Rp K H u d) (q : Rp K H v e) (h : eqD d e = some z) : scal u v = true ∧ decide (u = v) = z := by
  cases r <;> cases q <;> first
    | (cases h; done)
    | (cases h; exact ⟨rfl, by simp⟩)
theorem x_eqD {ma mb : Option D} (ha : XE X env a ma) (hb : XE X env b mb) : XE X env (.Compare a [.Eq] [b] pos) (ma.bind fun x => mb.bind fun y => eqD x y) :=
  x_cmp op_eq ha hb (nomark _) fun x y z hz W u v ok ru rv Q q => by
    obtain ⟨h1, h2⟩ := eqD_rp ru rv hz
    refine ⟨h1, ?_⟩
    rw [h2]
    exact q _ W (Le.refl ok) (.bl _)
theorem t_eqD {ma mb : Option D} (ha : XE X env a ma) (hb : XE X env b mb) : XT X env (.Compare a [.Eq] [b] pos) (ma.bind fun x => mb.bind fun y => eqD x y) :=
  t_cmp op_eq ha hb (nomark _) fun x y z hz W u v ok ru rv Q q => by
    obtain ⟨h1, h2⟩ := eqD_rp ru rv hz
    refine ⟨h1, ?_⟩
    rw [h2]
    exact q _ W (Le.refl ok) (.bl _)
theorem x_lenD {m : Option D} (C : Cf X N sc fb K mg P w base k) (h : XE X env e m) (hm : mg "len" = none) (hg : glbB sc "len" = true := by decide +kernel)
    (he : ∀ E : Env, starEach [e] E = (false, eval e E) :: starEach [] E := by intro _; rfl) : XE X env (.Call (.Name "len" p) [e] [] pos) (m.bind lenD) :=
  x_cB1 C call_len h (fun d y hy W v ok r Q q => by
    have r : Rp X.K W.b v d := r
    cases r with
    | @tup a vs _ s t =>
      cases hy
      refine ⟨_, vs.length, rfl, .inr ⟨vs, same_t ok s, rfl⟩, ?_⟩
      rw [t.length]
      exact q _ W (Le.refl ok) (.int _)
    | @lst a vs _ s t =>
      cases hy
      refine ⟨_, vs.length, rfl, .inl ⟨vs, ok.seq s, rfl⟩, ?_⟩
      rw [t.length]
      exact q _ W (Le.refl ok) (.int _)
    | str s =>
      have hy : (if sz s.length then some (s.length : Int) else none) = some y := hy
      split at hy
      · rename_i hz
        cases hy
        exact ⟨_, s.length, rfl, ⟨Nat.le_of_lt (sz_line hz), rfl⟩, q _ W (Le.refl ok) (.int _)⟩
      · cases hy
    | _ => cases hy) hm PySem.boot_len hg (by decide) (by decide) he
/-! ### zip of tuples, of data -/
theorem walk_zipL {W0 W1 : Wd} {u v : Addr} {xs : List α} {ys : List β} {vs us : List V} (s1 : ∀ W : Wd, Same W1.b W.b → Le W0 W → SqL K W.h u vs) (s2 : ∀ W : Wd, Same W1.b W.b → Le W0 W → SqL K W.h v us) (r1 : RpA K W1.b vs (xs.map em)) (r2 : RpA K W1.b us (ys.map em)) : Walk K W0 W1 (Itz K u v) (xs.zip ys) where
  item := fun i y W2 hy sb l0 => by
    obtain ⟨x1, x2⟩ := y
    rw [List.zip_eq_zipWith, List.getElem?_zipWith] at hy
    cases h1 : xs[i]? with
    | none => rw [h1] at hy; simp at hy
    | some z1 =>
      cases h2 : ys[i]? with
      | none => rw [h1, h2] at hy; simp at hy
      | some z2 =>
        rw [h1, h2] at hy
        obtain ⟨rfl, rfl⟩ : z1 = x1 ∧ z2 = x2 := by simpa using hy
        obtain ⟨v1, e1, q1⟩ := r1.get (show (xs.map em)[i]? = some (em z1) by rw [List.getElem?_map, h1]; rfl)
        obtain ⟨v2, e2, q2⟩ := r2.get (show (ys.map em)[i]? = some (em z2) by rw [List.getElem?_map, h2]; rfl)
        have t1 := s1 W2 sb l0
        have t2 := s2 W2 sb l0
        refine ⟨⟨vs, us, v1, v2, t1, t2, e1, e2⟩, fun v' H' ⟨T', x, y, e3, hT, e4, h5, h6⟩ => ?_⟩
        subst e3 e4
        have g1 := h5 _ t1
        have g2 := h6 _ t2
        rw [e1] at g1
        rw [e2] at g2
        cases g1; cases g2
        exact ⟨_, Le.lay l0.ok (o := .tup [v1, v2]) hT, rfl, .tup (SqT.of upd_same) (.cons ((q1.mono sb).mono (Same.new (l0.ok.free hT))) (.cons ((q2.mono sb).mono (Same.new (l0.ok.free hT))) .nil))⟩
  stop := fun W2 sb l0 => by
    refine ⟨vs, us, s1 W2 sb l0, s2 W2 sb l0, ?_⟩
    have h1 := r1.length
    have h2 := r2.length
    rw [List.length_map] at h1 h2
    rw [List.length_zip, h1, h2]
    omega
theorem walk_zipT {W0 W1 : Wd} {u v : Addr} {xs : List α} {ys : List β} {vs us : List V} (s1 : ∀ W : Wd, Same W1.b W.b → Le W0 W → SqT K W.h u vs) (s2 : ∀ W : Wd, Same W1.b W.b → Le W0 W → SqT K W.h v us) (r1 : RpA K W1.b vs (xs.map em)) (r2 : RpA K W1.b us (ys.map em)) : Walk K W0 W1 (RZ.ItzT K u v) (xs.zip ys) where
  item := fun i y W2 hy sb l0 => by
    obtain ⟨x1, x2⟩ := y
    rw [List.zip_eq_zipWith, List.getElem?_zipWith] at hy
    cases h1 : xs[i]? with
    | none => rw [h1] at hy; simp at hy
    | some z1 =>
      cases h2 : ys[i]? with
      | none => rw [h1, h2] at hy; simp at hy
      | some z2 =>
        rw [h1, h2] at hy
        obtain ⟨rfl, rfl⟩ : z1 = x1 ∧ z2 = x2 := by simpa using hy
        obtain ⟨v1, e1, q1⟩ := r1.get (show (xs.map em)[i]? = some (em z1) by rw [List.getElem?_map, h1]; rfl)
        obtain ⟨v2, e2, q2⟩ := r2.get (show (ys.map em)[i]? = some (em z2) by rw [List.getElem?_map, h2]; rfl)
        have t1 := s1 W2 sb l0
        have t2 := s2 W2 sb l0
        refine ⟨⟨vs, us, v1, v2, t1, t2, e1, e2⟩, fun v' H' ⟨T', x, y, e3, hT, e4, h5, h6⟩ => ?_⟩
        subst e3 e4
        have g1 := h5 _ t1
        have g2 := h6 _ t2
        rw [e1] at g1
        rw [e2] at g2
        cases g1; cases g2
        exact ⟨_, Le.lay l0.ok (o := .tup [v1, v2]) hT, rfl, .tup (SqT.of upd_same) (.cons ((q1.mono sb).mono (Same.new (l0.ok.free hT))) (.cons ((q2.mono sb).mono (Same.new (l0.ok.free hT))) .nil))⟩
  stop := fun W2 sb l0 => by
    refine ⟨vs, us, s1 W2 sb l0, s2 W2 sb l0, ?_⟩
    have h1 := r1.length
    have h2 := r2.length
    rw [List.length_map] at h1 h2
    rw [List.length_zip, h1, h2]
    omega
theorem w_zipD (C : Cf X N sc fb K mg P w base k) {elts : List Expr} {kk : Nat} {tpos : Pos} {ma mb : Option D} (h : XE X env a ma) (h' : XE X env b mb) (hm : mg "zip" = none) (hg : glbB sc "zip" = true := by decide +kernel)
    (h1 : starEach [a, b] X.env = (false, eval a X.env) :: starEach [b] X.env := by rfl) (h2 : starEach [b] X.env = (false, eval b X.env) :: starEach [] X.env := by rfl) (hpl : (backTo pos (starEach [b] X.env)).any (·.1) = false := by rfl) :
    XWk X env (.Tuple elts kk tpos) (.Call (.Name "zip" p) [a, b] [] pos) (ma.bind fun x => mb.bind fun y => zipD x y) := by
  cases C
  refine piImp (RZ.pi_zipA (glbB_ok hg) hm (a_dat h (a_dat h' a_nil h2) h1) h1 hpl) fun σ H R ⟨W0, W, hH, E, x, hx, q⟩ => ?_
  subst hH
  obtain ⟨xs, hxs, hx⟩ := bind_some hx
  obtain ⟨ys, hys, hx⟩ := bind_some hx
  refine use_a E (x := (xs, ys, ())) (by rw [hxs, hys]; rfl) fun vs W1 l1 r1 => ?_
  cases r1 with
  | dat r1 r2 =>
    cases r2 with
    | dat r2 r3 =>
      cases r3
      have r1 : Rp X.K W1.b _ xs := r1
      have r2 : Rp X.K W1.b _ ys := r2
      cases r1 with
      | tup s1 t1 =>
        cases r2 with
        | tup s2 t2 =>
          cases hx
          exact ⟨_, _, _, _, rfl, .inr ⟨same_t l1.ok s1, same_t l1.ok s2, q _ W1 l1 (walk_zipT (fun W sb l => same_t l.ok (same_t sb s1)) (fun W sb l => same_t l.ok (same_t sb s2)) (by rw [map_em]; exact t1) (by rw [map_em]; exact t2))⟩⟩
        | _ => cases hx
      | lst s1 t1 =>
        cases r2 with
        | lst s2 t2 =>
          cases hx
          exact ⟨_, _, _, _, rfl, .inl ⟨l1.ok.seq s1, l1.ok.seq s2, q _ W1 l1 (walk_zipL (fun W sb l => l.ok.seq (sb.seq s1)) (fun W sb l => l.ok.seq (sb.seq s2)) (by rw [map_em]; exact t1) (by rw [map_em]; exact t2))⟩⟩
        | _ => cases hx
      | _ => cases hx
/-- two lists that are borrowed -/
theorem w_zipB (C : Cf X N sc fb K mg P w base k) (i j : Nat) {n m : Str} {p1 p2 : Pos} {elts : List Expr} {kk : Nat} {tpos : Pos} {xs : List α} {ys : List β} (hm : mg "zip" = none) (hi : env[i]? = some (.bor (xs.map em)) := by rfl) (hj : env[j]? = some (.bor (ys.map em)) := by rfl)
    (hni : N[i]? = some n := by rfl) (hv : visB sc n = true := by decide +kernel) (hd : (n == ("__debug__" : Str)) = false := by decide) (hcd : (n == ("__classdict__" : Str)) = false := by decide)
    (hnj : N[j]? = some m := by rfl) (hv' : visB sc m = true := by decide +kernel) (hd' : (m == ("__debug__" : Str)) = false := by decide) (hcd' : (m == ("__classdict__" : Str)) = false := by decide)
    (hg : glbB sc "zip" = true := by decide +kernel)
    (h1 : ∀ E : Env, starEach [.Name n p1, .Name m p2] E = (false, eval (.Name n p1) E) :: starEach [.Name m p2] E := by intro _; rfl) (h2 : ∀ E : Env, starEach [.Name m p2] E = (false, eval (.Name m p2) E) :: starEach [] E := by intro _; rfl) (hpl : ∀ E : Env, (backTo pos (starEach [.Name m p2] E)).any (·.1) = false := by intro _; rfl) :
    XWk X env (.Tuple elts kk tpos) (.Call (.Name "zip" p) [.Name n p1, .Name m p2] [] pos) (some (xs.zip ys)) := by
  cases C
  refine piImp (RZ.pi_zipA (glbB_ok hg) hm (pa_cons (pe_var hni (visB_ok hv) hd hcd) (pa_cons (pe_var hnj (visB_ok hv') hd' hcd') pa_nil (h2 _)) (h1 _)) (h1 _) (hpl _)) fun σ H R ⟨W0, W, hH, E, x, hx, q⟩ => ?_
  subst hH
  cases hx
  obtain ⟨o1, f1, u, vs, e1, s1, t1⟩ := E.slot i _ hi
  obtain ⟨o2, f2, v, us, e2, s2, t2⟩ := E.slot j _ hj
  subst e1
  subst e2
  refine ⟨_, f1, _, f2, _, _, _, _, rfl, .inl ⟨E.le.h.seq s1, E.le.h.seq s2, q _ W (Le.refl E.ok) (walk_zipL (fun W sb l => l.h.seq s1) (fun W sb l => l.h.seq s2) (t1.mono E.le.b) (t2.mono E.le.b))⟩⟩
/-! ### in, not in: items of one plain kind -/
theorem Pl.flat [Pl τ] {K : PySem.W.Frag} {H : Hp} {v : V} {x : τ} (h : ∀ x : τ, (∃ i, em x = .int i) ∨ (∃ i, em x = .bl i) ∨ ∃ i, em x = .str i) (r : Rp K H v (em x)) : flatV v = true := by
  rcases h x with ⟨i, e⟩ | ⟨i, e⟩ | ⟨i, e⟩
  all_goals
    rw [e] at r
    cases r
    rfl
class Fl1 (τ : Type) [Pl τ] : Prop where
  fl : ∀ x : τ, (∃ i, em x = .int i) ∨ (∃ i, em x = .bl i) ∨ ∃ i, em x = .str i
  eqv : ∀ [Tabs] {K : PySem.W.Frag} {H : Hp} {x y : τ} {u v : V}, Rp K H u (em x) → Rp K H v (em y) → eqV u v = decide (x = y)
instance : Fl1 Int := ⟨fun x => .inl ⟨x, rfl⟩, fun r q => by cases r; cases q; rfl⟩
instance : Fl1 Bool := ⟨fun x => .inr (.inl ⟨x, rfl⟩), fun {_ _ _ x y _ _} r q => by cases r; cases q; cases x <;> cases y <;> rfl⟩
instance : Fl1 Str := ⟨fun x => .inr (.inr ⟨x, rfl⟩), fun {_ _ _ x y _ _} r q => by cases r; cases q; show (x == y) = _; rfl⟩
def memB [Pl τ] (x : τ) (ys : List τ) : Bool := ys.any fun y => decide (y = x)
theorem memB_iff [Pl τ] {x : τ} {ys : List τ} : memB x ys = true ↔ x ∈ ys := by
  unfold memB
  simp
theorem inV_rp {τ : Type} [Pl τ] [Fl1 τ] {K : PySem.W.Frag} {H : Hp} {u : V} {x : τ} (r : Rp K H u (em x)) : ∀ {vs : List V} {ys : List τ}, RpA K H vs (ys.map em) → vs.all flatV = true ∧ inV u vs = memB x ys
  | [], [], .nil => ⟨rfl, rfl⟩
  | v :: vs, y :: ys, .cons q t => by
    obtain ⟨h1, h2⟩ := inV_rp r t
    refine ⟨by rw [List.all_cons, Pl.flat Fl1.fl q, h1]; rfl, ?_⟩
    unfold inV memB at h2 ⊢
    rw [List.any_cons, List.any_cons, h2, Fl1.eqv q r]
section
variable {τ : Type} [Pl τ] [Fl1 τ]
theorem q_in {neg : Bool} {op : CmpOp} (ho : OpR X (compareOp op) (rIn X.K neg)) {ma : Option τ} {mb : Option (List τ)} (ha : XE X env a ma) (hb : XQ X env b mb) (hmk : behindInMarks op b = false) :
    PE X (.Compare a [op] [b] pos) (fun σ H Q => ∃ W0 W : Wd, W.h = H ∧ EnvR X.K W0 W env σ ∧ ∃ x ys, ma = some x ∧ mb = some ys ∧ ∀ W', Le W W' → Q (.bl (if neg then !memB x ys else memB x ys)) W'.h) ∧
    PT X (.Compare a [op] [b] pos) (fun σ H Q => ∃ W0 W : Wd, W.h = H ∧ EnvR X.K W0 W env σ ∧ ∃ x ys, ma = some x ∧ mb = some ys ∧ ∀ W', Le W W' → Q (if neg then !memB x ys else memB x ys) W'.h) := by
  refine ⟨peImp (pe_cmpR ho ha hb hmk) fun σ H Q ⟨W0, W, hH, E, x, ys, hx, hy, q⟩ => ?_, ptImp (pt_cmpR ho ha hb hmk) fun σ H Q ⟨W0, W, hH, E, x, ys, hx, hy, q⟩ => ?_⟩
  · subst hH
    refine use_x E hx fun u W1 l1 r1 => ?_
    refine use_q (E.mono l1) hy fun ad vs W2 l2 s2 r2 => ?_
    obtain ⟨h1, h2⟩ := inV_rp (r1.mono l2.b) r2
    refine ⟨ad, vs, rfl, .inl s2, Pl.flat Fl1.fl r1, h1, ?_⟩
    rw [h2]
    exact q W2 (l1.trans l2)
  · subst hH
    unfold tTest L2.tOp
    refine use_x E hx fun u W1 l1 r1 => ?_
    refine use_q (E.mono l1) hy fun ad vs W2 l2 s2 r2 => ?_
    obtain ⟨h1, h2⟩ := inV_rp (r1.mono l2.b) r2
    refine ⟨ad, vs, rfl, .inl s2, Pl.flat Fl1.fl r1, h1, ?_⟩
    rw [h2]
    exact ⟨_, rfl, q W2 (l1.trans l2)⟩
theorem v_in {neg : Bool} {op : CmpOp} (ho : OpR X (compareOp op) (rIn X.K neg)) {ma : Option τ} {mb : Option (Vt τ)} (ha : XE X env a ma) (hb : XE X env b mb) (hmk : behindInMarks op b = false) :
    PE X (.Compare a [op] [b] pos) (fun σ H Q => ∃ W0 W : Wd, W.h = H ∧ EnvR X.K W0 W env σ ∧ ∃ x ys, ma = some x ∧ mb = some ys ∧ ∀ W', Le W W' → Q (.bl (if neg then !memB x ys.l else memB x ys.l)) W'.h) ∧
    PT X (.Compare a [op] [b] pos) (fun σ H Q => ∃ W0 W : Wd, W.h = H ∧ EnvR X.K W0 W env σ ∧ ∃ x ys, ma = some x ∧ mb = some ys ∧ ∀ W', Le W W' → Q (if neg then !memB x ys.l else memB x ys.l) W'.h) := by
  refine ⟨peImp (pe_cmpR ho ha hb hmk) fun σ H Q ⟨W0, W, hH, E, x, ys, hx, hy, q⟩ => ?_, ptImp (pt_cmpR ho ha hb hmk) fun σ H Q ⟨W0, W, hH, E, x, ys, hx, hy, q⟩ => ?_⟩
  · subst hH
    refine use_x E hx fun u W1 l1 r1 => ?_
    refine use_x (E.mono l1) hy fun v W2 l2 r2 => ?_
    have r2 : Rp X.K W2.b v (.tup (ys.l.map em)) := r2
    cases r2 with
    | tup s2 r2 =>
      obtain ⟨h1, h2⟩ := inV_rp (r1.mono l2.b) r2
      refine ⟨_, _, rfl, .inr (same_t l2.ok s2), Pl.flat Fl1.fl r1, h1, ?_⟩
      rw [h2]
      exact q W2 (l1.trans l2)
  · subst hH
    unfold tTest L2.tOp
    refine use_x E hx fun u W1 l1 r1 => ?_
    refine use_x (E.mono l1) hy fun v W2 l2 r2 => ?_
    have r2 : Rp X.K W2.b v (.tup (ys.l.map em)) := r2
    cases r2 with
    | tup s2 r2 =>
      obtain ⟨h1, h2⟩ := inV_rp (r1.mono l2.b) r2
      refine ⟨_, _, rfl, .inr (same_t l2.ok s2), Pl.flat Fl1.fl r1, h1, ?_⟩
      rw [h2]
      exact ⟨_, rfl, q W2 (l1.trans l2)⟩
theorem x_inQ {ma : Option τ} {mb : Option (List τ)} (ha : XE X env a ma) (hb : XQ X env b mb) (hmk : behindInMarks .In b = false := by rfl) : XE X env (.Compare a [.In] [b] pos) (ma.bind fun x => mb.bind fun y => some (memB x y)) :=
  x_of (q_in op_in_seq ha hb hmk).1 fun W0 W σ E z hz Q q => by
    obtain ⟨x, hx, hz⟩ := bind_some hz
    obtain ⟨y, hy, hz⟩ := bind_some hz
    cases hz
    exact ⟨W0, W, rfl, E, x, y, hx, hy, fun W' l => q _ W' l (.bl _)⟩
theorem t_inQ {ma : Option τ} {mb : Option (List τ)} (ha : XE X env a ma) (hb : XQ X env b mb) (hmk : behindInMarks .In b = false := by rfl) : XT X env (.Compare a [.In] [b] pos) (ma.bind fun x => mb.bind fun y => some (memB x y)) :=
  t_of (q_in op_in_seq ha hb hmk).2 fun W0 W σ E z hz Q q => by
    obtain ⟨x, hx, hz⟩ := bind_some hz
    obtain ⟨y, hy, hz⟩ := bind_some hz
    cases hz
    exact ⟨W0, W, rfl, E, x, y, hx, hy, q⟩
theorem x_ninQ {ma : Option τ} {mb : Option (List τ)} (ha : XE X env a ma) (hb : XQ X env b mb) (hmk : behindInMarks .NotIn b = false := by rfl) : XE X env (.Compare a [.NotIn] [b] pos) (ma.bind fun x => mb.bind fun y => some (!memB x y)) :=
  x_of (q_in op_notIn_seq ha hb hmk).1 fun W0 W σ E z hz Q q => by
    obtain ⟨x, hx, hz⟩ := bind_some hz
    obtain ⟨y, hy, hz⟩ := bind_some hz
    cases hz
    exact ⟨W0, W, rfl, E, x, y, hx, hy, fun W' l => q _ W' l (.bl _)⟩
theorem t_ninQ {ma : Option τ} {mb : Option (List τ)} (ha : XE X env a ma) (hb : XQ X env b mb) (hmk : behindInMarks .NotIn b = false := by rfl) : XT X env (.Compare a [.NotIn] [b] pos) (ma.bind fun x => mb.bind fun y => some (!memB x y)) :=
  t_of (q_in op_notIn_seq ha hb hmk).2 fun W0 W σ E z hz Q q => by
    obtain ⟨x, hx, hz⟩ := bind_some hz
    obtain ⟨y, hy, hz⟩ := bind_some hz
    cases hz
    exact ⟨W0, W, rfl, E, x, y, hx, hy, q⟩
theorem x_inV {ma : Option τ} {mb : Option (Vt τ)} (ha : XE X env a ma) (hb : XE X env b mb) (hmk : behindInMarks .In b = false := by rfl) : XE X env (.Compare a [.In] [b] pos) (ma.bind fun x => mb.bind fun y => some (memB x y.l)) :=
  x_of (v_in op_in_seq ha hb hmk).1 fun W0 W σ E z hz Q q => by
    obtain ⟨x, hx, hz⟩ := bind_some hz
    obtain ⟨y, hy, hz⟩ := bind_some hz
    cases hz
    exact ⟨W0, W, rfl, E, x, y, hx, hy, fun W' l => q _ W' l (.bl _)⟩
theorem t_inV {ma : Option τ} {mb : Option (Vt τ)} (ha : XE X env a ma) (hb : XE X env b mb) (hmk : behindInMarks .In b = false := by rfl) : XT X env (.Compare a [.In] [b] pos) (ma.bind fun x => mb.bind fun y => some (memB x y.l)) :=
  t_of (v_in op_in_seq ha hb hmk).2 fun W0 W σ E z hz Q q => by
    obtain ⟨x, hx, hz⟩ := bind_some hz
    obtain ⟨y, hy, hz⟩ := bind_some hz
    cases hz
    exact ⟨W0, W, rfl, E, x, y, hx, hy, q⟩
theorem x_ninV {ma : Option τ} {mb : Option (Vt τ)} (ha : XE X env a ma) (hb : XE X env b mb) (hmk : behindInMarks .NotIn b = false := by rfl) : XE X env (.Compare a [.NotIn] [b] pos) (ma.bind fun x => mb.bind fun y => some (!memB x y.l)) :=
  x_of (v_in op_notIn_seq ha hb hmk).1 fun W0 W σ E z hz Q q => by
    obtain ⟨x, hx, hz⟩ := bind_some hz
    obtain ⟨y, hy, hz⟩ := bind_some hz
    cases hz
    exact ⟨W0, W, rfl, E, x, y, hx, hy, fun W' l => q _ W' l (.bl _)⟩
theorem t_ninV {ma : Option τ} {mb : Option (Vt τ)} (ha : XE X env a ma) (hb : XE X env b mb) (hmk : behindInMarks .NotIn b = false := by rfl) : XT X env (.Compare a [.NotIn] [b] pos) (ma.bind fun x => mb.bind fun y => some (!memB x y.l)) :=
  t_of (v_in op_notIn_seq ha hb hmk).2 fun W0 W σ E z hz Q q => by
    obtain ⟨x, hx, hz⟩ := bind_some hz
    obtain ⟨y, hy, hz⟩ := bind_some hz
    cases hz
    exact ⟨W0, W, rfl, E, x, y, hx, hy, q⟩
end
/-! ### lists: times, insert -/
def repL (xs : List τ) (n : Int) : Option (List τ) := if -4611686018427387904 ≤ n ∧ n < 4611686018427387904 ∧ xs.length * n.toNat ≤ 16777216 then some (List.replicate n.toNat xs).flatten else none
theorem RpA.rep {H : Hp} {vs : List V} {ds : List D} (r : RpA K H vs ds) : ∀ n, RpA K H (List.replicate n vs).flatten (List.replicate n ds).flatten
  | 0 => .nil
  | n + 1 => by
    rw [List.replicate_succ, List.replicate_succ, List.flatten_cons, List.flatten_cons]
    exact r.append (RpA.rep r n)
theorem l_rep {ma : Option (List τ)} {mb : Option Int} (ha : XL X env a ma) (hb : XE X env b mb) : XL X env (.BinOp a .Mult b pos) (ma.bind fun x => mb.bind fun y => repL x y) :=
  l_of (pe_op op_rep ha hb) fun W0 W σ E z hz Q q => by
    obtain ⟨x, hx, hz⟩ := bind_some hz
    obtain ⟨y, hy, hz⟩ := bind_some hz
    unfold repL at hz
    split at hz
    · rename_i hs
      cases hz
      refine use_l E hx fun a vs W1 l1 h0 h1 hb r1 => ?_
      refine use_x (E.mono l1) hy fun u W2 l2 r2 => ?_
      cases r2
      have hl := r1.length
      rw [List.length_map] at hl
      have l12 := l1.trans l2
      refine ⟨a, y, vs, rfl, rfl, l2.h.lst h1, by omega, by omega, by rw [hl]; exact hs.2.2, fun p hp => ?_⟩
      refine q p _ ⟨W2.b, upd W2.h p (.lst (List.replicate y.toNat vs).flatten)⟩ (l12.trans (Le.layM l12.ok hp)) (l12.h.free hp) upd_same (l12.ok.free hp) ?_
      rw [List.map_flatten, List.map_replicate]
      exact (r1.mono l2.b).rep _
    · cases hz
def insP (xs : List τ) (i : Int) (x : τ) : Option (List τ) := if sz xs.length ∧ 0 ≤ i ∧ i < 4611686018427387904 then some (xs.take i.toNat ++ [x] ++ xs.drop i.toNat) else none
/-- xs.insert(i, e) -/
theorem g_insert (C : Cf X N sc fb K mg P w base k) (i : Nat) {n : Str} {p1 apos p3 : Pos} {xs : List τ} {mi : Option Int} {me : Option τ} {f : List τ → Option ρ} (hj : XE X env b mi) (he : XE X env e me) (hr : ∀ ys : List τ, GS X (env.set i (.own (ys.map em))) rest (f ys) Z)
    (hx : env[i]? = some (.own (xs.map em)) := by rfl) (hi : N[i]? = some n := by rfl) (hv : visB sc n = true := by decide +kernel)
    (hd : (n == ("__debug__" : Str)) = false := by decide) (hcd : (n == ("__classdict__" : Str)) = false := by decide)
    (hbase : ∀ E : Env, attributeBase (.Name n p1) "insert" E (eval (.Name n p1) E) = eval (.Name n p1) E := by intro _; rfl)
    (hfew : ∀ E : Env, ((backTo p3 (starEach [b, e] E)).all (fun x => !x.1) && (backToKw p3 (keywordEach [] E)).all (fun x => x.1.isSome)
      && decide ([b, e].length + ([] : List Keyword).length + (if ([] : List Keyword).isEmpty then 0 else 1) < 30)) = true := by intro _; rfl)
    (hline : (apos.endLine == p3.line) = true := by rfl) (hs : ∀ E : Env, starEach [b, e] E = (false, eval b E) :: starEach [e] E := by intro _; rfl) (hs2 : ∀ E : Env, starEach [e] E = (false, eval e E) :: starEach [] E := by intro _; rfl)
    (hplain : ∀ E : Env, (backTo p3 (starEach ([e] : List Expr) E)).any (·.1) = false := by intro _; rfl) :
    GS X env (.Expr (.Call (.Attribute (.Name n p1) "insert" apos) [b, e] [] p3) pos :: rest) (mi.bind fun j => me.bind fun x => (insP xs j x).bind f) Z := by
  cases C
  refine g_of (ps_expr (pe_bm PySem.F.plainAttrs_list PySem.F.slot_list_insert PySem.F.type_list_insert mt_insert (pe_var hi (visB_ok hv) hd hcd) (pa_cons hj (pa_cons he pa_nil (hs2 _)) (hs _)) (hbase _) (hfew _) hline (hs _) (hplain _)) rfl) hr fun W0 W B σ D r E sb hm z => ?_
  obtain ⟨j, hmj, hm⟩ := bind_some hm
  obtain ⟨x, hme, hm⟩ := bind_some hm
  obtain ⟨ys, hy, hm⟩ := bind_some hm
  unfold insP at hy
  split at hy
  · rename_i hz
    cases hy
    obtain ⟨a, vs, h1, h2, h3, h0, r1⟩ := E.own hx
    refine ⟨_, h1, Or.inl ⟨rfl, _, SqL.of h2⟩, ?_⟩
    refine use_x E hmj fun vj W1 l1 rj => ?_
    cases rj
    refine use_x (E.mono l1) hme fun v W2 l2 rv => ?_
    have l12 := l1.trans l2
    have E1 := (E.mono l1).mono l2
    have hl : vs.length = xs.length := by have := r1.length; rwa [List.length_map] at this
    refine ⟨a, vs, j, v, rfl, rfl, l12.h.lst h2, by rw [hl]; exact sz_line hz.1, hz.2.1, by omega, xs.take j.toNat ++ [x] ++ xs.drop j.toNat, ?_⟩
    refine use_g (E1.write (es := (xs.take j.toNat ++ [x] ++ xs.drop j.toNat).map em) hx h1 ?_) (sb.trans l12.b) hm z
    rw [List.map_append, List.map_append, List.map_take, List.map_drop]
    exact (((r1.mono l12.b).take _).append (.cons rv .nil)).append ((r1.mono l12.b).drop _)
  · cases hy
end
/-! ### a def that calls itself: level by level -/
theorem fn_none {A : Type} {P : Program} {w : World} {K : PySem.W.Frag} {mg : Str → Option Value} {base : Heap} {svs : A → List SV} {m : A → Option ρ} {res : ρ → RV} {f : Addr} {fd : FuncData} {ps : List Str} {k : Nat} (h : ∀ a, m a = none) : FnOk P w K mg base CX0 k f fd ps (spF K svs m res) :=
  ⟨fun vs H Q E q => (by obtain ⟨W, a, x, _, _, _, _, hx, _⟩ := q; rw [h a] at hx; cases hx), fun A outer s H args us vs Q E _ _ _ _ q => (by obtain ⟨W, a, x, _, _, _, _, hx, _⟩ := q; rw [h a] at hx; cases hx)⟩
end T

set_option Elab.async false
set_option linter.all false
set_option maxRecDepth 100000
set_option maxHeartbeats 4000000
/-! TDeep: nested tuples as data: kinds taken apart, slices, +, == and < of any depth; sum, index, enumerate; constants of the module. -/
namespace T
open PySem PySem.Spec PyProof.Rows L2
variable {τ α β γ δ ρ B S ι : Type}
variable [Tabs]
section
variable {X : Cx} {env env' : List SV} {e a b c tg iter elt o : Expr} {st : Stmt} {es : List Expr} {body rest : List Stmt} {pos p p2 p3 apos : Pos} [Em τ] [Em α] [Em β] [Em γ] {N : List Str} {sc : Scope} {fb : Str → Bool} {K : PySem.W.Frag} {mg : Str → Option Value} {P : Program} {w : World} {base : Heap} {k : Nat}
variable {Z : ρ → Wd → Hp → Ends → Prop}
/-! ### data that is of one kind -/
def asS : D → Option Str
  | .str s => some s
  | _ => none
def asI : D → Option Int
  | .int s => some s
  | _ => none
def asB : D → Option Bool
  | .bl s => some s
  | _ => none
def asV : D → Option (Vt D)
  | .tup s => some ⟨s⟩
  | _ => none
def asL : D → Option (List D)
  | .lst s => some s
  | _ => none
theorem x_as {m : Option D} {f : D → Option τ} (hf : ∀ d x, f d = some x → em x = d) (h : XE X env e m) : XE X env e (m.bind f) := x_of h fun W0 W σ E x hx Q q => by
  obtain ⟨d, hd, hx⟩ := bind_some hx
  have := hf d x hx
  subst this
  exact use_x E hd q
theorem x_asS {m : Option D} (h : XE X env e m) : XE X env e (m.bind asS) := x_as (fun d x q => by cases d <;> cases q; rfl) h
theorem x_asI {m : Option D} (h : XE X env e m) : XE X env e (m.bind asI) := x_as (fun d x q => by cases d <;> cases q; rfl) h
theorem x_asB {m : Option D} (h : XE X env e m) : XE X env e (m.bind asB) := x_as (fun d x q => by cases d <;> cases q; rfl) h
theorem x_asV {m : Option D} (h : XE X env e m) : XE X env e (m.bind asV) := x_as (fun d x q => by cases d <;> cases q; exact congrArg D.tup (map_em _)) h
theorem x_asL {m : Option D} (h : XE X env e m) : XE X env e (m.bind asL) := x_as (fun d x q => by cases d <;> cases q; exact congrArg D.lst (map_em _)) h
/-! ### tuples: slices, + -/
def cutT (xs : Vt τ) (lo hi : Option Int) : Option (Vt τ) := if HT.sIx xs.l.length 0 lo = 0 ∧ HT.sIx xs.l.length xs.l.length hi = xs.l.length then none else some ⟨T.cut xs.l lo hi⟩
theorem x_cutT {lo hi : Option Expr} {m : Option (Vt τ)} {ml mh : Option (Option Int)} (h : XE X env e m) (hl : XO X env lo ml) (hh : XO X env hi mh) : XE X env (.Subscript e (.Slice lo hi none p2) pos) (m.bind fun z => ml.bind fun l => mh.bind fun u => cutT z l u) :=
  x_of (pe_slice sl_tup h hl hh) fun W0 W σ E z hz Q q => by
    obtain ⟨d, hd, hz⟩ := bind_some hz
    obtain ⟨l, hl, hz⟩ := bind_some hz
    obtain ⟨u, hu, hz⟩ := bind_some hz
    unfold cutT at hz
    split at hz
    · cases hz
    · rename_i hw
      cases hz
      refine use_x E hd fun v W1 l1 r1 => ?_
      refine use_o (E.mono l1) hl fun W2 l2 => ?_
      refine use_o ((E.mono l1).mono l2) hu fun W3 l3 => ?_
      have l13 := l1.trans (l2.trans l3)
      have r1 : Rp X.K W1.b v (.tup (d.l.map em)) := r1
      cases r1 with
      | @tup ad vs _ s1 r1 =>
        have hlen : vs.length = d.l.length := by have := r1.length; rwa [List.length_map] at this
        refine ⟨ad, vs, rfl, same_t l13.ok (same_t (l2.trans l3).b s1), by rw [hlen]; exact hw, fun p hp => ?_⟩
        refine q (.ref p) _ (l13.trans (Le.lay l13.ok (o := .tup (cutV vs l u)) hp)) ?_
        refine .tup (SqT.of upd_same) ?_
        rw [← cut_map]
        exact ((r1.mono (l2.trans l3).b).mono (Same.new (l13.ok.free hp))).cut l u
def catT (x y : Vt τ) : Option (Vt τ) := if x.l ≠ [] ∧ x.l.length + y.l.length < 16777216 then some ⟨x.l ++ y.l⟩ else none
theorem x_catT {ma mb : Option (Vt τ)} (ha : XE X env a ma) (hb : XE X env b mb) : XE X env (.BinOp a .Add b pos) (ma.bind fun x => mb.bind fun y => catT x y) :=
  x_of (pe_op op_catT ha hb) fun W0 W σ E z hz Q q => by
    obtain ⟨x, hx, hz⟩ := bind_some hz
    obtain ⟨y, hy, hz⟩ := bind_some hz
    unfold catT at hz
    split at hz
    · rename_i hs
      cases hz
      refine use_x E hx fun u W1 l1 r1 => ?_
      refine use_x (E.mono l1) hy fun v W2 l2 r2 => ?_
      have l12 := l1.trans l2
      have r1 : Rp X.K W1.b u (.tup (x.l.map em)) := r1
      have r2 : Rp X.K W2.b v (.tup (y.l.map em)) := r2
      cases r1 with
      | @tup ad vs _ s1 r1 =>
        cases r2 with
        | @tup ad2 us _ s2 r2 =>
          have h1 : vs.length = x.l.length := by have := r1.length; rwa [List.length_map] at this
          have h2 : us.length = y.l.length := by have := r2.length; rwa [List.length_map] at this
          refine ⟨ad, ad2, vs, us, rfl, rfl, same_t l12.ok (same_t l2.b s1), same_t l2.ok s2, fun z => hs.1 (List.length_eq_zero_iff.mp (by rw [← h1, z]; rfl)), by rw [h1, h2]; exact Nat.le_of_lt (sz_line hs.2), fun z => ?_, fun z p hp => ?_⟩
          · refine q _ W2 l12 ?_
            have hy0 : y.l = [] := List.length_eq_zero_iff.mp (by rw [← h2, z]; rfl)
            show Rp X.K W2.b (.ref ad) (.tup ((x.l ++ y.l).map em))
            rw [hy0, List.append_nil]
            exact .tup (same_t l2.b s1) (r1.mono l2.b)
          · refine q (.ref p) _ (l12.trans (Le.lay l12.ok (o := .tup (vs ++ us)) hp)) ?_
            show Rp X.K _ (.ref p) (.tup ((x.l ++ y.l).map em))
            rw [List.map_append]
            exact .tup (SqT.of upd_same) (((r1.mono l2.b).mono (Same.new (l12.ok.free hp))).append (r2.mono (Same.new (l12.ok.free hp))))
    · cases hz
/-- a written tuple of n items of one type -/
def vtP (n : Nat) (l : List τ) : Option (Vt τ) := if l.length = n then some ⟨l⟩ else none
theorem vtP_eq {n : Nat} {l : List τ} (h : l.length = n := by rfl) : vtP n l = some ⟨l⟩ := by unfold vtP; rw [if_pos h]
theorem x_tupP {x1 n : Nat} {m : Option (List τ)} (h : XI X env es m) (hn : n < 16777216 := by decide) : XE X env (.Tuple es x1 pos) (m.bind (vtP n)) := by
  refine x_of (pe_tup h) fun W0 W σ E x hx Q q => ?_
  obtain ⟨y, hy, hx⟩ := bind_some hx
  unfold vtP at hx
  split at hx
  · rename_i hl
    cases hx
    refine use_a E hy fun vs W1 l1 r1 => ?_
    have r := r1.items
    refine ⟨by have := r.length; rw [List.length_map] at this; exact Nat.le_of_lt (by rw [this]; exact sz_line (show sz _ by unfold sz; omega)), fun p hp => ?_⟩
    refine q (.ref p) _ (l1.trans (Le.lay l1.ok (o := .tup vs) hp)) ?_
    exact .tup (SqT.of upd_same) (r.mono (Same.new (l1.ok.free hp)))
  · cases hx
/-! ### sum, index, enumerate -/
theorem rp_ints {H : Hp} : ∀ {vs : List V} {ns : List Int}, RpA K H vs (ns.map em) → vs = ns.map V.int
  | _, [], .nil => rfl
  | _, _ :: _, .cons r t => by
    cases r
    rw [List.map_cons, rp_ints t]
theorem x_sumQ {m : Option (List Int)} (C : Cf X N sc fb K mg P w base k) (h : XQ X env e m) (hm : mg "sum" = none) (hg : glbB sc "sum" = true := by decide +kernel)
    (he : ∀ E : Env, starEach [e] E = (false, eval e E) :: starEach [] E := by intro _; rfl) : XE X env (.Call (.Name "sum" p) [e] [] pos) (m.bind fun xs => some xs.sum) :=
  x_cBQ C (cr_sum C.calm) h (fun d y hy W a vs ok s r Q q => by
    cases hy
    have := rp_ints r
    subst this
    exact ⟨a, d, rfl, s, q _ W (Le.refl ok) (.int _)⟩) hm (by decide +kernel) hg (by decide) (by decide) he
/-- enumerate(a list) -/
def enumL (xs : List τ) : List (Int × τ) := (List.range xs.length).zip xs |>.map fun p => ((p.1 : Int), p.2)
theorem enumL_length (xs : List τ) : (enumL xs).length = xs.length := by simp [enumL]
theorem enumL_get {xs : List τ} {i : Nat} {y : Int × τ} (h : (enumL xs)[i]? = some y) : ∃ x, xs[i]? = some x ∧ y = ((i : Int), x) := by
  have hi : i < xs.length := by have := (List.getElem?_eq_some_iff.mp h).1; rwa [enumL_length] at this
  refine ⟨xs[i], List.getElem?_eq_getElem hi, ?_⟩
  unfold enumL at h
  rw [List.getElem?_map, List.zip_eq_zipWith, List.getElem?_zipWith, List.getElem?_range hi, List.getElem?_eq_getElem hi] at h
  exact (Option.some.inj h).symm
theorem w_enumL (C : Cf X N sc fb K mg P w base k) {elts : List Expr} {kk : Nat} {tpos : Pos} {m : Option (List τ)} (h : XE X env e m) (hm : mg "enumerate" = none) (hg : glbB sc "enumerate" = true := by decide +kernel)
    (he : ∀ E : Env, starEach [e] E = (false, eval e E) :: starEach [] E := by intro _; rfl) (hs : ∀ E : Env, starEach [e] E = [(false, eval e E)] := by intro _; rfl) :
    XWk X env (.Tuple elts kk tpos) (.Call (.Name "enumerate" p) [e] [] pos) (m.bind fun s => some (enumL s)) := by
  cases C
  refine piImp (pi_enum (glbB_ok hg) hm (a_dat h a_nil (he _)) (hs _)) fun σ H R ⟨W0, W, hH, E, x, hx, q⟩ => ?_
  subst hH
  obtain ⟨s, hs, hx⟩ := bind_some hx
  cases hx
  refine use_ax E hs fun v W1 l1 r1 => ?_
  have r1 : Rp X.K W1.b v (.lst (s.map em)) := r1
  cases r1 with
  | @lst ad vs _ s1 r1 =>
    refine ⟨ad, vs, rfl, l1.ok.seq s1, q _ W1 l1 ⟨fun i y W2 hy sb l0 => ?_, fun W2 sb l0 => ?_⟩⟩
    · obtain ⟨x, hx, rfl⟩ := enumL_get hy
      obtain ⟨u, h1, h2⟩ := r1.get (show (s.map em)[i]? = some (em x) by rw [List.getElem?_map, hx]; rfl)
      have s2 : SqL X.K W2.h ad vs := l0.ok.seq (sb.seq s1)
      refine ⟨⟨vs, u, s2, h1⟩, fun v' H' ⟨T', x', e1, hT, e3, e2⟩ => ?_⟩
      subst e1 e3
      have := e2 _ s2
      rw [h1] at this
      cases this
      exact ⟨_, Le.lay l0.ok (o := .tup [.int (i : Nat), u]) hT, rfl, .tup (SqT.of upd_same) (.cons (.int _) (.cons ((h2.mono sb).mono (Same.new (l0.ok.free hT))) .nil))⟩
    · refine ⟨vs, l0.ok.seq (sb.seq s1), ?_⟩
      have := r1.length
      rw [List.length_map] at this
      rw [enumL_length]
      omega
/-- xs.index(x): the first place -/
def idxP [Pl τ] (xs : List τ) (x : τ) : Option Int := (xs.findIdx? fun y => decide (y = x)).map fun j => (j : Int)
/-! ### data, as the kit's data -/
mutual
def toPy : D → PyData
  | .non => .none
  | .bl b => .bool b
  | .int i => .int i
  | .str s => .str s
  | .tup l => .tuple (toPyA l)
  | .lst l => .list (toPyA l)
  | .ins _ _ _ => .none
def toPyA : List D → List PyData
  | [] => []
  | d :: l => toPy d :: toPyA l
end
mutual
/-- no object within -/
def plainD : D → Bool
  | .tup l => plainA l
  | .lst l => plainA l
  | .ins _ _ _ => false
  | _ => true
def plainA : List D → Bool
  | [] => true
  | d :: l => plainD d && plainA l
end
mutual
theorem Rp.dp {H : Hp} {W : Wd} (ok : Same W.b W.h) : ∀ {v : V} {d : D}, Rp K W.b v d → plainD d = true → Dp K W.h v (toPy d)
  | _, _, .non, _ => .non
  | _, _, .bl b, _ => .bl b
  | _, _, .int i, _ => .int i
  | _, _, .str s, _ => .str s
  | _, _, .tup s r, h => .tup (same_t ok s) (RpA.dp (H := H) ok r h)
  | _, _, .lst s r, h => .lst (ok.seq s) (RpA.dp (H := H) ok r h)
  | _, _, .ins _ _ _, h => nomatch h
theorem RpA.dp {H : Hp} {W : Wd} (ok : Same W.b W.h) : ∀ {vs : List V} {ds : List D}, RpA K W.b vs ds → plainA ds = true → DpAll K W.h vs (toPyA ds)
  | _, _, .nil, _ => .nil
  | _, _, .cons r t, h => by
    unfold plainA at h
    rw [Bool.and_eq_true] at h
    exact .cons (Rp.dp (H := H) ok r h.1) (RpA.dp (H := H) ok t h.2)
end
/-- == of any data without objects, at most 64 deep -/
def eqP (d e : D) : Option Bool := if plainD d = true ∧ plainD e = true ∧ SeqAt.shaped (toPy d) = true ∧ SeqAt.shaped (toPy e) = true then some (PyData.eqv (toPy d) (toPy e)) else none
theorem Cf.un (C : Cf X N sc fb K mg P w base k) : X.A.units + 16 * k + 200 < cLine := by
  cases C with
  | mk nd calm po rm => exact rm.un
theorem x_eqP {ma : Option α} {mb : Option β} (C : Cf X N sc fb K mg P w base k) (ha : XE X env a ma) (hb : XE X env b mb) : XE X env (.Compare a [.Eq] [b] pos) (ma.bind fun x => mb.bind fun y => eqP (em x) (em y)) :=
  x_cmp (op_eqD (by have := C.un; omega)) ha hb (nomark _) fun x y z hz W u v ok ru rv Q q => by
    unfold eqP at hz
    split at hz
    · rename_i h
      cases hz
      exact ⟨_, _, ru.dp (H := W.h) ok h.1, rv.dp (H := W.h) ok h.2.1, h.2.2.1, h.2.2.2, q _ W (Le.refl ok) (.bl _)⟩
    · cases hz
theorem t_eqP {ma : Option α} {mb : Option β} (C : Cf X N sc fb K mg P w base k) (ha : XE X env a ma) (hb : XE X env b mb) : XT X env (.Compare a [.Eq] [b] pos) (ma.bind fun x => mb.bind fun y => eqP (em x) (em y)) :=
  t_cmp (op_eqD (by have := C.un; omega)) ha hb (nomark _) fun x y z hz W u v ok ru rv Q q => by
    unfold eqP at hz
    split at hz
    · rename_i h
      cases hz
      exact ⟨_, _, ru.dp (H := W.h) ok h.1, rv.dp (H := W.h) ok h.2.1, h.2.2.1, h.2.2.2, q _ W (Le.refl ok) (.bl _)⟩
    · cases hz
theorem x_neP {ma : Option α} {mb : Option β} (C : Cf X N sc fb K mg P w base k) (ha : XE X env a ma) (hb : XE X env b mb) : XE X env (.Compare a [.NotEq] [b] pos) (ma.bind fun x => mb.bind fun y => (eqP (em x) (em y)).bind fun z => some (!z)) :=
  x_cmp (op_neD (by have := C.un; omega)) ha hb (nomark _) fun x y z hz W u v ok ru rv Q q => by
    obtain ⟨zz, hzz, hz⟩ := bind_some hz
    cases hz
    unfold eqP at hzz
    split at hzz
    · rename_i h
      cases hzz
      exact ⟨_, _, ru.dp (H := W.h) ok h.1, rv.dp (H := W.h) ok h.2.1, h.2.2.1, h.2.2.2, q _ W (Le.refl ok) (.bl _)⟩
    · cases hzz
theorem t_neP {ma : Option α} {mb : Option β} (C : Cf X N sc fb K mg P w base k) (ha : XE X env a ma) (hb : XE X env b mb) : XT X env (.Compare a [.NotEq] [b] pos) (ma.bind fun x => mb.bind fun y => (eqP (em x) (em y)).bind fun z => some (!z)) :=
  t_cmp (op_neD (by have := C.un; omega)) ha hb (nomark _) fun x y z hz W u v ok ru rv Q q => by
    obtain ⟨zz, hzz, hz⟩ := bind_some hz
    cases hz
    unfold eqP at hzz
    split at hzz
    · rename_i h
      cases hzz
      exact ⟨_, _, ru.dp (H := W.h) ok h.1, rv.dp (H := W.h) ok h.2.1, h.2.2.1, h.2.2.2, q _ W (Le.refl ok) (.bl _)⟩
    · cases hzz
/-! ### truth of data, a sign in a text -/
def truD : D → Option Bool
  | .non => some false
  | .bl b => some b
  | .int i => some (decide (i ≠ 0))
  | .str s => if sz s.length then some (decide (s.length ≠ 0)) else none
  | .tup l => some (decide (l.length ≠ 0))
  | .lst l => some (decide (l.length ≠ 0))
  | _ => none
def insP1 (c z : Str) : Option Bool := match c.cps.toList with
  | [n] => some (decide (n ∈ z.cps.toList))
  | _ => none
theorem insP1_one {c z : Str} {b : Bool} (h : insP1 c z = some b) : ∃ n, c = ⟨#[n]⟩ ∧ b = decide (n ∈ z.cps.toList) := by
  unfold insP1 at h
  split at h
  · rename_i n e
    cases h
    exact ⟨n, Str.ext' (Array.toList_inj.mp e), rfl⟩
  · cases h
theorem x_inS1 {ma mb : Option Str} (ha : XE X env a ma) (hb : XE X env b mb) (hmk : behindInMarks .In b = false := by rfl) : XE X env (.Compare a [.In] [b] pos) (ma.bind fun x => mb.bind fun y => insP1 x y) :=
  x_cmp op_in_sign ha hb hmk fun x y z hz W u v ok ru rv Q q => by
    obtain ⟨n, rfl, rfl⟩ := insP1_one hz
    cases ru; cases rv
    exact ⟨n, y, rfl, rfl, q _ W (Le.refl ok) (.bl _)⟩
theorem t_inS1 {ma mb : Option Str} (ha : XE X env a ma) (hb : XE X env b mb) (hmk : behindInMarks .In b = false := by rfl) : XT X env (.Compare a [.In] [b] pos) (ma.bind fun x => mb.bind fun y => insP1 x y) :=
  t_cmp op_in_sign ha hb hmk fun x y z hz W u v ok ru rv Q q => by
    obtain ⟨n, rfl, rfl⟩ := insP1_one hz
    cases ru; cases rv
    exact ⟨n, y, rfl, rfl, q _ W (Le.refl ok) (.bl _)⟩
theorem t_tru {m : Option D} (h : XE X env e m) (he : ∀ whole, isTrue e X.env whole = (do let v ← whole; standAt e.pos; holding [v] (truthy v)) := by intro _; rfl) : XT X env e (m.bind truD) :=
  t_of (pt_truth h he) fun W0 W σ E x hx Q q => by
    obtain ⟨d, hd, hx⟩ := bind_some hx
    refine use_x E hd fun v W' l r => ?_
    have r : Rp X.K W'.b v d := r
    cases r with
    | non => cases hx; exact ⟨false, rfl, q W' l⟩
    | bl bb => cases hx; exact ⟨_, rfl, q W' l⟩
    | int i =>
      cases hx
      exact ⟨_, rfl, by rw [show (i != 0) = decide (i ≠ 0) by by_cases z : i = 0 <;> simp [z]]; exact q W' l⟩
    | str s =>
      have hx : (if sz s.length then some (decide (s.length ≠ 0)) else none) = some x := hx
      split at hx
      · rename_i hz
        cases hx
        refine ⟨_, ⟨Nat.le_of_lt (sz_line hz), rfl⟩, ?_⟩
        rw [show ((s.length : Int) != 0) = decide (s.length ≠ 0) by by_cases z : s.length = 0 <;> simp [z]]
        exact q W' l
      · cases hx
    | @tup a vs ds s t =>
      cases hx
      have hl := t.length
      refine ⟨_, .inr (.inl ⟨vs, same_t l.ok s, rfl⟩), ?_⟩
      rw [show (!vs.isEmpty) = decide (ds.length ≠ 0) by rw [← hl]; cases vs <;> simp]
      exact q W' l
    | @lst a vs ds s t =>
      cases hx
      have hl := t.length
      refine ⟨_, .inl ⟨vs, l.ok.seq s, rfl⟩, ?_⟩
      rw [show (!vs.isEmpty) = decide (ds.length ≠ 0) by rw [← hl]; cases vs <;> simp]
      exact q W' l
    | ins _ _ _ => cases hx
end
end T

set_option Elab.async false
set_option linter.all false
set_option maxRecDepth 100000
set_option maxHeartbeats 4000000
/-! TLt: a < b of nested data where only the first difference is asked for its <. -/
namespace T
open PySem PySem.Spec PyProof.Rows L2 PySem.SeqAt
open PySem.AutoSeq1 (wpAny_loadPart')
open PySem.MeetsSeq PySem.MeetsSeq2 PySem.MeetsSeq3 PySem.SeqRoads2
mutual
def ltP : PyData → PyData → Option Bool
  | .int x, .int y => some (decide (x < y))
  | .str x, .str y => some (decide (x.cps.toList < y.cps.toList))
  | .tuple l, .tuple m => ltPA l m
  | _, _ => none
def ltPA : List PyData → List PyData → Option Bool
  | [], [] => some false
  | [], _ :: _ => some true
  | _ :: _, [] => some false
  | x :: l, y :: m => if PyData.eqv x y = true then ltPA l m else ltP x y
end
/-- what decides: all before i alike; at i the end of one, or a difference -/
def First (A : Around) (s : Shared) (us vs : List Value) (r : Bool) (i : Nat) : Prop :=
  i ≤ us.length ∧ i ≤ vs.length ∧ (∀ j (hj : j < us.length) (gj : j < vs.length), j < i → EqAt A s us[j] vs[j] true) ∧
    (((i = us.length ∨ i = vs.length) ∧ r = decide (us.length < vs.length)) ∨ ∃ (hi : i < us.length) (gi : i < vs.length), EqAt A s us[i] vs[i] false ∧ RcLt A s us[i] vs[i] r)
theorem First.cons {A : Around} {s : Shared} {us vs : List Value} {u v : Value} {r : Bool} {i : Nat} (he : EqAt A s u v true) (h : First A s us vs r i) : First A s (u :: us) (v :: vs) r (i + 1) := by
  obtain ⟨h1, h2, h3, h4⟩ := h
  refine ⟨by simpa using h1, by simpa using h2, fun j hj gj hji => ?_, ?_⟩
  · cases j with
    | zero => exact he
    | succ j => exact h3 j (by simpa using hj) (by simpa using gj) (by omega)
  · rcases h4 with ⟨h5, h6⟩ | ⟨hi, gi, h5, h6⟩
    · left
      refine ⟨h5.imp (fun z => by rw [z]; rfl) (fun z => by rw [z]; rfl), ?_⟩
      rw [h6]
      simp
    · exact .inr ⟨by simpa using hi, by simpa using gi, h5, h6⟩
theorem tup_first (a b : Addr) (us vs : Array Value) (n m : Nat) (da db : Option Addr) (sa sb : Array (Option Value)) (r : Bool) (i₀ : Nat) :
    Meets (Builtin.«tuple.__lt__» ⟨[.ref a, .ref b], []⟩)
      (fun A R s => s.heap.get? a = some { cls := .type "tuple", dict := da, data := .seq us n, slots := sa } ∧ s.heap.get? b = some { cls := .type "tuple", dict := db, data := .seq vs m, slots := sb } ∧
        First A.in1 s us.toList vs.toList r i₀ ∧ R (.ok (.ret (.bool r))) s) :=
  .of_wp fun prog w A R s h => by
    obtain ⟨hp, g, dr, tk, os⟩ := s
    obtain ⟨ga, gb, ⟨f1, f2, f3, f4⟩, hR⟩ := h
    have isT := AutoSeq1.sub_tuple_tuple
    have zl : (us.toList.zip vs.toList).length = min us.size vs.size := by simp
    have f1' : i₀ ≤ us.size := by simpa using f1
    have f2' : i₀ ≤ vs.size := by simpa using f2
    wp_walk using wpAny_loadPart' ga, wpAny_loadPart' gb, wpAny_forIn_list _ (fun todo q s' => q.1 = none ∧ s' = ⟨hp, g, dr, tk, os⟩ ∧ ∃ t, t ≤ i₀ ∧ todo = (us.toList.zip vs.toList).drop t) _
    case turn =>
      rintro ⟨p, q⟩ todo c s' ⟨hc, rfl, t, hti, ht⟩
      have tl : t < (us.toList.zip vs.toList).length := by
        by_cases q : t < (us.toList.zip vs.toList).length
        · exact q
        · rw [List.drop_of_length_le (by omega)] at ht; cases ht
      have t1 : t < us.size := by omega
      have t2 : t < vs.size := by omega
      rw [List.drop_eq_getElem_cons tl] at ht
      injection ht with hpq hrest
      obtain ⟨rfl, rfl⟩ : p = us[t] ∧ q = vs[t] := by simpa using hpq
      by_cases hlt : t < i₀
      · have e := f3 t (by simpa using t1) (by simpa using t2) hlt
        simp only [Array.getElem_toList] at e
        refine wpAny_bind (e prog w _ _ ?_)
        wp_walk
        exact ⟨rfl, rfl, t + 1, hlt, hrest⟩
      · obtain rfl : t = i₀ := by omega
        rcases f4 with ⟨h5, _⟩ | ⟨k1, k2, e, l⟩
        · exfalso
          rcases h5 with h5 | h5 <;> simp at h5 <;> omega
        · simp only [Array.getElem_toList] at e l
          refine wpAny_bind (e prog w _ _ ?_)
          have l' := l prog w
          clear l e f3
          generalize PySem.richCompare CmpOp.Lt us[t] vs[t] = rc at l' ⊢
          wp_walk
          refine l' _ _ ?_
          wp_walk
          exact ⟨_, rfl, hR⟩
    case fin =>
      rintro ⟨c1, c2⟩ s' ⟨hc, rfl, t, hti, ht⟩
      simp only at hc
      subst hc
      have tl : min us.size vs.size ≤ t := by
        by_cases q : t < (us.toList.zip vs.toList).length
        · rw [List.drop_eq_getElem_cons q] at ht; cases ht
        · omega
      rcases f4 with ⟨_, h6⟩ | ⟨k1, k2, _, _⟩
      · wp_walk
        refine ⟨_, rfl, ?_⟩
        have h6' : r = decide (us.size < vs.size) := by simpa using h6
        rw [h6'] at hR
        simpa [Builtin.Tuple.tupleCompareSizes] using hR
      · exfalso
        simp at k1 k2
        omega
    case h => exact ⟨rfl, rfl, 0, Nat.zero_le _, rfl⟩
theorem rc_tups {A : Around} {s : Shared} {a b : Addr} {us vs : Array Value} {r : Bool} {i : Nat} (ga : s.heap.IsTuple a us) (gb : s.heap.IsTuple b vs) (hu : A.units < cLine) (h : First A.in1 s us.toList vs.toList r i) : RcLt A s (.ref a) (.ref b) r := fun prog w E Q hq => by
  obtain ⟨⟨ca, da, xa, sa⟩, oa, ka, n, ea⟩ := id ga
  obtain ⟨⟨cb, db, xb, sb⟩, ob, kb, m, eb⟩ := id gb
  simp only at ka ea kb eb
  subst ka ea kb eb
  exact richCompare_meets_room (op := .Lt) ⟨_, oa, rfl⟩ ⟨_, ob, rfl⟩ F.slot_tuple_lt F.entry_tuple_lt (F.args_tuple_lt_2 _ _) (tup_first a b us vs n m da db sa sb r i) ⟨oa, ob, h, show Value.bool r ≠ Value.notImplemented ∧ Q (.bool r) s from ⟨(fun z => nomatch z), hq⟩⟩ hu
mutual
theorem rc_first : ∀ (d e : PyData) (A : Around) (s : Shared) (u v : Value) (as bs : List Addr) (r : Bool), Reads s.heap u d as → Reads s.heap v e bs → d.canLay0 = true → e.canLay0 = true → A.units + min d.depth e.depth < cLine → ltP d e = some r → RcLt A s u v r
  | .int x, e, A, s, u, v, as, bs, r, hd, he, _, _, _, h => by
    cases e with
    | int y =>
      cases hd
      cases he
      cases h
      intro prog w E Q hq
      exact P.lt_int hq
    | _ => cases h
  | .str x, e, A, s, u, v, as, bs, r, hd, he, _, _, _, h => by
    cases e with
    | str y =>
      cases hd
      cases he
      cases h
      intro prog w E Q hq
      exact P.lt_str hq
    | _ => cases h
  | .tuple l, e, A, s, u, v, as, bs, r, hd, he, c1, c2, hu, h => by
    cases e with
    | tuple m =>
      cases hd with
      | @tuple a o us n _ _ h1 h2 h3 h4 =>
        cases he with
        | @tuple a' o' vs n' _ _ k1 k2 k3 k4 =>
          obtain ⟨i, hi⟩ := rc_firsts l m A.in1 s us.toList vs.toList _ _ r h4 k4 c1 c2 (room_in hu) h
          exact rc_tups ⟨_, h1, h2, _, h3⟩ ⟨_, k1, k2, _, k3⟩ (room_here hu) hi
    | _ => cases h
  | .none, e, _, _, _, _, _, _, _, _, _, _, _, _, h => by cases e <;> cases h
  | .bool _, e, _, _, _, _, _, _, _, _, _, _, _, _, h => by cases e <;> cases h
  | .list _, e, _, _, _, _, _, _, _, _, _, _, _, _, h => by cases e <;> cases h
  | .dict _, e, _, _, _, _, _, _, _, _, _, _, _, _, h => by cases e <;> cases h
theorem rc_firsts : ∀ (l m : List PyData) (A : Around) (s : Shared) (us vs : List Value) (as bs : List Addr) (r : Bool), ReadsAll s.heap us l as → ReadsAll s.heap vs m bs → PyData.canLayAll0 l = true → PyData.canLayAll0 m = true →
    A.units + min (PyData.depthAll l) (PyData.depthAll m) < cLine → ltPA l m = some r → ∃ i, First A s us vs r i
  | [], [], A, s, us, vs, as, bs, r, hd, he, _, _, _, h => by
    cases hd; cases he; cases h
    exact ⟨0, Nat.le_refl _, Nat.le_refl _, fun j hj => absurd hj (Nat.not_lt_zero _), .inl ⟨.inl rfl, rfl⟩⟩
  | [], y :: m, A, s, us, vs, as, bs, r, hd, he, _, _, _, h => by
    cases hd; cases he; cases h
    exact ⟨0, Nat.le_refl _, Nat.zero_le _, fun j hj => absurd hj (Nat.not_lt_zero _), .inl ⟨.inl rfl, rfl⟩⟩
  | x :: l, [], A, s, us, vs, as, bs, r, hd, he, _, _, _, h => by
    cases hd; cases he; cases h
    exact ⟨0, Nat.zero_le _, Nat.le_refl _, fun j _ hj => absurd hj (Nat.not_lt_zero _), .inl ⟨.inr rfl, rfl⟩⟩
  | x :: l, y :: m, A, s, us, vs, as, bs, r, hd, he, c1, c2, hu, h => by
    cases hd with
    | @cons u us' _ _ a1 a2 r1 t1 =>
      cases he with
      | @cons v vs' _ _ b1 b2 r2 t2 =>
        simp only [PyData.canLayAll0, Bool.and_eq_true] at c1 c2
        have e := eqAt_reads x y A s u v a1 b1 r1 r2 c1.1 c2.1 (room_head hu)
        by_cases q : PyData.eqv x y = true
        · rw [q] at e
          rw [ltPA, if_pos q] at h
          obtain ⟨i, hi⟩ := rc_firsts l m A s us' vs' _ _ r t1 t2 c1.2 c2.2 (room_tail hu) h
          exact ⟨i + 1, hi.cons e⟩
        · rw [ltPA, if_neg q] at h
          rw [show PyData.eqv x y = false by simpa using q] at e
          exact ⟨0, Nat.zero_le _, Nat.zero_le _, fun j _ _ hj => absurd hj (Nat.not_lt_zero _), .inr ⟨Nat.succ_pos _, Nat.succ_pos _, e, rc_first x y A s u v a1 b1 r r1 r2 c1.1 c2.1 (room_head hu) h⟩⟩
end
variable {τ α β γ δ ρ B S ι : Type}
variable [Tabs]
section
variable {X : Cx} {env env' : List SV} {e a b c tg iter elt o : Expr} {pos p p2 p3 apos : Pos} [Em τ] [Em α] [Em β] [Em γ] {N : List Str} {sc : Scope} {fb : Str → Bool} {K : PySem.W.Frag} {mg : Str → Option Value} {P : Program} {w : World} {base : Heap} {k : Nat}
/-- d < e, by the first difference -/
def ltO (d e : D) : Option Bool := if plainD d = true ∧ plainD e = true ∧ shaped (toPy d) = true ∧ shaped (toPy e) = true then ltP (toPy d) (toPy e) else none
def rLtP (K : PySem.W.Frag) : R2 := fun x y H Q => ∃ d e r, Dp K H x d ∧ Dp K H y e ∧ shaped d = true ∧ shaped e = true ∧ ltP d e = some r ∧ Q (.bl r) H
theorem op_ltP (hu : X.A.units + 64 < cLine) : OpR X (compareOp .Lt) (rLtP X.K) := by
  intro pins s σ H x y v u Q I rx ry h
  obtain ⟨d, e, r, hd, he, sd, se, hr, q⟩ := h
  obtain ⟨as, r1⟩ := Dp.reads I d x v hd rx
  obtain ⟨bs, r2⟩ := Dp.reads I e y u he ry
  exact rc_first d e X.A s v u as bs r r1 r2 (canLay_of_shaped sd) (canLay_of_shaped se) (room_of_shaped sd hu) hr _ _ _ _ ⟨.bl _, H, I, rfl, q⟩
theorem x_ltP {ma : Option α} {mb : Option β} (C : Cf X N sc fb K mg P w base k) (ha : XE X env a ma) (hb : XE X env b mb) : XE X env (.Compare a [.Lt] [b] pos) (ma.bind fun x => mb.bind fun y => ltO (em x) (em y)) :=
  x_cmp (op_ltP (by have := C.un; omega)) ha hb (nomark _) fun x y z hz W u v ok ru rv Q q => by
    unfold ltO at hz
    split at hz
    · rename_i h
      exact ⟨_, _, z, ru.dp (H := W.h) ok h.1, rv.dp (H := W.h) ok h.2.1, h.2.2.1, h.2.2.2, hz, q _ W (Le.refl ok) (.bl _)⟩
    · cases hz
theorem t_ltP {ma : Option α} {mb : Option β} (C : Cf X N sc fb K mg P w base k) (ha : XE X env a ma) (hb : XE X env b mb) : XT X env (.Compare a [.Lt] [b] pos) (ma.bind fun x => mb.bind fun y => ltO (em x) (em y)) :=
  t_cmp (op_ltP (by have := C.un; omega)) ha hb (nomark _) fun x y z hz W u v ok ru rv Q q => by
    unfold ltO at hz
    split at hz
    · rename_i h
      exact ⟨_, _, z, ru.dp (H := W.h) ok h.1, rv.dp (H := W.h) ok h.2.1, h.2.2.1, h.2.2.2, hz, q _ W (Le.refl ok) (.bl _)⟩
    · cases hz
end
end T

set_option Elab.async false
set_option linter.all false
set_option maxRecDepth 100000
set_option maxHeartbeats 4000000
/-! TConst: what stands at the module's top: texts, numbers, tuples, dicts with text keys; the method index. -/
namespace T
open PySem PySem.Spec PyProof.Rows L2
variable {τ α β γ δ ρ B S ι : Type}
variable [Tabs]
/-- a value of the top that stands for data -/
def Cs (K : PySem.W.Frag) (u : Value) (d : D) : Prop := ∃ v, RelV v u ∧ ∀ H, Rp K H v d
inductive CsA (K : PySem.W.Frag) : List Value → List D → Prop
  | nil : CsA K [] []
  | cons {u : Value} {us : List Value} {d : D} {ds : List D} : Cs K u d → CsA K us ds → CsA K (u :: us) (d :: ds)
section
variable {K : PySem.W.Frag}
theorem cs_str {s : Str} {t : Tok} : Cs K (.str s t) (.str s) := ⟨.str s, ⟨t, rfl⟩, fun _ => .str s⟩
theorem cs_int {i : Int} {t : Tok} : Cs K (.int i t) (.int i) := ⟨.int i, ⟨t, rfl⟩, fun _ => .int i⟩
theorem cs_bl {i : Bool} : Cs K (.bool i) (.bl i) := ⟨.bl i, rfl, fun _ => .bl i⟩
theorem cs_non : Cs K .none .non := ⟨.non, rfl, fun _ => .non⟩
theorem csA_vals : ∀ {us : List Value} {ds : List D}, CsA K us ds → ∃ vs, Vals vs us ∧ ∀ H, RpA K H vs ds
  | _, _, .nil => ⟨[], .nil, fun _ => .nil⟩
  | _, _, .cons ⟨v, r, h⟩ t => by
    obtain ⟨vs, rs, hs⟩ := csA_vals t
    exact ⟨v :: vs, .cons r rs, fun H => .cons (h H) (hs H)⟩
theorem cs_tup {a : Addr} {od : Option Addr} {its : Array Value} {n : Nat} {sl : Array (Option Value)} {ds : List D} (l : K.lookup a = some ⟨.type "tuple", od, .seq its n, sl⟩) (h : CsA K its.toList ds) (hz : Nat.ble its.size 1000 = true := by rfl) : Cs K (.ref a) (.tup ds) := by
  obtain ⟨vs, rs, hs⟩ := csA_vals h
  exact ⟨.ref a, rfl, fun H => .tup (.inr ⟨_, its, n, l, rfl, rfl, by have := Nat.le_of_ble_eq_true hz; rw [sizeLine_eq]; omega, rs⟩) (hs H)⟩
end
/-- a dict of the top with text keys: ks, and what some of them hold -/
structure KD (K : PySem.W.Frag) (w : World) (mg : Str → Option Value) (x : Str) (ks : List Str) (f : List (Str × D)) : Prop where
  ex : ∃ d es n, mg x = some (.ref d) ∧ KDict K w d es n ∧ (∀ z, ∃ r, PySem.W.nsIn K d z = some r ∧ r.isSome = memB z ks) ∧ ∀ z y, f.lookup z = some y → ∃ u, PySem.W.nsIn K d z = some (some u) ∧ Cs K u y
section
variable {X : Cx} {env env' : List SV} {e a b c tg iter elt o : Expr} {pos p p2 p3 apos : Pos} [Em τ] [Em α] [Em β] [Em γ] {N : List Str} {sc : Scope} {fb : Str → Bool} {K : PySem.W.Frag} {mg : Str → Option Value} {P : Program} {w : World} {base : Heap} {k : Nat}
theorem x_glob {x : Str} {u : Value} {val : τ} (C : Cf X N sc fb K mg P w base k) (hm : mg x = some u) (h : Cs K u (em val)) (hg : glbB sc x = true := by decide +kernel) (hd : (x == ("__debug__" : Str)) = false := by decide) : XE X env (.Name x pos) (some val) := by
  cases C
  obtain ⟨v, r, rp⟩ := h
  refine x_of (pe_glob (glbB_ok hg) hm r hd) fun W0 W σ E z hz Q q => ?_
  cases hz
  exact q v W (Le.refl E.ok) (rp _)
theorem Cf.wk (C : Cf X N sc fb K mg P w base k) : X.w = w ∧ X.K = K := by cases C; exact ⟨rfl, rfl⟩
theorem q_inKd {x : Str} {ks : List Str} {f : List (Str × D)} {ma : Option Str} {neg : Bool} (C : Cf X N sc fb K mg P w base k) (G : KD K w mg x ks f) (ha : XE X env a ma) (hg : glbB sc x = true := by decide +kernel) (hd : (x == ("__debug__" : Str)) = false := by decide) :
    PE X (.Compare a [if neg then .NotIn else .In] [.Name x p] pos) (fun σ H Q => ∃ W0 W : Wd, W.h = H ∧ EnvR X.K W0 W env σ ∧ ∃ z, ma = some z ∧ ∀ W', Le W W' → Q (.bl (if neg then !memB z ks else memB z ks)) W'.h) ∧
    PT X (.Compare a [if neg then .NotIn else .In] [.Name x p] pos) (fun σ H Q => ∃ W0 W : Wd, W.h = H ∧ EnvR X.K W0 W env σ ∧ ∃ z, ma = some z ∧ ∀ W', Le W W' → Q (if neg then !memB z ks else memB z ks) W'.h) := by
  obtain ⟨d, es, n, hm, KX, hk, _⟩ := G.ex
  obtain ⟨e1, e2⟩ := C.wk
  cases C
  have rd : RelV (.ref d) (.ref d) := rfl
  have ho : OpR X (compareOp (if neg then .NotIn else .In)) (fun x y H Q => ∃ z : Str, x = .str z ∧ y = .ref d ∧ Q (.bl (if neg then !memB z ks else memB z ks)) H) := by
    cases neg with
    | false =>
      intro pins s σ H x y v u Q I rx ry ⟨z, e1, e2, q⟩
      obtain ⟨r, h1, h2⟩ := hk z
      exact op_in_kd KX pins s σ H x y v u Q I rx ry ⟨z, r, e1, e2, h1, by rw [h2]; exact q⟩
    | true =>
      intro pins s σ H x y v u Q I rx ry ⟨z, e1, e2, q⟩
      obtain ⟨r, h1, h2⟩ := hk z
      exact op_notIn_kd KX pins s σ H x y v u Q I rx ry ⟨z, r, e1, e2, h1, by rw [h2]; exact q⟩
  have hb : PE X (.Name x p) (tC (.ref d)) := pe_glob (glbB_ok hg) hm rd hd
  have nm : behindInMarks (if neg then .NotIn else .In) (.Name x p) = false := by cases neg <;> rfl
  refine ⟨peImp (pe_cmpR ho ha hb nm) fun σ H Q ⟨W0, W, hH, E, z, hz, q⟩ => ?_, ptImp (pt_cmpR ho ha hb nm) fun σ H Q ⟨W0, W, hH, E, z, hz, q⟩ => ?_⟩
  · subst hH
    refine use_x E hz fun u W1 l1 r1 => ?_
    cases r1
    exact ⟨z, rfl, rfl, q W1 l1⟩
  · subst hH
    unfold tTest L2.tOp
    refine use_x E hz fun u W1 l1 r1 => ?_
    cases r1
    exact ⟨z, rfl, rfl, _, rfl, q W1 l1⟩
theorem x_inKd {x : Str} {ks : List Str} {f : List (Str × D)} {ma : Option Str} (C : Cf X N sc fb K mg P w base k) (G : KD K w mg x ks f) (ha : XE X env a ma) (hg : glbB sc x = true := by decide +kernel) (hd : (x == ("__debug__" : Str)) = false := by decide) :
    XE X env (.Compare a [.In] [.Name x p] pos) (ma.bind fun z => some (memB z ks)) := x_of (q_inKd (neg := false) C G ha hg hd).1 fun W0 W σ E y hy Q q => by
  obtain ⟨z, hz, hy⟩ := bind_some hy
  cases hy
  exact ⟨W0, W, rfl, E, z, hz, fun W' l => q _ W' l (.bl _)⟩
theorem t_inKd {x : Str} {ks : List Str} {f : List (Str × D)} {ma : Option Str} (C : Cf X N sc fb K mg P w base k) (G : KD K w mg x ks f) (ha : XE X env a ma) (hg : glbB sc x = true := by decide +kernel) (hd : (x == ("__debug__" : Str)) = false := by decide) :
    XT X env (.Compare a [.In] [.Name x p] pos) (ma.bind fun z => some (memB z ks)) := t_of (q_inKd (neg := false) C G ha hg hd).2 fun W0 W σ E y hy Q q => by
  obtain ⟨z, hz, hy⟩ := bind_some hy
  cases hy
  exact ⟨W0, W, rfl, E, z, hz, q⟩
theorem x_ninKd {x : Str} {ks : List Str} {f : List (Str × D)} {ma : Option Str} (C : Cf X N sc fb K mg P w base k) (G : KD K w mg x ks f) (ha : XE X env a ma) (hg : glbB sc x = true := by decide +kernel) (hd : (x == ("__debug__" : Str)) = false := by decide) :
    XE X env (.Compare a [.NotIn] [.Name x p] pos) (ma.bind fun z => some (!memB z ks)) := x_of (q_inKd (neg := true) C G ha hg hd).1 fun W0 W σ E y hy Q q => by
  obtain ⟨z, hz, hy⟩ := bind_some hy
  cases hy
  exact ⟨W0, W, rfl, E, z, hz, fun W' l => q _ W' l (.bl _)⟩
theorem t_ninKd {x : Str} {ks : List Str} {f : List (Str × D)} {ma : Option Str} (C : Cf X N sc fb K mg P w base k) (G : KD K w mg x ks f) (ha : XE X env a ma) (hg : glbB sc x = true := by decide +kernel) (hd : (x == ("__debug__" : Str)) = false := by decide) :
    XT X env (.Compare a [.NotIn] [.Name x p] pos) (ma.bind fun z => some (!memB z ks)) := t_of (q_inKd (neg := true) C G ha hg hd).2 fun W0 W σ E y hy Q q => by
  obtain ⟨z, hz, hy⟩ := bind_some hy
  cases hy
  exact ⟨W0, W, rfl, E, z, hz, q⟩
/-- TABLE[key] -/
theorem x_ixKd {x : Str} {ks : List Str} {f : List (Str × D)} {mb : Option Str} (C : Cf X N sc fb K mg P w base k) (G : KD K w mg x ks f) (hb : XE X env b mb) (hs : PlainIx b := by exact fun _ _ => rfl) (hg : glbB sc x = true := by decide +kernel) (hd : (x == ("__debug__" : Str)) = false := by decide) :
    XE X env (.Subscript (.Name x p) b pos) (mb.bind fun z => f.lookup z) := by
  obtain ⟨d, es, n, hm, KX, _, hf⟩ := G.ex
  cases C
  have rd : RelV (.ref d) (.ref d) := rfl
  refine x_of (pe_ix ix_kdict (pe_glob (glbB_ok hg) hm rd hd) hb hs) fun W0 W σ E y hy Q q => ?_
  obtain ⟨z, hz, hy⟩ := bind_some hy
  obtain ⟨u, h1, v, h2, h3⟩ := hf z y hy
  unfold L2.tOp tC
  refine use_x E hz fun u1 W1 l1 r1 => ?_
  cases r1
  exact ⟨d, z, v, rfl, rfl, ⟨es, n, u, KX.at_, KX.lit, h1, h2⟩, q v W1 l1 (h3 _)⟩
/-- xs.index(x) -/
theorem x_index {τ : Type} [Pl τ] [Fl1 τ] {ma : Option (List τ)} {mb : Option τ} (ha : XQ X env o ma) (hb : XE X env e mb)
    (hbase : ∀ E : Env, attributeBase o "index" E (eval o E) = eval o E := by intro _; rfl)
    (hfew : ∀ E : Env, ((backTo p3 (starEach [e] E)).all (fun x => !x.1) && (backToKw p3 (keywordEach [] E)).all (fun x => x.1.isSome)
      && decide ([e].length + ([] : List Keyword).length + (if ([] : List Keyword).isEmpty then 0 else 1) < 30)) = true := by intro _; rfl)
    (hline : (apos.endLine == p3.line) = true := by rfl) (hs : ∀ E : Env, starEach [e] E = (false, eval e E) :: starEach [] E := by intro _; rfl) (hplain : ∀ E : Env, (backTo p3 (starEach ([] : List Expr) E)).any (·.1) = false := by intro _; rfl) :
    XE X env (.Call (.Attribute o "index" apos) [e] [] p3) (ma.bind fun xs => mb.bind fun x => idxP xs x) :=
  x_of (pe_bm PySem.F.plainAttrs_list PySem.F.slot_list_index PySem.F.type_list_index mt_index ha (pa_cons hb pa_nil (hs _)) (hbase _) (hfew _) hline (hs _) (hplain _)) fun W0 W σ E z hz Q q => by
    obtain ⟨xs, hx, hz⟩ := bind_some hz
    obtain ⟨y, hy, hz⟩ := bind_some hz
    unfold idxP at hz
    cases hj : xs.findIdx? (fun z => decide (z = y)) with
    | none => rw [hj] at hz; cases hz
    | some j =>
      rw [hj] at hz
      cases hz
      refine use_q E hx fun ad vs W1 l1 s1 r1 => ?_
      refine ⟨.inl ⟨rfl, _, s1⟩, ?_⟩
      refine use_x (E.mono l1) hy fun u W2 l2 r2 => ?_
      obtain ⟨f1, _⟩ := inV_rp r2 (r1.mono l2.b)
      obtain ⟨hj1, hj2, hj3⟩ := List.findIdx?_eq_some_iff_getElem.mp hj
      obtain ⟨v, e1, e2⟩ := (r1.mono l2.b).get (show (xs.map em)[j]? = some (em xs[j]) by rw [List.getElem?_map, List.getElem?_eq_getElem hj1]; rfl)
      refine ⟨ad, vs, u, j, v, rfl, rfl, l2.h.seq s1, Pl.flat Fl1.fl r2, f1, e1, ?_, fun m z' hm hz' => ?_, q _ W2 (l1.trans l2) (.int _)⟩
      · rw [Fl1.eqv e2 r2]; exact hj2
      · obtain ⟨v', e3, e4⟩ := (r1.mono l2.b).get (show (xs.map em)[m]? = some (em (xs[m]'(by omega))) by rw [List.getElem?_map, List.getElem?_eq_getElem (by omega)]; rfl)
        rw [hz'] at e3
        cases e3
        rw [Fl1.eqv e4 r2]
        simpa using hj3 m hm
end
structure Gc (K : PySem.W.Frag) (mg : Str → Option Value) (x : Str) (d : D) : Prop where
  ex : ∃ u, mg x = some u ∧ Cs K u d
section
variable {X : Cx} {env : List SV} {pos : Pos} [Em τ] {N : List Str} {sc : Scope} {fb : Str → Bool} {K : PySem.W.Frag} {mg : Str → Option Value} {P : Program} {w : World} {base : Heap} {k : Nat}
theorem x_gc {x : Str} {val : τ} (C : Cf X N sc fb K mg P w base k) (G : Gc K mg x (em val)) (hg : glbB sc x = true := by decide +kernel) (hd : (x == ("__debug__" : Str)) = false := by decide) : XE X env (.Name x pos) (some val) := by
  obtain ⟨u, hm, h⟩ := G.ex
  exact x_glob C hm h hg hd
end
/-! ### a dict of the top, out of what is told of it -/
theorem kd_keys {K : PySem.W.Frag} {w : World} {a : Addr} {ks : List Str} (h : He.dicW K a = some (He.keysIn w.params ks)) (z : Str) : ∃ r, PySem.W.nsIn K a z = some r ∧ r.isSome = memB z ks := by
  obtain ⟨es, n, D⟩ := He.dicW_ok h
  have hl := D.at_
  unfold He.dicW at h
  rw [hl] at h
  have h2 : (match decide (("dict" : String) = "dict") && ((#[] : Array (Option Value)).isEmpty && !(a == sysModules)) with
    | true => some (es.toList.map He.keyOf)
    | false => none) = some (He.keysIn w.params ks) := h
  have h3 : (decide (("dict" : String) = "dict") && ((#[] : Array (Option Value)).isEmpty && !(a == sysModules))) = true := by rw [D.low]; rfl
  rw [h3] at h2
  have h4 : es.toList.map He.keyOf = He.keysIn w.params ks := Option.some.inj h2
  unfold PySem.W.nsIn
  rw [hl]
  show ∃ r, (match es.toList.find? (·.key.isStr z) with
      | some e => some (some e.val)
      | none => if es.toList.any (·.refKey) then none else some none) = some r ∧ r.isSome = memB z ks
  clear h h2 h3 hl D
  revert ks
  generalize es.toList = l
  intro ks h4
  have key : ∀ (l : List DictEntry) (ks : List Str), l.map He.keyOf = He.keysIn w.params ks → l.any (·.refKey) = false ∧ ((l.find? (·.key.isStr z)).isSome = memB z ks) := by
    intro l
    induction l with
    | nil =>
      intro ks h
      cases ks with
      | nil => exact ⟨rfl, rfl⟩
      | cons _ _ => cases h
    | cons e l ih =>
      intro ks h
      cases ks with
      | nil => cases h
      | cons q ks =>
        have h1 : He.keyOf e :: l.map He.keyOf = some (q, PyData.keyHash w.params q) :: He.keysIn w.params ks := h
        injection h1 with h2 h3
        obtain ⟨i1, i2⟩ := ih ks h3
        unfold He.keyOf at h2
        split at h2
        · rename_i x t q'
          obtain ⟨h5, _⟩ := Prod.mk.inj (Option.some.inj h2)
          subst h5
          have e1 : e.refKey = false := by unfold DictEntry.refKey; rw [q']
          refine ⟨by rw [List.any_cons, e1, i1]; rfl, ?_⟩
          have e2 : e.key.isStr z = decide (x = z) := by
            rw [q']
            by_cases hz : x = z
            · subst hz; simp [Value.isStr]
            · simp [Value.isStr, hz]
          rw [List.find?_cons, e2]
          unfold memB at i2 ⊢
          rw [List.any_cons]
          by_cases hz : x = z
          · simp [hz]
          · simp [hz, i2]
        · cases h2
  obtain ⟨k1, k2⟩ := key l ks h4
  cases hf : l.find? (·.key.isStr z) with
  | some e => rw [hf] at k2; exact ⟨some e.val, rfl, k2⟩
  | none => rw [hf] at k2; rw [k1]; exact ⟨none, rfl, k2⟩
theorem dicW_of {K : PySem.W.Frag} {P : Params} {a : Addr} {es : Array DictEntry} {n : Nat} {ks : List Str} (l : K.lookup a = some ⟨.type "dict", none, .dict es n, #[]⟩) (hs : (a == sysModules) = false) (he : es.toList.map He.keyOf = He.keysIn P ks := by rfl) : He.dicW K a = some (He.keysIn P ks) := by
  unfold He.dicW
  rw [l]
  show (match decide (("dict" : String) = "dict") && ((#[] : Array (Option Value)).isEmpty && !(a == sysModules)) with
    | true => some (es.toList.map He.keyOf)
    | false => none) = _
  have h3 : (decide (("dict" : String) = "dict") && ((#[] : Array (Option Value)).isEmpty && !(a == sysModules))) = true := by rw [hs]; rfl
  rw [h3, he]
theorem kd_mk {K : PySem.W.Frag} {w : World} {mg : Str → Option Value} {x : Str} {a : Addr} {ks : List Str} {f : List (Str × D)} (hm : mg x = some (.ref a)) (h : He.dicW K a = some (He.keysIn w.params ks)) (hf : ∀ z y, f.lookup z = some y → ∃ u, PySem.W.nsIn K a z = some (some u) ∧ Cs K u y) : KD K w mg x ks f := by
  obtain ⟨es, n, D⟩ := He.dicW_ok h
  exact ⟨a, es, n, hm, D, kd_keys h, hf⟩
theorem kv_nil {K : PySem.W.Frag} {a : Addr} : ∀ z y, ([] : List (Str × D)).lookup z = some y → ∃ u, PySem.W.nsIn K a z = some (some u) ∧ Cs K u y := fun z y h => by cases h
theorem kv_cons {K : PySem.W.Frag} {a : Addr} {q : Str} {d : D} {u : Value} {f : List (Str × D)} (h : PySem.W.nsIn K a q = some (some u)) (hc : Cs K u d) (t : ∀ z y, f.lookup z = some y → ∃ u, PySem.W.nsIn K a z = some (some u) ∧ Cs K u y) : ∀ z y, ((q, d) :: f).lookup z = some y → ∃ u, PySem.W.nsIn K a z = some (some u) ∧ Cs K u y := fun z y e => by
  rw [List.lookup_cons] at e
  by_cases hz : z = q
  · subst hz
    rw [beq_self_eq_true] at e
    cases e
    exact ⟨u, h, hc⟩
  · rw [beq_false_of_ne hz] at e
    exact t z y e
end T

set_option Elab.async false
set_option linter.all false
set_option maxRecDepth 100000
set_option maxHeartbeats 4000000
/-! TAll: all(.. for sign in text), any(.. ..): the def's code table grows. -/
namespace T
open PySem PySem.Spec PyProof.Rows L2
variable {τ α β γ δ ρ B S ι : Type}
/-- 'a' <= sign <= 'z' -/
theorem elt_btw {prog : Program} {w : World} {scope : Scope} {x a b : Str} {j j' : Nat} {p1 p2 p3 p4 : Pos} (hk : scope.kind = .function) (hl : scope.names.lookup x = some .local) (hd : (x == ("__debug__" : Str)) = false := by decide) :
    GxR.EltP prog w scope x (.Compare (.Constant (.str a) j p1) [.LtE, .LtE] [.Name x p2, .Constant (.str b) j' p3] p4) (fun c => !decide ([c] < a.cps.toList) && !decide (b.cps.toList < [c])) := by
  intro cenv A' E' c t s₂ m₂ hs hn hm
  have nm : ∀ {Q : Value → Shared → Prop} (k : Nat), Q (.str ⟨#[c]⟩ t) { s₂ with toks := k } → wpAny (model prog w) A' (eval (.Name x p2) cenv) Q E' { s₂ with toks := k } := fun {Q} k q =>
    wpAny_Name (wpAny_loadName_local (by rw [hs]; exact hk) (show cenv.scope.names.lookup x = some .local by rw [hs]; exact hl) (show ({ s₂ with toks := k } : Shared).heap.Ns cenv.locals m₂ from hn) hm q) hd
  refine Compare_chain ?_
  refine Calls.Constant_str ?_
  refine chain_link (nm _ ?_)
  refine PySem.P.le_str ?_
  refine wpAny_truthy_bool ?_
  show if (!decide ([c] < a.cps.toList)) = true then _ else _
  by_cases q : (!decide ([c] < a.cps.toList)) = true
  · rw [if_pos q]
    refine chain_last (Calls.Constant_str ?_)
    refine PySem.P.le_str ⟨?_, GxR.keeps_tok _ _⟩
    show Value.bool _ = Value.bool (!decide ([c] < a.cps.toList) && !decide (b.cps.toList < [c]))
    rw [q, Bool.true_and]
  · rw [if_neg q]
    have q' : (!decide ([c] < a.cps.toList)) = false := by simpa using q
    refine ⟨?_, GxR.keeps_tok _ _⟩
    show Value.bool _ = Value.bool (!decide ([c] < a.cps.toList) && !decide (b.cps.toList < [c]))
    rw [q', Bool.false_and]
/-- a def whose code object stands at c -/
structure FunT (K : PySem.W.Frag) (x qual : Str) (st : Stmt) (f : Addr) (fd : FuncData) (c : Addr) : Prop where
  ex : ∃ (oc : Value) (od : Option Addr) (kV doc pm : Value) (an : Option Addr) (ct : Value) (osl : Array (Option Value)),
    fd = PySem.W.fnOf x qual (defArgs st) (defBody st) (defScope st) .none kV doc pm an (.ref c) ct ∧ K.lookup f = some ⟨oc, od, .func fd, osl⟩ ∧ PySem.W.codeIn K (.ref c) qual = true
theorem funT_mk {K : PySem.W.Frag} {x qual : Str} {st : Stmt} {f c : Addr} {oc : Value} {od an : Option Addr} {osl : Array (Option Value)} {kV doc pm ct : Value} (l : K.lookup f = some ⟨oc, od, .func (PySem.W.fnOf x qual (defArgs st) (defBody st) (defScope st) .none kV doc pm an (.ref c) ct), osl⟩)
    (h : PySem.W.codeIn K (.ref c) qual = true) : FunT K x qual st f (PySem.W.fnOf x qual (defArgs st) (defBody st) (defScope st) .none kV doc pm an (.ref c) ct) c := ⟨oc, od, kV, doc, pm, an, ct, osl, rfl, l, h⟩
section
variable [Tabs]
variable {X : Cx} {env env' : List SV} {e a b tg iter elt o : Expr} {pos p p2 p3 apos : Pos} [Em τ] [Em α] [Em β] [Em γ] {N : List Str} {sc : Scope} {fb : Str → Bool} {K : PySem.W.Frag} {mg : Str → Option Value} {P : Program} {w : World} {base : Heap} {k : Nat}
theorem fn_mkT {A : Type} {svs : A → List SV} {m : A → Option ρ} {res : ρ → RV} {x qual : Str} {st : Stmt} {f c : Addr} {fd : FuncData} {ps : List Str} (F : FunT K x qual st f fd c) (S : FnScope N ps (defScope st)) (n : Nat) (hn : N.length - ps.length = n) (hl : ∀ a, (svs a).length = ps.length)
    (body : ∀ X, Cf X N (defScope st) (fun _ => true) K mg P w base k → X.env.code = .ref c → X.base = base → X.mg = mg → X.prog = P → X.w = w → ∀ a, GS X (svs a ++ List.replicate n .any) (defBody st) (m a) (ZRn X.K res)) : FnOk P w K mg base CX0 (k + 1) f fd ps (spF K svs m res) := by
  obtain ⟨oc, od, kV, doc, pm, an, ct, osl, rfl, lk, hcd⟩ := F.ex
  refine fn_of lk hcd S (fun vs H Q E h => ?_) (fun A' outer s H vs Q E hr h => ?_)
  · obtain ⟨W, a, y, _, _, _, r, _⟩ := h
    rw [r.length, hl]
  · obtain ⟨W, a, y, hH, ok, tb, r, hy, q⟩ := h
    subst hH
    exact ⟨_, (body (cxOf CX0 P w K mg base N qual (defScope st) f (.ref c) A' outer s W.h E).nox (Cf.mk S.nd rfl PassesOwn.never hr) rfl rfl rfl rfl rfl a).nox, W, W, W.b, rfl, EnvR.start ok tb r (by rw [r.length, hl]; exact hn), Same.refl _, y, hy, q, fun σ W' l r' => q.use l r'⟩
theorem tabO {H : Hp} {P : Addr} {o : HO} (t : GxR.TabG H P) (e : H P = some o) : TabO o := by
  obtain ⟨ps, q, k⟩ := t
  rw [e] at q
  cases q
  exact ⟨ps, rfl, ps, rfl, k⟩
/-- the table at P has grown -/
theorem Le.tabbed {W : Wd} {P : Addr} {H2 : Hp} (ok : Same W.b W.h) (t : GxR.TabG W.h P) (nb : W.b P = none) (h : GxR.Tabbed P W.h H2) : Le W ⟨W.b, H2⟩ := by
  obtain ⟨t2, h2⟩ := h
  refine ⟨Same.refl _, fun a u z => ?_, fun _ _ _ => rfl, fun a u z => ?_⟩
  · by_cases ha : a = P
    · subst ha
      obtain ⟨ps, e, k⟩ := id t2
      exact .inr ⟨tabO t z, _, e, tabO t2 e⟩
    · exact .inl ((h2 a ha).trans z)
  · have ha : a ≠ P := fun q => by
      subst q
      have z : W.b a = some u := z
      rw [nb] at z; cases z
    exact (h2 a ha).trans (ok a u z)
theorem x_allS {c Pt : Addr} {x : Str} {px gpos : Pos} {scope : Scope} {pb : Nat → Bool} {m : Option Str} (C : Cf X N sc fb K mg P w base k) (h : XE X env iter m) (hT : Tabs.tab Pt) (TB : GxR.TabB X.base X.mg c Pt) (hcode : X.env.code = .ref c) (S : GxR.GenS X.env scope x)
    (hel : GxR.EltP X.prog X.w scope x elt pb) (hm : mg "all" = none) (hg : glbB sc "all" = true := by decide +kernel) (hs : ∀ E : Env, ∀ v, genFold iter E v = pure v := by intro _ _; rfl)
    (he : ∀ E : Env, starEach [.GeneratorExp elt [⟨.Name x px, iter, [], 0⟩] scope gpos] E = (false, eval (.GeneratorExp elt [⟨.Name x px, iter, [], 0⟩] scope gpos) E) :: starEach [] E := by intro _; rfl) :
    XE X env (.Call (.Name "all" p) [.GeneratorExp elt [⟨.Name x px, iter, [], 0⟩] scope gpos] [] pos) (m.bind fun s => some (s.cps.toList.all pb)) := by
  cases C with
  | mk nd calm po rm =>
    refine x_of (GxR.pe_allS rm (glbB_ok hg) hm (by decide +kernel) TB hcode S h hel (hs _) (he _)) fun W0 W σ E z hz Q q => ?_
    obtain ⟨s, hs, hz⟩ := bind_some hz
    cases hz
    unfold GxR.tAllS
    refine use_x E hs fun v W1 l1 r1 => ?_
    cases r1
    obtain ⟨t1, b1⟩ := (E.mono l1).tbl Pt hT
    exact ⟨s, rfl, t1, fun H2 hH => q _ ⟨W1.b, H2⟩ (l1.trans (Le.tabbed l1.ok t1 b1 hH)) (.bl _)⟩
end
theorem gens_of {env : Env} {scope : Scope} {x : Str} (hk : scope.kind = .function := by rfl) (hc : scope.isCoroutine = false := by rfl) (ha : (scope.names.all fun y => decide (y.2 ≠ .cell) && decide (y.2 ≠ .free)) = true := by decide +kernel)
    (hd : scope.names.lookup (".0" : Str) = some NameKind.local := by decide +kernel) (hl : scope.names.lookup x = some .local := by decide +kernel) : GxR.GenS env scope x := by
  rw [List.all_eq_true] at ha
  refine ⟨hk, hc, fun y hy => ?_, hd, hl, fun y hy z => ?_⟩
  · have := ha y hy
    simp only [Bool.and_eq_true, decide_eq_true_eq] at this
    exact this.1
  · have := ha y hy
    simp only [Bool.and_eq_true, decide_eq_true_eq] at this
    exact absurd z this.2
theorem codeHd_of {K : PySem.W.Frag} {h : Heap} {c Pt : Addr} {dd : Option Addr} {vs : Array Value} {sl : Array (Option Value)} {file : Str} {tf tg tt : Tok} {flags text : Int} {inF : Bool} (KX : K.In h) (lc : K.lookup c = some ⟨.type "code", dd, .fields vs, sl⟩)
    (v11 : vs[11]? = some (.ref Pt)) (v18 : vs.getD 18 .none = .str file tf) (v7 : vs.getD 7 .none = .int flags tg) (v9 : vs.getD 9 .none = .bool inF) (v10 : vs.getD 10 .none = .int text tt) (ne : c ≠ Pt) : PySem.W.CodeHd h c Pt :=
  ⟨_, vs, file, tf, flags, tg, inF, text, tt, KX _ _ lc, rfl, rfl, v11, by rw [Array.getD_eq_getD_getElem?, v11]; rfl, v18, v7, v9, v10, ne⟩
theorem tabB_of {base : Heap} {mg : Str → Option Value} {c Pt : Addr} (t : LamX.TabB base mg c Pt) : GxR.TabB base mg c Pt := ⟨t.code, t.bm, t.gP⟩
theorem tab0 {H : Hp} {Pt : Addr} (h : H Pt = some (.tbl #[])) : GxR.TabG H Pt := ⟨#[], h, trivial⟩
/-! ### the law's end with tables -/
theorem law_walkT {l : PySem.W.OpenLaw} {k : Nat} {q : Program} {loose : List Str} {XP : (Str → Option Value) → Heap → Prop} {YP : World → Heap → Prop} {d : DefRec} {K : Params → PySem.W.Frag} (hn : l.most = some 63) (hdf : d.params.defaults = [])
    (hY : ∀ (w : World) (h : Heap), YP w h → (K w.params).In h) (hk : Room k callerA) (xs : List Str) (hrec : ∀ x ∈ xs, ((recsOf q).any fun e => e.name == x) = true)
    (F : ∀ (w : World) (mg : Str → Option Value) (fa : Addr) (h : Heap), (K w.params).In h → h.Ns mainGlobals mg → mg d.name = some (.ref fa) → (∀ x ∈ xs, ∀ f, mg x = some (.ref f) → LamX.OwnTab (K w.params) f h) →
      LamX.LawAtS l w (K w.params) CX0 k 63 "script" mg fa h) :
    PySem.W.WalkO q loose XP YP l.row.toRowW d [] (fun g us => PySem.call g us) := by
  refine Att.attach_callB hn hdf fun w u₀ u₁ mg mb fa ob pmx cdx dcx ad us ks GG YY q1 q2 q3 q4 q5 q6 q7 q8 q9 => ?_
  have KX := hY w _ YY
  have own : ∀ x ∈ xs, ∀ f, mg x = some (.ref f) → LamX.OwnTab (K w.params) f u₁.heap := fun x hx f hf c Pt oo ff ee dx ws ss j1 j2 j3 j4 j5 => by
    obtain ⟨rc, rm, rn⟩ := List.any_eq_true.mp (hrec x hx)
    have rn2 : rc.name = x := beq_iff_eq.mp rn
    obtain ⟨fa', fo', ff', cc', pp', t1, t2, t3, t4, t5, t6⟩ := GG.T.tab rc rm
    rw [rn2, hf] at t1
    cases t1
    rw [KX _ _ j1] at t2
    cases t2
    rw [j2] at t3
    cases t3
    rw [j3] at t4
    cases t4
    obtain ⟨⟨ocx, vcx, i1, _, i3, i4⟩, got⟩ := t6
    rw [KX _ _ j4] at i1
    cases i1
    cases i3
    rw [j5] at i4
    cases i4
    exact got
  obtain ⟨fd, cs, sp, a1, a2, a3, a4, a5, a6⟩ := F w mg fa _ KX GG.T.g q4 own
  exact LamX.law_callTs KX GG.T.g GG.T.b GG.T.builtins GG.T.nolimit q9 a1 a2 a3 GG.T.bmain q5 q6 (Nat.le_trans q7 (by decide)) hk a6 a4 (fun H tH sH => a5 H ad ks q7 q8 tH sH) fun H e s' z => z
end T

set_option Elab.async false
set_option linter.all false
set_option maxRecDepth 100000
set_option maxHeartbeats 4000000
/-! TState: expressions and defs that draw from the tape. A mirror takes the tape and hands it back. -/
namespace T
open PySem PySem.Spec PyProof.Rows L2
variable {τ α β γ δ ρ B S ι U : Type}
variable [Tabs]
/-- no data: where a rule asks for a kind -/
instance : Em Tp := ⟨fun _ => .non⟩
theorem ltB {a b : Nat} (h : Nat.ble (a + 1) b = true) : a < b := Nat.le_of_ble_eq_true h
/-! ### operators by their values -/
structure BinH [Em α] [Em β] [Em γ] (X : Cx) (op : Operator) (f : α → β → Option γ) : Prop where
  ex : ∃ r, OpR X (binaryOp op) r ∧ ∀ x y z, f x y = some z → ∀ (W : Wd) (u v : V), Same W.b W.h → Rp X.K W.b u (em x) → Rp X.K W.b v (em y) → ∀ Q : VK, (∀ v W', Le W W' → Rp X.K W'.b v (em z) → Q v W'.h) → r u v W.h Q
structure CmpH [Em α] [Em β] (X : Cx) (op : CmpOp) (f : α → β → Option Bool) : Prop where
  ex : ∃ r, OpR X (compareOp op) r ∧ ∀ x y z, f x y = some z → ∀ (W : Wd) (u v : V), Same W.b W.h → Rp X.K W.b u (em x) → Rp X.K W.b v (em y) → ∀ Q : VK, (∀ v W', Le W W' → Rp X.K W'.b v (em z) → Q v W'.h) → r u v W.h Q
section
variable {X : Cx}
theorem bin_I {op : Operator} {g : Int → Int → Int} (ho : OpR X (binaryOp op) (rI0 fun i j => .int (g i j))) : BinH X op (fun x y : Int => some (g x y)) := ⟨_, ho, fun x y z hz W u v ok ru rv Q q => by
  cases hz; cases ru; cases rv
  exact ⟨x, y, rfl, rfl, q _ W (Le.refl ok) (.int _)⟩⟩
theorem bin_add : BinH X .Add (fun x y : Int => some (x + y)) := bin_I op_add
theorem bin_sub : BinH X .Sub (fun x y : Int => some (x - y)) := bin_I op_sub
theorem bin_mul : BinH X .Mult mulP := ⟨_, op_mul, fun x y z hz W u v ok ru rv Q q => by
  unfold mulP at hz
  split at hz
  · cases hz; cases ru; cases rv
    exact ⟨x, y, rfl, rfl, by unfold CMul; omega, q _ W (Le.refl ok) (.int _)⟩
  · cases hz⟩
theorem bin_mod : BinH X .Mod modP := ⟨_, op_modN, fun x y z hz W u v ok ru rv Q q => by
  unfold modP at hz
  split at hz
  · cases hz
  · cases hz; cases ru; cases rv
    exact ⟨x, y, rfl, rfl, by assumption, q _ W (Le.refl ok) (.int _)⟩⟩
theorem bin_div : BinH X .FloorDiv divP := ⟨_, op_fdivN, fun x y z hz W u v ok ru rv Q q => by
  unfold divP at hz
  split at hz
  · cases hz
  · split at hz
    · cases hz; cases ru; cases rv
      exact ⟨x, y, rfl, rfl, ⟨by assumption, by assumption⟩, q _ W (Le.refl ok) (.int _)⟩
    · cases hz⟩
theorem bin_addS : BinH X .Add catS := ⟨_, op_add_str, fun x y z hz W u v ok ru rv Q q => by
  unfold catS at hz
  split at hz
  · cases hz; cases ru; cases rv
    exact ⟨x, y, rfl, rfl, by rw [sizeLine_eq]; omega, q _ W (Le.refl ok) (.str _)⟩
  · cases hz⟩
theorem cmp_I {op : CmpOp} {g : Int → Int → Bool} (ho : OpR X (compareOp op) (rI0 fun i j => .bl (g i j))) : CmpH X op (fun x y : Int => some (g x y)) := ⟨_, ho, fun x y z hz W u v ok ru rv Q q => by
  cases hz; cases ru; cases rv
  exact ⟨x, y, rfl, rfl, q _ W (Le.refl ok) (.bl _)⟩⟩
theorem cmp_lt : CmpH X .Lt (fun x y : Int => some (decide (x < y))) := cmp_I op_lt
theorem cmp_le : CmpH X .LtE (fun x y : Int => some (decide (x ≤ y))) := cmp_I op_le
theorem cmp_gt : CmpH X .Gt (fun x y : Int => some (decide (y < x))) := cmp_I op_gt
theorem cmp_ge : CmpH X .GtE (fun x y : Int => some (decide (y ≤ x))) := cmp_I op_ge
theorem cmp_eq {τ : Type} [Pl τ] : CmpH X .Eq (fun x y : τ => some (decide (x = y))) := ⟨_, op_eq, fun x y z hz W u v ok ru rv Q q => by
  cases hz
  obtain ⟨h1, h2⟩ := Pl.eq ru rv
  refine ⟨h1, ?_⟩
  rw [show decide (u = v) = decide (x = y) from decide_eq_decide.mpr h2]
  exact q _ W (Le.refl ok) (.bl _)⟩
theorem cmp_ne {τ : Type} [Pl τ] : CmpH X .NotEq (fun x y : τ => some (!decide (x = y))) := ⟨_, op_ne, fun x y z hz W u v ok ru rv Q q => by
  cases hz
  obtain ⟨h1, h2⟩ := Pl.eq ru rv
  refine ⟨h1, ?_⟩
  rw [show decide (u = v) = decide (x = y) from decide_eq_decide.mpr h2]
  exact q _ W (Le.refl ok) (.bl _)⟩
end
/-! ### what is kept but for some addresses -/
section
variable {F : List Addr} {W W' W1 W2 : Wd}
theorem Le.hid (l : Le W W') : Le (hide F W) W' := by
  have k : ∀ a o, (hide F W).h a = some o → W.h a = some o := fun a o z => by
    by_cases h : a ∈ F
    · rw [hide_in h] at z; cases z
    · rwa [hide_out h] at z
  exact ⟨l.b, fun a o z => l.h a o (k a o z), fun a o z => l.f a o (k a o z), l.ok⟩
theorem Le.thid (l : Le (hide F W) W1) (m : Le (hide F W1) W2) : Le (hide F W) W2 := by
  refine ⟨l.b.trans m.b, fun a o z => ?_, fun a o z => ?_, m.ok⟩
  · have ha : a ∉ F := fun h => by rw [hide_in h] at z; cases z
    rcases l.h a o z with q | ⟨t, o1, q, t1⟩
    · exact m.h a o ((hide_out ha).trans q)
    · rcases m.h a o1 ((hide_out ha).trans q) with q2 | ⟨_, q2⟩
      · exact .inr ⟨t, o1, q2, t1⟩
      · exact .inr ⟨t, q2⟩
  · have ha : a ∉ F := fun h => by rw [hide_in h] at z; cases z
    obtain ⟨o1, q⟩ := l.h.some z
    exact (m.f a o1 ((hide_out ha).trans q)).trans (l.f a o z)
theorem hide_none {a : Addr} (h : W.h a = none) : (hide F W).h a = none := by
  by_cases k : a ∈ F
  · exact hide_in k
  · exact (hide_out k).trans h
theorem Le.hrefl (ok : Same W.b W.h) : Le (hide F W) W := (Le.refl ok).hid
/-- what is new is frozen -/
theorem Le.frz {a : Addr} {u : HO} (l : Le (hide F W) W') (h1 : W'.h a = some u) (h2 : W'.b a = none) (h0 : (hide F W).h a = none) : Le (hide F W) ⟨upd W'.b a u, W'.h⟩ := by
  refine ⟨l.b.trans (Same.new h2), l.h, fun c o z => ?_, fun c o z => ?_⟩
  · have hc : c ≠ a := fun q => by
      subst q
      rw [h0] at z; cases z
    show upd W'.b a u c = _
    rw [upd_ne hc]; exact l.f c o z
  · have z : upd W'.b a u c = some o := z
    show W'.h c = some o
    by_cases hc : c = a
    · subst hc; rw [upd_same] at z; exact h1.trans z
    · rw [upd_ne hc] at z; exact l.ok c o z
end
/-- what is drawn first, then the rest -/
def bM {γ : Type} (m : Option (α × U)) (k : α → U → Option γ) : Option γ := m.bind fun p => k p.1 p.2
theorem bM_some {γ : Type} {m : Option (α × U)} {k : α → U → Option γ} {z : γ} (h : bM m k = some z) : ∃ x t, m = some (x, t) ∧ k x t = some z := by
  obtain ⟨⟨x, t⟩, h1, h2⟩ := bind_some h
  exact ⟨x, t, h1, h2⟩
/-! ### judgements -/
def tM [Em τ] (K : PySem.W.Frag) (F : List Addr) (env : U → List SV) (m : Option (τ × U)) (t : U) : TE := fun σ H Q =>
  ∃ W0 W : Wd, W.h = H ∧ EnvR K W0 W (env t) σ ∧ ∃ p, m = some p ∧ ∀ v W', Le (hide F W) W' → EnvR K W0 W' (env p.2) σ → Rp K W'.b v (em p.1) → Q v W'.h
/-- a new list, owned by no slot -/
def tML [Em τ] (K : PySem.W.Frag) (F : List Addr) (env : U → List SV) (m : Option (List τ × U)) (t : U) : TE := fun σ H Q =>
  ∃ W0 W : Wd, W.h = H ∧ EnvR K W0 W (env t) σ ∧ ∃ p, m = some p ∧ ∀ a vs W', Le (hide F W) W' → EnvR K W0 W' (env p.2) σ → W'.h a = some (.lst vs) → W'.b a = none → W0.h a = none → (hide F W).h a = none → (∀ (j : Nat) (sj : SV) (oj : Option V), (env p.2)[j]? = some sj → σ[j]? = some oj → a ∉ fpS sj oj) → RpA K W'.b vs (p.1.map em) → Q (.ref a) W'.h
def tMT (K : PySem.W.Frag) (F : List Addr) (env : U → List SV) (m : Option (Bool × U)) (t : U) : TT := fun σ H Q =>
  ∃ W0 W : Wd, W.h = H ∧ EnvR K W0 W (env t) σ ∧ ∃ p, m = some p ∧ ∀ W', Le (hide F W) W' → EnvR K W0 W' (env p.2) σ → Q p.1 W'.h
def tMA (K : PySem.W.Frag) (F : List Addr) (env : U → List SV) (m : Option (δ × U)) (ds : δ → List D) (t : U) : TA := fun σ H Q =>
  ∃ W0 W : Wd, W.h = H ∧ EnvR K W0 W (env t) σ ∧ ∃ p, m = some p ∧ ∀ vs W', Le (hide F W) W' → EnvR K W0 W' (env p.2) σ → RpA K W'.b vs (ds p.1) → Q vs W'.h
def tMW [Em τ] (K : PySem.W.Frag) (F : List Addr) (env : U → List SV) (m : Option (List τ × U)) (t : U) : TI := fun σ H R =>
  ∃ W0 W : Wd, W.h = H ∧ EnvR K W0 W (env t) σ ∧ ∃ p, m = some p ∧ ∀ J W', Le (hide F W) W' → EnvR K W0 W' (env p.2) σ → Walk K W0 W' J p.1 → R J W'.h
abbrev ME [Em τ] (X : Cx) (F : List Addr) (env : U → List SV) (t : U) (e : Expr) (m : Option (τ × U)) : Prop := PE X e (tM X.K F env m t)
abbrev ML [Em τ] (X : Cx) (F : List Addr) (env : U → List SV) (t : U) (e : Expr) (m : Option (List τ × U)) : Prop := PE X e (tML X.K F env m t)
abbrev MT (X : Cx) (F : List Addr) (env : U → List SV) (t : U) (e : Expr) (m : Option (Bool × U)) : Prop := PT X e (tMT X.K F env m t)
abbrev MA (X : Cx) (F : List Addr) (env : U → List SV) (t : U) (es : List Expr) (m : Option (δ × U)) (ds : δ → List D) : Prop := PA X es (tMA X.K F env m ds t)
abbrev MWk [Em τ] (X : Cx) (F : List Addr) (env : U → List SV) (t : U) (tg e : Expr) (m : Option (List τ × U)) : Prop := PI X tg e (tMW X.K F env m t)
section
variable {X : Cx} {F : List Addr} {env : U → List SV} {t : U} {e a b c : Expr} {es : List Expr} {pos p : Pos} [Em τ] [Em α] [Em β] [Em γ]
theorem m_of {r : TE} {m : Option (τ × U)} (h : PE X e r)
    (k : ∀ (W0 W : Wd) (σ : St), EnvR X.K W0 W (env t) σ → ∀ p, m = some p → ∀ Q : VK, (∀ v W', Le (hide F W) W' → EnvR X.K W0 W' (env p.2) σ → Rp X.K W'.b v (em p.1) → Q v W'.h) → r σ W.h Q) : ME X F env t e m :=
  peImp h fun σ H Q ⟨W0, W, hH, E, x, hx, q⟩ => by subst hH; exact k W0 W σ E x hx Q q
theorem ml_of {r : TE} {m : Option (List τ × U)} (h : PE X e r)
    (k : ∀ (W0 W : Wd) (σ : St), EnvR X.K W0 W (env t) σ → ∀ p, m = some p → ∀ Q : VK, (∀ a vs W', Le (hide F W) W' → EnvR X.K W0 W' (env p.2) σ → W'.h a = some (.lst vs) → W'.b a = none → W0.h a = none → (hide F W).h a = none → (∀ (j : Nat) (sj : SV) (oj : Option V), (env p.2)[j]? = some sj → σ[j]? = some oj → a ∉ fpS sj oj) → RpA X.K W'.b vs (p.1.map em) → Q (.ref a) W'.h) → r σ W.h Q) : ML X F env t e m :=
  peImp h fun σ H Q ⟨W0, W, hH, E, x, hx, q⟩ => by subst hH; exact k W0 W σ E x hx Q q
theorem mt_of {r : TT} {m : Option (Bool × U)} (h : PT X e r)
    (k : ∀ (W0 W : Wd) (σ : St), EnvR X.K W0 W (env t) σ → ∀ p, m = some p → ∀ Q : Bool → Hp → Prop, (∀ W', Le (hide F W) W' → EnvR X.K W0 W' (env p.2) σ → Q p.1 W'.h) → r σ W.h Q) : MT X F env t e m :=
  ptImp h fun σ H Q ⟨W0, W, hH, E, x, hx, q⟩ => by subst hH; exact k W0 W σ E x hx Q q
variable {K : PySem.W.Frag} {W0 W : Wd} {σ : St}
theorem use_m {m : Option (τ × U)} {x : τ} {t' : U} {Q : VK} (E : EnvR K W0 W (env t) σ) (h : m = some (x, t')) (q : ∀ v W', Le (hide F W) W' → EnvR K W0 W' (env t') σ → Rp K W'.b v (em x) → Q v W'.h) : tM K F env m t σ W.h Q := ⟨W0, W, rfl, E, _, h, q⟩
theorem use_ml {m : Option (List τ × U)} {x : List τ} {t' : U} {Q : VK} (E : EnvR K W0 W (env t) σ) (h : m = some (x, t')) (q : ∀ a vs W', Le (hide F W) W' → EnvR K W0 W' (env t') σ → W'.h a = some (.lst vs) → W'.b a = none → W0.h a = none → (hide F W).h a = none → (∀ (j : Nat) (sj : SV) (oj : Option V), (env t')[j]? = some sj → σ[j]? = some oj → a ∉ fpS sj oj) → RpA K W'.b vs (x.map em) → Q (.ref a) W'.h) : tML K F env m t σ W.h Q := ⟨W0, W, rfl, E, _, h, q⟩
theorem use_mt {m : Option (Bool × U)} {x : Bool} {t' : U} {Q : Bool → Hp → Prop} (E : EnvR K W0 W (env t) σ) (h : m = some (x, t')) (q : ∀ W', Le (hide F W) W' → EnvR K W0 W' (env t') σ → Q x W'.h) : tMT K F env m t σ W.h Q := ⟨W0, W, rfl, E, _, h, q⟩
theorem use_ma {m : Option (δ × U)} {ds : δ → List D} {x : δ} {t' : U} {Q : List V → Hp → Prop} (E : EnvR K W0 W (env t) σ) (h : m = some (x, t')) (q : ∀ vs W', Le (hide F W) W' → EnvR K W0 W' (env t') σ → RpA K W'.b vs (ds x) → Q vs W'.h) : tMA K F env m ds t σ W.h Q := ⟨W0, W, rfl, E, _, h, q⟩
/-! ### what draws nothing -/
theorem m_x {m : Option τ} (h : XE X (env t) e m) : ME X F env t e (m.bind fun x => some (x, t)) :=
  m_of h fun W0 W σ E p hp Q q => by
    obtain ⟨x, hx, hp⟩ := bind_some hp
    cases hp
    exact use_x E hx fun v W' l r => q v W' l.hid (E.mono l) r
theorem ml_l {m : Option (List τ)} (h : XL X (env t) e m) : ML X F env t e (m.bind fun x => some (x, t)) :=
  ml_of h fun W0 W σ E p hp Q q => by
    obtain ⟨x, hx, hp⟩ := bind_some hp
    cases hp
    exact use_l E hx fun a vs W' l h0 h1 hb r => q a vs W' l.hid (E.mono l) h1 hb (E.le.h.free h0) (hide_none h0) (fun j sj oj e1 e2 => E.fresh h0 j sj oj e1 e2) r
theorem mt_t {m : Option Bool} (h : XT X (env t) e m) : MT X F env t e (m.bind fun x => some (x, t)) :=
  mt_of h fun W0 W σ E p hp Q q => by
    obtain ⟨x, hx, hp⟩ := bind_some hp
    cases hp
    exact use_t E hx fun W' l => q W' l.hid (E.mono l)
theorem mw_w {tg : Expr} {m : Option (List τ)} (h : XWk X (env t) tg e m) : MWk X F env t tg e (m.bind fun x => some (x, t)) :=
  piImp h fun σ H R ⟨W0, W, hH, E, p, hp, q⟩ => by
    subst hH
    obtain ⟨x, hx, hp⟩ := bind_some hp
    cases hp
    exact use_w E hx fun J W' l wk => q J W' l.hid (E.mono l) wk
/-- a list that no slot owns becomes data -/
theorem EnvR.frzNew {en : List SV} (E : EnvR K W0 W en σ) {a : Addr} {u : HO} (h1 : W.h a = some u) (h2 : W.b a = none) (h0 : W0.h a = none) (hf : ∀ (j : Nat) (sj : SV) (oj : Option V), en[j]? = some sj → σ[j]? = some oj → a ∉ fpS sj oj) (hT : ¬ TabO u) : EnvR K W0 ⟨upd W.b a u, W.h⟩ en σ := by
  have sb : Same W.b (upd W.b a u) := Same.new h2
  refine ⟨⟨E.le.b.trans sb, E.le.h, fun c o z => ?_, fun c o z => ?_⟩, E.len, fun j sj e => ?_, E.apart, fun P hP => ?_⟩
  · show upd W.b a u c = _
    rw [upd_ne (ne_of_none z h0)]; exact E.le.f c o z
  · have z : upd W.b a u c = some o := z
    show W.h c = some o
    by_cases hc : c = a
    · subst hc; rw [upd_same] at z; exact h1.trans z
    · rw [upd_ne hc] at z; exact E.le.ok c o z
  · obtain ⟨o, s1, s2⟩ := E.slot j sj e
    refine ⟨o, s1, s2.chg sb fun c hc => ⟨rfl, ?_⟩⟩
    show upd W.b a u c = _
    rw [upd_ne fun z => hf j sj o e s1 (by rw [← z]; exact hc)]
  · obtain ⟨t, b⟩ := E.tbl P hP
    refine ⟨t, ?_⟩
    have nP : P ≠ a := fun z => by
      obtain ⟨ps, e, k⟩ := t
      rw [z, h1] at e
      cases e
      exact hT ⟨_, rfl, _, rfl, k⟩
    show upd W.b a u P = none
    rw [upd_ne nP]; exact b
theorem not_tab {xs : List V} : ¬ TabO (.lst xs) := fun ⟨_, z, _⟩ => by cases z
theorem m_l {m : Option (List τ × U)} (h : ML X F env t e m) : ME X F env t e m :=
  m_of h fun W0 W σ E p hp Q q => use_ml E hp fun a vs W' sb E' h1 hb h0 hn hf r => by
    have s2 : Same W'.b (upd W'.b a (.lst vs)) := Same.new hb
    exact q (.ref a) ⟨upd W'.b a (.lst vs), W'.h⟩ (sb.frz h1 hb hn) (E'.frzNew h1 hb h0 hf not_tab) (.lst (SqL.of (show upd W'.b a (.lst vs) a = some (.lst vs) from upd_same)) (r.mono s2))
theorem m_D {m : Option (τ × U)} (h : ME X F env t e m) : ME X F env t e (bM m fun x t1 => some (em x, t1)) :=
  m_of h fun W0 W σ E p hp Q q => by
    obtain ⟨x, t1, hx, hp⟩ := bM_some hp
    cases hp
    exact use_m E hx q
/-! ### strict operators -/
theorem m_bin {op : Operator} {f : α → β → Option γ} {ma : Option (α × U)} {mb : U → Option (β × U)} (ho : BinH X op f) (ha : ME X F env t a ma) (hb : ∀ t', ME X F env t' b (mb t')) :
    ME X F env t (.BinOp a op b pos) (bM ma fun x t1 => bM (mb t1) fun y t2 => (f x y).bind fun z => some (z, t2)) := by
  obtain ⟨r, ho, hr⟩ := ho.ex
  refine m_of (pe_op ho ha (peEx hb)) fun W0 W σ E z hz Q q => ?_
  obtain ⟨x, t1, hx, hz⟩ := bM_some hz
  obtain ⟨y, t2, hy, hz⟩ := bM_some hz
  obtain ⟨w, hw, hz⟩ := bind_some hz
  cases hz
  refine use_m E hx fun u W1 s1 E1 r1 => ⟨t1, use_m E1 hy fun v W2 s2 E2 r2 => ?_⟩
  exact hr x y w hw W2 u v E2.ok (r1.mono s2.b) r2 Q fun v' W3 l3 r3 => q v' W3 ((s1.thid s2).thid l3.hid) (E2.mono l3) r3
theorem m_cmp {op : CmpOp} {f : α → β → Option Bool} {ma : Option (α × U)} {mb : U → Option (β × U)} (ho : CmpH X op f) (ha : ME X F env t a ma) (hb : ∀ t', ME X F env t' b (mb t')) (hm : behindInMarks op b = false := by exact nomark _) :
    ME X F env t (.Compare a [op] [b] pos) (bM ma fun x t1 => bM (mb t1) fun y t2 => (f x y).bind fun z => some (z, t2)) := by
  obtain ⟨r, ho, hr⟩ := ho.ex
  refine m_of (pe_cmpR ho ha (peEx hb) hm) fun W0 W σ E z hz Q q => ?_
  obtain ⟨x, t1, hx, hz⟩ := bM_some hz
  obtain ⟨y, t2, hy, hz⟩ := bM_some hz
  obtain ⟨w, hw, hz⟩ := bind_some hz
  cases hz
  refine use_m E hx fun u W1 s1 E1 r1 => ⟨t1, use_m E1 hy fun v W2 s2 E2 r2 => ?_⟩
  exact hr x y w hw W2 u v E2.ok (r1.mono s2.b) r2 Q fun v' W3 l3 r3 => q v' W3 ((s1.thid s2).thid l3.hid) (E2.mono l3) r3
theorem mt_cmp {op : CmpOp} {f : α → β → Option Bool} {ma : Option (α × U)} {mb : U → Option (β × U)} (ho : CmpH X op f) (ha : ME X F env t a ma) (hb : ∀ t', ME X F env t' b (mb t')) (hm : behindInMarks op b = false := by exact nomark _) :
    MT X F env t (.Compare a [op] [b] pos) (bM ma fun x t1 => bM (mb t1) fun y t2 => (f x y).bind fun z => some (z, t2)) := by
  obtain ⟨r, ho, hr⟩ := ho.ex
  refine mt_of (pt_cmpR ho ha (peEx hb) hm) fun W0 W σ E z hz Q q => ?_
  unfold tTest L2.tOp
  obtain ⟨x, t1, hx, hz⟩ := bM_some hz
  obtain ⟨y, t2, hy, hz⟩ := bM_some hz
  obtain ⟨w, hw, hz⟩ := bind_some hz
  cases hz
  refine use_m E hx fun u W1 s1 E1 r1 => ⟨t1, use_m E1 hy fun v W2 s2 E2 r2 => ?_⟩
  exact hr x y w hw W2 u v E2.ok (r1.mono s2.b) r2 _ fun v' W3 l3 r3 => by
    cases r3
    exact ⟨w, rfl, q W3 ((s1.thid s2).thid l3.hid) (E2.mono l3)⟩
/-! ### items -/
theorem m_ixL {ma : Option (List τ × U)} {mi : U → Option (Int × U)} (ha : ME X F env t a ma) (hi : ∀ t', ME X F env t' b (mi t')) (hs : PlainIx b := by exact fun _ _ => rfl) :
    ME X F env t (.Subscript a b pos) (bM ma fun x t1 => bM (mi t1) fun y t2 => (atI x y).bind fun z => some (z, t2)) := by
  refine m_of (pe_ix ix_list ha (peEx hi) hs) fun W0 W σ E z hz Q q => ?_
  obtain ⟨x, t1, hx, hz⟩ := bM_some hz
  obtain ⟨y, t2, hy, hz⟩ := bM_some hz
  obtain ⟨w, hw, hz⟩ := bind_some hz
  cases hz
  refine use_m E hx fun u W1 s1 E1 r1 => ?_
  have r1 : Rp X.K W1.b u (.lst (x.map em)) := r1
  refine ⟨t1, use_m E1 hy fun v W2 s2 E2 r2 => ?_⟩
  cases r2
  cases r1 with
  | lst g1 g2 =>
    obtain ⟨w', h1, h2⟩ := atI_rp g2 (atI_map (f := em) hw)
    exact ⟨_, _, y, w', rfl, rfl, E2.ok.seq (s2.b.seq g1), h1, q w' W2 (s1.thid s2) E2 (h2.mono s2.b)⟩
theorem m_ixV {ma : Option (Vt τ × U)} {mi : U → Option (Int × U)} (ha : ME X F env t a ma) (hi : ∀ t', ME X F env t' b (mi t')) (hs : PlainIx b := by exact fun _ _ => rfl) :
    ME X F env t (.Subscript a b pos) (bM ma fun x t1 => bM (mi t1) fun y t2 => (atI x.l y).bind fun z => some (z, t2)) := by
  refine m_of (pe_ix ix_tup ha (peEx hi) hs) fun W0 W σ E z hz Q q => ?_
  obtain ⟨x, t1, hx, hz⟩ := bM_some hz
  obtain ⟨y, t2, hy, hz⟩ := bM_some hz
  obtain ⟨w, hw, hz⟩ := bind_some hz
  cases hz
  refine use_m E hx fun u W1 s1 E1 r1 => ?_
  have r1 : Rp X.K W1.b u (.tup (x.l.map em)) := r1
  refine ⟨t1, use_m E1 hy fun v W2 s2 E2 r2 => ?_⟩
  cases r2
  cases r1 with
  | tup g1 g2 =>
    obtain ⟨w', h1, h2⟩ := atI_rp g2 (atI_map (f := em) hw)
    exact ⟨_, _, y, w', rfl, rfl, same_t (s2.b.trans E2.ok) g1, h1, q w' W2 (s1.thid s2) E2 (h2.mono s2.b)⟩
theorem m_ixS {ma : Option (Str × U)} {mi : U → Option (Int × U)} (ha : ME X F env t a ma) (hi : ∀ t', ME X F env t' b (mi t')) (hs : PlainIx b := by exact fun _ _ => rfl) :
    ME X F env t (.Subscript a b pos) (bM ma fun x t1 => bM (mi t1) fun y t2 => (strAt x y).bind fun z => some (z, t2)) := by
  refine m_of (pe_ix ix_str ha (peEx hi) hs) fun W0 W σ E z hz Q q => ?_
  obtain ⟨x, t1, hx, hz⟩ := bM_some hz
  obtain ⟨y, t2, hy, hz⟩ := bM_some hz
  obtain ⟨w, hw, hz⟩ := bind_some hz
  cases hz
  refine use_m E hx fun u W1 s1 E1 r1 => ?_
  refine ⟨t1, use_m E1 hy fun v W2 s2 E2 r2 => ?_⟩
  cases r1; cases r2
  unfold strAt at hw
  split at hw
  · rename_i hl
    cases hc : atI x.cps.toList y with
    | none => rw [hc] at hw; cases hw
    | some cc =>
      rw [hc] at hw
      cases hw
      exact ⟨x, y, cc, rfl, rfl, Nat.le_of_lt (sz_line hl), hc, q _ W2 (s1.thid s2) E2 (.str _)⟩
  · cases hw
end
end T

set_option Elab.async false
set_option linter.all false
set_option maxRecDepth 100000
set_option maxHeartbeats 4000000
/-! TState2: displays, tests, calls, comprehensions, statements that draw from the tape; the rule of a def that draws. -/
namespace T
open PySem PySem.Spec PyProof.Rows L2
variable {τ α β γ δ ρ B S ι U : Type}
variable [Tabs]
section
variable {X : Cx} {F : List Addr} {env : U → List SV} {t : U} {e a b c : Expr} {es : List Expr} {pos p p1 p3 : Pos} [Em τ] [Em α] [Em β] [Em γ] {N : List Str} {sc : Scope} {fb : Str → Bool} {K : PySem.W.Frag} {mg : Str → Option Value} {P : Program} {w : World} {base : Heap} {k : Nat}
theorem paEx {ι : Type} {es : List Expr} {t : ι → TA} (h : ∀ i, PA X es (t i)) : PA X es (fun σ H Q => ∃ i, t i σ H Q) := ⟨fun p pins s σ H Q I ⟨i, q⟩ => (h i).run p pins s σ H Q I q⟩
theorem ME.is {m m' : Option (τ × U)} (h : ME X F env t e m) (q : m = m') : ME X F env t e m' := q ▸ h
/-! ### arguments, displays -/
theorem ma_nil : MA X F env t [] (some ((), t)) (fun _ => []) := paImp pa_nil fun σ H Q ⟨W0, W, hH, E, x, hx, q⟩ => by
  subst hH
  cases hx
  exact q [] W (Le.hrefl E.ok) E .nil
theorem ma_cons {m : Option (τ × U)} {ms : U → Option (δ × U)} {ds : δ → List D} (h : ME X F env t e m) (hs : ∀ t', MA X F env t' es (ms t') ds) (hst : starEach (e :: es) X.env = (false, eval e X.env) :: starEach es X.env := by rfl) :
    MA X F env t (e :: es) (bM m fun x t1 => bM (ms t1) fun y t2 => some ((x, y), t2)) (fun p => em p.1 :: ds p.2) := by
  refine paImp (pa_cons h (paEx hs) hst) fun σ H Q ⟨W0, W, hH, E, z, hz, q⟩ => ?_
  subst hH
  obtain ⟨x, t1, hx, hz⟩ := bM_some hz
  obtain ⟨y, t2, hy, hz⟩ := bM_some hz
  cases hz
  refine use_m E hx fun v W1 l1 E1 r1 => ⟨t1, ?_⟩
  refine use_ma E1 hy fun vs W2 l2 E2 r2 => ?_
  exact q _ W2 (l1.thid l2) E2 (.cons (r1.mono l2.b) r2)
theorem mi_nil : MA X F env t [] (some (([] : List τ), t)) (fun xs => xs.map em) := paImp pa_nil fun σ H Q ⟨W0, W, hH, E, x, hx, q⟩ => by
  subst hH
  cases hx
  exact q [] W (Le.hrefl E.ok) E .nil
theorem mi_cons {m : Option (τ × U)} {ms : U → Option (List τ × U)} (h : ME X F env t e m) (hs : ∀ t', MA X F env t' es (ms t') (fun xs => xs.map em)) (hst : starEach (e :: es) X.env = (false, eval e X.env) :: starEach es X.env := by rfl) :
    MA X F env t (e :: es) (bM m fun x t1 => bM (ms t1) fun y t2 => some (x :: y, t2)) (fun xs => xs.map em) := by
  refine paImp (pa_cons h (paEx hs) hst) fun σ H Q ⟨W0, W, hH, E, z, hz, q⟩ => ?_
  subst hH
  obtain ⟨x, t1, hx, hz⟩ := bM_some hz
  obtain ⟨y, t2, hy, hz⟩ := bM_some hz
  cases hz
  refine use_m E hx fun v W1 l1 E1 r1 => ⟨t1, ?_⟩
  refine use_ma E1 hy fun vs W2 l2 E2 r2 => ?_
  exact q _ W2 (l1.thid l2) E2 (.cons (r1.mono l2.b) r2)
theorem EnvR.layD {W0 W : Wd} {en : List SV} {σ : St} (E : EnvR K W0 W en σ) {p : Addr} {o : HO} (h : W.h p = none) : EnvR K W0 ⟨upd W.b p o, upd W.h p o⟩ en σ := E.mono (Le.lay E.ok h)
theorem m_tupA {x1 : Nat} {m : Option (δ × U)} {ds : δ → List D} {f : δ → τ} (h : MA X F env t es m ds) (hf : ∀ d, em (f d) = .tup (ds d)) (hl : ∀ d, (ds d).length < 16777216) :
    ME X F env t (.Tuple es x1 pos) (bM m fun x t1 => some (f x, t1)) := by
  refine m_of (pe_tup h) fun W0 W σ E z hz Q q => ?_
  obtain ⟨y, t1, hy, hz⟩ := bM_some hz
  cases hz
  refine use_ma E hy fun vs W1 l1 E1 r => ?_
  refine ⟨by rw [r.length]; exact Nat.le_of_lt (sz_line (hl y)), fun p hp => ?_⟩
  refine q (.ref p) _ (l1.thid (Le.lay E1.ok (o := .tup vs) hp).hid) (E1.layD hp) ?_
  rw [hf]
  exact .tup (SqT.of upd_same) (r.mono (Same.new (E1.ok.free hp)))
theorem m_tup2 {x1 : Nat} {ma : Option (α × U)} {mb : U → Option (β × U)} (ha : ME X F env t a ma) (hb : ∀ t', ME X F env t' b (mb t')) (h1 : starEach [a, b] X.env = (false, eval a X.env) :: starEach [b] X.env := by rfl) (h2 : starEach [b] X.env = (false, eval b X.env) :: starEach [] X.env := by rfl) :
    ME X F env t (.Tuple [a, b] x1 pos) (bM ma fun x t1 => bM (mb t1) fun y t2 => some ((x, y), t2)) := by
  refine (m_tupA (f := fun p : α × β × Unit => (p.1, p.2.1)) (ds := fun p => [em p.1, em p.2.1]) (ma_cons ha (fun t' => ma_cons (hb t') (fun _ => ma_nil) h2) h1) (fun _ => rfl) (fun _ => (by decide : 2 < 16777216))).is ?_
  cases ma with
  | none => rfl
  | some x =>
    unfold bM
    cases h : mb x.2 <;> simp [h]
theorem m_tup3 {x1 : Nat} {ma : Option (α × U)} {mb : U → Option (β × U)} {mc : U → Option (γ × U)} (ha : ME X F env t a ma) (hb : ∀ t', ME X F env t' b (mb t')) (hc : ∀ t', ME X F env t' c (mc t')) (h1 : starEach [a, b, c] X.env = (false, eval a X.env) :: starEach [b, c] X.env := by rfl) (h2 : starEach [b, c] X.env = (false, eval b X.env) :: starEach [c] X.env := by rfl)
    (h3 : starEach [c] X.env = (false, eval c X.env) :: starEach [] X.env := by rfl) :
    ME X F env t (.Tuple [a, b, c] x1 pos) (bM ma fun x t1 => bM (mb t1) fun y t2 => bM (mc t2) fun z t3 => some ((⟨x, y, z⟩ : T3 α β γ), t3)) := by
  refine (m_tupA (f := fun p : α × β × γ × Unit => (⟨p.1, p.2.1, p.2.2.1⟩ : T3 α β γ)) (ds := fun p => [em p.1, em p.2.1, em p.2.2.1]) (ma_cons ha (fun t' => ma_cons (hb t') (fun t'' => ma_cons (hc t'') (fun _ => ma_nil) h3) h2) h1) (fun _ => rfl) (fun _ => (by decide : 3 < 16777216))).is ?_
  cases ma with
  | none => rfl
  | some x =>
    unfold bM
    cases h : mb x.2 with
    | none => simp [h]
    | some y =>
      cases h2 : mc y.2 with
      | none => simp [h, h2]
      | some z => simp [h, h2]
theorem m_tupP {x1 n : Nat} {m : Option (List τ × U)} (h : MA X F env t es m (fun xs => xs.map em)) (hn : n < 16777216 := by decide) : ME X F env t (.Tuple es x1 pos) (bM m fun x t1 => (vtP n x).bind fun z => some (z, t1)) := by
  refine m_of (pe_tup h) fun W0 W σ E z hz Q q => ?_
  obtain ⟨y, t1, hy, hz⟩ := bM_some hz
  obtain ⟨w, hw, hz⟩ := bind_some hz
  cases hz
  unfold vtP at hw
  split at hw
  · rename_i hl
    cases hw
    refine use_ma E hy fun vs W1 l1 E1 r => ?_
    refine ⟨by have := r.length; rw [List.length_map] at this; exact Nat.le_of_lt (by rw [this, hl]; exact sz_line hn), fun p hp => ?_⟩
    refine q (.ref p) _ (l1.thid (Le.lay E1.ok (o := .tup vs) hp).hid) (E1.layD hp) ?_
    exact .tup (SqT.of upd_same) (r.mono (Same.new (E1.ok.free hp)))
  · cases hw
theorem ml_lst {m : Option (List τ × U)} (h : MA X F env t es m (fun xs => xs.map em)) : ML X F env t (.List es pos) (bM m fun x t1 => (lstP x).bind fun z => some (z, t1)) := by
  refine ml_of (pe_lst h) fun W0 W σ E z hz Q q => ?_
  obtain ⟨y, t1, hy, hz⟩ := bM_some hz
  obtain ⟨w, hw, hz⟩ := bind_some hz
  cases hz
  obtain ⟨rfl, hsz⟩ := lstP_some hw
  refine use_ma E hy fun vs W1 l1 E1 r => ?_
  refine ⟨by have := r.length; rw [List.length_map] at this; exact Nat.le_of_lt (by rw [this]; exact sz_line hsz), fun p hp => ?_⟩
  have E2 := E1.mono (Le.layM E1.ok (p := p) (o := .lst vs) hp)
  exact q p vs ⟨W1.b, upd W1.h p (.lst vs)⟩ (l1.thid (Le.layM E1.ok hp).hid) E2 upd_same (E1.ok.free hp) (E1.le.h.free hp) (l1.h.free hp) (fun j sj oj e1 e2 => E1.fresh hp j sj oj e1 e2) r
/-! ### tests -/
theorem mt_x {m : Option (Bool × U)} (h : ME X F env t e m) (he : ∀ whole, isTrue e X.env whole = (do let v ← whole; standAt e.pos; holding [v] (truthy v)) := by intro _; rfl) : MT X F env t e m :=
  mt_of (pt_val h he) fun W0 W σ E p hp Q q => use_m E hp fun v W' l E' r => by
    cases r
    exact ⟨p.1, rfl, q W' l E'⟩
theorem mt_not {m : Option (Bool × U)} (h : MT X F env t a m) : MT X F env t (.UnaryOp .Not a pos) (bM m fun x t1 => some (!x, t1)) :=
  mt_of (pt_not h) fun W0 W σ E x hx Q q => by
    obtain ⟨y, t1, hy, hx⟩ := bM_some hx
    cases hx
    exact use_mt E hy fun W' l E' => q W' l E'
def andM (x : Option (Bool × U)) (y : U → Option (Bool × U)) : Option (Bool × U) := bM x fun b t1 => if b = true then y t1 else some (false, t1)
def orM (x : Option (Bool × U)) (y : U → Option (Bool × U)) : Option (Bool × U) := bM x fun b t1 => if b = true then some (true, t1) else y t1
abbrev MW (X : Cx) (F : List Addr) (env : U → List SV) (t : U) (e : Expr) (m : Option (Bool × U)) : Prop := PW X e (tMT X.K F env m t)
theorem ptEx' {ι : Type} {e : Expr} {r : ι → TT} (h : ∀ i, PW X e (r i)) : PW X e (fun σ H Q => ∃ i, r i σ H Q) := ⟨fun wh pins s σ H Q I ⟨i, q⟩ => (h i).run wh pins s σ H Q I q⟩
theorem mw_and1 {m : Option (Bool × U)} (h : MT X F env t a m) : MW X F env t (.BoolOp .And [a] pos) m := pw_and1 h
theorem mw_or1 {m : Option (Bool × U)} (h : MT X F env t a m) : MW X F env t (.BoolOp .Or [a] pos) m := pw_or1 h
theorem mw_and {ma : Option (Bool × U)} {mb : U → Option (Bool × U)} {rest : List Expr} (ha : MT X F env t a ma) (hb : ∀ t', MW X F env t' (.BoolOp .And (b :: rest) pos) (mb t')) : MW X F env t (.BoolOp .And (a :: b :: rest) pos) (andM ma mb) := by
  refine pwImp (pw_and ha (ptEx' hb)) fun σ H Q ⟨W0, W, hH, E, x, hx, q⟩ => ?_
  subst hH
  obtain ⟨y, t1, hy, hx⟩ := bM_some hx
  refine use_mt E hy fun W1 l1 E1 => ?_
  cases y with
  | true =>
    obtain ⟨x, t2⟩ := x
    exact ⟨t1, use_mt E1 (by simpa using hx) fun W2 l2 E2 => q W2 (l1.thid l2) E2⟩
  | false =>
    have e : (false, t1) = x := Option.some.inj (by simpa using hx)
    subst e
    exact q W1 l1 E1
theorem mw_or {ma : Option (Bool × U)} {mb : U → Option (Bool × U)} {rest : List Expr} (ha : MT X F env t a ma) (hb : ∀ t', MW X F env t' (.BoolOp .Or (b :: rest) pos) (mb t')) : MW X F env t (.BoolOp .Or (a :: b :: rest) pos) (orM ma mb) := by
  refine pwImp (pw_or ha (ptEx' hb)) fun σ H Q ⟨W0, W, hH, E, x, hx, q⟩ => ?_
  subst hH
  obtain ⟨y, t1, hy, hx⟩ := bM_some hx
  refine use_mt E hy fun W1 l1 E1 => ?_
  cases y with
  | false =>
    obtain ⟨x, t2⟩ := x
    exact ⟨t1, use_mt E1 (by simpa using hx) fun W2 l2 E2 => q W2 (l1.thid l2) E2⟩
  | true =>
    have e : (true, t1) = x := Option.some.inj (by simpa using hx)
    subst e
    exact q W1 l1 E1
theorem mt_w {m : Option (Bool × U)} (h : MW X F env t e m) : MT X F env t e m := h.pt
theorem m_if {mc : Option (Bool × U)} {ma mb : U → Option (τ × U)} (hc : MT X F env t c mc) (ha : ∀ t', ME X F env t' a (ma t')) (hb : ∀ t', ME X F env t' b (mb t')) : ME X F env t (.IfExp c a b pos) (bM mc fun b t1 => if b = true then ma t1 else mb t1) := by
  refine m_of (pe_ifExp hc (peEx ha) (peEx hb)) fun W0 W σ E x hx Q q => ?_
  obtain ⟨y, t1, hy, hx⟩ := bM_some hx
  obtain ⟨x, t2⟩ := x
  refine use_mt E hy fun W1 l1 E1 => ?_
  cases y with
  | true => exact ⟨t1, use_m E1 (by simpa using hx) fun v W2 l2 E2 r2 => q v W2 (l1.thid l2) E2 r2⟩
  | false => exact ⟨t1, use_m E1 (by simpa using hx) fun v W2 l2 E2 r2 => q v W2 (l1.thid l2) E2 r2⟩
/-! ### built-ins, defs that draw nothing -/
theorem m_cB {x : Str} {id : String} {r : List V → Hp → VK → Prop} {m : Option (δ × U)} {ds : δ → List D} {f : δ → Option τ} (C : Cf X N sc fb K mg P w base k) (hc : CallR X (.builtin id) r) (ha : MA X F env t (e :: es) m ds)
    (hr : ∀ d y, f d = some y → ∀ (W : Wd) (vs : List V), Same W.b W.h → RpA X.K W.b vs (ds d) → ∀ Q : VK, (∀ v W', Le W W' → Rp X.K W'.b v (em y) → Q v W'.h) → r vs W.h Q)
    (hm : mg x = none) (hv : bootBuiltins x = some (.builtin id) := by decide +kernel) (hg : glbB sc x = true := by decide +kernel) (hn : x ≠ "__name__" := by decide) (hdb : (x == ("__debug__" : Str)) = false := by decide)
    (he : starEach (e :: es) X.env = (false, eval e X.env) :: starEach es X.env := by rfl) (hpl : (backTo pos (starEach es X.env)).any (·.1) = false := by rfl) : ME X F env t (.Call (.Name x p) (e :: es) [] pos) (bM m fun x t1 => (f x).bind fun z => some (z, t1)) := by
  cases C
  refine m_of (pe_callB hc (glbB_ok hg) hm hv ha hn hdb he hpl) fun W0 W σ E z hz Q q => ?_
  obtain ⟨d, t1, hd, hz⟩ := bM_some hz
  obtain ⟨y, hy, hz⟩ := bind_some hz
  cases hz
  refine use_ma E hd fun vs W1 l1 E1 r1 => ?_
  exact hr d y hy W1 vs E1.ok r1 Q fun v W2 l2 r2 => q v W2 (l1.thid l2.hid) (E1.mono l2) r2
theorem m_max2 {ma : Option (Int × U)} {mb : U → Option (Int × U)} (C : Cf X N sc fb K mg P w base k) (ha : ME X F env t a ma) (hb : ∀ t', ME X F env t' b (mb t')) (hm : mg "max" = none) (hg : glbB sc "max" = true := by decide +kernel)
    (h1 : starEach [a, b] X.env = (false, eval a X.env) :: starEach [b] X.env := by rfl) (h2 : starEach [b] X.env = (false, eval b X.env) :: starEach [] X.env := by rfl) (hpl : (backTo pos (starEach [b] X.env)).any (·.1) = false := by rfl) :
    ME X F env t (.Call (.Name "max" p) [a, b] [] pos) (bM ma fun x t1 => bM (mb t1) fun y t2 => some (if y > x then y else x, t2)) := by
  refine (m_cB (f := fun p : Int × Int × Unit => some (if p.2.1 > p.1 then p.2.1 else p.1)) C (call_max2 C.calm) (ma_cons ha (fun t' => ma_cons (hb t') (fun _ => ma_nil) h2) h1) (fun d y hy W vs ok r Q q => ?_) hm (by decide +kernel) hg (by decide) (by decide) h1 hpl).is ?_
  · cases hy
    cases r with
    | cons r1 r => cases r with
      | cons r2 r =>
        cases r
        cases r1
        cases r2
        exact ⟨_, _, rfl, q _ W (Le.refl ok) (.int _)⟩
  · cases ma with
    | none => rfl
    | some x =>
      unfold bM
      cases h : mb x.2 <;> simp [h]
theorem RpA.args {W : Wd} : ∀ {vs : List V} {ds : List D}, RpA K W.b vs ds → Args K W vs (ds.map SV.dat)
  | _, _, .nil => .nil
  | _, _, .cons r t => .dat r (RpA.args t)
theorem m_call {A : Type} {svs : A → List SV} {m : A → Option τ} {ma : Option (A × U)} {ds : A → List D} {x : Str} {f : Addr} {fd : FuncData} {ps : List Str} {j : Nat} (C : Cf X N sc fb K mg P w base k) (G : Df P w K mg base j x f fd ps (spF K svs m fun x => .dat (em x)))
    (ha : MA X F env t (e :: es) ma ds) (hsv : ∀ a, svs a = (ds a).map SV.dat := by intro _; rfl) (hj : j ≤ k := by decide) (hg : glbB sc x = true := by decide +kernel)
    (hdb : (x == ("__debug__" : Str)) = false := by decide) (he : starEach (e :: es) X.env = (false, eval e X.env) :: starEach es X.env := by rfl) (hpl : (backTo pos (starEach es X.env)).any (·.1) = false := by rfl) :
    ME X F env t (.Call (.Name x p) (e :: es) [] pos) (bM ma fun a t1 => (m a).bind fun z => some (z, t1)) := by
  cases C with
  | mk nd calm po rm =>
    refine m_of (pe_call G.ok (rm.mono hj) (glbB_ok hg) G.mg G.kp G.bd .nil pass0 ha hdb he hpl) fun W0 W σ E z hz Q q => ?_
    obtain ⟨y, t1, hy, hz⟩ := bM_some hz
    obtain ⟨u, hu, hz⟩ := bind_some hz
    cases hz
    refine use_ma E hy fun vs W1 l1 E1 r1 => ?_
    rw [List.append_nil]
    exact ⟨W1, y, u, rfl, E1.ok, E1.tbl, by rw [hsv]; exact r1.args, hu, fun v W2 l2 r2 => q v W2 (l1.thid l2.hid) (E1.mono l2) r2⟩
end
/-! ### defs that draw -/
def spT {A : Type} (K : PySem.W.Frag) (svs : A → List SV) (m : A → Tp → Option (ρ × Tp)) (res : ρ → D) : Sp := fun vs H Q _ =>
  ∃ (Wi W : Wd) (p d s : Addr) (t : Tp) (a : A) (r : ρ × Tp), W.h = H ∧ EnvR K Wi W (.tp p d s t :: svs a) (vs.map some) ∧ m a t = some r ∧
    ∀ v W', Le Wi W' → ResR K Wi W' v (.dtp (res r.1) p d s r.2) → Q v W'.h
/-- arguments: data, lists that are only read (a slot's own) -/
inductive ArgM (K : PySem.W.Frag) (W : Wd) (env : U → List SV) (σ : St) : List V → List SV → Prop
  | nil : ArgM K W env σ [] []
  | dat {v : V} {d : D} {vs : List V} {svs : List SV} : Rp K W.b v d → ArgM K W env σ vs svs → ArgM K W env σ (v :: vs) (.dat d :: svs)
  | slo {j : Nat} {a : Addr} {ds : List D} {vs : List V} {svs : List SV} : (∀ t, (env t)[j]? = some (.own ds)) → σ[j]? = some (some (.ref a)) → ArgM K W env σ vs svs → ArgM K W env σ (.ref a :: vs) (.bor ds :: svs)
def tMB (K : PySem.W.Frag) (F : List Addr) (env : U → List SV) (m : Option (δ × U)) (svs : δ → List SV) (t : U) : TA := fun σ H Q =>
  ∃ W0 W : Wd, W.h = H ∧ EnvR K W0 W (env t) σ ∧ ∃ p, m = some p ∧ ∀ vs W', Le (hide F W) W' → EnvR K W0 W' (env p.2) σ → ArgM K W' env σ vs (svs p.1) → Q vs W'.h
abbrev MB (X : Cx) (F : List Addr) (env : U → List SV) (t : U) (es : List Expr) (m : Option (δ × U)) (svs : δ → List SV) : Prop := PA X es (tMB X.K F env m svs t)
/-- an environment whose slot j is the tape -/
abbrev eT (en : List SV) (j : Nat) (p d s : Addr) (t : Tp) : List SV := en.set j (.tp p d s t)
section
variable {X : Cx} {F : List Addr} {env : U → List SV} {t : U} {e a b c : Expr} {es : List Expr} {pos p p1 p3 : Pos} [Em τ] [Em α] [Em β] [Em γ] {N : List Str} {sc : Scope} {fb : Str → Bool} {K : PySem.W.Frag} {mg : Str → Option Value} {P : Program} {w : World} {base : Heap} {k : Nat}
theorem mb_nil : MB X F env t [] (some ((), t)) (fun _ => []) := paImp pa_nil fun σ H Q ⟨W0, W, hH, E, x, hx, q⟩ => by
  subst hH
  cases hx
  exact q [] W (Le.hrefl E.ok) E .nil
theorem mb_dat {m : Option (τ × U)} {ms : U → Option (δ × U)} {svs : δ → List SV} (h : ME X F env t e m) (hs : ∀ t', MB X F env t' es (ms t') svs) (hst : starEach (e :: es) X.env = (false, eval e X.env) :: starEach es X.env := by rfl) :
    MB X F env t (e :: es) (bM m fun x t1 => bM (ms t1) fun y t2 => some ((x, y), t2)) (fun p => .dat (em p.1) :: svs p.2) := by
  refine paImp (pa_cons h (paEx hs) hst) fun σ H Q ⟨W0, W, hH, E, z, hz, q⟩ => ?_
  subst hH
  obtain ⟨x, t1, hx, hz⟩ := bM_some hz
  obtain ⟨y, t2, hy, hz⟩ := bM_some hz
  cases hz
  refine use_m E hx fun v W1 l1 E1 r1 => ⟨t1, W0, W1, rfl, E1, _, hy, fun vs W2 l2 E2 r2 => ?_⟩
  exact q _ W2 (l1.thid l2) E2 (.dat (r1.mono l2.b) r2)
theorem mb_slo (C : Cf X N sc fb K mg P w base k) (j : Nat) {n : Str} {xs : List τ} {ms : Option (δ × U)} {svs : δ → List SV} (hs : MB X F env t es ms svs) (hen : ∀ t, (env t)[j]? = some (.own (xs.map em)) := by intro _; rfl) (hi : N[j]? = some n := by rfl) (hv : visB sc n = true := by decide +kernel)
    (hd : (n == ("__debug__" : Str)) = false := by decide) (hc : (n == ("__classdict__" : Str)) = false := by decide) (hst : starEach (.Name n p1 :: es) X.env = (false, eval (.Name n p1) X.env) :: starEach es X.env := by rfl) :
    MB X F env t (.Name n p1 :: es) (bM ms fun y t1 => some ((xs, y), t1)) (fun p => .bor (p.1.map em) :: svs p.2) := by
  cases C
  refine paImp (pa_cons (pe_var hi (visB_ok hv) hd hc) hs hst) fun σ H Q ⟨W0, W, hH, E, z, hz, q⟩ => ?_
  subst hH
  obtain ⟨y, t2, hy, hz⟩ := bM_some hz
  cases hz
  obtain ⟨a, vs, h1, _⟩ := E.own (hen t)
  exact ⟨_, h1, W0, W, rfl, E, _, hy, fun vs W2 l2 E2 r2 => q _ W2 l2 E2 (.slo hen h1 r2)⟩
theorem ArgM.length {W : Wd} {σ : St} : ∀ {vs : List V} {svs : List SV}, ArgM K W env σ vs svs → vs.length = svs.length
  | _, _, .nil => rfl
  | _, _, .dat _ t => by rw [List.length_cons, List.length_cons, ArgM.length t]
  | _, _, .slo _ _ t => by rw [List.length_cons, List.length_cons, ArgM.length t]
theorem ArgM.slots {W0 W Wi : Wd} {σ : St} {t : U} (E : EnvR K W0 W (env t) σ) (hb : Wi.b = W.b) (hh : ∀ (j : Nat) (ds : List D) (a : Addr), (env t)[j]? = some (.own ds) → σ[j]? = some (some (.ref a)) → Wi.h a = W.h a) : ∀ {vs : List V} {svs : List SV}, ArgM K W env σ vs svs → ∀ (i : Nat) (sv : SV), svs[i]? = some sv → ∃ v, vs[i]? = some v ∧ SlotR K Wi W (some v) sv ∧ fpS sv (some v) = []
  | _, _, .nil, i, sv, e => by simp at e
  | _, _, .dat r _, 0, sv, e => by
    simp at e
    subst e
    exact ⟨_, rfl, ⟨_, rfl, r⟩, rfl⟩
  | _, _, .slo (a := a) h1 h2 _, 0, sv, e => by
    simp at e
    subst e
    obtain ⟨a', vs, e1, e2, _, _, r⟩ := E.own (h1 t)
    rw [h2] at e1
    cases e1
    exact ⟨_, rfl, ⟨_, vs, rfl, SqL.of ((hh _ _ _ (h1 t) h2).trans e2), by rw [hb]; exact r⟩, rfl⟩
  | _, _, .dat _ r, i + 1, sv, e => by
    obtain ⟨v, h1, h2⟩ := ArgM.slots E hb hh r i sv (by simpa using e)
    exact ⟨v, by simpa using h1, h2⟩
  | _, _, .slo _ _ r, i + 1, sv, e => by
    obtain ⟨v, h1, h2⟩ := ArgM.slots E hb hh r i sv (by simpa using e)
    exact ⟨v, by simpa using h1, h2⟩
/-- the environment that a def that draws starts from -/
theorem ArgM.start {en : List SV} {j : Nat} {ap ad as : Addr} {t : Tp} {W0 W : Wd} {σ : St} {vs : List V} {svs : List SV} (E : EnvR K W0 W (eT en j ap ad as t) σ) (hj : j < en.length) (hr : ArgM K W (eT en j ap ad as) σ vs svs) :
    σ[j]? = some (some (.ref ap)) ∧ EnvR K (hide [ap, ad, as] W) W (.tp ap ad as t :: svs) ((.ref ap :: vs).map some) := by
  have hjt : (eT en j ap ad as t)[j]? = some (.tp ap ad as t) := List.getElem?_set_self hj
  obtain ⟨o, s1, e, ta, z1, z2, z3⟩ := E.slot j _ hjt
  subst e
  have hh : ∀ (i : Nat) (ds : List D) (a : Addr), (eT en j ap ad as t)[i]? = some (.own ds) → σ[i]? = some (some (.ref a)) → (hide [ap, ad, as] W).h a = W.h a := fun i ds a h1 h2 => by
    have ne : i ≠ j := fun z => by rw [z, hjt] at h1; cases h1
    exact hide_out (E.apart i j _ _ _ _ ne h1 hjt h2 s1 a (by simp [fpS]))
  have key := ArgM.slots (Wi := hide [ap, ad, as] W) E rfl hh hr
  refine ⟨s1, ⟨Le.hrefl E.ok, by simp [hr.length], fun i sv hi => ?_, fun i k sv sw o o' ne e1 e2 s2 s3 a ha hb => ?_, E.tbl⟩⟩
  · cases i with
    | zero =>
      simp at hi
      subst hi
      exact ⟨_, rfl, rfl, ta, hide_in (by simp), hide_in (by simp), hide_in (by simp)⟩
    | succ i =>
      obtain ⟨v, h1, h2, _⟩ := key i sv (by simpa using hi)
      exact ⟨some v, by simp [h1], h2⟩
  · have nofp : ∀ (i : Nat) (sv : SV) (o : Option V), (svs)[i]? = some sv → ((vs.map some))[i]? = some o → fpS sv o = [] := fun i sv o h1 h2 => by
      obtain ⟨v, q1, _, q2⟩ := key i sv h1
      rw [List.getElem?_map, q1] at h2
      cases h2
      exact q2
    cases i with
    | succ i =>
      rw [nofp i sv o (by simpa using e1) (by simpa using s2)] at ha
      cases ha
    | zero =>
      cases k with
      | zero => exact ne rfl
      | succ k =>
        rw [nofp k sw o' (by simpa using e2) (by simpa using s3)] at hb
        cases hb
/-- a call of a def that draws -/
theorem m_callT {A : Type} {en : List SV} {jt : Nat} {ap ad as : Addr} {t : Tp} {svs : A → List SV} {mF : A → Tp → Option (τ × Tp)} {ma : Option (A × Tp)} {x n : Str} {f : Addr} {fd : FuncData} {ps : List Str} {j : Nat} (C : Cf X N sc fb K mg P w base k) (G : Df P w K mg base j x f fd ps (spT K svs mF fun x => em x))
    (ha : MB X [ap, ad, as] (eT en jt ap ad as) t es ma svs) (hjt : jt < en.length := by exact ltB rfl) (hi : N[jt]? = some n := by rfl) (hv : visB sc n = true := by decide +kernel)
    (hd : (n == ("__debug__" : Str)) = false := by decide) (hc : (n == ("__classdict__" : Str)) = false := by decide) (hj : j ≤ k := by decide) (hg : glbB sc x = true := by decide +kernel)
    (hdb : (x == ("__debug__" : Str)) = false := by decide) (he : starEach (.Name n p1 :: es) X.env = (false, eval (.Name n p1) X.env) :: starEach es X.env := by rfl) (hpl : (backTo pos (starEach es X.env)).any (·.1) = false := by rfl) :
    ME X [ap, ad, as] (eT en jt ap ad as) t (.Call (.Name x p) (.Name n p1 :: es) [] pos) (bM ma mF) := by
  cases C with
  | mk nd calm po rm =>
    refine m_of (pe_call G.ok (rm.mono hj) (glbB_ok hg) G.mg G.kp G.bd .nil pass0 (pa_cons (pe_var hi (visB_ok hv) hd hc) ha he) hdb he hpl) fun W0 W σ E z hz Q q => ?_
    obtain ⟨y, t1, hy, hz⟩ := bM_some hz
    obtain ⟨u, t2⟩ := z
    have hjt1 : ∀ t : Tp, (eT en jt ap ad as t)[jt]? = some (.tp ap ad as t) := fun t => List.getElem?_set_self hjt
    obtain ⟨o, s0, e0, _⟩ := E.slot jt _ (hjt1 t)
    subst e0
    refine ⟨_, s0, W0, W, rfl, E, _, hy, fun vs W1 l1 E1 r1 => ?_⟩
    show spT X.K svs mF (fun x => em x) (V.ref ap :: vs ++ []) W1.h Q E0
    rw [List.append_nil]
    obtain ⟨s1, S⟩ := ArgM.start E1 hjt r1
    refine ⟨_, W1, ap, ad, as, t1, y, (u, t2), rfl, S, hz, fun v W2 l2 ⟨r2, _, ta, _⟩ => ?_⟩
    obtain ⟨_, _, _, _, z1, z2, z3⟩ := E1.slot jt _ (hjt1 t1)
    have E2 := E1.step (sw := .tp ap ad as t2) (hjt1 t1) s1 l2 (by
      intro a ha
      have ha : a = ap ∨ a = ad ∨ a = as := by simpa [fpS] using ha
      rcases ha with rfl | rfl | rfl
      · exact ta.bp
      · exact ta.bd
      · exact ta.bs) (fun a ha => ha) ⟨rfl, ta, z1, z2, z3⟩
    rw [show (eT en jt ap ad as t1).set jt (.tp ap ad as t2) = eT en jt ap ad as t2 from List.set_set ..] at E2
    exact q v W2 (l1.thid l2) E2 r2
/-- THE RULE of a def that draws -/
theorem fn_mkT0 {A : Type} {svs : A → List SV} {m : A → Tp → Option (ρ × Tp)} {res : ρ → D} {x qual : Str} {st : Stmt} {f : Addr} {fd : FuncData} {ps : List Str} (Fn : Fun K x qual st f fd) (S : FnScope N ps (defScope st)) (n : Nat) (hn : N.length - ps.length = n) (hl : ∀ a, (svs a).length + 1 = ps.length)
    (body : ∀ X, Cf X N (defScope st) (fun _ => true) K mg P w base k → ∀ ap ad as t a, GS X ((.tp ap ad as t :: svs a) ++ List.replicate n .any) (defBody st) (m a t) (ZRn X.K fun r : ρ × Tp => .dtp (res r.1) ap ad as r.2)) : FnOk P w K mg base CX0 (k + 1) f fd ps (spT K svs m res) := by
  refine Fn.ok S (fun vs H Q E h => ?_) (fun cdv A' outer s H vs Q E hr h => ?_)
  · obtain ⟨Wi, W, p, d, s, t, a, r, _, E, _⟩ := h
    have := E.len
    rw [List.length_map, List.length_cons, hl] at this
    exact this
  · obtain ⟨Wi, W, p, d, s', t, a, r, hH, E, hr', q⟩ := h
    subst hH
    have hlen : vs.length = ps.length := by
      have := E.len
      rwa [List.length_map, List.length_cons, hl] at this
    refine ⟨_, body _ (Cf.mk S.nd rfl PassesOwn.never hr) p d s' t a, Wi, W, W.b, rfl, E.ext (by rw [hlen]; exact hn), Same.refl _, r, hr', fun v W' l r' => q v W' l r', fun σ W' l r' => q _ W' l r'⟩
end
end T

set_option Elab.async false
set_option linter.all false
set_option maxRecDepth 100000
set_option maxHeartbeats 4000000
/-! TState3: statements that draw from the tape. -/
namespace T
open PySem PySem.Spec PyProof.Rows L2
variable {τ α β γ δ ρ B S ι U : Type}
variable [Tabs]
section
variable {X : Cx} {env : List SV} {e a b c tg : Expr} {es : List Expr} {body rest thn els : List Stmt} {pos p p1 p2 p3 : Pos} [Em τ] [Em α] [Em β] [Em γ] {N : List Str} {sc : Scope} {fb : Str → Bool} {K : PySem.W.Frag} {mg : Str → Option Value} {P : Program} {w : World} {base : Heap} {k : Nat}
variable {Z : ρ → Wd → Hp → Ends → Prop} {jt : Nat} {ap ad as : Addr} {t : Tp}
theorem g_setM (C : Cf X N sc fb K mg P w base k) (i : Nat) {n : Str} {p' : Pos} {me : Option (τ × Tp)} {f : τ → Tp → Option ρ} (he : ME X [ap, ad, as] (eT env jt ap ad as) t e me) (hr : ∀ x t', GS X ((eT env jt ap ad as t').set i (.dat (em x))) rest (f x t') Z)
    (henv : eT env jt ap ad as t = env := by rfl) (hi : N[i]? = some n := by rfl) (hl : locB sc fb n = true := by decide +kernel) (hs : ∀ E : Env, swapsWith e (some (.Name n p')) pos.line E = pure false := by intro _; rfl) :
    GS X env (.Assign [.Name n p'] e pos :: rest) (bM me f) Z := by
  cases C with
  | mk nd calm po rm =>
    refine g_of (ps_set nd hi (locB_ok hl) he (hs _) (locB_fn hl)) (fun q : τ × Tp => hr q.1 q.2) fun W0 W B σ D r E sb hm z => ?_
    obtain ⟨x, t1, hx, hm⟩ := bM_some hm
    exact use_m (by rw [henv]; exact E) hx fun v W1 l1 E1 r1 => ⟨(x, t1), use_g (E1.putD r1) (sb.trans l1.b) hm z⟩
theorem g_setML (C : Cf X N sc fb K mg P w base k) (i : Nat) {n : Str} {p' : Pos} {me : Option (List τ × Tp)} {f : List τ → Tp → Option ρ} (he : ML X [ap, ad, as] (eT env jt ap ad as) t e me) (hr : ∀ x t', GS X ((eT env jt ap ad as t').set i (.own (x.map em))) rest (f x t') Z)
    (henv : eT env jt ap ad as t = env := by rfl) (hi : N[i]? = some n := by rfl) (hl : locB sc fb n = true := by decide +kernel) (hs : ∀ E : Env, swapsWith e (some (.Name n p')) pos.line E = pure false := by intro _; rfl) :
    GS X env (.Assign [.Name n p'] e pos :: rest) (bM me f) Z := by
  cases C with
  | mk nd calm po rm =>
    refine g_of (ps_set nd hi (locB_ok hl) he (hs _) (locB_fn hl)) (fun q : List τ × Tp => hr q.1 q.2) fun W0 W B σ D r E sb hm z => ?_
    obtain ⟨x, t1, hx, hm⟩ := bM_some hm
    exact use_ml (by rw [henv]; exact E) hx fun a vs W1 l1 E1 h1 hb h0 hn hf r1 => ⟨(x, t1), use_g (E1.put ⟨a, vs, rfl, h1, hb, h0, r1⟩ fun b hbb j sj oj _ ej sj' => by
      obtain rfl : b = a := by simpa [fpS] using hbb
      exact hf j sj oj ej sj') (sb.trans l1.b) hm z⟩
theorem g_dropM {me : Option (τ × Tp)} {f : τ → Tp → Option ρ} (he : ME X [ap, ad, as] (eT env jt ap ad as) t e me) (hr : ∀ x t', GS X (eT env jt ap ad as t') rest (f x t') Z) (henv : eT env jt ap ad as t = env := by rfl) (hs : ∀ E : Env, swapsWith e none pos.line E = pure false := by intro _; rfl) :
    GS X env (.Expr e pos :: rest) (bM me f) Z :=
  g_of (ps_expr he (hs _)) (fun q : τ × Tp => hr q.1 q.2) fun W0 W B σ D r E sb hm z => by
    obtain ⟨x, t1, hx, hm⟩ := bM_some hm
    exact use_m (by rw [henv]; exact E) hx fun v W1 l1 E1 r1 => ⟨(x, t1), use_g E1 (sb.trans l1.b) hm z⟩
/-- return e, in a def that draws -/
theorem g_retT {φ : τ × Tp → ρ} {me : Option (τ × Tp)} (he : ME X [ap, ad, as] (eT env jt ap ad as) t e me) (hz : ∀ x W0 B D, Z (φ x) W0 B D → ZR X.K (fun r : τ × Tp => RV.dtp (em r.1) ap ad as r.2) x W0 B D) (henv : eT env jt ap ad as t = env := by rfl) (hj : jt < env.length := by exact ltB rfl) :
    GS X env (.Return (some e) pos :: rest) (bM me fun x t1 => some (φ (x, t1))) Z :=
  g_of (ι := Empty) (u := fun _ => tNever) (ps_ret he) (fun i => i.elim) fun W0 W B σ D r E sb hm z => by
    obtain ⟨x, t1, hx, hm⟩ := bM_some hm
    cases hm
    refine use_m (by rw [henv]; exact E) hx fun v W1 l1 E1 r1 => hz (x, t1) W0 B D z v W1 E1.le ⟨r1, ?_⟩
    obtain ⟨o, s1, s2⟩ := E1.slot jt (.tp ap ad as t1) (List.getElem?_set_self hj)
    obtain ⟨e, s3⟩ := s2
    exact ⟨rfl, s3⟩
/-- return e, e draws, in a def that has made the tape itself -/
theorem g_retM {φ : τ → ρ} {me : Option (τ × Tp)} (he : ME X [ap, ad, as] (eT env jt ap ad as) t e me) (hz : ∀ x W0 B D, Z (φ x) W0 B D → ZR X.K (fun r : τ => RV.dat (em r)) x W0 B D) (henv : eT env jt ap ad as t = env := by rfl) :
    GS X env (.Return (some e) pos :: rest) (bM me fun x _ => some (φ x)) Z :=
  g_of (ι := Empty) (u := fun _ => tNever) (ps_ret he) (fun i => i.elim) fun W0 W B σ D r E sb hm z => by
    obtain ⟨x, t1, hx, hm⟩ := bM_some hm
    cases hm
    exact use_m (by rw [henv]; exact E) hx fun v W1 l1 E1 r1 => hz x W0 B D z v W1 E1.le r1
/-! ### lists that change -/
theorem g_appendM (C : Cf X N sc fb K mg P w base k) (i : Nat) {n : Str} {apos : Pos} {xs : List τ} {me : Option (τ × Tp)} {f : List τ → Tp → Option ρ} (he : ME X [ap, ad, as] (eT env jt ap ad as) t e me) (hr : ∀ (ys : List τ) t', GS X ((eT env jt ap ad as t').set i (.own (ys.map em))) rest (f ys t') Z)
    (henv : eT env jt ap ad as t = env := by rfl) (hx : ∀ t', (eT env jt ap ad as t')[i]? = some (.own (xs.map em)) := by intro _; rfl) (hi : N[i]? = some n := by rfl) (hv : visB sc n = true := by decide +kernel)
    (hd : (n == ("__debug__" : Str)) = false := by decide) (hcd : (n == ("__classdict__" : Str)) = false := by decide)
    (hbase : ∀ E : Env, attributeBase (.Name n p1) "append" E (eval (.Name n p1) E) = eval (.Name n p1) E := by intro _; rfl)
    (hfew : ∀ E : Env, ((backTo p3 (starEach [e] E)).all (fun x => !x.1) && (backToKw p3 (keywordEach [] E)).all (fun x => x.1.isSome)
      && decide ([e].length + ([] : List Keyword).length + (if ([] : List Keyword).isEmpty then 0 else 1) < 30)) = true := by intro _; rfl)
    (hline : (apos.endLine == p3.line) = true := by rfl) (hs : ∀ E : Env, starEach [e] E = (false, eval e E) :: starEach [] E := by intro _; rfl) (hplain : ∀ E : Env, (backTo p3 (starEach ([] : List Expr) E)).any (·.1) = false := by intro _; rfl) :
    GS X env (.Expr (.Call (.Attribute (.Name n p1) "append" apos) [e] [] p3) pos :: rest) (bM me fun x t1 => (appP xs x).bind fun ys => f ys t1) Z := by
  cases C
  refine g_of (ps_expr (pe_bm PySem.F.plainAttrs_list PySem.F.slot_list_append PySem.F.type_list_append mt_append (pe_var hi (visB_ok hv) hd hcd) (pa_cons he pa_nil (hs _)) (hbase _) (hfew _) hline (hs _) (hplain _)) rfl) (fun q : List τ × Tp => hr q.1 q.2) fun W0 W B σ D r E sb hm z => ?_
  obtain ⟨x, t1, hme, hm⟩ := bM_some hm
  obtain ⟨ys, hy, hm⟩ := bind_some hm
  obtain ⟨rfl, hz⟩ := appP_some hy
  have E' : EnvR X.K W0 W (eT env jt ap ad as t) σ := by rw [henv]; exact E
  obtain ⟨a, vs, h1, h2, h3, h0, r1⟩ := E'.own (hx t)
  refine ⟨_, h1, Or.inl ⟨rfl, _, SqL.of h2⟩, ?_⟩
  refine use_m E' hme fun v W1 l1 E1 rv => ?_
  obtain ⟨a', vs', g1, g2, g3, g0, r1'⟩ := E1.own (hx t1)
  rw [h1] at g1
  cases g1
  have hl : vs'.length = xs.length := by have := r1'.length; rwa [List.length_map] at this
  refine ⟨a, vs', v, rfl, rfl, g2, by rw [hl]; exact sz_line hz, (xs ++ [x], t1), ?_⟩
  refine use_g (E1.write (es := (xs ++ [x]).map em) (hx t1) h1 ?_) (sb.trans l1.b) hm z
  rw [List.map_append]
  exact r1'.append (.cons rv .nil)
/-- xs[j] = e: e drawn first, then j -/
theorem g_setItemM (C : Cf X N sc fb K mg P w base k) (i : Nat) {n : Str} {xs : List τ} {me : Option (τ × Tp)} {mi : Tp → Option (Int × Tp)} {f : List τ → Tp → Option ρ} (he : ME X [ap, ad, as] (eT env jt ap ad as) t e me) (hj : ∀ t', ME X [ap, ad, as] (eT env jt ap ad as) t' b (mi t'))
    (hr : ∀ (ys : List τ) t', GS X ((eT env jt ap ad as t').set i (.own (ys.map em))) rest (f ys t') Z)
    (henv : eT env jt ap ad as t = env := by rfl) (hx : ∀ t', (eT env jt ap ad as t')[i]? = some (.own (xs.map em)) := by intro _; rfl) (hi : N[i]? = some n := by rfl) (hv : visB sc n = true := by decide +kernel)
    (hd : (n == ("__debug__" : Str)) = false := by decide) (hcd : (n == ("__classdict__" : Str)) = false := by decide)
    (ha : ∀ E : Env, ∀ v, assign (.Subscript (.Name n p1) b p2) E v = (do
      let ov ← holding [v] (eval (.Name n p1) E)
      let iv ← holding [v, ov] (eval b E)
      standAt p2
      holding [v, ov, iv] (setItem ov iv v)
      release [v, ov, iv] []) := by intro _ _; rfl)
    (hs : ∀ E : Env, swapsWithSole [.Subscript (.Name n p1) b p2] e pos.line E = pure false := by intro _; rfl) (hw : ∀ E : Env, swappedStores [.Subscript (.Name n p1) b p2] e E = pure none := by intro _; rfl)
    (h1 : ∀ E : Env, (assignEach [.Subscript (.Name n p1) b p2] E).map (·.2) = [assign (.Subscript (.Name n p1) b p2) E] := by intro _; rfl) :
    GS X env (.Assign [.Subscript (.Name n p1) b p2] e pos :: rest) (bM me fun x t1 => bM (mi t1) fun j t2 => (setP xs j x).bind fun ys => f ys t2) Z := by
  cases C
  refine g_of (ps_asg he (pg_sub (pe_var hi (visB_ok hv) hd hcd) (peEx hj) set_list (ha _)) (hs _) (hw _) (h1 _)) (fun q : List τ × Tp => hr q.1 q.2) fun W0 W B σ D r E sb hm z => ?_
  obtain ⟨x, t1, hme, hm⟩ := bM_some hm
  obtain ⟨j, t2, hmj, hm⟩ := bM_some hm
  obtain ⟨ys, hy, hm⟩ := bind_some hm
  unfold setP at hy
  cases q : ixN xs.length j with
  | none => rw [q] at hy; cases hy
  | some u =>
    rw [q] at hy
    have hy : xs.set u x = ys := Option.some.inj hy
    subst hy
    refine use_m (by rw [henv]; exact E) hme fun v W1 l1 E1 rv => ?_
    obtain ⟨a, vs, h1, h2, h3, h0, r1⟩ := E1.own (hx t1)
    refine ⟨_, h1, t1, ?_⟩
    refine use_m E1 hmj fun y W2 l2 E2 ry => ?_
    cases ry
    obtain ⟨a', vs', g1, g2, g3, g0, r1'⟩ := E2.own (hx t2)
    rw [h1] at g1
    cases g1
    have hl : vs'.length = xs.length := by have := r1'.length; rwa [List.length_map] at this
    refine ⟨a, vs', j, u, rfl, rfl, g2, by rw [hl]; exact q, (xs.set u x, t2), ?_⟩
    refine use_g (E2.write (es := (xs.set u x).map em) (hx t2) h1 ?_) ((sb.trans l1.b).trans l2.b) hm z
    rw [List.map_set]
    exact r1'.set (rv.mono l2.b) u
/-! ### if -/
theorem g_ifXM {Z' : α → Wd → Hp → Ends → Prop} {φ : α → ρ} {mc : Option (Bool × Tp)} {m1 : Tp → Option α} {m2 : Tp → Option ρ} (hc : MT X [ap, ad, as] (eT env jt ap ad as) t c mc) (h1 : ∀ t', GS X (eT env jt ap ad as t') thn (m1 t') Z') (hz : Early φ Z' Z) (h2 : ∀ t', GS X (eT env jt ap ad as t') rest (m2 t') Z) (henv : eT env jt ap ad as t = env := by rfl) :
    GS X env (.If c thn [] pos :: rest) (bM mc fun b t1 => if b = true then (m1 t1).bind fun r => some (φ r) else m2 t1) Z :=
  g_of (ps_if hc (pssEx h1) pss_nil) h2 fun W0 W B σ D r E sb hm z => by
    obtain ⟨x, t1, hx, hm⟩ := bM_some hm
    refine use_mt (by rw [henv]; exact E) hx fun W1 l1 E1 => ?_
    cases x with
    | true =>
      obtain ⟨y, hy, hm⟩ := bind_some (show (m1 t1).bind (fun r => some (φ r)) = some r by simpa using hm)
      cases hm
      exact ⟨t1, use_g E1 (sb.trans l1.b) hy (hz y W0 _ D _ z)⟩
    | false => exact ⟨t1, use_g E1 (sb.trans l1.b) (by simpa using hm) z⟩
theorem g_ifXXM {mc : Option (Bool × Tp)} {m1 m2 : Tp → Option ρ} (hc : MT X [ap, ad, as] (eT env jt ap ad as) t c mc) (h1 : ∀ t', GS X (eT env jt ap ad as t') thn (m1 t') Z) (h2 : ∀ t', GS X (eT env jt ap ad as t') els (m2 t') Z) (hz : ∀ r W0 B D u, Z r W0 B D → Z r W0 B { D with nx := u }) (henv : eT env jt ap ad as t = env := by rfl) :
    GS X env (.If c thn els pos :: rest) (bM mc fun b t1 => if b = true then m1 t1 else m2 t1) Z :=
  g_of (ι := Empty) (u := fun _ => tNever) (ps_if hc (pssEx h1) (pssEx h2)) (fun i => i.elim) fun W0 W B σ D r E sb hm z => by
    obtain ⟨x, t1, hx, hm⟩ := bM_some hm
    refine use_mt (by rw [henv]; exact E) hx fun W1 l1 E1 => ?_
    cases x with
    | true => exact ⟨t1, use_g E1 (sb.trans l1.b) (by simpa using hm) (hz r W0 _ D _ z)⟩
    | false => exact ⟨t1, use_g E1 (sb.trans l1.b) (by simpa using hm) (hz r W0 _ D _ z)⟩
theorem g_ifJM {envJ : S → List SV} {mc : Option (Bool × Tp)} {m1 m2 : Tp → Option S} {kk : S → Option ρ} (hc : MT X [ap, ad, as] (eT env jt ap ad as) t c mc) (h1 : ∀ t', GS X (eT env jt ap ad as t') thn (m1 t') (ZN X.K envJ)) (h2 : ∀ t', GS X (eT env jt ap ad as t') els (m2 t') (ZN X.K envJ))
    (hr : ∀ s, GS X (envJ s) rest (kk s) Z) (henv : eT env jt ap ad as t = env := by rfl) : GS X env (.If c thn els pos :: rest) ((bM mc fun b t1 => if b = true then m1 t1 else m2 t1).bind kk) Z :=
  g_of (ps_if hc (pssEx h1) (pssEx h2)) hr fun W0 W B σ D r E sb hm z => by
    obtain ⟨s, hs, hm⟩ := bind_some hm
    obtain ⟨x, t1, hx, hs⟩ := bM_some hs
    refine use_mt (by rw [henv]; exact E) hx fun W1 l1 E1 => ?_
    cases x with
    | true => exact ⟨t1, use_g E1 (sb.trans l1.b) (by simpa using hs) fun W' σ' sb' E' => ⟨s, use_g E' sb' hm z⟩⟩
    | false => exact ⟨t1, use_g E1 (sb.trans l1.b) (by simpa using hs) fun W' σ' sb' E' => ⟨s, use_g E' sb' hm z⟩⟩
theorem g_ifFM {res : α → RV} {envB : B → List SV} {envJ : S → List SV} {envE : δ → List SV} {mc : Option (Bool × Tp)} {m1 m2 : Tp → Option (Fl α B S)} {kk : S → Option (Fl α B δ)} (hc : MT X [ap, ad, as] (eT env jt ap ad as) t c mc)
    (h1 : ∀ t', GS X (eT env jt ap ad as t') thn (m1 t') (ZF X.K res envB envJ)) (h2 : ∀ t', GS X (eT env jt ap ad as t') els (m2 t') (ZF X.K res envB envJ)) (hr : ∀ s, GS X (envJ s) rest (kk s) (ZF X.K res envB envE)) (henv : eT env jt ap ad as t = env := by rfl) :
    GS X env (.If c thn els pos :: rest) (thenF (bM mc fun b t1 => if b = true then m1 t1 else m2 t1) kk) (ZF X.K res envB envE) :=
  g_of (ps_if hc (pssEx h1) (pssEx h2)) hr fun W0 W B σ D r E sb hm z => by
    obtain ⟨y, hy, hm⟩ := bind_some hm
    obtain ⟨x, t1, hx, hy⟩ := bM_some hy
    have zz : ZF X.K res envB envJ y W0 B { D with nx := fun σ' H' => ∃ i, tG X.K (envJ i) (kk i) (ZF X.K res envB envE) D σ' H' } := by
      cases y with
      | nx s => exact fun W' σ' sb' E' => ⟨s, use_g E' sb' hm z⟩
      | rt r' => cases hm; exact z
      | bk b => cases hm; exact z
      | ct b => cases hm; exact z
    refine use_mt (by rw [henv]; exact E) hx fun W1 l1 E1 => ?_
    cases x with
    | true => exact ⟨t1, use_g E1 (sb.trans l1.b) (by simpa using hy) zz⟩
    | false => exact ⟨t1, use_g E1 (sb.trans l1.b) (by simpa using hy) zz⟩
/-! ### loops -/
variable {F : List Addr} {envU : U → List SV} {u : U}
theorem use_mw {W0 W : Wd} {σ : St} {m : Option (List τ × U)} {x : List τ} {u' : U} {R : It → Hp → Prop} (E : EnvR K W0 W (envU u) σ) (h : m = some (x, u')) (q : ∀ J W', Le (hide F W) W' → EnvR K W0 W' (envU u') σ → Walk K W0 W' J x → R J W'.h) : tMW K F envU m u σ W.h R := ⟨W0, W, rfl, E, _, h, q⟩
theorem mw_rng1 (C : Cf X N sc fb K mg P w base k) {m : Option (Int × U)} (h : ME X F envU u a m) (hm : mg "range" = none) (hg : glbB sc "range" = true := by decide +kernel)
    (hst : starEach [a] X.env = (false, eval a X.env) :: starEach [] X.env := by rfl) (hs : starEach [a] X.env = [(false, eval a X.env)] := by rfl) :
    MWk X F envU u tg (.Call (.Name "range" p) [a] [] pos) (bM m fun x t1 => (rngP 0 x).bind fun z => some (z, t1)) := by
  cases C
  refine piImp (pi_range1 (glbB_ok hg) hm (ma_cons h (fun _ => ma_nil) hst) hs) fun σ H R ⟨W0, W, hH, E, x, hx, q⟩ => ?_
  subst hH
  obtain ⟨n, t1, hn, hx⟩ := bM_some hx
  obtain ⟨z, hz, hx⟩ := bind_some hx
  cases hx
  unfold rngP at hz
  split at hz
  · rename_i hr
    cases hz
    refine use_ma E (x := (n, ())) (t' := t1) (by rw [hn]; rfl) fun vs W1 l1 E1 r1 => ?_
    cases r1 with
    | cons r1 r2 =>
      cases r2
      cases r1
      refine ⟨n, rfl, by omega, by omega, ?_⟩
      have := q (Itr 0 (n - 0).toNat) W1 l1 E1 walk_rng
      simpa using this
  · cases hz
theorem g_forM {mxs : Option (List τ × Tp)} {envL : S → List SV} {envX : S → τ → List SV} {is : List Nat} {f : S → τ → Option S} {s0 : Tp → S} {kk : S → Option ρ} (C : Cf X N sc fb K mg P w base k) (hi : MWk X [ap, ad, as] (eT env jt ap ad as) t tg e mxs) (hg : ∀ s, XG X (envL s) tg (envX s) is)
    (h0 : ∀ t', EnvLe (eT env jt ap ad as t') (envL (s0 t'))) (hb : ∀ s x, GS X (envX s x) body (f s x) (ZN X.K envL)) (hr : ∀ s, GS X (envL s) rest (kk s) Z) (henv : eT env jt ap ad as t = env := by rfl) (hf : ∀ E : Env, ∀ x, foldedSetIterable e E x = pure x := by intro _ _; rfl) :
    GS X env (.For tg e body [] pos :: rest) (bM mxs fun xs t1 => (foldO f (s0 t1) xs).bind kk) Z := by
  cases C with
  | mk nd calm po rm =>
    refine g_of (ps_for po calm hi (pgEx hg) (pssEx (ι := S × τ) fun q => hb q.1 q.2) (hf _)) hr fun W0 W B' σ D r E sb0 hm z => ?_
    obtain ⟨xs, t1, hxs, hm⟩ := bM_some hm
    obtain ⟨sf, hsf, hm⟩ := bind_some hm
    refine use_mw (by rw [henv]; exact E) hxs fun J W1 l1 E0 wk => ?_
    have E1 := E0.weak (h0 t1)
    refine ⟨fun i n σ' H' => ∃ W2 s, W2.h = H' ∧ Same W1.b W2.b ∧ EnvR X.K W0 W2 (envL s) σ' ∧ foldO f s (xs.drop i) = some sf ∧ n = xs.length - i ∧ i ≤ xs.length, ⟨xs.length, W1, s0 t1, rfl, Same.refl _, E1, hsf, rfl, Nat.zero_le _⟩, ?_⟩
    rintro i n σ' H' ⟨W2, s, rfl, sb, E2, hs, rfl, hle⟩
    by_cases hlt : i < xs.length
    · have hx : xs[i]? = some xs[i] := by simp [hlt]
      obtain ⟨g1, g2⟩ := wk.item i _ W2 hx sb E2.le
      rw [drop_cons hlt] at hs
      obtain ⟨s', hs1, hs2⟩ := bind_some hs
      refine .inr ⟨g1, fun σ3 H3 => ∃ W3, W3.h = H3 ∧ Same W1.b W3.b ∧ EnvR X.K W0 W3 (envL s') σ3, ?_, ?_⟩
      · rintro σ3 H3 ⟨W3, rfl, sb3, E3⟩
        exact ⟨xs.length - (i + 1), by omega, W3, s', rfl, sb3, E3, hs2, rfl, hlt⟩
      · intro v H3 hy
        obtain ⟨W3, l3, rfl, r3⟩ := g2 v H3 hy
        refine ⟨s, W0, W3, xs[i], rfl, E2.mono l3, r3, fun σ4 E4 _ => ⟨(s, xs[i]), ?_⟩⟩
        exact use_g (B := W1.b) E4 (sb.trans l3.b) hs1 fun W5 σ5 sb5 E5 => ⟨W5, rfl, sb5, E5⟩
    · have hi : i = xs.length := by omega
      subst hi
      rw [List.drop_length] at hs
      cases hs
      exact .inl ⟨wk.stop W2 sb E2.le, sf, use_g E2 ((sb0.trans l1.b).trans sb) hm z⟩
theorem g_forFM {mxs : Option (List τ × Tp)} {envL : S → List SV} {envX : S → τ → List SV} {is : List Nat} {res : α → RV} {f : S → τ → Option (Fl α S S)} {s0 : Tp → S} {φ : α → ρ} {kk : S → Option ρ} (C : Cf X N sc fb K mg P w base k) (hi : MWk X [ap, ad, as] (eT env jt ap ad as) t tg e mxs) (hg : ∀ s, XG X (envL s) tg (envX s) is)
    (h0 : ∀ t', EnvLe (eT env jt ap ad as t') (envL (s0 t'))) (hb : ∀ s x, GS X (envX s x) body (f s x) (ZF X.K res envL envL)) (hz : ∀ r W0 B D, Z (φ r) W0 B D → ZR X.K res r W0 B D) (hr : ∀ s, GS X (envL s) rest (kk s) Z) (henv : eT env jt ap ad as t = env := by rfl) (hf : ∀ E : Env, ∀ x, foldedSetIterable e E x = pure x := by intro _ _; rfl) :
    GS X env (.For tg e body [] pos :: rest) (bM mxs fun xs t1 => (loopO f (s0 t1) xs).bind (Lp.go φ kk)) Z := by
  cases C with
  | mk nd calm po rm =>
    refine g_of (ps_for po calm hi (pgEx hg) (pssEx (ι := S × τ) fun q => hb q.1 q.2) (hf _)) hr fun W0 W B' σ D r E sb0 hm z => ?_
    obtain ⟨xs, t1, hxs, hm⟩ := bM_some hm
    obtain ⟨o, ho, hm⟩ := bind_some hm
    refine use_mw (by rw [henv]; exact E) hxs fun J W1 l1 E0 wk => ?_
    have E1 := E0.weak (h0 t1)
    refine ⟨fun i n σ' H' => ∃ W2 s, W2.h = H' ∧ Same W1.b W2.b ∧ EnvR X.K W0 W2 (envL s) σ' ∧ loopO f s (xs.drop i) = some o ∧ n = xs.length - i ∧ i ≤ xs.length, ⟨xs.length, W1, s0 t1, rfl, Same.refl _, E1, ho, rfl, Nat.zero_le _⟩, ?_⟩
    rintro i n σ' H' ⟨W2, s, rfl, sb, E2, hs, rfl, hle⟩
    by_cases hlt : i < xs.length
    · have hx : xs[i]? = some xs[i] := by simp [hlt]
      obtain ⟨g1, g2⟩ := wk.item i _ W2 hx sb E2.le
      rw [drop_cons hlt] at hs
      obtain ⟨q, hs1, hs2⟩ := bind_some hs
      refine .inr ⟨g1, fun σ3 H3 => ∃ W3 s', W3.h = H3 ∧ Same W1.b W3.b ∧ EnvR X.K W0 W3 (envL s') σ3 ∧ loopO f s' (xs.drop (i + 1)) = some o, ?_, ?_⟩
      · rintro σ3 H3 ⟨W3, s', rfl, sb3, E3, h3⟩
        exact ⟨xs.length - (i + 1), by omega, W3, s', rfl, sb3, E3, h3, rfl, hlt⟩
      · intro v H3 hy
        obtain ⟨W3, l3, rfl, r3⟩ := g2 v H3 hy
        refine ⟨s, W0, W3, xs[i], rfl, E2.mono l3, r3, fun σ4 E4 _ => ⟨(s, xs[i]), ?_⟩⟩
        refine use_g (B := W1.b) E4 (sb.trans l3.b) hs1 ?_
        cases q with
        | nx s' => exact fun W5 σ5 sb5 E5 => ⟨W5, s', rfl, sb5, E5, hs2⟩
        | ct s' => exact fun W5 σ5 sb5 E5 => ⟨W5, s', rfl, sb5, E5, hs2⟩
        | bk s' =>
          cases hs2
          exact fun W5 σ5 sb5 E5 => ⟨s', use_g E5 ((sb0.trans l1.b).trans sb5) hm z⟩
        | rt r' =>
          cases hs2
          cases hm
          exact hz r' W0 B' D z
    · have hi : i = xs.length := by omega
      subst hi
      rw [List.drop_length] at hs
      cases hs
      exact .inl ⟨wk.stop W2 sb E2.le, s, use_g E2 ((sb0.trans l1.b).trans sb) hm z⟩
/-! ### further expressions -/
theorem m_tupleL (C : Cf X N sc fb K mg P w base k) {m : Option (List τ × U)} (h : ME X F envU u e m) (hm : mg "tuple" = none) (hg : glbB sc "tuple" = true := by decide +kernel)
    (he : starEach [e] X.env = (false, eval e X.env) :: starEach [] X.env := by rfl) : ME X F envU u (.Call (.Name "tuple" p) [e] [] pos) (bM m fun x t1 => some ((⟨x⟩ : Vt τ), t1)) := by
  cases C
  refine m_of (pe_callTy call_tuple_of (glbB_ok hg) hm (by decide +kernel) (ma_cons h (fun _ => ma_nil) he) (by decide) (by decide) he rfl) fun W0 W σ E z hz Q q => ?_
  obtain ⟨x, t1, hx, hz⟩ := bM_some hz
  cases hz
  refine use_ma E (x := (x, ())) (t' := t1) (by rw [hx]; rfl) fun vs W1 l1 E1 r1 => ?_
  cases r1 with
  | cons r1 r2 =>
    cases r2
    have r1 : Rp X.K W1.b _ (.lst (x.map em)) := r1
    cases r1 with
    | lst s1 r1 =>
      refine ⟨_, _, rfl, .inl ⟨E1.ok.seq s1, fun l hl => ?_⟩⟩
      exact q (.ref l) _ (l1.thid (Le.lay E1.ok (o := .tup _) hl).hid) (E1.layD hl) (.tup (SqT.of upd_same) (r1.mono (Same.new (E1.ok.free hl))))
theorem ml_cat {ma : Option (List τ × U)} {mb : U → Option (List τ × U)} (ha : ME X F envU u a ma) (hb : ∀ t', ME X F envU t' b (mb t')) : ML X F envU u (.BinOp a .Add b pos) (bM ma fun x t1 => bM (mb t1) fun y t2 => (catL x y).bind fun z => some (z, t2)) := by
  refine ml_of (pe_op op_catQ ha (peEx hb)) fun W0 W σ E z hz Q q => ?_
  obtain ⟨x, t1, hx, hz⟩ := bM_some hz
  obtain ⟨y, t2, hy, hz⟩ := bM_some hz
  obtain ⟨w, hw, hz⟩ := bind_some hz
  cases hz
  unfold catL at hw
  split at hw
  · rename_i hl
    cases hw
    refine use_m E hx fun v1 W1 l1 E1 r1 => ⟨t1, use_m E1 hy fun v2 W2 l2 E2 r2 => ?_⟩
    have r1 : Rp X.K W1.b v1 (.lst (x.map em)) := r1
    have r2 : Rp X.K W2.b v2 (.lst (y.map em)) := r2
    cases r1 with
    | @lst _ us1 _ s1 r1 =>
      cases r2 with
      | @lst _ us2 _ s2 r2 =>
        have n1 := r1.length
        have n2 := r2.length
        rw [List.length_map] at n1 n2
        refine ⟨_, _, _, _, rfl, rfl, E2.ok.seq (l2.b.seq s1), E2.ok.seq s2, by rw [n1, n2, sizeLine_eq]; omega, fun p hp => ?_⟩
        have E3 := E2.mono (Le.layM E2.ok (p := p) (o := .lst (us1 ++ us2)) hp)
        exact q p _ ⟨W2.b, upd W2.h p (.lst (us1 ++ us2))⟩ ((l1.thid l2).thid (Le.layM E2.ok hp).hid) E3 upd_same (E2.ok.free hp) (E2.le.h.free hp) ((l1.thid l2).h.free hp) (fun j sj oj e1 e2 => E2.fresh hp j sj oj e1 e2) (by rw [List.map_append]; exact (r1.mono l2.b).append r2)
  · cases hw
theorem m_join {o : Expr} {apos : Pos} {ma : Option (Str × U)} {m : U → Option (List Str × U)} (ha : ME X F envU u o ma) (h : ∀ t', ME X F envU t' e (m t')) (hs : ∀ E : Env, starEach [e] E = [(false, eval e E)] := by intro _; rfl)
    (hbase : ∀ E : Env, attributeBase o "join" E (eval o E) = eval o E := by intro _; rfl) (hline : (apos.endLine == pos.line) = true := by rfl) : ME X F envU u (.Call (.Attribute o "join" apos) [e] [] pos) (bM ma fun x t1 => bM (m t1) fun y t2 => (joinP x y).bind fun z => some (z, t2)) :=
  m_of (pe_join ha (peEx h) (hs _) (hbase _) hline) fun W0 W σ E z hz Q q => by
    obtain ⟨x, t1, hx, hz⟩ := bM_some hz
    obtain ⟨y, t2, hy, hz⟩ := bM_some hz
    obtain ⟨w, hw, hz⟩ := bind_some hz
    cases hz
    unfold joinP at hw
    split at hw
    · rename_i hl
      cases hw
      refine use_m E hx fun v W1 l1 E1 r1 => ?_
      cases r1
      refine ⟨⟨x, rfl⟩, t1, ?_⟩
      refine use_m E1 hy fun v2 W2 l2 E2 r2 => ?_
      have r2 : Rp X.K W2.b v2 (.lst (y.map em)) := r2
      cases r2 with
      | lst s2 r2 =>
        have e2 := vs_str r2
        subst e2
        exact ⟨x, _, y, rfl, rfl, .inl (E2.ok.seq s2), hl, q _ W2 (l1.thid l2) E2 (.str _)⟩
    · cases hw
end
end T

set_option Elab.async false
set_option linter.all false
set_option maxRecDepth 100000
set_option maxHeartbeats 4000000
/-! TState4: list comprehensions that draw from the tape. -/
namespace T
open PySem PySem.Spec PyProof.Rows L2
variable {τ α β γ δ ρ B S ι U : Type}
variable [Tabs]
def lcOM (c : α → Tp → Option (Bool × Tp)) (f : α → Tp → Option (β × Tp)) : List α → Tp → Option (List β × Tp)
  | [], t => some ([], t)
  | x :: xs, t => bM (c x t) fun b t1 => if b = true then bM (f x t1) fun y t2 => bM (lcOM c f xs t2) fun ys t3 => some (y :: ys, t3) else lcOM c f xs t1
def lcCM (c : α → Tp → Option (Bool × Tp)) (f : α → Tp → Option (β × Tp)) (xs : List α) (t : Tp) : Option (List β × Tp) := if sz xs.length then lcOM c f xs t else none
section
variable {X : Cx} {env : List SV} {e a b c tg iter elt : Expr} {es : List Expr} {body rest : List Stmt} {pos p p2 : Pos} [Em τ] [Em α] [Em β] [Em γ] {N : List Str} {sc : Scope} {fb : Str → Bool} {K : PySem.W.Frag} {mg : Str → Option Value} {P : Program} {w : World} {base : Heap} {k : Nat}
variable {jt : Nat} {ap ad as : Addr} {t : Tp}
/-- a list that no slot owns changes -/
theorem EnvR.updU {en : List SV} {W0 W : Wd} {σ : St} (E : EnvR K W0 W en σ) {a : Addr} {xs ys : List V} (h1 : W.h a = some (.lst xs)) (h2 : W.b a = none) (h0 : W0.h a = none) (hf : ∀ (j : Nat) (sj : SV) (oj : Option V), en[j]? = some sj → σ[j]? = some oj → a ∉ fpS sj oj) : EnvR K W0 ⟨W.b, upd W.h a (.lst ys)⟩ en σ := by
  refine ⟨⟨E.le.b, E.le.h.upd h0, E.le.f, fun c o z => ?_⟩, E.len, fun j sj e => ?_, E.apart, fun P hP => ?_⟩
  · show upd W.h a _ c = some o
    rw [upd_ne (ne_of_none z h2)]; exact E.le.ok c o z
  · obtain ⟨o, s1, s2⟩ := E.slot j sj e
    refine ⟨o, s1, SlotR.chg (W := W) (Same.refl W.b) (fun c hc => ⟨?_, rfl⟩) s2⟩
    show upd W.h a _ c = _
    rw [upd_ne fun z => hf j sj o e s1 (by rw [← z]; exact hc)]
  · obtain ⟨⟨ps, e, kk⟩, b⟩ := E.tbl P hP
    have nP : P ≠ a := fun z => by subst z; rw [h1] at e; cases e
    refine ⟨⟨ps, ?_, kk⟩, b⟩
    show upd W.h a _ P = _
    rw [upd_ne nP]; exact e
theorem eT_fp {en : List SV} {σ : St} {a : Addr} {t t' : Tp} (h : ∀ (j : Nat) (sj : SV) (oj : Option V), (eT en jt ap ad as t)[j]? = some sj → σ[j]? = some oj → a ∉ fpS sj oj) : ∀ (j : Nat) (sj : SV) (oj : Option V), (eT en jt ap ad as t')[j]? = some sj → σ[j]? = some oj → a ∉ fpS sj oj := by
  intro j sj oj e1 e2
  rcases set_get e1 with ⟨rfl, hl, rfl⟩ | ⟨n, e1⟩
  · exact h j (.tp ap ad as t) oj (List.getElem?_set_self hl) e2
  · exact h j sj oj (by rw [List.getElem?_set_ne (Ne.symm n)]; exact e1) e2
theorem lcM_read {own : List (Str × Nat)} {mxs : Option (List α × Tp)} {envC : List SV} {envY : α → List SV} {is : List Nat} {c' : α → Tp → Option (Bool × Tp)} {f : α → Tp → Option (β × Tp)} (hw : ∀ t, ∀ i ∈ own.map (·.2), (eT envC jt ap ad as t)[i]? = some .any) (h0 : ∀ t, EnvLe (eT env jt ap ad as t) (eT envC jt ap ad as t)) (his : ∀ i ∈ is, i ∈ own.map (·.2))
    (hj : jt < env.length) (hjY : ∀ x, jt < (envY x).length) (hjo : jt ∉ own.map (·.2)) :
    ∀ (σ : St) (H : Hp) (Q : VK), tML K [ap, ad, as] (eT env jt ap ad as) (bM mxs (lcCM c' f)) t σ H Q →
      tLc (tMW K [ap, ad, as] (eT env jt ap ad as) mxs t) (fun v σ H Q => ∃ t, tGt K (eT envC jt ap ad as t) (fun x => eT (envY x) jt ap ad as t) is v σ H Q)
        (fun σ H Q => ∃ q : Tp × α, tMT K [ap, ad, as] (eT (envY q.2) jt ap ad as) (c' q.2 q.1) q.1 σ H Q) (fun σ H Q => ∃ q : Tp × α, tM K [ap, ad, as] (eT (envY q.2) jt ap ad as) (f q.2 q.1) q.1 σ H Q) (own.map (·.2)) σ H Q := by
  intro σ H Q ⟨W0, W, hH, E, ys, hy, q⟩
  subst hH
  obtain ⟨xs, t1, hxs, hy⟩ := bM_some hy
  unfold lcCM at hy
  split at hy
  · rename_i hsz
    refine use_mw E hxs fun J W1 l1 E01 wk D0 hD => ?_
    have E1 := E01
    have hD0 : W0.h D0 = none := E1.le.h.free hD
    have hDf : ∀ t, ∀ (j : Nat) (sj : SV) (oj : Option V), (eT env jt ap ad as t)[j]? = some sj → σ[j]? = some oj → D0 ∉ fpS sj oj := fun t => eT_fp (t := t1) (t' := t) (E1.fresh hD)
    have hjt : ∀ t, (eT env jt ap ad as t)[jt]? = some (.tp ap ad as t) := fun t => List.getElem?_set_self hj
    obtain ⟨oj, sj, ej, _⟩ := E1.slot jt _ (hjt t1)
    subst ej
    have hDF : D0 ∉ [ap, ad, as] := fun z => hDf t1 jt _ _ (hjt t1) sj (by simpa [fpS] using z)
    refine ⟨fun i m H => ∃ (W2 : Wd) (acc : List V) (dn : List β) (t2 : Tp) (rs : List β × Tp), W2.h = H ∧ Le (hide [ap, ad, as] W1) W2 ∧ EnvR K W0 W2 (eT env jt ap ad as t2) σ ∧ W2.h D0 = some (.lst acc) ∧ W2.b D0 = none ∧ RpA K W2.b acc (dn.map em) ∧ lcOM c' f (xs.drop i) t2 = some rs ∧ ys = (dn ++ rs.1, rs.2) ∧ dn.length ≤ i ∧ i ≤ xs.length ∧ m = xs.length - i,
      ⟨xs.length, ⟨W1.b, upd W1.h D0 (.lst [])⟩, [], [], t1, ys, rfl, (Le.layM E1.ok hD).hid, E1.mono (Le.layM E1.ok hD), upd_same, E1.ok.free hD, .nil, hy, rfl, Nat.le_refl _, Nat.zero_le _, rfl⟩, ?_⟩
    rintro i m H ⟨W2, acc, dn, t2, rs, rfl, l2, E2, d1, d2, ra, hl, hys, hdl, hle, rfl⟩
    by_cases hlt : i < xs.length
    · have hx : xs[i]? = some xs[i] := by simp [hlt]
      obtain ⟨g1, g2⟩ := wk.item i _ W2 hx l2.b E2.le
      rw [drop_cons hlt] at hl
      obtain ⟨bb, t3, hb1, hl⟩ := bM_some hl
      refine .inr ⟨g1, fun H' => ∃ (W3 : Wd) (acc' : List V) (dn' : List β) (t' : Tp) (rs' : List β × Tp), W3.h = H' ∧ Le (hide [ap, ad, as] W1) W3 ∧ EnvR K W0 W3 (eT env jt ap ad as t') σ ∧ W3.h D0 = some (.lst acc') ∧ W3.b D0 = none ∧ RpA K W3.b acc' (dn'.map em) ∧ lcOM c' f (xs.drop (i + 1)) t' = some rs' ∧ ys = (dn' ++ rs'.1, rs'.2) ∧ dn'.length ≤ i + 1, ?_, ?_⟩
      · rintro H' ⟨W3, acc', dn', t', rs', e1, e2, e3, e4, e5, e6, e7, e8, e9⟩
        exact ⟨xs.length - (i + 1), by omega, W3, acc', dn', t', rs', e1, e2, e3, e4, e5, e6, e7, e8, e9, hlt, rfl⟩
      · intro v H3 hyl
        obtain ⟨W3, l3, rfl, r3⟩ := g2 v H3 hyl
        have E2' := E2.mono l3
        have E3 := (E2'.weak (h0 t2)).wipe (hw t2)
        refine ⟨t2, W0, W3, xs[i], rfl, E3, r3, fun σ4 E4 hwp => ⟨?_, ?_⟩⟩
        · rw [hwp _ his]
          have aux : ∀ {vs : List Nat} {τ : St}, L2.wipe (L2.wipe τ vs) vs = L2.wipe τ vs := by
            intro vs τ
            refine List.ext_getElem? fun j => ?_
            by_cases hj : j ∈ vs
            · have key : ∀ (ws : List Nat) (υ : St), j ∈ ws → (L2.wipe υ ws)[j]? = if j < υ.length then some none else none := by
                intro ws
                induction ws with
                | nil => intro υ h; simp at h
                | cons z zs ih =>
                  intro υ h
                  unfold L2.wipe
                  by_cases e : z = j
                  · subst e
                    by_cases hl : z < υ.length
                    · rw [List.getElem?_set_self (by rw [wipe_length]; exact hl), if_pos hl]
                    · rw [List.getElem?_eq_none (by rw [List.length_set, wipe_length]; omega), if_neg hl]
                  · rw [List.getElem?_set_ne e]
                    exact ih υ (by rcases List.mem_cons.mp h with q | q; exact absurd q.symm e; exact q)
              rw [key vs _ hj, key vs _ hj, wipe_length]
            · rw [wipe_out hj]
          exact aux
        · -- from the place within the block back to the place around it
          have back : ∀ (W4 : Wd) (t4 : Tp), Le (hide [ap, ad, as] W3) W4 → EnvR K W0 W4 (eT (envY xs[i]) jt ap ad as t4) σ4 → EnvR K W0 W4 (eT env jt ap ad as t4) σ := fun W4 t4 l4 E5 => by
            obtain ⟨o5, s5, e5, ta, z⟩ := E5.slot jt _ (List.getElem?_set_self (hjY _))
            have st := E2'.step (sw := .tp ap ad as t4) (hjt t2) sj l4 (by
              intro a ha
              have ha : a = ap ∨ a = ad ∨ a = as := by simpa [fpS] using ha
              rcases ha with rfl | rfl | rfl
              · exact ta.bp
              · exact ta.bd
              · exact ta.bs) (fun a ha => ha) ⟨rfl, ta, z⟩
            rwa [show (eT env jt ap ad as t2).set jt (.tp ap ad as t4) = eT env jt ap ad as t4 from List.set_set ..] at st
          refine ⟨(t2, xs[i]), use_mt E4 hb1 fun W4 l4 E5 => ?_⟩
          have d3 : W3.h D0 = some (.lst acc) := l3.h.lst d1
          have b3 : W3.b D0 = none := (l3.f _ _ d1).trans d2
          have d14 : W4.h D0 = some (.lst acc) := l4.h.lst ((hide_out hDF).trans d3)
          have b14 : W4.b D0 = none := (l4.f _ _ ((hide_out hDF).trans d3)).trans b3
          have l14 : Le (hide [ap, ad, as] W1) W4 := (l2.thid l3.hid).thid l4
          cases bb with
          | false =>
            rw [if_neg Bool.false_ne_true] at hl ⊢
            exact ⟨W4, acc, dn, t3, rs, rfl, l14, back W4 t3 l4 E5, d14, b14, ra.mono (l3.b.trans l4.b), hl, hys, by omega⟩
          | true =>
            rw [if_pos rfl] at hl ⊢
            obtain ⟨y, t4, hy1, hl⟩ := bM_some hl
            obtain ⟨rs1, rs2, hl1, hl⟩ := bM_some hl
            cases hl
            refine ⟨(t3, xs[i]), use_m E5 hy1 fun u W5 l5 E6 r5 => ?_⟩
            have d15 : W5.h D0 = some (.lst acc) := l5.h.lst ((hide_out hDF).trans d14)
            have b15 : W5.b D0 = none := (l5.f _ _ ((hide_out hDF).trans d14)).trans b14
            have l15 := l14.thid l5
            have hal : acc.length = dn.length := by have := ra.length; rwa [List.length_map] at this
            have E7 := back W5 t4 (l4.thid l5) E6
            refine ⟨acc, d15, ?_, ⟨W5.b, upd W5.h D0 (.lst (acc ++ [u]))⟩, acc ++ [u], dn ++ [y], t4, (rs1, rs2), rfl, ⟨l15.b, fun x o z => ?_, l15.f, ?_⟩, E7.updU d15 b15 hD0 (hDf t4), upd_same, b15, ?_, hl1, by rw [hys, List.append_assoc] <;> rfl, by rw [List.length_append, List.length_singleton]; omega⟩
            · exact Nat.lt_of_le_of_lt (by omega : acc.length ≤ xs.length) (sz_line hsz)
            · exact l15.h.upd (hide_none hD) x o z
            · intro x o z
              show upd W5.h D0 _ x = some o
              rw [upd_ne (ne_of_none z b15)]; exact l15.ok x o z
            · rw [List.map_append]
              exact (ra.mono ((l3.b.trans l4.b).trans l5.b)).append (.cons r5 .nil)
    · have hi' : i = xs.length := by omega
      subst hi'
      rw [List.drop_length] at hl
      cases hl
      rw [List.append_nil] at hys
      subst hys
      exact .inl ⟨wk.stop W2 l2.b E2.le, q D0 acc W2 (l1.thid l2) E2 d1 d2 hD0 (l1.h.free hD) (hDf t2) ra⟩
  · cases hy
structure LcPM (K : PySem.W.Frag) (tg elt : Expr) (ifs : List Expr) (scope : Scope) (envC : List SV) (jt : Nat) (ap ad as : Addr) (envY : α → List SV) (is : List Nat) (c' : α → Tp → Option (Bool × Tp)) (f : α → Tp → Option (β × Tp)) (N : List Str) (sc : Scope) (mg : Str → Option Value) (P : Program) (w : World) (base : Heap) (k : Nat) : Prop where
  tgt : ∀ X', Cf X' N (relS scope sc) (fun x => scope.names.lookup x == some .cell) K mg P w base k → ∀ t, XG X' (eT envC jt ap ad as t) tg (fun x => eT (envY x) jt ap ad as t) is
  tst : ∀ X', Cf X' N (relS scope sc) (fun x => scope.names.lookup x == some .cell) K mg P w base k → ∀ t x, PTs X' ifs (tMT X'.K [ap, ad, as] (eT (envY x) jt ap ad as) (c' x t) t)
  itm : ∀ X', Cf X' N (relS scope sc) (fun x => scope.names.lookup x == some .cell) K mg P w base k → ∀ t x, ME X' [ap, ad, as] (eT (envY x) jt ap ad as) t elt (f x t)
theorem ml_lc {scope : Scope} {ifs : List Expr} {own : List (Str × Nat)} {mxs : Option (List α × Tp)} {envC : List SV} {envY : α → List SV} {is : List Nat} {c' : α → Tp → Option (Bool × Tp)} {f : α → Tp → Option (β × Tp)} (C : Cf X N sc fb K mg P w base k) (hi : MWk X [ap, ad, as] (eT env jt ap ad as) t tg iter mxs)
    (L : LcPM K tg elt ifs scope envC jt ap ad as envY is c' f N sc mg P w base k) (ok : blkC N sc scope own = true) (hw : ∀ t, ∀ i ∈ own.map (·.2), (eT envC jt ap ad as t)[i]? = some .any) (h0 : ∀ t, EnvLe (eT env jt ap ad as t) (eT envC jt ap ad as t)) (his : ∀ i ∈ is, i ∈ own.map (·.2))
    (hj : jt < env.length) (hjY : ∀ x, jt < (envY x).length) (hjo : jt ∉ own.map (·.2)) (hf : ∀ E : Env, ∀ x, foldedSetIterable iter E x = pure x := by intro _ _; rfl) :
    ML X [ap, ad, as] (eT env jt ap ad as) t (.ListComp elt [⟨tg, iter, ifs, 0⟩] scope pos) (bM mxs (lcCM c' f)) := by
  have CC := C
  cases C with
  | mk nd calm po rm =>
    exact peImp (pe_lc calm nd hi (blkOk_by ok) (fun s H C' cl fp => pgEx fun t => L.tgt _ (CC.blk s H scope cl C' fp) t)
      (fun s H C' cl fp => ptsEx (t := fun q : Tp × α => tMT X.K [ap, ad, as] (eT (envY q.2) jt ap ad as) (c' q.2 q.1) q.1) fun q => L.tst _ (CC.blk s H scope cl C' fp) q.1 q.2) (fun s H C' cl fp => peEx (t := fun q : Tp × α => tM X.K [ap, ad, as] (eT (envY q.2) jt ap ad as) (f q.2 q.1) q.1) fun q => L.itm _ (CC.blk s H scope cl C' fp) q.1 q.2) (hf _)) (lcM_read hw h0 his hj hjY hjo)
theorem g_setLcM {ρ : Type} {Z : ρ → Wd → Hp → Ends → Prop} {scope : Scope} {ifs : List Expr} {own : List (Str × Nat)} {mxs : Option (List α × Tp)} {envC : List SV} {envY : α → List SV} {is : List Nat} {c' : α → Tp → Option (Bool × Tp)} {f : α → Tp → Option (β × Tp)} {kk : List β → Tp → Option ρ} {n : Str} {p' cp : Pos}
    (C : Cf X N sc fb K mg P w base k) (i : Nat) (hi : MWk X [ap, ad, as] (eT env jt ap ad as) t tg iter mxs)
    (L : LcPM K tg elt ifs scope envC jt ap ad as envY is c' f N sc mg P w base k) (ok : blkC N sc scope own = true) (hw : ∀ t, ∀ i ∈ own.map (·.2), (eT envC jt ap ad as t)[i]? = some .any) (h0 : ∀ t, EnvLe (eT env jt ap ad as t) (eT envC jt ap ad as t)) (his : ∀ i ∈ is, i ∈ own.map (·.2))
    (hj : jt < env.length) (hjY : ∀ x, jt < (envY x).length) (hjo : jt ∉ own.map (·.2))
    (hr : ∀ x t', GS X ((eT env jt ap ad as t').set i (.own (x.map em))) rest (kk x t') Z) (henv : eT env jt ap ad as t = env := by rfl)
    (hin : N[i]? = some n := by rfl) (hkd : sc.kind = .function := by rfl) (hl : sc.names.lookup n = some .local := by decide +kernel) (hln : (p'.line == cp.line) = true := by rfl) (hcl : (scope.names.any fun (m, k) => m == n && (k == .local || k == .cell)) = false := by decide +kernel)
    (hf : ∀ E : Env, ∀ x, foldedSetIterable iter E x = pure x := by intro _ _; rfl) :
    GS X env (.Assign [.Name n p'] (.ListComp elt [⟨tg, iter, ifs, 0⟩] scope cp) pos :: rest) (bM (bM mxs (lcCM c' f)) kk) Z := by
  have CC := C
  cases C with
  | mk nd calm po rm =>
    refine g_of (ps_setLc (g := fun v σ H Q => ∃ t, tGt X.K (eT envC jt ap ad as t) (fun x => eT (envY x) jt ap ad as t) is v σ H Q) (tt := fun σ H Q => ∃ q : Tp × α, tMT X.K [ap, ad, as] (eT (envY q.2) jt ap ad as) (c' q.2 q.1) q.1 σ H Q) (te := fun σ H Q => ∃ q : Tp × α, tM X.K [ap, ad, as] (eT (envY q.2) jt ap ad as) (f q.2 q.1) q.1 σ H Q) calm nd hin hl (sw_true hkd hl hln hcl) hi (blkOk_by ok) (fun s H C' cl fp => pgEx fun t => L.tgt _ (CC.blk s H scope cl C' fp) t)
      (fun s H C' cl fp => ptsEx (t := fun q : Tp × α => tMT X.K [ap, ad, as] (eT (envY q.2) jt ap ad as) (c' q.2 q.1) q.1) fun q => L.tst _ (CC.blk s H scope cl C' fp) q.1 q.2) (fun s H C' cl fp => peEx (t := fun q : Tp × α => tM X.K [ap, ad, as] (eT (envY q.2) jt ap ad as) (f q.2 q.1) q.1) fun q => L.itm _ (CC.blk s H scope cl C' fp) q.1 q.2) (hf _)) (fun q : List β × Tp => hr q.1 q.2) fun W0 W B σ D r E sb hm z => ?_
    obtain ⟨x, t1, hx, hm⟩ := bM_some hm
    exact lcM_read hw h0 his hj hjY hjo σ W.h _ (use_ml (by rw [henv]; exact E) hx fun a vs W1 l1 E1 h1 hb h0 hn hf r1 => ⟨(x, t1), use_g (E1.put ⟨a, vs, rfl, h1, hb, h0, r1⟩ fun b hbb j sj oj _ ej sj' => by
      obtain rfl : b = a := by simpa [fpS] using hbb
      exact hf j sj oj ej sj') (sb.trans l1.b) hm z⟩)
theorem lcPM_no {scope : Scope} {envC : List SV} {envY : α → List SV} {is : List Nat} {f : α → Tp → Option (β × Tp)}
    (hg : ∀ X', Cf X' N (relS scope sc) (fun x => scope.names.lookup x == some .cell) K mg P w base k → ∀ t, XG X' (eT envC jt ap ad as t) tg (fun x => eT (envY x) jt ap ad as t) is)
    (he : ∀ X', Cf X' N (relS scope sc) (fun x => scope.names.lookup x == some .cell) K mg P w base k → ∀ t x, ME X' [ap, ad, as] (eT (envY x) jt ap ad as) t elt (f x t)) : LcPM K tg elt [] scope envC jt ap ad as envY is (fun _ t => some (true, t)) f N sc mg P w base k :=
  ⟨hg, fun X' C' t x => ⟨fun pins s σ H Q I ⟨W0, W, hH, E, y, hy, q⟩ => by
    subst hH
    cases hy
    exact pts_nil.run pins s σ _ Q I (q W (Le.hrefl E.ok) E)⟩, he⟩
theorem lcPM_if {scope : Scope} {envC : List SV} {envY : α → List SV} {is : List Nat} {c' : α → Tp → Option (Bool × Tp)} {f : α → Tp → Option (β × Tp)}
    (hg : ∀ X', Cf X' N (relS scope sc) (fun x => scope.names.lookup x == some .cell) K mg P w base k → ∀ t, XG X' (eT envC jt ap ad as t) tg (fun x => eT (envY x) jt ap ad as t) is)
    (ht : ∀ X', Cf X' N (relS scope sc) (fun x => scope.names.lookup x == some .cell) K mg P w base k → ∀ t x, MT X' [ap, ad, as] (eT (envY x) jt ap ad as) t c (c' x t))
    (he : ∀ X', Cf X' N (relS scope sc) (fun x => scope.names.lookup x == some .cell) K mg P w base k → ∀ t x, ME X' [ap, ad, as] (eT (envY x) jt ap ad as) t elt (f x t)) : LcPM K tg elt [c] scope envC jt ap ad as envY is c' f N sc mg P w base k :=
  ⟨hg, fun X' C' t x => pts_one (ht X' C' t x), he⟩
theorem fn_noneT {A : Type} {svs : A → List SV} {m : A → Tp → Option (ρ × Tp)} {res : ρ → D} {f : Addr} {fd : FuncData} {ps : List Str} {k : Nat} (h : ∀ a t, m a t = none) : FnOk P w K mg base CX0 k f fd ps (spT K svs m res) :=
  ⟨fun vs H Q E q => (by obtain ⟨_, _, _, _, _, t, a, x, _, _, hx, _⟩ := q; rw [h a t] at hx; cases hx), fun A outer s H args us vs Q E _ _ _ _ q => (by obtain ⟨_, _, _, _, _, t, a, x, _, _, hx, _⟩ := q; rw [h a t] at hx; cases hx)⟩
end
end T

set_option Elab.async false
set_option linter.all false
set_option maxRecDepth 100000
set_option maxHeartbeats 4000000
/-! TTape: the law's own tape: made, read, changed. -/
namespace T
open PySem PySem.Spec PyProof.Rows L2
variable {τ α β γ δ ρ B S ι U : Type}
variable [Tabs]
/-- // by a great divisor -/
def divW (x y : Int) : Option Int := if 0 < y ∧ y.natAbs < 2 ^ 1000 then some (x / y) else none
section
variable {X : Cx} {env : List SV} {e a b c tg iter elt : Expr} {es : List Expr} {body rest : List Stmt} {pos p p1 p2 p3 : Pos} [Em τ] [Em α] [Em β] [Em γ] {N : List Str} {sc : Scope} {fb : Str → Bool} {K : PySem.W.Frag} {mg : Str → Option Value} {P : Program} {w : World} {base : Heap} {k : Nat}
variable {Z : ρ → Wd → Hp → Ends → Prop} {ap ad as : Addr} {t : Tp}
theorem x_divW {ma mb : Option Int} (ha : XE X env a ma) (hb : XE X env b mb) : XE X env (.BinOp a .FloorDiv b pos) (ma.bind fun x => mb.bind fun y => divW x y) :=
  x_binIc op_fdivW (fun x y z h => by
    unfold divW at h
    split at h
    · rename_i q
      exact ⟨wide_div q.1 q.2 (by decide) (by decide), Option.some.inj h⟩
    · cases h) ha hb
theorem rp_int_map {H : Hp} : ∀ (ns : List Int), RpA K H (ns.map V.int) (ns.map em)
  | [] => .nil
  | _ :: l => .cons (.int _) (rp_int_map l)
theorem EnvR.tape {j : Nat} {W0 W : Wd} {σ : St} (E : EnvR K W0 W env σ) (h : env[j]? = some (.tp ap ad as t)) : σ[j]? = some (some (.ref ap)) ∧ TapeAt W ap ad as t ∧ W0.h ap = none ∧ W0.h ad = none ∧ W0.h as = none := by
  obtain ⟨o, s1, e, r⟩ := E.slot j _ h
  subst e
  exact ⟨s1, r⟩
theorem EnvR.val {j : Nat} {v : V} {W0 W : Wd} {σ : St} (E : EnvR K W0 W env σ) (h : env[j]? = some (.val v)) : σ[j]? = some (some v) := by
  obtain ⟨o, s1, e⟩ := E.slot j _ h
  rw [s1, e]
/-- tape[0] -/
theorem x_tp0 (C : Cf X N sc fb K mg P w base k) (j : Nat) {n : Str} {jj : Nat} (hj : env[j]? = some (.tp ap ad as t) := by rfl) (hi : N[j]? = some n := by rfl) (hv : visB sc n = true := by decide +kernel)
    (hd : (n == ("__debug__" : Str)) = false := by decide) (hc : (n == ("__classdict__" : Str)) = false := by decide) : XE X env (.Subscript (.Name n p1) (.Constant (.int 0) jj p2) pos) (some t.c) := by
  cases C
  refine x_of (pe_ix ix_list (pe_var hi (visB_ok hv) hd hc) (x_int (env := env)) (fun _ _ => rfl)) fun W0 W σ E z hz Q q => ?_
  cases hz
  obtain ⟨s1, ta, _⟩ := E.tape hj
  refine ⟨_, s1, use_x E rfl fun v W1 l1 r1 => ?_⟩
  cases r1
  exact ⟨ap, _, 0, .int t.c, rfl, rfl, SqL.of (l1.h.lst ta.hp), rfl, q _ W1 l1 (.int _)⟩
/-- y = tape[1], y = tape[2]: other names of what the tape holds -/
theorem g_tpd (C : Cf X N sc fb K mg P w base k) (i j : Nat) {n n' : Str} {p' : Pos} {jj : Nat} {m : Option ρ} (hr : GS X (env.set i (.val (.ref ad))) rest m Z) (hj : env[j]? = some (.tp ap ad as t) := by rfl)
    (hi : N[i]? = some n := by rfl) (hl : locB sc fb n = true := by decide +kernel) (hi' : N[j]? = some n' := by rfl) (hv : visB sc n' = true := by decide +kernel)
    (hd : (n' == ("__debug__" : Str)) = false := by decide) (hc : (n' == ("__classdict__" : Str)) = false := by decide) (hs : ∀ E : Env, swapsWith (.Subscript (.Name n' p1) (.Constant (.int 1) jj p2) p3) (some (.Name n p')) pos.line E = pure false := by intro _; rfl) :
    GS X env (.Assign [.Name n p'] (.Subscript (.Name n' p1) (.Constant (.int 1) jj p2) p3) pos :: rest) m Z := by
  cases C with
  | mk nd calm po rm =>
    refine g_of (ι := Unit) (ps_set nd hi (locB_ok hl) (pe_ix ix_list (pe_var hi' (visB_ok hv) hd hc) (x_int (env := env)) (fun _ _ => rfl)) (hs _) (locB_fn hl)) (fun _ => hr) fun W0 W B σ D r E sb hm z => ?_
    obtain ⟨s1, ta, _⟩ := E.tape hj
    refine ⟨_, s1, use_x E rfl fun v W1 l1 r1 => ?_⟩
    cases r1
    exact ⟨ap, _, 1, .ref ad, rfl, rfl, SqL.of (l1.h.lst ta.hp), rfl, (), use_g ((E.mono l1).putV) (sb.trans l1.b) hm z⟩
theorem g_tps (C : Cf X N sc fb K mg P w base k) (i j : Nat) {n n' : Str} {p' : Pos} {jj : Nat} {m : Option ρ} (hr : GS X (env.set i (.val (.ref as))) rest m Z) (hj : env[j]? = some (.tp ap ad as t) := by rfl)
    (hi : N[i]? = some n := by rfl) (hl : locB sc fb n = true := by decide +kernel) (hi' : N[j]? = some n' := by rfl) (hv : visB sc n' = true := by decide +kernel)
    (hd : (n' == ("__debug__" : Str)) = false := by decide) (hc : (n' == ("__classdict__" : Str)) = false := by decide) (hs : ∀ E : Env, swapsWith (.Subscript (.Name n' p1) (.Constant (.int 2) jj p2) p3) (some (.Name n p')) pos.line E = pure false := by intro _; rfl) :
    GS X env (.Assign [.Name n p'] (.Subscript (.Name n' p1) (.Constant (.int 2) jj p2) p3) pos :: rest) m Z := by
  cases C with
  | mk nd calm po rm =>
    refine g_of (ι := Unit) (ps_set nd hi (locB_ok hl) (pe_ix ix_list (pe_var hi' (visB_ok hv) hd hc) (x_int (env := env)) (fun _ _ => rfl)) (hs _) (locB_fn hl)) (fun _ => hr) fun W0 W B σ D r E sb hm z => ?_
    obtain ⟨s1, ta, _⟩ := E.tape hj
    refine ⟨_, s1, use_x E rfl fun v W1 l1 r1 => ?_⟩
    cases r1
    exact ⟨ap, _, 2, .ref as, rfl, rfl, SqL.of (l1.h.lst ta.hp), rfl, (), use_g ((E.mono l1).putV) (sb.trans l1.b) hm z⟩
/-- .. read -/
theorem q_td (C : Cf X N sc fb K mg P w base k) (i j : Nat) {n : Str} (hi0 : env[i]? = some (.val (.ref ad)) := by rfl) (hj : env[j]? = some (.tp ap ad as t) := by rfl) (hi : N[i]? = some n := by rfl) (hv : visB sc n = true := by decide +kernel)
    (hd : (n == ("__debug__" : Str)) = false := by decide) (hc : (n == ("__classdict__" : Str)) = false := by decide) : XQ X env (.Name n pos) (some t.ds) := by
  cases C
  refine q_of (pe_var hi (visB_ok hv) hd hc) fun W0 W σ E y hy Q q => ?_
  cases hy
  obtain ⟨s1, ta, _⟩ := E.tape hj
  exact ⟨_, E.val hi0, q ad _ W (Le.refl E.ok) (SqL.of ta.hd) (rp_int_map _)⟩
theorem q_ts (C : Cf X N sc fb K mg P w base k) (i j : Nat) {n : Str} (hi0 : env[i]? = some (.val (.ref as)) := by rfl) (hj : env[j]? = some (.tp ap ad as t) := by rfl) (hi : N[i]? = some n := by rfl) (hv : visB sc n = true := by decide +kernel)
    (hd : (n == ("__debug__" : Str)) = false := by decide) (hc : (n == ("__classdict__" : Str)) = false := by decide) : XQ X env (.Name n pos) (some t.ss) := by
  cases C
  refine q_of (pe_var hi (visB_ok hv) hd hc) fun W0 W σ E y hy Q q => ?_
  cases hy
  obtain ⟨s1, ta, _⟩ := E.tape hj
  exact ⟨_, E.val hi0, q as _ W (Le.refl E.ok) (SqL.of ta.hs) (rp_int_map _)⟩
/-- one of the tape's objects changes -/
theorem EnvR.tpset {j : Nat} {W0 W : Wd} {σ : St} {a : Addr} {xs : List V} {t' : Tp} (E : EnvR K W0 W env σ) (hj : env[j]? = some (.tp ap ad as t)) (ha : a = ap ∨ a = ad) (ta' : TapeAt ⟨W.b, upd W.h a (.lst xs)⟩ ap ad as t') : EnvR K W0 ⟨W.b, upd W.h a (.lst xs)⟩ (env.set j (.tp ap ad as t')) σ := by
  obtain ⟨s1, ta, z⟩ := E.tape hj
  have hb : W.b a = none := by rcases ha with rfl | rfl; exact ta.bp; exact ta.bd
  refine E.chg hj s1 (Same.refl _) (fun c u q => ?_) (fun c hc u q => ⟨.inl ?_, rfl⟩) (fun b hb => hb) ⟨rfl, ta', z⟩
  · show upd W.h a _ c = some u
    rw [upd_ne (ne_of_none q hb)]; exact E.le.ok c u q
  · show upd W.h a _ c = some u
    rw [upd_ne (fun q => hc (by rw [q]; rcases ha with rfl | rfl <;> simp [fpS]))]; exact q
/-- tape[0] = e -/
theorem g_tpc (C : Cf X N sc fb K mg P w base k) (j : Nat) {n : Str} {jj : Nat} {me : Option Int} {f : Int → Option ρ} (he : XE X env e me) (hr : ∀ x : Int, GS X (env.set j (.tp ap ad as ⟨x, t.ds, t.ss⟩)) rest (f x) Z)
    (hj : env[j]? = some (.tp ap ad as t) := by rfl) (hi : N[j]? = some n := by rfl) (hv : visB sc n = true := by decide +kernel)
    (hd : (n == ("__debug__" : Str)) = false := by decide) (hcd : (n == ("__classdict__" : Str)) = false := by decide)
    (ha : ∀ E : Env, ∀ v, assign (.Subscript (.Name n p1) (.Constant (.int 0) jj p3) p2) E v = (do
      let ov ← holding [v] (eval (.Name n p1) E)
      let iv ← holding [v, ov] (eval (.Constant (.int 0) jj p3) E)
      standAt p2
      holding [v, ov, iv] (setItem ov iv v)
      release [v, ov, iv] []) := by intro _ _; rfl)
    (hs : ∀ E : Env, swapsWithSole [.Subscript (.Name n p1) (.Constant (.int 0) jj p3) p2] e pos.line E = pure false := by intro _; rfl) (hw : ∀ E : Env, swappedStores [.Subscript (.Name n p1) (.Constant (.int 0) jj p3) p2] e E = pure none := by intro _; rfl)
    (h1 : ∀ E : Env, (assignEach [.Subscript (.Name n p1) (.Constant (.int 0) jj p3) p2] E).map (·.2) = [assign (.Subscript (.Name n p1) (.Constant (.int 0) jj p3) p2) E] := by intro _; rfl) :
    GS X env (.Assign [.Subscript (.Name n p1) (.Constant (.int 0) jj p3) p2] e pos :: rest) (me.bind f) Z := by
  cases C
  refine g_of (ps_asg he (pg_sub (pe_var hi (visB_ok hv) hd hcd) (x_int (env := env)) set_list (ha _)) (hs _) (hw _) (h1 _)) hr fun W0 W B σ D r E sb hm z => ?_
  obtain ⟨x, hme, hm⟩ := bind_some hm
  refine use_x E hme fun v W1 l1 rv => ?_
  cases rv
  have E1 := E.mono l1
  obtain ⟨s1, ta, _⟩ := E1.tape hj
  refine ⟨_, s1, use_x E1 rfl fun u W2 l2 ru => ?_⟩
  cases ru
  have E2 := E1.mono l2
  obtain ⟨_, ta, _⟩ := E2.tape hj
  refine ⟨ap, _, 0, 0, rfl, rfl, ta.hp, rfl, x, use_g (E2.tpset (t' := ⟨x, t.ds, t.ss⟩) hj (.inl rfl) ⟨upd_same, ?_, ?_, ta.bp, ta.bd, ta.bs, ta.pd, ta.ps, ta.ds⟩) ((sb.trans l1.b).trans l2.b) hm z⟩
  · show upd W2.h ap _ ad = _
    rw [upd_ne (Ne.symm ta.pd)]; exact ta.hd
  · show upd W2.h ap _ as = _
    rw [upd_ne (Ne.symm ta.ps)]; exact ta.hs
/-- digits[j] = e -/
theorem g_tdSet (C : Cf X N sc fb K mg P w base k) (i j : Nat) {n : Str} {me mi : Option Int} {f : List Int → Option ρ} (he : XE X env e me) (hx : XE X env b mi) (hr : ∀ ys : List Int, GS X (env.set j (.tp ap ad as ⟨t.c, ys, t.ss⟩)) rest (f ys) Z)
    (hi0 : env[i]? = some (.val (.ref ad)) := by rfl) (hj : env[j]? = some (.tp ap ad as t) := by rfl) (hi : N[i]? = some n := by rfl) (hv : visB sc n = true := by decide +kernel)
    (hd : (n == ("__debug__" : Str)) = false := by decide) (hcd : (n == ("__classdict__" : Str)) = false := by decide)
    (ha : ∀ E : Env, ∀ v, assign (.Subscript (.Name n p1) b p2) E v = (do
      let ov ← holding [v] (eval (.Name n p1) E)
      let iv ← holding [v, ov] (eval b E)
      standAt p2
      holding [v, ov, iv] (setItem ov iv v)
      release [v, ov, iv] []) := by intro _ _; rfl)
    (hs : ∀ E : Env, swapsWithSole [.Subscript (.Name n p1) b p2] e pos.line E = pure false := by intro _; rfl) (hw : ∀ E : Env, swappedStores [.Subscript (.Name n p1) b p2] e E = pure none := by intro _; rfl)
    (h1 : ∀ E : Env, (assignEach [.Subscript (.Name n p1) b p2] E).map (·.2) = [assign (.Subscript (.Name n p1) b p2) E] := by intro _; rfl) :
    GS X env (.Assign [.Subscript (.Name n p1) b p2] e pos :: rest) (me.bind fun x => mi.bind fun j => (setP t.ds j x).bind f) Z := by
  cases C
  refine g_of (ps_asg he (pg_sub (pe_var hi (visB_ok hv) hd hcd) hx set_list (ha _)) (hs _) (hw _) (h1 _)) hr fun W0 W B σ D r E sb hm z => ?_
  obtain ⟨x, hme, hm⟩ := bind_some hm
  obtain ⟨y, hmj, hm⟩ := bind_some hm
  obtain ⟨ys, hy, hm⟩ := bind_some hm
  unfold setP at hy
  cases q : ixN t.ds.length y with
  | none => rw [q] at hy; cases hy
  | some u =>
    rw [q] at hy
    have hy : t.ds.set u x = ys := Option.some.inj hy
    subst hy
    refine use_x E hme fun v W1 l1 rv => ?_
    cases rv
    have E1 := E.mono l1
    refine ⟨_, E1.val hi0, use_x E1 hmj fun v W2 l2 ru => ?_⟩
    cases ru
    have E2 := E1.mono l2
    obtain ⟨_, ta, _⟩ := E2.tape hj
    refine ⟨ad, _, y, u, rfl, rfl, ta.hd, by rw [List.length_map]; exact q, t.ds.set u x, use_g (W := ⟨W2.b, upd W2.h ad (.lst ((t.ds.map V.int).set u (.int x)))⟩) ?_ ((sb.trans l1.b).trans l2.b) hm z⟩
    refine E2.tpset (t' := ⟨t.c, t.ds.set u x, t.ss⟩) hj (.inr rfl) ⟨?_, ?_, ?_, ta.bp, ta.bd, ta.bs, ta.pd, ta.ps, ta.ds⟩
    · show upd W2.h ad _ ap = _
      rw [upd_ne ta.pd]; exact ta.hp
    · show upd W2.h ad _ ad = _
      rw [upd_same, List.map_set]
    · show upd W2.h ad _ as = _
      rw [upd_ne (Ne.symm ta.ds)]; exact ta.hs
/-- return [0, digits, [..]] -/
theorem g_retTape {φ : Tp → ρ} (C : Cf X N sc fb K mg P w base k) (i : Nat) {n : Str} {ds : List Int} {me : Option (List Int)} {jj : Nat} (he : XL X env e me) (hz : ∀ x W0 B D, Z (φ x) W0 B D → ZR X.K (fun t : Tp => RV.tape t) x W0 B D)
    (hx : env[i]? = some (.own (ds.map em)) := by rfl) (hi : N[i]? = some n := by rfl) (hv : visB sc n = true := by decide +kernel) (hd : (n == ("__debug__" : Str)) = false := by decide) (hc : (n == ("__classdict__" : Str)) = false := by decide)
    (h1 : starEach [.Constant (.int 0) jj p1, .Name n p2, e] X.env = (false, eval (.Constant (.int 0) jj p1) X.env) :: starEach [.Name n p2, e] X.env := by rfl)
    (h2 : starEach [.Name n p2, e] X.env = (false, eval (.Name n p2) X.env) :: starEach [e] X.env := by rfl) (h3 : starEach [e] X.env = (false, eval e X.env) :: starEach [] X.env := by rfl) :
    GS X env (.Return (some (.List [.Constant (.int 0) jj p1, .Name n p2, e] p3)) pos :: rest) (me.bind fun ss => some (φ ⟨0, ds, ss⟩)) Z := by
  cases C
  refine g_of (ι := Empty) (u := fun _ => tNever) (ps_ret (pe_lst (pa_cons (x_int (env := env)) (pa_cons (pe_var hi (visB_ok hv) hd hc) (pa_cons he pa_nil h3) h2) h1))) (fun i => i.elim) fun W0 W B σ D r E sb hm z => ?_
  obtain ⟨ss, hss, hm⟩ := bind_some hm
  cases hm
  unfold tRet tLst tCons
  refine use_x (x := (0 : Int)) E rfl fun v W1 l1 rv => ?_
  cases rv
  have E1 := E.mono l1
  obtain ⟨d, vs, s1, hd, hb, h0, r1⟩ := E1.own hx
  have ev := rp_ints r1
  subst ev
  refine ⟨_, s1, use_l E1 hss fun s us W2 l2 n2 hs b2 r2 => ?_⟩
  have ev := rp_ints r2
  subst ev
  refine ⟨by rw [sizeLine_eq]; show 3 ≤ _; decide, fun p hp => ?_⟩
  have hd2 : W2.h d = some (.lst (ds.map V.int)) := l2.h.lst hd
  have bd2 : W2.b d = none := (l2.f _ _ hd).trans hb
  have l3 : Le W2 ⟨W2.b, upd W2.h p (.lst [.int 0, .ref d, .ref s])⟩ := Le.layM l2.ok hp
  have hpd : p ≠ d := fun q => by rw [q, hd2] at hp; cases hp
  have hps : p ≠ s := fun q => by rw [q, hs] at hp; cases hp
  have hds : d ≠ s := fun q => by rw [← q, hd] at n2; cases n2
  refine hz ⟨0, ds, ss⟩ W0 B D z (.ref p) ⟨W2.b, upd W2.h p (.lst [.int 0, .ref d, .ref s])⟩ ((E1.le.trans l2).trans l3) ⟨p, d, s, rfl, rfl, ⟨upd_same, ?_, ?_, l2.ok.free hp, bd2, b2, hpd, hps, hds⟩, (E1.le.trans l2).h.free hp, h0, E1.le.h.free n2⟩
  · show upd W2.h p _ d = _
    rw [upd_ne (Ne.symm hpd)]; exact hd2
  · show upd W2.h p _ s = _
    rw [upd_ne (Ne.symm hps)]; exact hs
/-- tape = _law_tape(script) -/
theorem g_tape {A : Type} (C : Cf X N sc fb K mg P w base k) (i : Nat) {n x : Str} {p' : Pos} {svs : A → List SV} {mF : A → Option Tp} {ma : Option A} {f : Addr} {fd : FuncData} {ps : List Str} {j : Nat} {kk : Tp → Option ρ} (G : Df P w K mg base j x f fd ps (spF K svs mF fun t => .tape t)) (ha : XA X env (e :: es) ma svs)
    (hr : ∀ p d s t, GS X (env.set i (.tp p d s t)) rest (kk t) Z) (hi : N[i]? = some n := by rfl) (hl : locB sc fb n = true := by decide +kernel) (hj : j ≤ k := by decide) (hg : glbB sc x = true := by decide +kernel)
    (hdb : (x == ("__debug__" : Str)) = false := by decide) (he : starEach (e :: es) X.env = (false, eval e X.env) :: starEach es X.env := by rfl) (hpl : (backTo p3 (starEach es X.env)).any (·.1) = false := by rfl)
    (hs : ∀ E : Env, swapsWith (.Call (.Name x p) (e :: es) [] p3) (some (.Name n p')) pos.line E = pure false := by intro _; rfl) :
    GS X env (.Assign [.Name n p'] (.Call (.Name x p) (e :: es) [] p3) pos :: rest) ((ma.bind mF).bind kk) Z := by
  cases C with
  | mk nd calm po rm =>
    refine g_of (ι := Addr × Addr × Addr × Tp) (ps_set nd hi (locB_ok hl) (pe_call G.ok (rm.mono hj) (glbB_ok hg) G.mg G.kp G.bd .nil pass0 ha hdb he hpl) (hs _) (locB_fn hl)) (fun q => hr q.1 q.2.1 q.2.2.1 q.2.2.2) fun W0 W B σ D r E sb hm z => ?_
    obtain ⟨t, ht, hm⟩ := bind_some hm
    obtain ⟨y, hy, ht⟩ := bind_some ht
    unfold tAsg tCall
    refine use_a E hy fun vs W1 l1 r1 => ?_
    rw [List.append_nil]
    refine ⟨W1, y, t, rfl, l1.ok, (E.mono l1).tbl, r1, ht, fun v W2 l2 ⟨p, d, s, ev, _, ta, z1, z2, z3⟩ => ?_⟩
    subst ev
    have E1 := E.mono l1
    refine ⟨(p, d, s, t), use_g ((E1.mono l2).put (sv := .tp p d s t) ⟨rfl, ta, E1.le.h.free z1, E1.le.h.free z2, E1.le.h.free z3⟩ fun a ha j sj oj _ ej sj' => ?_) ((sb.trans l1.b).trans l2.b) hm z⟩
    have ha : a = p ∨ a = d ∨ a = s := by simpa [fpS] using ha
    rcases ha with rfl | rfl | rfl
    · exact E1.fresh z1 j sj oj ej sj'
    · exact E1.fresh z2 j sj oj ej sj'
    · exact E1.fresh z3 j sj oj ej sj'
end
end T

set_option Elab.async false
set_option linter.all false
set_option maxRecDepth 100000
set_option maxHeartbeats 4000000
/-! TMore: great products, math.perm, op= on names and on items of a list. -/
namespace T
open PySem PySem.Spec PyProof.Rows L2
variable {τ α β γ δ ρ B S ι U : Type}
variable [Tabs]
/-- * of great factors -/
def mulW (x y : Int) : Option Int := if x.natAbs.log2 + y.natAbs.log2 < 1000000 then some (x * y) else none
def permP (m k : Int) : Option Int := if 0 ≤ m ∧ 0 ≤ k ∧ m < 18446744073709551616 ∧ k ≤ 20000 then some (PySem.W.mcPerm m k) else none
section
variable {X : Cx} {env : List SV} {e a b c tg iter elt : Expr} {es : List Expr} {body rest : List Stmt} {pos p p1 p2 p3 : Pos} [Em τ] [Em α] [Em β] [Em γ] {N : List Str} {sc : Scope} {fb : Str → Bool} {K : PySem.W.Frag} {mg : Str → Option Value} {P : Program} {w : World} {base : Heap} {k : Nat}
variable {Z : ρ → Wd → Hp → Ends → Prop}
theorem l_if {mc : Option Bool} {ma mb : Option (List τ)} (hc : XT X env c mc) (ha : XL X env a ma) (hb : XL X env b mb) : XL X env (.IfExp c a b pos) (mc.bind fun x => if x = true then ma else mb) := by
  refine l_of (pe_ifExp hc ha hb) fun W0 W σ E x hx Q q => ?_
  obtain ⟨y, hy, hx⟩ := bind_some hx
  refine use_t E hy fun W1 l1 => ?_
  cases y with
  | true => exact use_l (E.mono l1) (by simpa using hx) fun a vs W2 l2 n2 h2 b2 r2 => q a vs W2 (l1.trans l2) (l1.h.free n2) h2 b2 r2
  | false => exact use_l (E.mono l1) (by simpa using hx) fun a vs W2 l2 n2 h2 b2 r2 => q a vs W2 (l1.trans l2) (l1.h.free n2) h2 b2 r2
theorem x_mulW {ma mb : Option Int} (ha : XE X env a ma) (hb : XE X env b mb) : XE X env (.BinOp a .Mult b pos) (ma.bind fun x => mb.bind fun y => mulW x y) :=
  x_binIc op_mulW (fun x y z h => by
    unfold mulW at h
    split at h
    · rename_i q
      exact ⟨q, Option.some.inj h⟩
    · cases h) ha hb
def rPerm : List V → Hp → VK → Prop := fun vs H Q => ∃ m k : Int, vs = [.int m, .int k] ∧ 0 ≤ m ∧ 0 ≤ k ∧ m < 2 ^ 64 ∧ k ≤ 20000 ∧ Q (.int (PySem.W.mcPerm m k)) H
theorem cr_perm : CallR X (.builtin "math.perm") rPerm := by
  intro pins s σ H vs us Q I r h
  obtain ⟨a, b, rfl, h1, h2, h3, h4, q⟩ := h
  obtain ⟨t, u, rfl⟩ := Vals.int2 r
  exact PySem.W.mc_perm h1 h2 h3 h4 fun _ => ⟨.int _, H, I.tok _, ⟨_, rfl⟩, q⟩
theorem x_perm {ma mb : Option Int} (C : Cf X N sc fb K mg P w base k) (ha : XE X env a ma) (hb : XE X env b mb) (hm : mg "perm" = some (.builtin "math.perm")) (hg : glbB sc "perm" = true := by decide +kernel)
    (h1 : starEach [a, b] X.env = (false, eval a X.env) :: starEach [b] X.env := by rfl) (h2 : starEach [b] X.env = (false, eval b X.env) :: starEach [] X.env := by rfl) (hpl : (backTo pos (starEach [b] X.env)).any (·.1) = false := by rfl) :
    XE X env (.Call (.Name "perm" p) [a, b] [] pos) (ma.bind fun x => mb.bind fun y => permP x y) := by
  cases C
  refine x_of (pe_callBfun cr_perm (glbB_ok hg) hm (a_dat ha (a_dat hb a_nil h2) h1) (by decide) h1 hpl) fun W0 W σ E z hz Q q => ?_
  obtain ⟨x, hx, hz⟩ := bind_some hz
  obtain ⟨y, hy, hz⟩ := bind_some hz
  unfold permP at hz
  split at hz
  · rename_i g
    cases hz
    unfold tCB
    refine use_a E (x := (x, y, ())) (by rw [hx, hy]; rfl) fun vs W1 l1 r1 => ?_
    cases r1 with
    | dat r1 r => cases r with
      | dat r2 r =>
        cases r
        cases r1
        cases r2
        exact ⟨x, y, rfl, g.1, g.2.1, by omega, g.2.2.2, q _ W1 l1 (.int _)⟩
  · cases hz
/-! ### op= -/
/-- x += e, numbers -/
theorem g_augI (C : Cf X N sc fb K mg P w base k) (i : Nat) {n : Str} {x : Int} {me : Option Int} {f : Int → Option ρ} (he : XE X env e me) (hr : ∀ y : Int, GS X (env.set i (.dat (em y))) rest (f y) Z) (hx : env[i]? = some (.dat (em x)) := by rfl)
    (hi : N[i]? = some n := by rfl) (hl : locB sc fb n = true := by decide +kernel) : GS X env (.AugAssign (.Name n p1) .Add e pos :: rest) (me.bind fun y => f (x + y)) Z := by
  cases C with
  | mk nd calm po rm =>
    refine g_of (ps_aug nd hi (locB_ok hl) he ip_add (locB_fn hl)) hr fun W0 W B σ D r E sb hm z => ?_
    obtain ⟨y, hy, hm⟩ := bind_some hm
    obtain ⟨v, h1, r1⟩ := E.dat hx
    cases r1
    refine ⟨_, h1, use_x E hy fun u W1 l1 r2 => ?_⟩
    cases r2
    exact ⟨x, y, rfl, rfl, x + y, use_g ((E.mono l1).putD (.int _)) (sb.trans l1.b) hm z⟩
theorem get_list : PGet X (rIxL X.K) := by
  intro pins s σ H o i ov iv Q I rx ry h
  obtain ⟨p, xs, i, z, rfl, rfl, hq, he, q⟩ := h
  cases rx
  obtain ⟨t, rfl⟩ := ry
  obtain ⟨its, r, pl, hz⟩ := I.list hq
  obtain ⟨j, h1, h2, h3, h4, h5⟩ := atI_get he
  obtain ⟨w, ew, rw'⟩ := r.get h2
  have hl := r.length
  have hn := line63
  have fin : EP X pins σ Q w s := ⟨z, H, I, rw', q⟩
  by_cases h0 : 0 ≤ i
  · have hj : i.toNat = j := by
      rw [seqIndex_of h0 h5] at h1
      exact Option.some.inj h1
    exact wpAny_getItem_list pl.isList h0 (by omega) (by rw [hj]; simpa using ew) fin
  · have hj : (i + (its.toArray.size : Int)).toNat = j := by
      rw [seqIndex_neg (by omega) h4] at h1
      rw [List.size_toArray, ← hl]
      exact Option.some.inj h1
    exact wpAny_getItem_list_neg pl.isList (by omega) (by rw [List.size_toArray] <;> omega) (by omega) (by rw [hj]; simpa using ew) fin
/-- xs[j] += e, numbers -/
theorem g_augItem (C : Cf X N sc fb K mg P w base k) (i : Nat) {n : Str} {xs : List Int} {me mi : Option Int} {f : List Int → Option ρ} (hj : XE X env b mi) (he : XE X env e me)
    (hr : ∀ ys : List Int, GS X (env.set i (.own (ys.map em))) rest (f ys) Z)
    (hx : env[i]? = some (.own (xs.map em)) := by rfl) (hi : N[i]? = some n := by rfl) (hv : visB sc n = true := by decide +kernel)
    (hd : (n == ("__debug__" : Str)) = false := by decide) (hcd : (n == ("__classdict__" : Str)) = false := by decide)
    (ha : ∀ ov iv new, augStore b ov iv new = (do holding [new, ov, iv] (setItem ov iv new); release [new, ov, iv] []; pure .next) := by intros; rfl) :
    GS X env (.AugAssign (.Subscript (.Name n p1) b p2) .Add e pos :: rest) (mi.bind fun j => (atI xs j).bind fun x => me.bind fun y => (setP xs j (x + y)).bind f) Z := by
  cases C
  refine g_of (ps_augS (pe_var hi (visB_ok hv) hd hcd) hj get_list he ip_add set_list ha) hr fun W0 W B σ D r E sb hm z => ?_
  obtain ⟨j, hmj, hm⟩ := bind_some hm
  obtain ⟨x, hat, hm⟩ := bind_some hm
  obtain ⟨y, hme, hm⟩ := bind_some hm
  obtain ⟨ys, hy, hm⟩ := bind_some hm
  unfold setP at hy
  cases q : ixN xs.length j with
  | none => rw [q] at hy; cases hy
  | some t =>
    rw [q] at hy
    have hy : xs.set t (x + y) = ys := Option.some.inj hy
    subst hy
    obtain ⟨a, vs, h1, h2, h3, h0, r1⟩ := E.own hx
    refine ⟨_, h1, use_x E hmj fun u W1 l1 ru => ?_⟩
    cases ru
    have E1 := E.mono l1
    obtain ⟨v, hv1, hv2⟩ := atI_rp r1 (atI_map (f := em) hat)
    cases hv2
    refine ⟨a, vs, j, .int x, rfl, rfl, SqL.of (l1.h.lst h2), hv1, use_x E1 hme fun u2 W2 l2 ru2 => ?_⟩
    cases ru2
    have E2 := E1.mono l2
    have hl : vs.length = xs.length := by have := r1.length; rwa [List.length_map] at this
    refine ⟨x, y, rfl, rfl, a, vs, j, t, rfl, rfl, l2.h.lst (l1.h.lst h2), by rw [hl]; exact q, xs.set t (x + y), ?_⟩
    refine use_g (W := ⟨W2.b, upd W2.h a (.lst (vs.set t (.int (x + y))))⟩) (E2.write (es := (xs.set t (x + y)).map em) hx h1 ?_) ((sb.trans l1.b).trans l2.b) hm z
    rw [List.map_set]
    exact ((r1.mono l1.b).mono l2.b).set (.int _) t
end
end T

set_option Elab.async false
set_option linter.all false
set_option maxRecDepth 100000
set_option maxHeartbeats 4000000
/-! TExc: defs that raise; raise; try. -/
namespace T
open PySem PySem.Spec PyProof.Rows L2
variable {τ α β γ δ ρ B S ι : Type}
/-! ### results of defs that may raise -/
inductive Rs (τ : Type) where
  | ok (x : τ)
  | er (e : Ex)
instance : Em Ex := ⟨fun _ => .non⟩
instance : Em (Rs τ) := ⟨fun _ => .non⟩
def okR (r : Rs τ) : Option τ := match r with
  | .ok x => some x
  | .er _ => none
variable [Tabs]
def resX (res : ρ → RV) (E : XK) : Rs ρ → RV
  | .ok x => res x
  | .er e => .er e E
def spX {A : Type} (K : PySem.W.Frag) (svs : A → List SV) (m : A → Option (Rs ρ)) (res : ρ → RV) : Sp := fun vs H Q E =>
  ∃ (W : Wd) (a : A) (x : Rs ρ), W.h = H ∧ Same W.b W.h ∧ TabsOk W ∧ Args K W vs (svs a) ∧ m a = some x ∧ RtQ K W Q (resX res E x)
structure DfX (P : Program) (w : World) (K : PySem.W.Frag) (mg : Str → Option Value) (base : Heap) (j : Nat) (x : Str) (f : Addr) (fd : FuncData) (ps : List Str) (sp : Sp) : Prop where
  ok : FnOk P w K mg base (L2.CX P w) j f fd ps sp
  mg : mg x = some (.ref f)
  kp : PySem.W.keepIn K (.ref f) = true
  bd : Binds K fd ps []
/-- a def's own wish about exceptions -/
abbrev WxE (E : XK) : WX := fun cls d _ H => E cls d H
section
variable {X : Cx} {env env' : List SV} {e a b c : Expr} {st : Stmt} {es : List Expr} {body rest : List Stmt} {pos p p2 : Pos} [Em τ] [Em α] [Em β] [Em γ] {N : List Str} {sc : Scope} {fb : Str → Bool} {K : PySem.W.Frag} {mg : Str → Option Value} {P : Program} {w : World} {base : Heap} {k : Nat}
/-- THE RULE of a def that may raise -/
theorem fn_mkX {A : Type} {svs : A → List SV} {m : A → Option (Rs ρ)} {res : ρ → RV} {x qual : Str} {st : Stmt} {f : Addr} {fd : FuncData} {ps : List Str} (F : Fun K x qual st f fd) (S : FnScope N ps (defScope st)) (n : Nat) (hn : N.length - ps.length = n) (hl : ∀ a, (svs a).length = ps.length)
    (body : ∀ X E, Cf X N (defScope st) (fun _ => true) K mg P w base k → Takes X (WxE E) → ∀ a, GS X (svs a ++ List.replicate n .any) (defBody st) (m a) (ZRn X.K (resX res E))) : FnOk P w K mg base (L2.CX P w) (k + 1) f fd ps (spX K svs m res) := by
  refine F.okX S (fun vs H Q E h => ?_) (fun cdv A' outer s H vs Q E hr h => ?_)
  · obtain ⟨W, a, y, _, _, _, r, _⟩ := h
    rw [r.length, hl]
  · obtain ⟨W, a, y, hH, ok, tb, r, hy, q⟩ := h
    subst hH
    refine ⟨_, body _ E (Cf.mk S.nd rfl (passes_of rfl) hr) (takes_of rfl rfl rfl rfl) a, W, W, W.b, rfl, EnvR.start ok tb r (by rw [r.length, hl]; exact hn), Same.refl _, y, hy, q, fun σ W' l r' => q.use l r'⟩
/-! ### calls where no error comes -/
theorem x_callX {A : Type} {svs : A → List SV} {m : A → Option (Rs τ)} {ma : Option A} {x : Str} {f : Addr} {fd : FuncData} {ps : List Str} {j : Nat} (C : Cf X N sc fb K mg P w base k) (G : DfX P w K mg base j x f fd ps (spX K svs m fun x => .dat (em x)))
    (ha : XA X env (e :: es) ma svs) (hj : j ≤ k := by decide) (hg : glbB sc x = true := by decide +kernel)
    (hdb : (x == ("__debug__" : Str)) = false := by decide) (he : starEach (e :: es) X.env = (false, eval e X.env) :: starEach es X.env := by rfl) (hpl : (backTo pos (starEach es X.env)).any (·.1) = false := by rfl) :
    XE X env (.Call (.Name x p) (e :: es) [] pos) (ma.bind fun a => (m a).bind okR) := by
  cases C with
  | mk nd calm po rm =>
    refine x_of (pe_call (E := E0) G.ok (rm.mono hj) (glbB_ok hg) G.mg G.kp G.bd .nil passL ha hdb he hpl) fun W0 W σ E z hz Q q => ?_
    obtain ⟨y, hy, hz⟩ := bind_some hz
    obtain ⟨r, hr, hz⟩ := bind_some hz
    cases r with
    | er e => cases hz
    | ok u =>
      obtain rfl : z = u := (Option.some.inj hz).symm
      refine use_a E hy fun vs W1 l1 r1 => ?_
      rw [List.append_nil]
      exact ⟨W1, y, .ok z, rfl, l1.ok, (E.mono l1).tbl, r1, hr, fun v W2 l2 r2 => q v W2 (l1.trans l2) r2⟩
theorem l_callX {A : Type} {svs : A → List SV} {m : A → Option (Rs (List τ))} {ma : Option A} {x : Str} {f : Addr} {fd : FuncData} {ps : List Str} {j : Nat} (C : Cf X N sc fb K mg P w base k) (G : DfX P w K mg base j x f fd ps (spX K svs m fun x => .own (x.map em)))
    (ha : XA X env (e :: es) ma svs) (hj : j ≤ k := by decide) (hg : glbB sc x = true := by decide +kernel)
    (hdb : (x == ("__debug__" : Str)) = false := by decide) (he : starEach (e :: es) X.env = (false, eval e X.env) :: starEach es X.env := by rfl) (hpl : (backTo pos (starEach es X.env)).any (·.1) = false := by rfl) :
    XL X env (.Call (.Name x p) (e :: es) [] pos) (ma.bind fun a => (m a).bind okR) := by
  cases C with
  | mk nd calm po rm =>
    refine l_of (pe_call (E := E0) G.ok (rm.mono hj) (glbB_ok hg) G.mg G.kp G.bd .nil passL ha hdb he hpl) fun W0 W σ E z hz Q q => ?_
    obtain ⟨y, hy, hz⟩ := bind_some hz
    obtain ⟨r, hr, hz⟩ := bind_some hz
    cases r with
    | er e => cases hz
    | ok u =>
      obtain rfl : z = u := (Option.some.inj hz).symm
      refine use_a E hy fun vs W1 l1 r1 => ?_
      rw [List.append_nil]
      refine ⟨W1, y, .ok z, rfl, l1.ok, (E.mono l1).tbl, r1, hr, fun v W2 l2 r2 => ?_⟩
      obtain ⟨ad, us, e1, e2, e3, e4, e5⟩ := r2
      subst e1
      exact q ad us W2 (l1.trans l2) (l1.h.free e4) e2 e3 e5
/-! ### expressions that may raise -/
def tXR (K : PySem.W.Frag) (env : List SV) (m : Option (Rs τ)) (Wx : WX) : TE := fun σ H Q => ∃ W0 W, W.h = H ∧ EnvR K W0 W env σ ∧ ∃ r, m = some r ∧ match r with
  | .ok x => ∀ v W', Le W W' → Rp K W'.b v (em x) → Q v W'.h
  | .er e => ∀ cls d W', Le W W' → ExR K W'.b cls d e → Wx cls d σ W'.h
abbrev XR (X : Cx) (env : List SV) (e : Expr) (m : Option (Rs τ)) (Wx : WX) : Prop := PE X e (tXR X.K env m Wx)
theorem xr_call {Wx : WX} {A : Type} {svs : A → List SV} {m : A → Option (Rs τ)} {ma : Option A} {x : Str} {f : Addr} {fd : FuncData} {ps : List Str} {j : Nat} (C : Cf X N sc fb K mg P w base k) (tk : Takes X Wx) (G : DfX P w K mg base j x f fd ps (spX K svs m fun x => .dat (em x)))
    (ha : XA X env (e :: es) ma svs) (hj : j ≤ k := by decide) (hg : glbB sc x = true := by decide +kernel)
    (hdb : (x == ("__debug__" : Str)) = false := by decide) (he : starEach (e :: es) X.env = (false, eval e X.env) :: starEach es X.env := by rfl) (hpl : (backTo pos (starEach es X.env)).any (·.1) = false := by rfl) :
    XR X env (.Call (.Name x p) (e :: es) [] pos) (ma.bind m) Wx := by
  cases C with
  | mk nd calm po rm =>
    refine peImp (pe_callS (E := WE Wx) G.ok (rm.mono hj) (glbB_ok hg) G.mg G.kp G.bd (fun σ => passAt tk σ) ha hdb he hpl) fun σ H Q ⟨W0, W, hH, E, r, hz, q⟩ => ?_
    subst hH
    obtain ⟨y, hy, hz⟩ := bind_some hz
    refine use_a E hy fun vs W1 l1 r1 => ?_
    refine ⟨W1, y, r, rfl, l1.ok, (E.mono l1).tbl, r1, hz, ?_⟩
    cases r with
    | ok u => exact fun v W2 l2 r2 => q v W2 (l1.trans l2) r2
    | er e => exact fun cls d W2 l2 x => q cls d W2 (l1.trans l2) x
/-- what is wanted of an error at an end: φ e is an end for Z where e goes to Wx -/
def HzX (K : PySem.W.Frag) (Wx : WX) (env : List SV) (Z : ρ → Wd → Hp → Ends → Prop) (φ : Ex → ρ) : Prop :=
  ∀ e W0 B D σ W', Z (φ e) W0 B D → Same B W'.b → EnvR K W0 W' env σ → ∀ cls d, ExR K W'.b cls d e → Wx cls d σ W'.h
theorem hz_rn {res : ρ → RV} {E : XK} : HzX K (WxE E) env (ZRn K (resX res E)) Rs.er := fun e W0 B D σ W' z _ r cls d x => z.1 cls d W' r.le x
theorem hz_r {res : ρ → RV} {E : XK} : HzX K (WxE E) env (ZR K (resX res E)) Rs.er := fun e W0 B D σ W' z _ r cls d x => z cls d W' r.le x
theorem hz_f {res : ρ → RV} {E : XK} {envB : B → List SV} {envJ : S → List SV} : HzX K (WxE E) env (ZF K (resX res E) envB envJ) fun e => Fl.rt (Rs.er e) := fun e W0 B D σ W' z _ r cls d x => z cls d W' r.le x
def bindR (m : Option (Rs τ)) (φ : Ex → ρ) (f : τ → Option ρ) : Option ρ := m.bind fun r => match r with
  | .ok x => f x
  | .er e => some (φ e)
variable {Z : ρ → Wd → Hp → Ends → Prop}
theorem g_exprR {Wx : WX} {me : Option (Rs τ)} {φ : Ex → ρ} {f : τ → Option ρ} (he : XR X env e me Wx) (hz : HzX X.K Wx env Z φ) (hr : ∀ x, GS X env rest (f x) Z) (hs : ∀ E : Env, swapsWith e none pos.line E = pure false := by intro _; rfl) :
    GS X env (.Expr e pos :: rest) (bindR me φ f) Z :=
  g_of (ps_expr he (hs _)) hr fun W0 W B σ D r E sb hm z => by
    obtain ⟨x, hx, hm⟩ := bind_some hm
    refine ⟨W0, W, rfl, E, x, hx, ?_⟩
    cases x with
    | ok x => exact fun v W1 l1 r1 => ⟨x, use_g (E.mono l1) (sb.trans l1.b) hm z⟩
    | er e =>
      cases hm
      exact fun cls d W1 l1 x => hz e W0 B D σ W1 z (sb.trans l1.b) (E.mono l1) cls d x
theorem g_setR {Wx : WX} (C : Cf X N sc fb K mg P w base k) (i : Nat) {n : Str} {p' : Pos} {me : Option (Rs τ)} {φ : Ex → ρ} {f : τ → Option ρ} (he : XR X env e me Wx) (hz : HzX X.K Wx env Z φ) (hr : ∀ x, GS X (env.set i (.dat (em x))) rest (f x) Z)
    (hi : N[i]? = some n := by rfl) (hl : locB sc fb n = true := by decide +kernel) (hs : ∀ E : Env, swapsWith e (some (.Name n p')) pos.line E = pure false := by intro _; rfl) :
    GS X env (.Assign [.Name n p'] e pos :: rest) (bindR me φ f) Z := by
  cases C with
  | mk nd calm po rm =>
    refine g_of (ps_set nd hi (locB_ok hl) he (hs _) (locB_fn hl)) hr fun W0 W B σ D r E sb hm z => ?_
    obtain ⟨x, hx, hm⟩ := bind_some hm
    refine ⟨W0, W, rfl, E, x, hx, ?_⟩
    cases x with
    | ok x => exact fun v W1 l1 r1 => ⟨x, use_g ((E.mono l1).putD r1) (sb.trans l1.b) hm z⟩
    | er e =>
      cases hm
      exact fun cls d W1 l1 x => hz e W0 B D σ W1 z (sb.trans l1.b) (E.mono l1) cls d x
theorem g_retR {Wx : WX} {me : Option (Rs τ)} {φ : Ex → ρ} {ψ : τ → ρ} (he : XR X env e me Wx) (hx : HzX X.K Wx env Z φ) (hz : ∀ x W0 B D, Z (ψ x) W0 B D → ZR X.K (fun x : τ => RV.dat (em x)) x W0 B D) :
    GS X env (.Return (some e) pos :: rest) (bindR me φ fun x => some (ψ x)) Z :=
  g_of (ι := Empty) (u := fun _ => tNever) (ps_ret he) (fun i => i.elim) fun W0 W B σ D r E sb hm z => by
    obtain ⟨x, hy, hm⟩ := bind_some hm
    refine ⟨W0, W, rfl, E, x, hy, ?_⟩
    cases x with
    | ok x =>
      cases hm
      exact fun v W1 l1 r1 => hz x W0 B D z v W1 (E.le.trans l1) r1
    | er e =>
      cases hm
      exact fun cls d W1 l1 x => hx e W0 B D σ W1 z (sb.trans l1.b) (E.mono l1) cls d x
/-! ### raise -/
/-- C() -/
theorem pmk_own0 {x : Str} {C : Addr} {bmB : List Value} {B newId initId : String} {p pos : Pos} (F : ExcBaseFacts B newId initId bmB) (q : PySem.W.excIn X.K C bmB newId = true) (gC : X.mg x = some (.ref C)) (kC : PySem.W.keepIn X.K (.ref C) = true) (r : Raises X (.ref C)) (hg : Gl X x)
    (hdb : (x == ("__debug__" : Str)) = false := by decide) : PMk X (.Call (.Name x p) [] [] pos) (fun _ H Q => Q (.ref C) none H) := by
  intro pins s σ H Q I h
  refine wpAny_Call_Name_kw (ld_glob I hg gC ?_ hdb)
  refine PySem.W.callWith_K0 I.kIn kC ?_
  obtain ⟨bm, N, nm, qn, bs, hdct, sn, sub, ab, col, dd, k0, k1, k2, k3, k5, mN, hC, hN, hni, T⟩ := exc_obj I.kIn q
  refine wpAny_call_exc_subT F T hC hN hni (fun h' e hm => ?_) (by show 0 ≤ sizeLine; exact Nat.zero_le _)
  exact mk_of I hm r h (I.hok.gone hm.new)
abbrev veT : List Value := [.type "ValueError", .type "Exception", .type "BaseException", .type "object"]
/-- an error class without an own __init__ -/
structure Er0 (K : PySem.W.Frag) (mg : Str → Option Value) (c : Str) : Prop where
  ex : PySem.W.excIn K (Tabs.cls c) veT "ValueError.__new__" = true
  mg : mg c = some (.ref (Tabs.cls c))
  kp : PySem.W.keepIn K (.ref (Tabs.cls c)) = true
  sb : PySem.W.subIn K (.ref (Tabs.cls c)) (.type "BaseException") = some true
  ty : PySem.W.typeIn K (.ref (Tabs.cls c)) = some (.type "type")
theorem g_raise0 {Wx : WX} {c : Str} {φ : Ex → ρ} {p1 p2 : Pos} (C : Cf X N sc fb K mg P w base k) (tk : Takes X Wx) (G : Er0 K mg c) (hz : HzX X.K Wx env Z φ) (hg : glbB sc c = true := by decide +kernel) (hdb : (c == ("__debug__" : Str)) = false := by decide) :
    GS X env (.Raise (some (.Call (.Name c p1) [] [] p2)) none pos :: rest) (some (φ ⟨c, []⟩)) Z := by
  cases C with
  | mk nd calm po rm =>
    refine g_of (ι := Empty) (u := fun _ => tNever) (ps_raise calm tk (pmk_own0 F.excBase_ValueError G.ex G.mg G.kp (raises_own G.sb G.ty) (glbB_ok hg) hdb)) (fun i => i.elim) fun W0 W B σ D r E sb hm z => ?_
    cases hm
    exact hz _ W0 B D σ W z sb E _ _ ⟨rfl, .inl ⟨rfl, rfl⟩⟩
/-- an error class whose __init__ keeps its arguments as the fields fs -/
structure ErI (P : Program) (w : World) (K : PySem.W.Frag) (mg : Str → Option Value) (base : Heap) (c : Str) (sp : Sp) (ps : List Str) : Prop where
  ox : OexC K (Tabs.cls c)
  it : ∃ fI fd, PySem.W.findIn K (.ref (Tabs.cls c)) "__init__" = some (some (.ref fI)) ∧ PySem.W.typeIn K (.ref fI) = some (.type "function") ∧ FnOk P w K mg base CX0 1 fI fd ps sp ∧ Binds K fd ps []
  mg : mg c = some (.ref (Tabs.cls c))
/-- self.f = v -/
def spI1 (K : PySem.W.Frag) (C : Addr) (f : Str) : Sp := fun vs H Q _ => ∃ a v, vs = [.ref a, v] ∧ OexC K C ∧ PySem.W.findIn K (.ref C) f = some none ∧ H a = some (exo a C none) ∧
  ∀ dx, H dx = none → dx ≠ a → Q .non (upd (upd H dx (exd dx [(f, v)])) a (exo a C (some dx)))
/-- self.f = v; self.g = u -/
def spI2 (K : PySem.W.Frag) (C : Addr) (f g : Str) : Sp := fun vs H Q _ => ∃ a v u, vs = [.ref a, v, u] ∧ OexC K C ∧ PySem.W.findIn K (.ref C) f = some none ∧ PySem.W.findIn K (.ref C) g = some none ∧ H a = some (exo a C none) ∧
  ∀ dx, H dx = none → dx ≠ a → Q .non (upd (upd (upd H dx (exd dx [(f, v)])) a (exo a C (some dx))) dx (exd dx [(g, u), (f, v)]))
theorem init1 {C fI : Addr} {fd : FuncData} {qual f n : Str} {st : Stmt} {p1 p2 p3 p4 : Pos} (F : Fun K "__init__" qual st fI fd) (S : FnScope ["self", n] ["self", n] (defScope st)) (hb : defBody st = [.Assign [.Attribute (.Name "self" p1) f p2] (.Name n p3) p4])
    (h1 : visB (defScope st) "self" = true := by decide +kernel) (h2 : visB (defScope st) n = true := by decide +kernel) (hd : (n == ("__debug__" : Str)) = false := by decide) (hc : (n == ("__classdict__" : Str)) = false := by decide) :
    FnOk P w K mg base CX0 1 fI fd ["self", n] (spI1 K C f) := by
  refine F.ok S (fun vs H Q E h => ?_) (fun cdv A' outer s H vs Q E hr h => ?_)
  · obtain ⟨a, v, rfl, _⟩ := h
    rfl
  · obtain ⟨a, v, rfl, T, hno, ha, q⟩ := h
    rw [hb]
    exact ⟨_, pss_one (ps_ost (pe_var (i := 0) rfl (visB_ok h1) (by decide) (by decide)) (pe_var (i := 1) rfl (visB_ok h2) hd hc)), v, rfl, _, rfl, a, C, rfl, T, hno, .inl ⟨ha, fun dx n ne => q dx n ne⟩⟩
theorem init2 {C fI : Addr} {fd : FuncData} {qual f g n m : Str} {st : Stmt} {p1 p2 p3 p4 q1 q2 q3 q4 : Pos} (F : Fun K "__init__" qual st fI fd) (S : FnScope ["self", n, m] ["self", n, m] (defScope st))
    (hb : defBody st = [.Assign [.Attribute (.Name "self" p1) f p2] (.Name n p3) p4, .Assign [.Attribute (.Name "self" q1) g q2] (.Name m q3) q4])
    (h1 : visB (defScope st) "self" = true := by decide +kernel) (h2 : visB (defScope st) n = true := by decide +kernel) (hd : (n == ("__debug__" : Str)) = false := by decide) (hc : (n == ("__classdict__" : Str)) = false := by decide)
    (h3 : visB (defScope st) m = true := by decide +kernel) (hd3 : (m == ("__debug__" : Str)) = false := by decide) (hc3 : (m == ("__classdict__" : Str)) = false := by decide) :
    FnOk P w K mg base CX0 1 fI fd ["self", n, m] (spI2 K C f g) := by
  refine F.ok S (fun vs H Q E h => ?_) (fun cdv A' outer s H vs Q E hr h => ?_)
  · obtain ⟨a, v, u, rfl, _⟩ := h
    rfl
  · obtain ⟨a, v, u, rfl, T, hno, hno2, ha, q⟩ := h
    rw [hb]
    refine ⟨_, pss_cons (ps_ost (pe_var (i := 0) rfl (visB_ok h1) (by decide) (by decide)) (pe_var (i := 1) rfl (visB_ok h2) hd hc)) (pss_one (ps_ost (pe_var (i := 0) rfl (visB_ok h1) (by decide) (by decide)) (pe_var (i := 2) rfl (visB_ok h3) hd3 hc3))), v, rfl, _, rfl, a, C, rfl, T, hno, .inl ⟨ha, fun dx n ne => ?_⟩⟩
    refine ⟨u, rfl, _, rfl, a, C, rfl, T, hno2, .inr ⟨dx, [(f, v)], upd_same, ?_, by show 1 ≤ 900; decide, q dx n ne⟩⟩
    rw [upd_ne ne]
    exact upd_same
theorem h_one {H : Hp} {a d : Addr} {o o1 o2 : HO} {u : HO} (ha : H a = none) (hd : d ≠ a) : upd (del (upd (upd (upd H a o) d o1) a o2) a) d u = upd H d u := by
  funext b
  by_cases h : b = d
  · subst h; rw [upd_same, upd_same]
  · rw [upd_ne h, upd_ne h]
    by_cases h2 : b = a
    · subst h2; rw [del_same, ha]
    · rw [del_ne h2, upd_ne h2, upd_ne h, upd_ne h2]
theorem h_two {H : Hp} {a d : Addr} {o o1 o2 o3 : HO} {u : HO} (ha : H a = none) (hd : d ≠ a) : upd (del (upd (upd (upd (upd H a o) d o1) a o2) d o3) a) d u = upd H d u := by
  funext b
  by_cases h : b = d
  · subst h; rw [upd_same, upd_same]
  · rw [upd_ne h, upd_ne h]
    by_cases h2 : b = a
    · subst h2; rw [del_same, ha]
    · rw [del_ne h2, upd_ne h, upd_ne h2, upd_ne h, upd_ne h2]
theorem g_raise1 {Wx : WX} {c f n : Str} {φ : Ex → ρ} {ma : Option α} {p1 p2 : Pos} (C : Cf X N sc fb K mg P w base k) (tk : Takes X Wx) (G : ErI P w K mg base c (spI1 K (Tabs.cls c) f) ["self", n]) (hno : PySem.W.findIn K (.ref (Tabs.cls c)) f = some none) (hz : HzX X.K Wx env Z φ) (ha : XE X env a ma)
    (hj : 2 ≤ k := by decide) (hg : glbB sc c = true := by decide +kernel) (hdb : (c == ("__debug__" : Str)) = false := by decide) (he : starEach [a] X.env = (false, eval a X.env) :: starEach [] X.env := by rfl) (hpl : (backTo p2 (starEach [] X.env)).any (·.1) = false := by rfl) :
    GS X env (.Raise (some (.Call (.Name c p1) [a] [] p2)) none pos :: rest) (ma.bind fun x => some (φ ⟨c, [(f, em x)]⟩)) Z := by
  cases C with
  | mk nd calm po rm =>
    obtain ⟨fI, fd, i1, i2, F1, hb⟩ := G.it
    refine g_of (ι := Empty) (u := fun _ => tNever) (ps_raise calm tk (pmk_oex G.ox i1 i2 F1 (rm.mono hj) hb .nil pass0 (glbB_ok hg) G.mg (pa_cons ha pa_nil he) hdb he hpl)) (fun i => i.elim) fun W0 W B σ D r E sb hm z => ?_
    obtain ⟨x, hx, hm⟩ := bind_some hm
    cases hm
    refine use_x E hx fun v W1 l1 r1 => ⟨by show 1 ≤ 1000; decide, fun a na => ⟨a, v, rfl, G.ox, hno, upd_same, fun dx nd ne => ?_⟩⟩
    have nd1 : W1.h dx = none := by rwa [upd_ne ne] at nd
    refine ⟨rfl, dx, [(f, v)], upd_same, by rw [upd_ne ne]; exact upd_same, nd1, ?_⟩
    show Wx (.ref (Tabs.cls c)) (some dx) σ _
    rw [h_one na ne]
    have nb1 : W1.b dx = none := l1.ok.free nd1
    have l2 : Le W1 ⟨upd W1.b dx (.xd [(f, v)]), upd W1.h dx (.xd [(f, v)])⟩ := Le.lay l1.ok nd1
    exact hz _ W0 B D σ ⟨upd W1.b dx (.xd [(f, v)]), upd W1.h dx (.xd [(f, v)])⟩ z ((sb.trans l1.b).trans l2.b) ((E.mono l1).mono l2) _ _ ⟨rfl, .inr ⟨dx, _, rfl, upd_same, .cons (r1.mono l2.b) .nil⟩⟩
theorem g_raise2 {Wx : WX} {c f g n m : Str} {φ : Ex → ρ} {ma : Option α} {mb : Option β} {p1 p2 : Pos} (C : Cf X N sc fb K mg P w base k) (tk : Takes X Wx) (G : ErI P w K mg base c (spI2 K (Tabs.cls c) f g) ["self", n, m]) (hno : PySem.W.findIn K (.ref (Tabs.cls c)) f = some none) (hno2 : PySem.W.findIn K (.ref (Tabs.cls c)) g = some none) (hz : HzX X.K Wx env Z φ) (ha : XE X env a ma) (hb2 : XE X env b mb)
    (hj : 2 ≤ k := by decide) (hg : glbB sc c = true := by decide +kernel) (hdb : (c == ("__debug__" : Str)) = false := by decide) (he : starEach [a, b] X.env = (false, eval a X.env) :: starEach [b] X.env := by rfl) (he2 : starEach [b] X.env = (false, eval b X.env) :: starEach [] X.env := by rfl) (hpl : (backTo p2 (starEach [b] X.env)).any (·.1) = false := by rfl) :
    GS X env (.Raise (some (.Call (.Name c p1) [a, b] [] p2)) none pos :: rest) (ma.bind fun x => mb.bind fun y => some (φ ⟨c, [(g, em y), (f, em x)]⟩)) Z := by
  cases C with
  | mk nd calm po rm =>
    obtain ⟨fI, fd, i1, i2, F1, hb⟩ := G.it
    refine g_of (ι := Empty) (u := fun _ => tNever) (ps_raise calm tk (pmk_oex G.ox i1 i2 F1 (rm.mono hj) hb .nil pass0 (glbB_ok hg) G.mg (pa_cons ha (pa_cons hb2 pa_nil he2) he) hdb he hpl)) (fun i => i.elim) fun W0 W B σ D r E sb hm z => ?_
    obtain ⟨x, hx, hm⟩ := bind_some hm
    obtain ⟨y, hy, hm⟩ := bind_some hm
    cases hm
    unfold tMkO tCons tNil
    refine use_x E hx fun v W1 l1 r1 => ?_
    refine use_x (E.mono l1) hy fun u W2 l2 r2 => ?_
    refine ⟨by show 2 ≤ 1000; decide, fun a na => ⟨a, v, u, rfl, G.ox, hno, hno2, upd_same, fun dx nd ne => ?_⟩⟩
    have nd1 : W2.h dx = none := by rwa [upd_ne ne] at nd
    refine ⟨rfl, dx, [(g, u), (f, v)], by rw [upd_ne (Ne.symm ne)]; exact upd_same, upd_same, nd1, ?_⟩
    show Wx (.ref (Tabs.cls c)) (some dx) σ _
    rw [h_two na ne]
    have l3 : Le W2 ⟨upd W2.b dx (.xd [(g, u), (f, v)]), upd W2.h dx (.xd [(g, u), (f, v)])⟩ := Le.lay l2.ok nd1
    exact hz _ W0 B D σ ⟨upd W2.b dx (.xd [(g, u), (f, v)]), upd W2.h dx (.xd [(g, u), (f, v)])⟩ z (((sb.trans l1.b).trans l2.b).trans l3.b) (((E.mono l1).mono l2).mono l3) _ _ ⟨rfl, .inr ⟨dx, _, rfl, upd_same, .cons (r2.mono l3.b) (.cons ((r1.mono l2.b).mono l3.b) .nil)⟩⟩
end
end T

set_option Elab.async false
set_option linter.all false
set_option maxRecDepth 100000
set_option maxHeartbeats 4000000
/-! TExc2: instances; try. -/
namespace T
open PySem PySem.Spec PyProof.Rows L2
variable {τ α β γ δ ρ B S ι : Type}
variable [Tabs]
/-! ### C(..) -/
/-- what C's __init__ keeps -/
def spI {A : Type} (K : PySem.W.Frag) (c : Str) (svs : A → List SV) (m : A → Option (Rs ρ)) (res : ρ → D) : Sp := fun vs H Q E =>
  ∃ (W : Wd) (x dx : Addr) (ws : List V) (a : A) (r : Rs ρ), vs = .ref x :: ws ∧ W.h x = none ∧ W.h dx = none ∧ dx ≠ x ∧ H = upd (upd W.h dx (.own x)) x (.ins (Tabs.cls c) dx []) ∧ Same W.b W.h ∧ TabsOk W ∧ Args K W ws (svs a) ∧ m a = some r ∧
    match r with
    | .ok r => ∀ W', Le W W' → Rp K W'.b (.ref x) (res r) → Q .non W'.h
    | .er e => ∀ cls d W', Le W W' → ExR K W'.b cls d e → E cls d W'.h
/-- the class and its __init__ -/
structure DfI (P : Program) (w : World) (K : PySem.W.Frag) (mg : Str → Option Value) (base : Heap) (j : Nat) (c : Str) (ps : List Str) (sp : Sp) : Prop where
  ok : ∃ f fd, Mk K (Tabs.cls c) f ∧ FnOk P w K mg base (L2.CX P w) j f fd ps sp ∧ Binds K fd ps []
  mg : mg c = some (.ref (Tabs.cls c))
/-- at the end of __init__ -/
def ZI (K : PySem.W.Frag) (x : Addr) (E : XK) (res : ρ → D) : Rs ρ → Wd → Hp → Ends → Prop := fun r W0 _ D => match r with
  | .ok r => ∀ σ W', Le W0 W' → Rp K W'.b (.ref x) (res r) → D.nx σ W'.h
  | .er e => ∀ cls d W', Le W0 W' → ExR K W'.b cls d e → E cls d W'.h
section
variable {X : Cx} {env env' : List SV} {e a b c : Expr} {st : Stmt} {es : List Expr} {body rest : List Stmt} {pos p p2 : Pos} [Em τ] [Em α] [Em β] [Em γ] {N : List Str} {sc : Scope} {fb : Str → Bool} {K : PySem.W.Frag} {mg : Str → Option Value} {P : Program} {w : World} {base : Heap} {k : Nat}
variable {Z : ρ → Wd → Hp → Ends → Prop}
theorem hz_i {E : XK} {x : Addr} {res : ρ → D} : HzX K (WxE E) env (ZI K x E res) Rs.er := fun e W0 B D σ W' z _ r cls d x => z cls d W' r.le x
/-- errors out of a loop -/
theorem hz_fe {E : XK} {envB : B → List SV} {envJ : S → List SV} : HzX K (WxE E) env (ZF K (fun e : Ex => RV.er e E) envB envJ) Fl.rt := fun e W0 B D σ W' z _ r cls d x => z cls d W' r.le x
theorem fn_mkI {A : Type} {c : Str} {svs : A → List SV} {m : A → Option (Rs ρ)} {res : ρ → D} {qual : Str} {st : Stmt} {f : Addr} {fd : FuncData} {ps : List Str} (F : Fun K "__init__" qual st f fd) (S : FnScope N ps (defScope st)) (n : Nat) (hn : N.length - ps.length = n) (hl : ∀ a, (svs a).length + 1 = ps.length)
    (body : ∀ X E, Cf X N (defScope st) (fun _ => true) K mg P w base k → Takes X (WxE E) → ∀ x dx a, GS X ((.slf x dx c [] :: svs a) ++ List.replicate n .any) (defBody st) (m a) (ZI X.K x E res)) : FnOk P w K mg base (L2.CX P w) (k + 1) f fd ps (spI K c svs m res) := by
  refine F.okX S (fun vs H Q E h => ?_) (fun cdv A' outer s H vs Q E hr h => ?_)
  · obtain ⟨W, x, dx, ws, a, r, rfl, _, _, _, _, _, _, r1, _⟩ := h
    rw [List.length_cons, r1.length, hl]
  · obtain ⟨W, x, dx, ws, a, r, rfl, nx, nd, ne, rfl, ok, tb, r1, hr', q⟩ := h
    have l1 : Le W ⟨W.b, upd W.h dx (.own x)⟩ := Le.layM ok nd
    have nx2 : upd W.h dx (.own x) x = none := by rw [upd_ne (Ne.symm ne)]; exact nx
    have l2 : Le (⟨W.b, upd W.h dx (.own x)⟩ : Wd) ⟨W.b, upd (upd W.h dx (.own x)) x (.ins (Tabs.cls c) dx [])⟩ := Le.layM l1.ok nx2
    have l := l1.trans l2
    have E0 := Args.envR (K := K) ok tb r1
    have fp0 : ∀ {i : Nat} {sv : SV} {o : Option V} {a' : Addr}, (svs a)[i]? = some sv → a' ∈ fpS sv o → False := fun h1 h2 => r1.fp0 h1 h2
    have E1 : EnvR K W ⟨W.b, upd (upd W.h dx (.own x)) x (.ins (Tabs.cls c) dx [])⟩ (.slf x dx c [] :: svs a) ((V.ref x :: ws).map some) := by
      refine ⟨l, by simp [r1.length], fun i sv hi => ?_, fun i j sv sw o o' ne' e1 e2 s2 s3 z hz hb => ?_, tb.mono l⟩
      · cases i with
        | zero =>
          simp at hi
          subst hi
          exact ⟨_, rfl, rfl, ⟨⟨[], upd_same, .nil⟩, by show upd (upd W.h dx _) x _ dx = _; rw [upd_ne ne]; exact upd_same, ok.free nx, ok.free nd, Ne.symm ne⟩, nx, nd⟩
        | succ i =>
          obtain ⟨o, h1, h2⟩ := E0.slot i sv (by simpa using hi)
          exact ⟨o, by simpa using h1, h2.mono l⟩
      · cases i with
        | succ i => exact fp0 (by simpa using e1) hz
        | zero =>
          cases j with
          | zero => exact ne' rfl
          | succ j => exact fp0 (by simpa using e2) hb
    have hlen : (V.ref x :: ws).length = ps.length := by rw [List.length_cons, r1.length, hl]
    refine ⟨_, body _ E (Cf.mk S.nd rfl (passes_of rfl) hr) (takes_of rfl rfl rfl rfl) x dx a, W, ⟨W.b, upd (upd W.h dx (.own x)) x (.ins (Tabs.cls c) dx [])⟩, W.b, rfl, E1.ext (by rw [hlen]; exact hn), Same.refl _, r, hr', ?_⟩
    cases r with
    | ok r => exact fun σ W' l' r' => q W' l' r'
    | er e => exact q
theorem putF_new {f : Str} {v : V} : ∀ {vs : List (Str × V)}, f ∉ vs.map (·.1) → putF f v vs = vs ++ [(f, v)]
  | [], _ => rfl
  | (g, x) :: r, h => by
    unfold putF
    rw [if_neg (fun q => h (by rw [q]; exact List.mem_cons_self)), putF_new (vs := r) fun q => h (List.mem_cons_of_mem _ q), List.cons_append]
theorem RpF.append {H : Hp} : ∀ {vs ws : List (Str × V)} {ds es : List (Str × D)}, RpF K H vs ds → RpF K H ws es → RpF K H (vs ++ ws) (ds ++ es)
  | _, _, _, _, .nil, h => h
  | _, _, _, _, .cons r t, h => .cons r (RpF.append t h)
/-- self.f = e, in __init__ -/
theorem g_fld (C : Cf X N sc fb K mg P w base k) (i : Nat) {x dx : Addr} {c n f : Str} {fs : List (Str × D)} {p1 p2 : Pos} {me : Option τ} {kk : τ → Option ρ} (he : XE X env e me) (hcl : Cls K (Tabs.cls c)) (hno : NoAttr K (Tabs.cls c) f) (hr : ∀ y, GS X (env.set i (.slf x dx c (fs ++ [(f, em y)]))) rest (kk y) Z)
    (hx : env[i]? = some (.slf x dx c fs) := by rfl) {ns : List Str} (hns : fs.map (·.1) = ns := by rfl) (hf : ns.contains f = false := by decide +kernel) (hl : fs.length < 900 := by exact ltB rfl) (hi : N[i]? = some n := by rfl) (hv : visB sc n = true := by decide +kernel)
    (hd : (n == ("__debug__" : Str)) = false := by decide) (hcd : (n == ("__classdict__" : Str)) = false := by decide)
    (hs : ∀ E : Env, swapsWith e (some (.Attribute (.Name n p1) f p2)) pos.line E = pure false := by intro _; rfl) :
    GS X env (.Assign [.Attribute (.Name n p1) f p2] e pos :: rest) (me.bind kk) Z := by
  cases C with
  | mk nd calm po rm =>
    refine g_of (ps_fld (pe_var hi (visB_ok hv) hd hcd) he (hs _)) hr fun W0 W B σ D r E sb hm z => ?_
    obtain ⟨y, hy, hm⟩ := bind_some hm
    refine use_x E hy fun v W1 l1 r1 => ?_
    have E1 := E.mono l1
    obtain ⟨o, s1, e1, sa, z1, z2⟩ := E1.slot i _ hx
    subst e1
    obtain ⟨vs, hv1, rf⟩ := sa.ha
    have nm := rf.names.1
    have hnf : f ∉ vs.map (·.1) := by
      rw [nm, hns]
      intro q
      rw [List.contains_iff_mem.mpr q] at hf
      cases hf
    have hlen : vs.length = fs.length := by have := congrArg List.length nm; simpa using this
    refine ⟨_, s1, x, Tabs.cls c, dx, vs, rfl, hv1, hcl, hno, by omega, y, ?_⟩
    rw [putF_new hnf]
    have E2 : EnvR X.K W0 ⟨W1.b, upd W1.h x (.ins (Tabs.cls c) dx (vs ++ [(f, v)]))⟩ (env.set i (.slf x dx c (fs ++ [(f, em y)]))) σ := by
      refine E1.chg hx s1 (Same.refl _) (fun u o q => ?_) (fun u hu o q => ⟨.inl ?_, rfl⟩) (fun b hb => hb) ⟨rfl, ⟨⟨_, upd_same, rf.append (.cons r1 .nil)⟩, ?_, sa.ba, sa.bd, sa.ne⟩, z1, z2⟩
      · show upd W1.h x _ u = some o
        rw [upd_ne (ne_of_none q sa.ba)]; exact E1.le.ok u o q
      · show upd W1.h x _ u = some o
        rw [upd_ne (fun z => hu (by rw [z]; simp [fpS]))]; exact q
      · show upd W1.h x _ dx = _
        rw [upd_ne (Ne.symm sa.ne)]; exact sa.hd
    exact use_g E2 (sb.trans l1.b) hm z
/-- the end of __init__ -/
theorem g_nilI {x dx : Addr} {c : Str} {fs : List (Str × D)} {E : XK} {res : ρ → D} {r : ρ} (i : Nat) (hx : env[i]? = some (.slf x dx c fs) := by rfl) (he : res r = .ins c (fs.map (·.1)) (fs.map (·.2)) := by rfl) : GS X env [] (some (Rs.ok r)) (ZI X.K x E res) := pssImp pss_nil fun D σ H ⟨W0, W, B, hH, E1, sb, r', hr, z⟩ => by
  subst hH
  cases hr
  obtain ⟨o, s1, e1, sa, z1, z2⟩ := E1.slot i _ hx
  subst e1
  obtain ⟨vs, hv1, rf⟩ := sa.ha
  have sb2 : Same W.b (upd W.b x (.ins (Tabs.cls c) dx vs)) := Same.new sa.ba
  have E2 : EnvR X.K W0 ⟨upd W.b x (.ins (Tabs.cls c) dx vs), W.h⟩ (env.set i .any) σ := by
    refine E1.chg hx s1 sb2 (fun u o q => ?_) (fun u hu o q => ⟨.inl q, ?_⟩) (fun b hb => by simp [fpS] at hb) trivial
    · have q : upd W.b x (.ins (Tabs.cls c) dx vs) u = some o := q
      show W.h u = some o
      by_cases hu : u = x
      · subst hu; rw [upd_same] at q; exact hv1.trans q
      · rw [upd_ne hu] at q; exact E1.le.ok u o q
    · show upd W.b x _ u = _
      rw [upd_ne fun q => hu (by rw [q]; simp [fpS])]
  have rf2 := rf.mono sb2
  refine z σ ⟨upd W.b x (.ins (Tabs.cls c) dx vs), W.h⟩ E2.le ?_
  show Rp X.K (upd W.b x _) (.ref x) (res r)
  rw [he]
  exact .ins upd_same rf2.names.1 rf2.names.2
/-- C(e, ..) where no error comes -/
theorem x_make {A : Type} {svs : A → List SV} {m : A → Option (Rs τ)} {ma : Option A} {c : Str} {ps : List Str} {j : Nat} (C : Cf X N sc fb K mg P w base k) (G : DfI P w K mg base j c ps (spI K c svs m em))
    (ha : XA X env (e :: es) ma svs) (hj : j + 1 ≤ k := by decide) (hg : glbB sc c = true := by decide +kernel)
    (hdb : (c == ("__debug__" : Str)) = false := by decide) (he : starEach (e :: es) X.env = (false, eval e X.env) :: starEach es X.env := by rfl) (hpl : (backTo pos (starEach es X.env)).any (·.1) = false := by rfl) :
    XE X env (.Call (.Name c p) (e :: es) [] pos) (ma.bind fun a => (m a).bind okR) := by
  cases C with
  | mk nd calm po rm =>
    obtain ⟨f, fd, M, F, hb⟩ := G.ok
    refine x_of (pe_make (E := E0) M F (rm.mono hj) (glbB_ok hg) G.mg hb .nil passL ha hdb he hpl) fun W0 W σ E z hz Q q => ?_
    obtain ⟨y, hy, hz⟩ := bind_some hz
    obtain ⟨r, hr, hz⟩ := bind_some hz
    cases r with
    | er e => cases hz
    | ok u =>
      obtain rfl : z = u := (Option.some.inj hz).symm
      refine use_a E hy fun vs W1 l1 r1 => ?_
      intro x dx nx nd ne
      rw [List.append_nil]
      exact ⟨W1, x, dx, vs, y, .ok z, rfl, nx, nd, ne, rfl, l1.ok, (E.mono l1).tbl, r1, hr, fun W2 l2 r2 => ⟨rfl, q _ W2 (l1.trans l2) r2⟩⟩
theorem run_makeS {f C : Addr} {fd : FuncData} {ps : List Str} {sp : Sp} {E : XK} {pins : List (Addr × Obj)} {σ : St} {H : Hp} {s : Shared} {Q : VK} {us : List Value} {vs : List V} {CX : CXT} (M : Mk X.K C f) (F : FnOk X.prog X.w X.K X.mg X.base CX k f fd ps sp) (hr : Room (k + 1) X.A) (hb : Binds X.K fd ps [])
    (hx : PassesAt CX X σ E) (I : Inv X pins σ H s) (r : Vals vs us)
    (h : ∀ x dx, H x = none → H dx = none → dx ≠ x → sp (.ref x :: vs) (upd (upd H dx (.own x)) x (.ins C dx [])) (fun v H2 => v = .non ∧ Q (.ref x) H2) E) :
    wpAny (model X.prog X.w) X.A (call (.ref C) us) (EP X pins σ Q) X.xe s := by
  have hq := h (s.heap.objs.size + 1) s.heap.objs.size (I.hok.fresh (Nat.le_succ _)) (I.hok.fresh (Nat.le_refl _)) (Nat.ne_of_lt (Nat.lt_succ_self _))
  have I2 := Inv.made (C := C) I
  have r2 : Vals (V.ref (s.heap.objs.size + 1) :: vs) (Value.ref (s.heap.objs.size + 1) :: us) := .cons rfl r
  have hl : (Value.ref (s.heap.objs.size + 1) :: us).length = ps.length := by
    have e := r2.length
    rw [F.len _ _ _ _ hq] at e
    exact e.symm
  have bb := hb _ (Value.ref (s.heap.objs.size + 1) :: us) I2.kIn (by rw [List.append_nil]; exact hl)
  rw [List.append_nil] at bb
  refine wpAny_call (make_map (f := f) I.kIn M.makes M.init (beq_iff_eq.mp M.fn) (codeAny_mono (F.run _ X.stack _ _ ⟨Value.ref (s.heap.objs.size + 1) :: us, []⟩ (Value.ref (s.heap.objs.size + 1) :: us) _ _ E (hr.make C us [])
    (I2.env0.make C us []) bb r2 hq) fun r s' hq' => ?_))
  cases r with
  | error e => exact hx pins _ _ e s' I2 hq'
  | ok fl =>
    cases fl with
    | ret u =>
      obtain ⟨v, H', I3, rv, ev, q3⟩ := I2.after hq'
      subst ev
      exact ⟨rv, ⟨V.ref (s.heap.objs.size + 1), H', I3, rfl, q3⟩⟩
    | next => exact False.elim hq'
    | brk => exact False.elim hq'
    | cont => exact False.elim hq'
def tMakeS (C : Addr) (sp : Sp) (E : St → XK) (t : TA) : TE := fun σ H Q => t σ H fun vs H1 => ∀ x dx, H1 x = none → H1 dx = none → dx ≠ x →
  sp (.ref x :: vs) (upd (upd H1 dx (.own x)) x (.ins C dx [])) (fun v H2 => v = .non ∧ Q (.ref x) H2) (E σ)
theorem pe_makeS {f C : Addr} {fd : FuncData} {ps : List Str} {sp : Sp} {E : St → XK} {t : TA} {x : Str} {CX : CXT} (M : Mk X.K C f) (F : FnOk X.prog X.w X.K X.mg X.base CX k f fd ps sp) (hr : Room (k + 1) X.A) (hg : Gl X x) (hm : X.mg x = some (.ref C)) (hb : Binds X.K fd ps []) (hx : ∀ σ, PassesAt CX X σ (E σ))
    (ha : PA X (e :: es) t) (hdb : (x == ("__debug__" : Str)) = false := by decide) (he : starEach (e :: es) X.env = (false, eval e X.env) :: starEach es X.env := by rfl) (hpl : (backTo pos (starEach es X.env)).any (·.1) = false := by rfl) :
    PE X (.Call (.Name x p) (e :: es) [] pos) (tMakeS C sp E t) := by
  refine ⟨fun pins s σ H Q I h => ?_⟩
  refine wpAny_Call_Name_kw (ld_glob I hg hm ?_ hdb)
  refine PySem.W.callWith_K (h₀ := X.base) I.ok.mod.kin M.kp (thn (ha.run pos pins s σ H _ I h) fun us s1 ⟨vs, H1, I1, r, q⟩ => ⟨I1.kIn, ?_⟩) he hpl
  exact run_makeS M F hr hb (hx σ) I1 r q
/-- C(e, ..) that may raise -/
theorem xr_make {Wx : WX} {A : Type} {svs : A → List SV} {m : A → Option (Rs τ)} {ma : Option A} {c : Str} {ps : List Str} {j : Nat} (C : Cf X N sc fb K mg P w base k) (tk : Takes X Wx) (G : DfI P w K mg base j c ps (spI K c svs m em))
    (ha : XA X env (e :: es) ma svs) (hj : j + 1 ≤ k := by decide) (hg : glbB sc c = true := by decide +kernel)
    (hdb : (c == ("__debug__" : Str)) = false := by decide) (he : starEach (e :: es) X.env = (false, eval e X.env) :: starEach es X.env := by rfl) (hpl : (backTo pos (starEach es X.env)).any (·.1) = false := by rfl) :
    XR X env (.Call (.Name c p) (e :: es) [] pos) (ma.bind m) Wx := by
  cases C with
  | mk nd calm po rm =>
    obtain ⟨f, fd, M, F, hb⟩ := G.ok
    refine peImp (pe_makeS (E := WE Wx) M F (rm.mono hj) (glbB_ok hg) G.mg hb (fun σ => passAt tk σ) ha hdb he hpl) fun σ H Q ⟨W0, W, hH, E, r, hz, q⟩ => ?_
    subst hH
    obtain ⟨y, hy, hz⟩ := bind_some hz
    refine use_a E hy fun vs W1 l1 r1 => ?_
    intro x dx nx nd ne
    refine ⟨W1, x, dx, vs, y, r, rfl, nx, nd, ne, rfl, l1.ok, (E.mono l1).tbl, r1, hz, ?_⟩
    cases r with
    | ok u => exact fun W2 l2 r2 => ⟨rfl, q _ W2 (l1.trans l2) r2⟩
    | er e => exact fun cls d W2 l2 x => q cls d W2 (l1.trans l2) x
/-! ### e.f -/
inductive Lk (f : Str) (d : D) : List Str → List D → Prop
  | here {fs : List Str} {ds : List D} : Lk f d (f :: fs) (d :: ds)
  | there {g : Str} {u : D} {fs : List Str} {ds : List D} : (f == g) = false → Lk f d fs ds → Lk f d (g :: fs) (u :: ds)
theorem Lk.get {H : Hp} {f : Str} {d : D} : ∀ {vs : List (Str × V)} {fs : List Str} {ds : List D}, vs.map (·.1) = fs → RpA K H (vs.map (·.2)) ds → Lk f d fs ds → ∃ v, vs.lookup f = some v ∧ Rp K H v d
  | [], _, _, h1, h2, h => by cases h <;> simp at h1
  | (g, v) :: vs, _, _, h1, h2, h => by
    cases h2 with
    | cons r t =>
      cases h with
      | here =>
        have : g = f := by simpa using (List.cons.inj h1).1
        subst this
        exact ⟨v, by simp [List.lookup], r⟩
      | there n h =>
        have e1 : g = _ := (List.cons.inj h1).1
        obtain ⟨u, q1, q2⟩ := Lk.get (vs := vs) (List.cons.inj h1).2 t h
        refine ⟨u, ?_, q2⟩
        rw [List.lookup_cons]
        have n' : (f == g) = false := by rw [show g = _ from e1]; exact n
        rw [n']
        exact q1
theorem x_fld {c f : Str} {g : τ → α} {me : Option τ} (C : Cf X N sc fb K mg P w base k) (he : XE X env e me) (hcl : Cls K (Tabs.cls c)) (hno : NoAttr K (Tabs.cls c) f) (hg : ∀ x : τ, ∃ fs ds, em x = .ins c fs ds ∧ Lk f (em (g x)) fs ds)
    (hb : attributeBase e f X.env (eval e X.env) = eval e X.env := by rfl) : XE X env (.Attribute e f pos) (me.bind fun x => some (g x)) := by
  cases C
  refine x_of (pe_fld he hb) fun W0 W σ E z hz Q q => ?_
  obtain ⟨x, hx, hz⟩ := bind_some hz
  cases hz
  refine use_x E hx fun v W1 l1 r1 => ?_
  obtain ⟨fs, ds, e1, lk⟩ := hg x
  rw [e1] at r1
  cases r1 with
  | @ins a dx _ vs _ _ h1 h2 h3 =>
    obtain ⟨u, q1, q2⟩ := Lk.get h2 h3 lk
    exact ⟨a, Tabs.cls c, dx, vs, u, rfl, l1.ok _ _ h1, hcl, hno, q1, q u W1 l1 q2⟩
end
end T

set_option Elab.async false
set_option linter.all false
set_option maxRecDepth 100000
set_option maxHeartbeats 4000000
/-! TExc3: try .. except C as e; what the suite may ask of e. -/
namespace T
open PySem PySem.Spec PyProof.Rows L2
variable {τ α β γ δ ρ B S ι ρ' : Type}
/-- how a try's body (or a suite) ends -/
inductive Ty (ρ S : Type) where
  | nx (s : S)
  | rt (r : ρ)
  | er (e : Ex)
instance : Em (Ty ρ S) := ⟨fun _ => .non⟩
variable [Tabs]
def ZTy (K : PySem.W.Frag) (res : ρ → RV) (envJ : S → List SV) (envT : List SV) (Wx : WX) : Ty ρ S → Wd → Hp → Ends → Prop := fun t W0 B D => match t with
  | .nx s => ∀ W' σ', Same B W'.b → EnvR K W0 W' (envJ s) σ' → D.nx σ' W'.h
  | .rt r => RtQ K W0 D.rt (res r)
  | .er e => ∀ W' σ', Same B W'.b → EnvR K W0 W' envT σ' → ∀ cls d, ExR K W'.b cls d e → Wx cls d σ' W'.h
/-- the place has its own frame -/
structure Frm (X : Cx) : Prop where
  hs : X.stack = X.env :: X.outer
  hf : X.env.frame = some X.env.locals
/-- the place is an except suite: a the error, cls its class, d its dict -/
inductive Sui : Cx → List Str → Scope → PySem.W.Frag → (Str → Option Value) → Addr → Value → Option Addr → Prop
  | mk {Y : Cx} {a : Addr} {oe : Obj} {pn : List (Addr × Obj)} {cls : Value} {d : Option Addr} (nd : Y.N.Nodup) (un : Y.A.units + 200 < cLine) (hz : Zc cls d oe) (hf : ∃ vs, oe.data = .fields vs) : Sui (Y.suite a ((a, oe) :: pn)) Y.N Y.env.scope Y.K Y.mg a cls d
def tyB (m2 : Ex → Option (Ty ρ' S)) (φ : ρ' → ρ) (kk : S → Option ρ) : Ty ρ' S → Option ρ
  | .nx s => kk s
  | .rt r => some (φ r)
  | .er e => (m2 e).bind fun t => match t with
    | .nx s => kk s
    | .rt r => some (φ r)
    | .er _ => none
section
variable {X : Cx} {env env' : List SV} {e a b c : Expr} {st : Stmt} {es : List Expr} {body rest suite : List Stmt} {b₀ : Stmt} {pos p p2 : Pos} [Em τ] [Em α] [Em β] [Em γ] {N : List Str} {sc : Scope} {fb : Str → Bool} {K : PySem.W.Frag} {mg : Str → Option Value} {P : Program} {w : World} {base : Heap} {k : Nat}
variable {Z : ρ → Wd → Hp → Ends → Prop}
/-- a def whose text holds a try -/
theorem fn_mkF {A : Type} {svs : A → List SV} {m : A → Option ρ} {res : ρ → RV} {x qual : Str} {st : Stmt} {f : Addr} {fd : FuncData} {ps : List Str} (F : Fun K x qual st f fd) (S : FnScope N ps (defScope st)) (n : Nat) (hn : N.length - ps.length = n) (hl : ∀ a, (svs a).length = ps.length)
    (body : ∀ X, Cf X N (defScope st) (fun _ => true) K mg P w base k → Frm X → ∀ a, GS X (svs a ++ List.replicate n .any) (defBody st) (m a) (ZRn X.K res)) : FnOk P w K mg base CX0 (k + 1) f fd ps (spF K svs m res) := by
  refine F.ok S (fun vs H Q E h => ?_) (fun cdv A' outer s H vs Q E hr h => ?_)
  · obtain ⟨W, a, y, _, _, _, r, _⟩ := h
    rw [r.length, hl]
  · obtain ⟨W, a, y, hH, ok, tb, r, hy, q⟩ := h
    subst hH
    refine ⟨_, body _ (Cf.mk S.nd rfl PassesOwn.never hr) ⟨rfl, rfl⟩ a, W, W, W.b, rfl, EnvR.start ok tb r (by rw [r.length, hl]; exact hn), Same.refl _, y, hy, q, fun σ W' l r' => q.use l r'⟩
theorem hz_ty {Wx : WX} {res : ρ' → RV} {envJ : S → List SV} {envT : List SV} (h : EnvLe env envT) : HzX K Wx env (ZTy K res envJ envT Wx) Ty.er := fun e W0 B D σ W' z sb E cls d x => z W' σ sb (E.weak h) cls d x
theorem g_nilT {Wx : WX} {res : ρ' → RV} {envJ : S → List SV} {envT : List SV} {s : S} (h : EnvLe env (envJ s)) : GS X env [] (some (Ty.nx s : Ty ρ' S)) (ZTy X.K res envJ envT Wx) := pssImp pss_nil fun D σ H ⟨W0, W, B, hH, E, sb, r, hr, z⟩ => by
  subst hH
  cases hr
  exact z W σ sb (E.weak h)
theorem early_t {Wx : WX} {res : ρ' → RV} {envJ : S → List SV} {envT : List SV} : Early Ty.rt (ZR K res) (ZTy K res envJ envT Wx) := fun _ _ _ _ _ h => h
theorem g_try {res : ρ' → RV} {envT : List SV} {envJ : S → List SV} {m1 : Option (Ty ρ' S)} {m2 : Ex → Option (Ty ρ' S)} {kk : S → Option ρ} {φ : ρ' → ρ} {n c : Str} {np pos' : Pos} (C : Cf X N sc fb K mg P w base k) (Fr : Frm X) (i : Nat)
    (hb : ∀ X' Wx, Cf X' N sc fb K mg P w base k → Takes X' Wx → GS X' env body m1 (ZTy X'.K res envJ envT Wx))
    (hmg : mg c = some (.ref (Tabs.cls c))) (hc : ∀ e, m2 e ≠ none → PySem.W.exmOne K (.ref (Tabs.cls e.c)) (.ref (Tabs.cls c)) = some true)
    (hsu : ∀ X' a cls d, Sui X' N sc K mg a cls d → ∀ e, GS X' (envT.set i (.exc a cls d e)) (b₀ :: suite) (m2 e) (ZTy X'.K res envJ envT fun _ _ _ _ => False))
    (hz : ∀ r W0 B D, Z (φ r) W0 B D → RtQ X.K W0 D.rt (res r)) (hr : ∀ s, GS X (envJ s) rest (kk s) Z)
    (hJ : ∀ s, (envJ s)[i]? = some .any := by intro _; rfl) (hT : envT[i]? = some .any := by rfl) (hi : N[i]? = some n := by rfl) (hln : sc.names.lookup n = some .local := by decide +kernel) (hg : glbB sc c = true := by decide +kernel) (hdb : (c == ("__debug__" : Str)) = false := by decide) :
    GS X env (.Try body [.ExceptHandler (some (.Name c np)) (some n) (b₀ :: suite) pos'] [] [] pos :: rest) (m1.bind (tyB m2 φ kk)) Z := by
  cases C with
  | mk nd calm po rm =>
    refine g_of (ps_try_as (tb := fun W => tG X.K env m1 (ZTy X.K res envJ envT W)) (ts := fun a cls d D σ H => ∃ e, tG X.K (envT.set i (.exc a cls d e)) (m2 e) (ZTy X.K res envJ envT fun _ _ _ _ => False) D σ H) (Wout := fun _ _ _ _ => False) Fr.hs Fr.hf nd hi hln ⟨glbB_ok hg, hdb, .inl hmg⟩ takes0
      (fun W pn xe tk po' => hb (X.tr pn xe) W (Cf.mk (X := X.tr pn xe) nd calm po' rm) tk) (fun a oe cls d pn hz hf => pssEx fun e => hsu (X.suite a ((a, oe) :: pn)) a cls d (.mk nd (by have := rm.un; omega) hz hf) e)) hr fun W0 W B σ D r E sb hm z => ?_
    obtain ⟨t, ht, hm⟩ := bind_some hm
    refine ⟨W0, W, B, rfl, E, sb, t, ht, ?_⟩
    cases t with
    | nx s => exact fun W' σ' sb' E' => ⟨s, use_g E' sb' hm z⟩
    | rt r' =>
      cases hm
      exact hz r' W0 B D z
    | er e =>
      obtain ⟨t2, ht2, hm⟩ := bind_some (show (m2 e).bind _ = some r from hm)
      intro W' σ' sb' E' cls d x
      refine ⟨true, ?_, fun _ a na => ?_, fun q => by cases q⟩
      · rw [x.1]
        exact hc e (by rw [ht2]; exact fun z => by cases z)
      · have hl : i < σ'.length := by rw [E'.len]; exact (List.getElem?_eq_some_iff.mp hT).1
        have E2 : EnvR X.K W0 W' (envT.set i (.exc a cls d e)) (σ'.set i (some (.ref a))) := E'.put ⟨rfl, x⟩ fun b hb => by simp [fpS] at hb
        refine ⟨e, W0, W', B, rfl, E2, sb', t2, ht2, ?_⟩
        cases t2 with
        | nx s => exact fun W2 σ2 sb2 E3 => ⟨s, use_g (E3.wipe (vs := [i]) (fun j hj => by
            obtain rfl : j = i := by simpa using hj
            exact hJ s)) sb2 hm z⟩
        | rt r' =>
          cases hm
          exact hz r' W0 B D z
        | er _ => cases hm
theorem g_onlyIn {c : Str} {L : List Str} {sts : List Stmt} {m : Option ρ} (h : c ∈ L → GS X env sts m Z) : GS X env sts (if c ∈ L then m else none) Z := by
  by_cases q : c ∈ L
  · rw [if_pos q]; exact h q
  · rw [if_neg q]
    exact ⟨fun pins s σ H D I ⟨W0, W, B, hH, E, sb, r, hr, z⟩ => by cases hr⟩
theorem inL {c : Str} {L : List Str} {m : Option ρ} (h : (if c ∈ L then m else none) ≠ none) : c ∈ L := by
  by_cases q : c ∈ L
  · exact q
  · rw [if_neg q] at h; exact absurd rfl h
/-- errors out of blocks of an __init__ -/
theorem hz_re {E : XK} : HzX K (WxE E) env (ZR K (fun e : Ex => RV.er e E)) fun e => e := fun e W0 B D σ W' z _ r cls d x => z cls d W' r.le x
theorem early_i {E : XK} {x : Addr} {res : ρ → D} : Early Rs.er (ZR K (fun e : Ex => RV.er e E)) (ZI K x E res) := fun _ _ _ _ _ h => h
/-! ### in the suite -/
variable {ca : Addr} {cls : Value} {cd : Option Addr}
theorem xs_var (C : Sui X N sc K mg ca cls cd) (i : Nat) {n : Str} {x : τ} (he : env[i]? = some (.dat (em x)) := by rfl) (hi : N[i]? = some n := by rfl) (hv : visB sc n = true := by decide +kernel)
    (hd : (n == ("__debug__" : Str)) = false := by decide) (hc : (n == ("__classdict__" : Str)) = false := by decide) : XE X env (.Name n pos) (some x) := by
  cases C
  refine x_of (pe_var hi (visB_ok hv) hd hc) fun W0 W σ E y hy Q q => ?_
  cases hy
  obtain ⟨v, h1, r⟩ := E.dat he
  exact ⟨v, h1, q v W (Le.refl E.ok) r⟩
theorem qs_bor (C : Sui X N sc K mg ca cls cd) (i : Nat) {n : Str} {x : List τ} (he : env[i]? = some (.bor (x.map em)) := by rfl) (hi : N[i]? = some n := by rfl) (hv : visB sc n = true := by decide +kernel)
    (hd : (n == ("__debug__" : Str)) = false := by decide) (hc : (n == ("__classdict__" : Str)) = false := by decide) : XQ X env (.Name n pos) (some x) := by
  cases C
  refine q_of (pe_var hi (visB_ok hv) hd hc) fun W0 W σ E y hy Q q => ?_
  cases hy
  obtain ⟨a, vs, h1, h2, r⟩ := E.bor he
  exact ⟨_, h1, q a vs W (Le.refl E.ok) h2 r⟩
/-- the error itself -/
theorem pe_err (C : Sui X N sc K mg ca cls cd) (i : Nat) {n : Str} (hi : N[i]? = some n := by rfl) (hv : visB sc n = true := by decide +kernel) (hd : (n == ("__debug__" : Str)) = false := by decide) (hc : (n == ("__classdict__" : Str)) = false := by decide) : PE X (.Name n pos) (tVar i) := by
  cases C
  exact pe_var hi (visB_ok hv) hd hc
/-- what an error class must say to be asked -/
structure ErQ (K : PySem.W.Frag) (c : Str) : Prop where
  cl : (PySem.W.clsIn K (Tabs.cls c)).isSome = true
  hg : PySem.W.findIn K (.ref (Tabs.cls c)) "__getattribute__" = some (some (.builtin "BaseException.__getattribute__"))
  hk : PySem.W.findIn K (.ref (Tabs.cls c)) "__getattr__" = some none
  hs : PySem.W.subIn K (.ref (Tabs.cls c)) (.type "BaseException") = some true
  hd : PySem.W.hasDictIn K (Tabs.cls c) = true
  ha : PySem.W.findIn K (.ref (Tabs.cls c)) "__class__" = some (some (.builtin "object.__class__"))
  hn : PySem.W.specialIn K (.builtin "object.__class__") "__get__" = some (some (.builtin "getset_descriptor.__get__"))
  ht : PySem.W.takesIn K (.builtin "object.__class__") = some true
  hm : PySem.W.mroIn K (Tabs.cls c) (.type "object") = some true
def rIsX (K : PySem.W.Frag) (D a : Addr) (d : Option Addr) : List V → Hp → VK → Prop := fun xs H Q => ∃ (c : V) (cv : Value) (b : Bool), xs = [.ref a, c] ∧ (∀ u, RelV c u → u = cv) ∧ PySem.W.kitOne K (.ref D) cv = some b ∧ (d = none ∨ ∃ dd fs, d = some dd ∧ H dd = some (.xd fs)) ∧ Q (.bl b) H
theorem call_isX {a : Addr} {c : Str} {d : Option Addr} {oe : Obj} {pn : List (Addr × Obj)} (C : ErQ X.K c) (hz : Zc (.ref (Tabs.cls c)) d oe) (hf : ∃ vs, oe.data = .fields vs) : CallR (X.suite a ((a, oe) :: pn)) (.builtin "isinstance") (rIsX X.K (Tabs.cls c) a d) := by
  intro pins s σ H xs us Q I r h
  obtain ⟨cc, cv, b, rfl, hcv, e, hd, q⟩ := h
  cases r with
  | cons rx rr =>
    cases rr with
    | cons rt rr =>
      cases rr
      cases rx
      have ec := hcv _ rt
      subst ec
      obtain ⟨hget, _⟩ := I.pin (a, oe) (List.mem_append.mpr (.inl List.mem_cons_self))
      obtain ⟨vs, hv⟩ := hf
      have key : ∃ od, PySem.W.InstAt s.heap a oe (Tabs.cls c) od := by
        rcases hd with rfl | ⟨dd, fs, rfl, hd⟩
        · refine ⟨none, hget, hz.1, by unfold PySem.W.notCls; rw [hv] <;> rfl, ?_⟩
          rw [hz.2]
          trivial
        · have hx : ObjOk X.prog X.w H s.heap dd (.xd fs) := I.hok dd _ hd
          obtain ⟨mA, hns, hr⟩ := hx
          obtain ⟨od, ho, hl⟩ := lookIn_ns hns
          exact ⟨some od, hget, hz.1, by unfold PySem.W.notCls; rw [hv] <;> rfl, by rw [hz.2]; exact ho⟩
      obtain ⟨od, J⟩ := key
      exact PySem.W.kia_one (PySem.W.kitx_exc C.cl C.hg C.hk C.hs C.ha C.hn C.ht C.hm) I.kIn J e (fun z => nomatch z) fun tk => ⟨.bl b, H, I.kept (t' := tk) fun _ _ z => z, rfl, q⟩
theorem exR_d {B : Hp} {d : Option Addr} {e : Ex} (h : ExR K B cls d e) : d = none ∨ ∃ dd fs, d = some dd ∧ B dd = some (.xd fs) := by
  rcases h.2 with ⟨_, h⟩ | ⟨dx, vs, h1, h2, _⟩
  · exact .inl h
  · exact .inr ⟨dx, vs, h1, h2⟩
theorem EnvR.exc {W0 W : Wd} {σ : St} {i : Nat} {a : Addr} {d : Option Addr} {e : Ex} (E : EnvR K W0 W env σ) (h : env[i]? = some (.exc a cls d e)) : σ[i]? = some (some (.ref a)) ∧ ExR K W.b cls d e := by
  obtain ⟨o, h1, h2, h3⟩ := E.slot i _ h
  subst h2
  exact ⟨h1, h3⟩
/-- isinstance(e, D), D a class of the module -/
theorem xs_isE {n D : Str} {q1 q2 : Pos} {ex : Ex} {m : Option Bool} (C : Sui X N sc K mg ca cls cd) (i : Nat) (hq : ∀ b, m = some b → ErQ K ex.c ∧ PySem.W.kitOne K (.ref (Tabs.cls ex.c)) (.ref (Tabs.cls D)) = some b) (hmD : mg D = some (.ref (Tabs.cls D))) (hm : mg "isinstance" = none)
    (hx : env[i]? = some (.exc ca cls cd ex) := by rfl) (hi : N[i]? = some n := by rfl) (hv : visB sc n = true := by decide +kernel) (hd : (n == ("__debug__" : Str)) = false := by decide) (hcd : (n == ("__classdict__" : Str)) = false := by decide)
    (hg : glbB sc "isinstance" = true := by decide +kernel) (hg2 : glbB sc D = true := by decide +kernel) (hdb2 : (D == ("__debug__" : Str)) = false := by decide)
    (h1 : ∀ E : Env, starEach [.Name n q1, .Name D q2] E = (false, eval (.Name n q1) E) :: starEach [.Name D q2] E := by intro _; rfl) (h2 : ∀ E : Env, starEach [.Name D q2] E = (false, eval (.Name D q2) E) :: starEach [] E := by intro _; rfl)
    (hpl : ∀ E : Env, (backTo pos (starEach [.Name D q2] E)).any (·.1) = false := by intro _; rfl) :
    XE X env (.Call (.Name "isinstance" p) [.Name n q1, .Name D q2] [] pos) m := by
  have CC := C
  cases C with
  | @mk Y a oe pn cls d nd un hz hf =>
    refine peImp (t := fun σ H Q => ∃ c, (ErQ Y.K c ∧ cls = .ref (Tabs.cls c)) ∧ tCB (rIsX Y.K (Tabs.cls c) ca cd) (tCons (tVar i) (tCons (tC (.ref (Tabs.cls D))) tNil)) σ H Q) (peEx fun c => ?_) fun σ H Q ⟨W0, W, hH, E, x, hx', q⟩ => ?_
    · refine ⟨fun pins s σ H Q I ⟨⟨hE, hc⟩, h⟩ => ?_⟩
      subst hc
      exact (pe_callB (call_isX hE hz hf) (glbB_ok hg) hm (by decide +kernel) (pa_cons (pe_err CC i hi hv hd hcd) (pa_cons (pe_glob (v := .ref (Tabs.cls D)) (glbB_ok hg2) hmD rfl hdb2) pa_nil (h2 _)) (h1 _)) (by decide) (by decide) (h1 _) (hpl _)).run pins s σ H Q I h
    · subst hH
      obtain ⟨s1, xr⟩ := E.exc hx
      obtain ⟨hE, hk⟩ := hq x hx'
      refine ⟨ex.c, ⟨hE, xr.1⟩, ?_⟩
      refine ⟨_, s1, ?_⟩
      refine ⟨.ref (Tabs.cls D), .ref (Tabs.cls D), x, rfl, fun u hu => hu, hk, ?_, q _ W (Le.refl E.ok) (.bl x)⟩
      rcases exR_d xr with h | ⟨dd, fs, h1, h2⟩
      · exact .inl h
      · exact .inr ⟨dd, fs, h1, E.ok _ _ h2⟩
/-- isinstance(e, T), T a built-in class -/
theorem xs_isB {n D : Str} {tn : String} {q1 q2 : Pos} {ex : Ex} {m : Option Bool} (C : Sui X N sc K mg ca cls cd) (i : Nat) (hq : ∀ b, m = some b → ErQ K ex.c ∧ PySem.W.kitOne K (.ref (Tabs.cls ex.c)) (.type tn) = some b) (hmD : mg D = none) (hm : mg "isinstance" = none) (hv2 : bootBuiltins D = some (.type tn) := by decide +kernel)
    (hx : env[i]? = some (.exc ca cls cd ex) := by rfl) (hi : N[i]? = some n := by rfl) (hv : visB sc n = true := by decide +kernel) (hd : (n == ("__debug__" : Str)) = false := by decide) (hcd : (n == ("__classdict__" : Str)) = false := by decide)
    (hg : glbB sc "isinstance" = true := by decide +kernel) (hg2 : glbB sc D = true := by decide +kernel) (hn2 : D ≠ "__name__" := by decide) (hdb2 : (D == ("__debug__" : Str)) = false := by decide)
    (h1 : ∀ E : Env, starEach [.Name n q1, .Name D q2] E = (false, eval (.Name n q1) E) :: starEach [.Name D q2] E := by intro _; rfl) (h2 : ∀ E : Env, starEach [.Name D q2] E = (false, eval (.Name D q2) E) :: starEach [] E := by intro _; rfl)
    (hpl : ∀ E : Env, (backTo pos (starEach [.Name D q2] E)).any (·.1) = false := by intro _; rfl) :
    XE X env (.Call (.Name "isinstance" p) [.Name n q1, .Name D q2] [] pos) m := by
  have CC := C
  cases C with
  | @mk Y a oe pn cls d nd un hz hf =>
    refine peImp (t := fun σ H Q => ∃ c, (ErQ Y.K c ∧ cls = .ref (Tabs.cls c)) ∧ tCB (rIsX Y.K (Tabs.cls c) ca cd) (tCons (tVar i) (tCons (tC (.ty tn)) tNil)) σ H Q) (peEx fun c => ?_) fun σ H Q ⟨W0, W, hH, E, x, hx', q⟩ => ?_
    · refine ⟨fun pins s σ H Q I ⟨⟨hE, hc⟩, h⟩ => ?_⟩
      subst hc
      exact (pe_callB (call_isX hE hz hf) (glbB_ok hg) hm (by decide +kernel) (pa_cons (pe_err CC i hi hv hd hcd) (pa_cons (pe_bltn (v := .ty tn) (glbB_ok hg2) hmD hv2 rfl hn2 hdb2) pa_nil (h2 _)) (h1 _)) (by decide) (by decide) (h1 _) (hpl _)).run pins s σ H Q I h
    · subst hH
      obtain ⟨s1, xr⟩ := E.exc hx
      obtain ⟨hE, hk⟩ := hq x hx'
      refine ⟨ex.c, ⟨hE, xr.1⟩, ?_⟩
      refine ⟨_, s1, ?_⟩
      refine ⟨.ty tn, .type tn, x, rfl, fun u hu => hu, hk, ?_, q _ W (Le.refl E.ok) (.bl x)⟩
      rcases exR_d xr with h | ⟨dd, fs, h1, h2⟩
      · exact .inl h
      · exact .inr ⟨dd, fs, h1, E.ok _ _ h2⟩
/-- e.f -/
theorem xs_fld {n f : Str} {q1 : Pos} {ex : Ex} {L : List Str} (C : Sui X N sc K mg ca cls cd) (i : Nat) (hq : ∀ c, c ∈ L → ErQ K c ∧ PySem.W.findIn K (.ref (Tabs.cls c)) f = some none)
    (hx : env[i]? = some (.exc ca cls cd ex) := by rfl) (hi : N[i]? = some n := by rfl) (hv : visB sc n = true := by decide +kernel) (hd : (n == ("__debug__" : Str)) = false := by decide) (hcd : (n == ("__classdict__" : Str)) = false := by decide)
    (hb : ∀ E : Env, attributeBase (.Name n q1) f E (eval (.Name n q1) E) = eval (.Name n q1) E := by intro _; rfl) :
    XE X env (.Attribute (.Name n q1) f pos) (if ex.c ∈ L then ex.fs.lookup f else none) := by
  have CC := C
  cases C with
  | @mk Y a oe pn cls d nd un hz hf =>
    refine peImp (t := fun σ H Q => ∃ c, (ErQ Y.K c ∧ PySem.W.findIn Y.K (.ref (Tabs.cls c)) f = some none) ∧ tXf ca cls cd (Tabs.cls c) f (tVar i) σ H Q) (peEx fun c => ?_) fun σ H Q ⟨W0, W, hH, E, x, hx', q⟩ => ?_
    · refine ⟨fun pins s σ H Q I ⟨⟨hE, hno⟩, h⟩ => ?_⟩
      exact (pe_xf ⟨hE.hg, hE.hk, hE.hs, hE.hd⟩ hno hz hf (pe_err CC i hi hv hd hcd) (hb _)).run pins s σ H Q I h
    · subst hH
      obtain ⟨s1, xr⟩ := E.exc hx
      by_cases hL : ex.c ∈ L
      · rw [if_pos hL] at hx'
        obtain ⟨h1, h2⟩ := xr
        refine ⟨ex.c, hq _ hL, _, s1, rfl, h1, ?_⟩
        rcases h2 with ⟨h2, _⟩ | ⟨dx, vs, h2, h3, h4⟩
        · rw [h2] at hx'; cases hx'
        · obtain ⟨v, q1, q2⟩ := h4.lookup hx'
          exact ⟨dx, vs, v, h2, E.ok _ _ h3, q1, q v W (Le.refl E.ok) q2⟩
      · rw [if_neg hL] at hx'; cases hx'
theorem xs_eqP {ma : Option α} {mb : Option β} (C : Sui X N sc K mg ca cls cd) (ha : XE X env a ma) (hb : XE X env b mb) : XE X env (.Compare a [.Eq] [b] pos) (ma.bind fun x => mb.bind fun y => eqP (em x) (em y)) :=
  x_cmp (op_eqD (by cases C with
    | @mk Y a oe pn cls d nd un hz hf => show Y.A.units + 64 < cLine; omega)) ha hb (nomark _) fun x y z hz W u v ok ru rv Q q => by
    unfold eqP at hz
    split at hz
    · rename_i h
      cases hz
      exact ⟨_, _, ru.dp (H := W.h) ok h.1, rv.dp (H := W.h) ok h.2.1, h.2.2.1, h.2.2.2, q _ W (Le.refl ok) (.bl _)⟩
    · cases hz
theorem xs_isi {m : Option τ} {q1 : Pos} {t : Str} {tn : String} (C : Sui X N sc K mg ca cls cd) (h : XE X env a m) (hk : ∀ U : String, U ∈ ["NoneType", "bool", "int", "str", "tuple", "list"] → kitB U tn = some (match U with
      | "bool" => tn == "bool" || tn == "int"
      | U => tn == U))
    (hm : mg "isinstance" = none) (hm2 : mg t = none) (hv2 : bootBuiltins t = some (.type tn) := by decide +kernel) (hg : glbB sc "isinstance" = true := by decide +kernel) (hg2 : glbB sc t = true := by decide +kernel) (hn2 : t ≠ "__name__" := by decide) (hdb2 : (t == ("__debug__" : Str)) = false := by decide)
    (h1 : ∀ E : Env, starEach [a, .Name t q1] E = (false, eval a E) :: starEach [.Name t q1] E := by intro _; rfl) (h2 : ∀ E : Env, starEach [.Name t q1] E = (false, eval (.Name t q1) E) :: starEach [] E := by intro _; rfl)
    (hpl : ∀ E : Env, (backTo pos (starEach [.Name t q1] E)).any (·.1) = false := by intro _; rfl) :
    XE X env (.Call (.Name "isinstance" p) [a, .Name t q1] [] pos) (m.bind fun x => isiP tn (em x)) := by
  cases C
  refine x_of (pe_callB call_isi (glbB_ok hg) hm (by decide +kernel) (pa_cons h (pa_cons (pe_bltn (v := .ty tn) (glbB_ok hg2) hm2 hv2 rfl hn2 hdb2) pa_nil (h2 _)) (h1 _)) (by decide) (by decide) (h1 _) (hpl _)) fun W0 W σ E z hz Q q => ?_
  obtain ⟨x, hx, hz⟩ := bind_some hz
  refine use_x E hx fun v W1 l1 r1 => ?_
  unfold isiP at hz
  cases ht : tyD (em x) with
  | none => rw [ht] at hz; cases hz
  | some U =>
    rw [ht] at hz
    have hz : isD tn (em x) = z := Option.some.inj hz
    subst hz
    refine ⟨v, .ty tn, .type U, .type tn, isD tn (em x), rfl, .ty tn, tyx_of (H := W1.h) l1.ok r1 ht, kit_ty ?_, q _ W1 l1 (.bl _)⟩
    have mem : U ∈ ["NoneType", "bool", "int", "str", "tuple", "list"] := by
      revert ht
      cases em x <;> intro ht <;> cases ht <;> decide
    rw [hk U mem]
    revert ht
    cases em x <;> intro ht <;> cases ht <;> rfl
theorem hq_of {L S : List Str} {cv : Value} {ex : Ex} (hE : ∀ c ∈ L, ErQ K c) (hk : ∀ c ∈ L, PySem.W.kitOne K (.ref (Tabs.cls c)) cv = some (decide (c ∈ S))) : ∀ b, (if ex.c ∈ L then some (decide (ex.c ∈ S)) else none) = some b → ErQ K ex.c ∧ PySem.W.kitOne K (.ref (Tabs.cls ex.c)) cv = some b := by
  intro b h
  by_cases q : ex.c ∈ L
  · rw [if_pos q] at h
    cases h
    exact ⟨hE _ q, hk _ q⟩
  · rw [if_neg q] at h; cases h
/-- y = e in a suite -/
theorem gs_set (C : Sui X N sc K mg ca cls cd) (i : Nat) {n : Str} {p' : Pos} {me : Option τ} {f : τ → Option ρ} (he : XE X env e me) (hr : ∀ x, GS X (env.set i (.dat (em x))) rest (f x) Z)
    (hi : N[i]? = some n := by rfl) (hl : sc.names.lookup n = some .local := by decide +kernel) (hs : ∀ E : Env, swapsWith e (some (.Name n p')) pos.line E = pure false := by intro _; rfl) :
    GS X env (.Assign [.Name n p'] e pos :: rest) (me.bind f) Z := by
  cases C with
  | mk nd un hz hf =>
    refine g_of (ps_set nd hi (.inl hl) he (hs _) (.inr hl)) hr fun W0 W B σ D r E sb hm z => ?_
    · obtain ⟨x, hx, hm⟩ := bind_some hm
      exact use_x E hx fun v W1 l1 r1 => ⟨x, use_g ((E.mono l1).putD r1) (sb.trans l1.b) hm z⟩
end
end T

set_option Elab.async false
set_option linter.all false
set_option maxRecDepth 100000
set_option maxHeartbeats 4000000
/-! TSet: len(set(xs)), xs a list of texts. -/
namespace T
open PySem PySem.Spec PyProof.Rows L2 SS
/-- how many texts a list has, each once (the list from its end) -/
def cntD : List Str → Nat
  | [] => 0
  | x :: r => if r.any (· == x) = true then cntD r else cntD r + 1
theorem cntD_cons (x : Str) (r : List Str) : cntD (x :: r) = if r.any (· == x) = true then cntD r else cntD r + 1 := rfl
theorem cntD_le : ∀ l : List Str, cntD l ≤ l.length
  | [] => Nat.le_refl _
  | x :: r => by
    have := cntD_le r
    unfold cntD
    rw [List.length_cons]
    split <;> omega
theorem cntD_eq : ∀ l : List Str, cntD l = l.length ↔ l.Nodup
  | [] => by simp [cntD]
  | x :: r => by
    have h := cntD_le r
    unfold cntD
    rw [List.nodup_cons, ← cntD_eq r, List.length_cons]
    by_cases c : r.any (· == x) = true
    · rw [if_pos c]
      have m : x ∈ r := by simpa using c
      exact ⟨fun e => by omega, fun e => absurd m e.1⟩
    · rw [if_neg c]
      have m : x ∉ r := fun m => c (by simpa using m)
      exact ⟨fun e => ⟨m, by omega⟩, fun e => by omega⟩
section
variable {prog : Program} {w : World} {A : Around} {R : Result → Shared → Prop} {I : Addr} {fp wr : List Addr} {G : Array GenState → Array GenState → Prop} {n : Nat} {P : Nat → Value → Prop} {St : Nat → Shared → Prop}
theorem loopD (W : WalksS prog w A.in1 I fp wr G n P St) (S : Addr) (hSf : S ∉ fp) (xs : List Str) (hsz : xs.length = n) (hn1 : n ≤ 4000)
    (hval : ∀ i v, P i v → ∃ t, v = .str (xs.getD i Str.empty) t) :
    ∀ (k i : Nat) (s : Shared), n - i = k → i ≤ n → St i s →
      s.heap.SetOf (PySem.strKind prog w) S (fun k' => (xs.take i).any (· == k')) (cntD (xs.take i).reverse) →
      (∀ s', Moved (S :: wr) G s s' → s'.heap.SetOf (PySem.strKind prog w) S (fun k' => (xs.take n).any (· == k')) (cntD (xs.take n).reverse) → R (.ok (.ret .none)) s') →
      codeAny (model prog w) A (.builtin "set.update.loop" ⟨[.ref S, .ref I], []⟩) R s := by
  have hSw : S ∉ wr := fun h => hSf (W.sub _ h)
  have hsub : ∀ b ∈ wr, b ∈ S :: wr := fun b hb => List.mem_cons_of_mem _ hb
  intro k
  induction k with
  | zero =>
    intro i s hk hi hst hS hR
    have hin : i = n := by omega
    subst hin
    refine codeAny_builtin PyProof.Rows.F.entry_set_update_loop ?_
    rw [Around.under_plainId PyProof.Rows.F.plain_set_update_loop _]
    show wpAny _ A.in1 (pyNext (.ref I) >>= _) _ _ s
    refine wpAny_bind (W.done s _ _ hst fun s' hm => ?_)
    show wpAny _ A.in1 (ret Value.none) _ _ s'
    exact wpAny_pure (hR s' (hm.mono hsub) (by
      obtain ⟨o, es, ep, t, ho, rest⟩ := hS
      exact ⟨o, es, ep, t, hm.heap S _ hSw ho, rest⟩))
  | succ k ih =>
    intro i s hk hi hst hS hR
    have hlt : i < n := by omega
    refine codeAny_builtin PyProof.Rows.F.entry_set_update_loop ?_
    rw [Around.under_plainId PyProof.Rows.F.plain_set_update_loop _]
    show wpAny _ A.in1 (pyNext (.ref I) >>= _) _ _ s
    refine wpAny_bind (W.item i s _ _ hlt hst fun v s' hP hst' hm => ?_)
    obtain ⟨t, rfl⟩ := hval i v hP
    have hS' : s'.heap.SetOf (PySem.strKind prog w) S (fun k' => (xs.take i).any (· == k')) (cntD (xs.take i).reverse) := by
      obtain ⟨o, es, ep, tb, ho, rest⟩ := hS
      exact ⟨o, es, ep, tb, hm.heap S _ hSw ho, rest⟩
    show wpAny _ A.in1 (holding [Value.str (xs.getD i Str.empty) t] (setAdd S (.str (xs.getD i Str.empty) t)) >>= _) _ _ s'
    refine wpAny_bind (wpAny_holding ?_)
    unfold setAdd
    refine wpAny_holding ?_
    refine wpAny_bind ((PySem.strKind prog w).pyHash (k := xs.getD i Str.empty) (strKind_is _ _ _ _) ?_)
    refine wpAny_setAddHashed_of (knd := PySem.strKind prog w) (s := { s' with toks := s'.toks + 1 }) (strKind_is _ _ _ _) rfl hS' (by have := cntD_le (xs.take i).reverse; rw [List.length_reverse, List.length_take] at this; unfold scanBound; omega) fun h' hsb hS2 => ?_
    have hSi : h'.SetOf (PySem.strKind prog w) S (fun k' => (xs.take (i + 1)).any (· == k')) (cntD (xs.take (i + 1)).reverse) := by
      have hx : i < xs.length := by rw [hsz]; exact hlt
      have ht : xs.take (i + 1) = xs.take i ++ [xs.getD i Str.empty] := by
        rw [List.take_add_one, List.getElem?_eq_getElem hx]
        simp [hx]
      refine PyProof.Rows.SetOf_congr hS2 (fun k' => ?_) ?_
      · show ((xs.take i).any (· == k') || decide (k' = xs.getD i Str.empty)) = (xs.take (i + 1)).any (· == k')
        rw [ht, List.any_append]
        congr 1
        simp only [List.any_cons, List.any_nil, Bool.or_false]
        by_cases e : k' = xs.getD i Str.empty
        · rw [← e]; simp
        · rw [decide_eq_false e]
          exact (beq_eq_false_iff_ne.mpr fun z => e z.symm).symm
      · rw [ht, List.reverse_append]
        show (if (xs.take i).any (· == xs.getD i Str.empty) = true then _ else _) = cntD (xs.getD i Str.empty :: (xs.take i).reverse)
        rw [cntD_cons, List.any_reverse]
    refine wpAny_pure ⟨plainId_quiet PyProof.Rows.F.plain_set_update_loop _, ih (i + 1) _ (by omega) hlt (W.frame _ s' _ _ hst' (Nat.le_succ _) fun b hb o e => ?_) hSi fun s'' hm'' hS'' => ?_⟩
    · rw [hsb.2 b (fun h : b = S => hSf (by rw [← h]; exact hb))]; exact e
    · refine hR s'' (Moved.trans W.gtrans ((hm.mono hsub).then_heap (Nat.le_succ _) fun b o hb e => ?_) hm'') hS''
      rw [hsb.2 b (fun h : b = S => hb (by rw [h]; exact List.mem_cons_self))]; exact e
end
section
variable {prog : Program} {w : World} {A : Around} {E : Value → Shared → Prop} {s : Shared}
set_option maxHeartbeats 3200000 in
theorem call_set_listD {l : Addr} {items : Array Value} {xs : List Str} {Q : Value → Shared → Prop}
    (hh : A.handled = none) (hl : s.heap.IsList l items) (hi : PyProof.Rows.StrsAre items.toList xs) (hn1 : xs.length ≤ 4000)
    (h : ∀ (h' : Heap) (tk : Nat), h'.SetOf (PySem.strKind prog w) s.heap.objs.size (fun k' => (xs.take items.size).any (· == k')) (cntD (xs.take items.size).reverse) →
      (∀ b o, b < s.heap.objs.size → s.heap.get? b = some o → h'.get? b = some o) → Q (.ref s.heap.objs.size) { s with heap := h', toks := tk }) :
    wpAny (model prog w) A (call (.type "set") [.ref l]) Q E s := by
  obtain ⟨c, tl, hmro⟩ := PySem.F.called_set.mro
  have hmade := PySem.F.called_set.made
  have hsub := PySem.F.called_set.sub
  refine wpAny_call (codeAny_of_tree ?_)
  show wpAny _ _ (callAny (.type "set") _) _ _ _
  refine wpAny_pure ⟨Code.quiet_builtin _ (by decide +kernel), codeAny_builtin PySem.F.entry_type_call ?_⟩
  rw [Around.under_plain (weight_type_call_type "set" [.ref l] []) rfl]
  have h1 := PySem.F.called_set.notType
  have h2 := PySem.F.called_set.canCreate
  have hct := PySem.F.typeCall_set_1 (.ref l)
  repeat (any_goals (first | assumption | wp_step))

  refine codeAny_mono (code_set_new_1 (.ref l) (E := E) (Q₁ := fun obj s₁ => ∃ led : Bool, obj = .ref s.heap.objs.size ∧ s₁ = { s with heap := s.heap.push { cls := .type "set", dict := none, data := .set #[] 0 (.fresh 0 0 led) } }) fun led => ⟨led, rfl, rfl⟩) fun r s₁ hr => ?_
  cases r with
  | error e => exact hr
  | ok fl =>
    cases fl with
    | ret obj =>
      obtain ⟨led, rfl, rfl⟩ := hr
      have hS : (s.heap.push { cls := .type "set", dict := none, data := .set #[] 0 (.fresh 0 0 led) }).get? s.heap.objs.size = some { cls := .type "set", dict := none, data := .set #[] 0 (.fresh 0 0 led) } := Heap.get?_push_size _ rfl
      have hT : Shared.TypeIs { s with heap := s.heap.push { cls := .type "set", dict := none, data := .set #[] 0 (.fresh 0 0 led) } } (.ref s.heap.objs.size) "set" := ⟨_, hS, rfl⟩
      have hli := PySem.F.called_set.init.lookup
      have hbi := PySem.F.called_set.init.bind (.ref s.heap.objs.size)
      repeat (any_goals (first | assumption | wp_step))

      refine codeAny_mono (codeAny_call_builtin (R := wants (fun r s₂ => r = .none ∧ ∃ h' tk, s₂ = { s with heap := h', toks := tk } ∧
          h'.SetOf (PySem.strKind prog w) s.heap.objs.size (fun k' => (xs.take items.size).any (· == k')) (cntD (xs.take items.size).reverse) ∧
          (∀ b o, b < s.heap.objs.size → s.heap.get? b = some o → h'.get? b = some o)) E) PySem.F.called_set.init.plain PySem.F.entry_set_init (check_set_init_1 hT ?_)) fun r₂ s₂ hr₂ => ?_
      · obtain ⟨ol, hol, hcl, nl, hdl⟩ := hl
        obtain ⟨ocls, odict, odata, oslots⟩ := ol
        simp only at hcl hdl
        subst hcl; subst hdl
        have hol' : (s.heap.push { cls := .type "set", dict := none, data := .set #[] 0 (.fresh 0 0 led) }).get? l = some { cls := .type "list", dict := odict, data := .seq items nl, slots := oslots } := Heap.get?_push_of_some _ hol
        have hsls := PySem.F.sub_list_set
        have hslf := PySem.F.sub_list_frozenset
        have hne : (Value.type "list" == Value.type "dict") = false := by decide
        have hl1 : (s.heap.push { cls := .type "set", dict := none, data := .set #[] 0 (.fresh 0 0 led) }).IsList l items := ⟨_, hol', rfl, nl, rfl⟩
        unfold Builtin.«set.__init__» noKeywords Builtin.Frozenset.updateFrom
        generalize hPI : pyIter = PI
        wp_walk
        subst hPI

        refine wpAny_pyIter_list hl1 ?_
        refine wpAny_bind (wpAny_runValue ?_)
        have hlS : l < s.heap.objs.size := Heap.lt_size hol
        have hh3 : A.in1.in1.in1.handled = none := by simp [hh]
        have hneI : l ≠ (s.heap.push { cls := .type "set", dict := none, data := .set #[] 0 (.fresh 0 0 led) }).objs.size := by
          rw [Heap.size_push]; exact Nat.ne_of_lt (Nat.lt_succ_of_lt hlS)
        have hSf : s.heap.objs.size ∉ [(s.heap.push { cls := .type "set", dict := none, data := .set #[] 0 (.fresh 0 0 led) }).objs.size, l] := by
          rw [Heap.size_push]; simp only [List.mem_cons, List.mem_singleton, List.not_mem_nil, or_false, not_or]
          exact ⟨Nat.ne_of_lt (Nat.lt_succ_self _), Nat.ne_of_gt hlS⟩
        have hsz : xs.length = items.size := by rw [← StrsAre.len_eq hi, Array.length_toList]
        have hval : ∀ (i : Nat) (v : Value), items[i]? = some v → ∃ t, v = .str (xs.getD i Str.empty) t := fun i v hv => strs_at hi i v (by rw [Array.getElem?_toList]; exact hv)
        refine loopD ((Walks.list hh3 _ l hneI items).toS) s.heap.objs.size
          hSf xs hsz (by rw [← hsz]; exact hn1) hval (items.size - 0) 0 _ (by omega) (Nat.zero_le _)
          ⟨⟨_, Heap.get?_push_size _ rfl, rfl, rfl⟩, (hl1.push _)⟩ ?hS0 ?hR
        case hS0 =>
          have hget : ((s.heap.push { cls := .type "set", dict := none, data := .set #[] 0 (.fresh 0 0 led) }).push { cls := .type "list_iterator", data := .fields #[.ref l, .int 0 0] }).get? s.heap.objs.size
              = some { cls := .type "set", dict := none, data := .set #[] 0 (.fresh 0 0 led) } := Heap.get?_push_of_some _ hS
          exact PyProof.Rows.SetOf_congr ((PyProof.Rows.setObjOf_fresh (knd := PySem.strKind prog w) led).setOf hget (by unfold scanBound; omega)) (fun _ => rfl) (by simp [cntD])
        case hR =>
          intro s' hm hS'
          obtain ⟨h', g', d', tk', os'⟩ := s'
          have eg : g' = s.gens := hm.gens
          have ed : d' = s.drawn := hm.drawn
          have eo : os' = s.os := hm.os
          subst eg; subst ed; subst eo
          show wpAny _ _ _ _ _ _
          refine wpAny_pure ?_
          show wpAny _ _ (ret Value.none) _ _ _
          refine wpAny_pure ⟨rfl, h', tk', rfl, hS', fun b o hb e => ?_⟩
          have hb1 : b ≠ s.heap.objs.size := Nat.ne_of_lt hb
          have hb2 : b ≠ (s.heap.push { cls := .type "set", dict := none, data := .set #[] 0 (.fresh 0 0 led) }).objs.size := by
            rw [Heap.size_push]; exact Nat.ne_of_lt (Nat.lt_succ_of_lt hb)
          exact hm.heap b o (by simp only [List.mem_cons, List.mem_singleton, List.not_mem_nil, or_false, not_or]; exact ⟨hb1, hb2⟩) (Heap.get?_push_of_some _ (Heap.get?_push_of_some _ e))

      · cases r₂ with
        | error e => exact hr₂
        | ok fl₂ =>
          cases fl₂ with
          | ret r =>
            obtain ⟨rfl, h', tk, rfl, hS', hk'⟩ := hr₂
            repeat (any_goals (first | assumption | wp_step))
            exact h _ _ hS' hk'
          | _ => exact hr₂.elim
    | _ => exact hr.elim

end

variable {τ α β γ δ ρ B S ι : Type}
section
variable [Tabs]
variable {X : Cx} {env env' : List SV} {e a b : Expr} {pos p p2 q : Pos} [Em τ] [Em α] {N : List Str} {sc : Scope} {fb : Str → Bool} {K : PySem.W.Frag} {mg : Str → Option Value} {P : Program} {w : World} {base : Heap} {k : Nat}
def tLenD (K : PySem.W.Frag) (ta : TE) : TE := fun σ H Q => ta σ H fun x H1 => ∃ l, ∃ xs : List Str, x = .ref l ∧ SqL K H1 l (xs.map V.str) ∧ xs.length ≤ 4000 ∧ Q (.int (cntD xs.reverse)) H1
theorem pe_lenD {ta : TE} (hc : X.calm = true) (hg : Gl X "len") (hm : X.mg "len" = none) (hg2 : Gl X "set") (hm2 : X.mg "set" = none) (ha : PE X a ta)
    (na : starEach [a] X.env = (false, eval a X.env) :: starEach [] X.env := by rfl) : PE X (.Call (.Name "len" p) [.Call (.Name "set" p2) [a] [] q] [] pos) (tLenD X.K ta) := by
  refine ⟨fun pins s σ H Q I h => ?_⟩
  refine Call_ (ld_blt I hg hm boot_len ?_)
  refine PyProof.Rows.callWith_builtin1 (PyProof.Rows.args_cons ?_ rfl) rfl rfl
  refine Call_ (ld_blt I hg2 hm2 boot_set ?_)
  refine PyProof.Rows.callWith_type1 (PyProof.Rows.args_cons (thn (ha.run pins s σ H _ I h) fun v s1 ⟨x, H1, I1, r1, q1⟩ => PyProof.Rows.args_nil ?_) na) na rfl
  obtain ⟨l, xs, rfl, hq, h1, q1⟩ := q1
  cases r1
  obtain ⟨its, r, pl, hz⟩ := I1.list hq
  refine call_set_listD (I1.ok.hd hc) pl.isList (by simpa using strsAre_of r) h1 fun h' tk hS hk => ?_
  refine PyProof.Rows.args_nil ?_
  have hl : its.toArray.size = xs.length := by rw [List.size_toArray, ← r.length, List.length_map]
  rw [hl, List.take_length] at hS
  obtain ⟨o, es, ep, t, ho, hex, hd, _, _, _, hf, hn⟩ := hS
  have I2 : Inv X pins σ H1 { s1 with heap := h', toks := tk } := I1.kept fun b o e => hk b o (Heap.lt_size e) e
  have hc := cntD_le xs.reverse
  rw [List.length_reverse] at hc
  refine call_len_set ho hex hd hf (by rw [hn]; omega) ⟨.int (cntD xs.reverse), H1, I2.tok _, ⟨_, by rw [hn]⟩, q1⟩
theorem rp_strsD {K : PySem.W.Frag} {H : Hp} : ∀ {xs : List Str} {vs : List V}, RpA K H vs (xs.map em) → vs = xs.map V.str
  | [], _, h => by cases h; rfl
  | x :: xs, _, h => by
    cases h with
    | cons r t => cases r; rw [List.map_cons, ← rp_strsD t]
/-- len(set(xs)) -/
theorem x_lenSet {m : Option (List Str)} (C : Cf X N sc fb K mg P w base k) (h : XQ X env a m) (hm : mg "len" = none) (hm2 : mg "set" = none) (hg : glbB sc "len" = true := by decide +kernel) (hg2 : glbB sc "set" = true := by decide +kernel)
    (na : starEach [a] X.env = (false, eval a X.env) :: starEach [] X.env := by rfl) : XE X env (.Call (.Name "len" p) [.Call (.Name "set" p2) [a] [] q] [] pos) (m.bind fun xs => if xs.length ≤ 4000 then some (cntD xs.reverse : Int) else none) := by
  cases C with
  | mk nd calm po rm =>
    refine x_of (pe_lenD calm (glbB_ok hg) hm (glbB_ok hg2) hm2 h na) fun W0 W σ E z hz Q q => ?_
    obtain ⟨xs, hx, hz⟩ := bind_some hz
    split at hz
    · rename_i hl
      cases hz
      refine use_q E hx fun ad vs W1 l1 s1 r1 => ?_
      have := rp_strsD r1
      subst this
      exact ⟨ad, xs, rfl, s1, hl, q _ W1 l1 (.int _)⟩
    · cases hz
end
end T

set_option Elab.async false
set_option linter.all false
set_option maxRecDepth 100000
set_option maxHeartbeats 4000000
/-! TMore2: truth of a list, all(..), isinstance(.., list), cuts that draw, clear, reverse. -/
namespace T
open PySem PySem.Spec PyProof.Rows L2
variable {τ α β γ δ ρ B S ι U : Type}
variable [Tabs]
section
variable {X : Cx} {env env' : List SV} {e a b c o : Expr} {rest : List Stmt} {pos p p2 p3 q : Pos} [Em τ] [Em α] {N : List Str} {sc : Scope} {fb : Str → Bool} {K : PySem.W.Frag} {mg : Str → Option Value} {P : Program} {w : World} {base : Heap} {k : Nat}
variable {Z : ρ → Wd → Hp → Ends → Prop}
theorem t_truQ {m : Option (List τ)} (h : XQ X env e m) (he : ∀ whole, isTrue e X.env whole = (do let v ← whole; standAt e.pos; holding [v] (truthy v)) := by intro _; rfl) : XT X env e (m.bind fun xs => some (!xs.isEmpty)) :=
  t_of (pt_truth h he) fun W0 W σ E x hx Q q => by
    obtain ⟨xs, hd, hx⟩ := bind_some hx
    cases hx
    refine use_q E hd fun a vs W' l s r => ?_
    refine ⟨!xs.isEmpty, .inl ⟨vs, s, ?_⟩, q W' l⟩
    have hl := r.length
    rw [List.length_map] at hl
    cases xs <;> cases vs <;> first | rfl | simp at hl
theorem rp_bls {H : Hp} : ∀ {xs : List Bool} {vs : List V}, RpA K H vs (xs.map em) → vs = xs.map V.bl
  | [], _, h => by cases h; rfl
  | x :: xs, _, h => by
    cases h with
    | cons r t => cases r; rw [List.map_cons, ← rp_bls t]
theorem x_allQ {m : Option (List Bool)} (C : Cf X N sc fb K mg P w base k) (h : XQ X env e m) (hm : mg "all" = none) (hg : glbB sc "all" = true := by decide +kernel)
    (he : ∀ E : Env, starEach [e] E = (false, eval e E) :: starEach [] E := by intro _; rfl) : XE X env (.Call (.Name "all" p) [e] [] pos) (m.bind fun xs => some (xs.all id)) :=
  x_cBQ C (cr_all C.calm) h (fun d y hy W a vs ok s r Q q => by
    cases hy
    have := rp_bls r
    subst this
    exact ⟨a, d, rfl, s, q _ W (Le.refl ok) (.bl _)⟩) hm (by decide +kernel) hg (by decide) (by decide) he
/-- isinstance(xs, list) -/
theorem x_isiL {m : Option (List τ)} {q1 : Pos} (C : Cf X N sc fb K mg P w base k) (h : XQ X env a m)
    (hm : mg "isinstance" = none) (hm2 : mg "list" = none) (hg : glbB sc "isinstance" = true := by decide +kernel) (hg2 : glbB sc "list" = true := by decide +kernel)
    (h1 : ∀ E : Env, starEach [a, .Name "list" q1] E = (false, eval a E) :: starEach [.Name "list" q1] E := by intro _; rfl) (h2 : ∀ E : Env, starEach [.Name "list" q1] E = (false, eval (.Name "list" q1) E) :: starEach [] E := by intro _; rfl)
    (hpl : ∀ E : Env, (backTo pos (starEach [.Name "list" q1] E)).any (·.1) = false := by intro _; rfl) :
    XE X env (.Call (.Name "isinstance" p) [a, .Name "list" q1] [] pos) (m.bind fun _ => some true) := by
  cases C
  refine x_of (pe_callB call_isi (glbB_ok hg) hm (by decide +kernel) (pa_cons h (pa_cons (pe_bltn (v := .ty "list") (glbB_ok hg2) hm2 (by decide +kernel) rfl (by decide) (by decide)) pa_nil (h2 _)) (h1 _)) (by decide) (by decide) (h1 _) (hpl _)) fun W0 W σ E z hz Q q => ?_
  obtain ⟨x, hx, hz⟩ := bind_some hz
  cases hz
  unfold tCB tCons
  refine use_q E hx fun ad vs W1 l1 s1 r1 => ?_
  have ty : TyX X.K W1.h (.ref ad) (.type "list") := by
    rcases s1 with (s | ⟨o, s⟩) | ⟨o, its, n, s, hc, _⟩
    · exact .base (.lst s)
    · exact .base (.frz s)
    · exact .kList s hc
  exact ⟨.ref ad, .ty "list", .type "list", .type "list", true, rfl, .ty "list", ty, kit_ty (by decide +kernel), q _ W1 l1 (.bl _)⟩
/-- xs.clear() -/
theorem g_clear (C : Cf X N sc fb K mg P w base k) (i : Nat) {n : Str} {p1 apos p3 : Pos} {xs : List τ} {f : List τ → Option ρ} (hr : ∀ ys : List τ, GS X (env.set i (.own (ys.map em))) rest (f ys) Z)
    (hx : env[i]? = some (.own (xs.map em)) := by rfl) (hi : N[i]? = some n := by rfl) (hv : visB sc n = true := by decide +kernel)
    (hd : (n == ("__debug__" : Str)) = false := by decide) (hcd : (n == ("__classdict__" : Str)) = false := by decide)
    (hbase : ∀ E : Env, attributeBase (.Name n p1) "clear" E (eval (.Name n p1) E) = eval (.Name n p1) E := by intro _; rfl) (hline : (apos.endLine == p3.line) = true := by rfl) :
    GS X env (.Expr (.Call (.Attribute (.Name n p1) "clear" apos) [] [] p3) pos :: rest) (f []) Z := by
  cases C
  refine g_of (ps_expr (pe_bm0 PySem.F.plainAttrs_list PySem.F.slot_list_clear PySem.F.type_list_clear mt_clear (pe_var hi (visB_ok hv) hd hcd) (hbase _) hline) rfl) hr fun W0 W B σ D r E sb hm z => ?_
  obtain ⟨a, vs, h1, h2, h3, h0, r1⟩ := E.own hx
  refine ⟨_, h1, Or.inl ⟨rfl, _, SqL.of h2⟩, ?_⟩
  refine ⟨a, vs, rfl, rfl, h2, [], ?_⟩
  exact use_g (E.write (es := []) hx h1 .nil) sb hm z
/-- xs.reverse() -/
theorem g_reverse (C : Cf X N sc fb K mg P w base k) (i : Nat) {n : Str} {p1 apos p3 : Pos} {xs : List τ} {f : List τ → Option ρ} (hr : ∀ ys : List τ, GS X (env.set i (.own (ys.map em))) rest (f ys) Z)
    (hx : env[i]? = some (.own (xs.map em)) := by rfl) (hi : N[i]? = some n := by rfl) (hv : visB sc n = true := by decide +kernel)
    (hd : (n == ("__debug__" : Str)) = false := by decide) (hcd : (n == ("__classdict__" : Str)) = false := by decide)
    (hbase : ∀ E : Env, attributeBase (.Name n p1) "reverse" E (eval (.Name n p1) E) = eval (.Name n p1) E := by intro _; rfl) (hline : (apos.endLine == p3.line) = true := by rfl) :
    GS X env (.Expr (.Call (.Attribute (.Name n p1) "reverse" apos) [] [] p3) pos :: rest) (f xs.reverse) Z := by
  cases C
  refine g_of (ps_expr (pe_bm0 PySem.F.plainAttrs_list PySem.F.slot_list_reverse PySem.F.type_list_reverse mt_reverse (pe_var hi (visB_ok hv) hd hcd) (hbase _) hline) rfl) hr fun W0 W B σ D r E sb hm z => ?_
  obtain ⟨a, vs, h1, h2, h3, h0, r1⟩ := E.own hx
  refine ⟨_, h1, Or.inl ⟨rfl, _, SqL.of h2⟩, ?_⟩
  refine ⟨a, vs, rfl, rfl, h2, xs.reverse, ?_⟩
  refine use_g (E.write (es := (xs.reverse).map em) hx h1 ?_) sb hm z
  rw [List.map_reverse]
  exact r1.reverse
/-! ### cuts that draw -/
def tMO (K : PySem.W.Frag) (F : List Addr) (env : U → List SV) (m : Option (Option Int × U)) (t : U) : TO := fun σ H Q =>
  ∃ W0 W : Wd, W.h = H ∧ EnvR K W0 W (env t) σ ∧ ∃ p, m = some p ∧ ∀ W', Le (hide F W) W' → EnvR K W0 W' (env p.2) σ → Q p.1 W'.h
abbrev MO (X : Cx) (F : List Addr) (env : U → List SV) (t : U) (e : Option Expr) (m : Option (Option Int × U)) : Prop := PO X e (tMO X.K F env m t)
variable {F : List Addr} {envU : U → List SV} {u : U}
theorem poEx {ι : Type} {e : Option Expr} {t : ι → TO} (h : ∀ i, PO X e (t i)) : PO X e (fun σ H Q => ∃ i, t i σ H Q) := ⟨fun pins s σ H Q I ⟨i, q⟩ => (h i).run pins s σ H Q I q⟩
theorem mo_none : MO X F envU u none (some (none, u)) := poImp po_none fun σ H Q ⟨W0, W, hH, E, x, hx, q⟩ => by
  subst hH
  cases hx
  exact q W (Le.hrefl E.ok) E
theorem mo_some {m : Option (Int × U)} (h : ME X F envU u e m) : MO X F envU u (some e) (bM m fun x t => some (some x, t)) := poImp (po_some h) fun σ H Q ⟨W0, W, hH, E, z, hz, q⟩ => by
  subst hH
  obtain ⟨x, t1, hx, hz⟩ := bM_some hz
  cases hz
  refine use_m E hx fun v W1 l1 E1 r1 => ?_
  have r1 : Rp X.K W1.b v (.int x) := r1
  cases r1
  exact ⟨x, rfl, q W1 l1 E1⟩
theorem ml_cut {lo hi : Option Expr} {m : Option (List τ × U)} {ml mh : U → Option (Option Int × U)} (h : ME X F envU u e m) (hl : ∀ t, MO X F envU t lo (ml t)) (hh : ∀ t, MO X F envU t hi (mh t)) :
    ML X F envU u (.Subscript e (.Slice lo hi none p2) pos) (bM m fun x t1 => bM (ml t1) fun y t2 => bM (mh t2) fun z t3 => some (T.cut x y z, t3)) := by
  refine ml_of (pe_slice sl_list h (poEx hl) (poEx hh)) fun W0 W σ E z hz Q q => ?_
  obtain ⟨x, t1, hx, hz⟩ := bM_some hz
  obtain ⟨y, t2, hy, hz⟩ := bM_some hz
  obtain ⟨zz, t3, hzz, hz⟩ := bM_some hz
  cases hz
  refine use_m E hx fun v1 W1 l1 E1 r1 => ⟨t1, W0, W1, rfl, E1, _, hy, fun W2 l2 E2 => ⟨t2, W0, W2, rfl, E2, _, hzz, fun W3 l3 E3 => ?_⟩⟩
  have r1 : Rp X.K W1.b v1 (.lst (x.map em)) := r1
  cases r1 with
  | @lst ad us1 _ s1 r1 =>
    have l13 := (l1.thid l2).thid l3
    refine ⟨ad, us1, rfl, E3.ok.seq (l3.b.seq (l2.b.seq s1)), fun p hp => ?_⟩
    have E4 := E3.mono (Le.layM E3.ok (p := p) (o := .lst (cutV us1 y zz)) hp)
    exact q p _ ⟨W3.b, upd W3.h p (.lst (cutV us1 y zz))⟩ (l13.thid (Le.layM E3.ok hp).hid) E4 upd_same (E3.ok.free hp) (E3.le.h.free hp) (l13.h.free hp) (fun j sj oj e1 e2 => E3.fresh hp j sj oj e1 e2) (by
      rw [← cut_map]
      exact (r1.mono (l2.b.trans l3.b)).cut y zz)
/-- xs[i], xs an owned list, i drawn -/
theorem m_ixO (C : Cf X N sc fb K mg P w base k) (j : Nat) {n : Str} {p1 : Pos} {xs : List τ} {mi : Option (Int × U)} (hi : ME X F envU u b mi) (hen : ∀ t, (envU t)[j]? = some (.own (xs.map em)) := by intro _; rfl) (hn : N[j]? = some n := by rfl) (hv : visB sc n = true := by decide +kernel)
    (hd : (n == ("__debug__" : Str)) = false := by decide) (hcd : (n == ("__classdict__" : Str)) = false := by decide) (hs : PlainIx b := by exact fun _ _ => rfl) : ME X F envU u (.Subscript (.Name n p1) b pos) (bM mi fun i t1 => (atI xs i).bind fun z => some (z, t1)) := by
  cases C
  refine m_of (pe_ix ix_list (pe_var hn (visB_ok hv) hd hcd) hi hs) fun W0 W σ E z hz Q q => ?_
  obtain ⟨i, t1, hx, hz⟩ := bM_some hz
  obtain ⟨y, hy, hz⟩ := bind_some hz
  cases hz
  obtain ⟨a, vs, h1, _⟩ := E.own (hen u)
  refine ⟨_, h1, ?_⟩
  refine use_m E hx fun v W1 l1 E1 r1 => ?_
  have r1 : Rp X.K W1.b v (.int i) := r1
  cases r1
  obtain ⟨a', vs', h1', h2, h3, h0, r⟩ := E1.own (hen t1)
  rw [h1] at h1'
  cases h1'
  obtain ⟨w', e1, e2⟩ := atI_rp r (atI_map (f := em) hy)
  exact ⟨a, vs', i, w', rfl, rfl, SqL.of h2, e1, q w' W1 l1 E1 e2⟩
end
end T

set_option Elab.async false
set_option linter.all false
set_option maxRecDepth 100000
set_option maxHeartbeats 8000000
namespace K41
open PySem PySem.Spec PyProof.Rows L2 T
def C_MOST_SORTS : Int := (4 : Int)
structure C_Signature where
  kinds : (List Str)
  names : (List Str)
instance : Em C_Signature := ⟨fun x => .ins "Signature" ["kinds", "names"] [em x.kinds, em x.names]⟩
/-! ### is_name -/
def M_is_name (p_text : Str) : Option Bool := (andO (chI (fun i j => decide (i ≤ j)) (fun i j => decide (i ≤ j)) (some (1 : Int)) ((some p_text).bind fun y_1 => lenS y_1) (some (12 : Int))) ((some p_text).bind fun y_2 => some (y_2.cps.toList.all (fun c => !decide ([c] < (("a" : Str)).cps.toList) && !decide ((("z" : Str)).cps.toList < [c]))))).bind fun r_3 => some r_3
/-! ### Signature -/
def M_Signature (p_kinds : (List Str)) (p_names : (List Str)) : Option (Rs C_Signature) := ((some p_kinds).bind fun y_5 => (some p_names).bind fun y_6 => catL y_5 y_6).bind fun v_sorts_4 => (orO (((some p_kinds).bind fun y_7 => some (!List.isEmpty y_7)).bind fun y_8 => some (!y_8)) (orO (((some v_sorts_4).bind fun y_9 => some (List.length y_9 : Int)).bind fun y_10 => (some C_MOST_SORTS).bind fun y_11 => some (decide (y_11 < y_10))) (((some v_sorts_4).bind fun y_12 => if y_12.length ≤ 4000 then some (cntD y_12.reverse : Int) else none).bind fun y_14 => ((some v_sorts_4).bind fun y_13 => some (List.length y_13 : Int)).bind fun y_15 => some (decide (y_14 < y_15))))).bind fun c_29 => if c_29 = true then (some ((fun e : Ex => e) (⟨"BadSignature", []⟩ : Ex))).bind fun r_28 => some (Rs.er r_28) else (some v_sorts_4).bind fun y_18 => (loopO (fun (s_16 : Unit) (v_name_17 : Str) => (((((some v_name_17).bind fun y_19 => (some ()).bind fun y_20 => some (y_19, y_20)).bind (fun a : Str × Unit => M_is_name a.1)).bind fun y_22 => some (!y_22)).bind fun c_24 => if c_24 = true then (some ((fun e : Ex => e) (⟨"BadSignature", []⟩ : Ex))).bind fun r_23 => some (Fl.rt r_23) else some (Fl.nx ()) : Option (Fl Ex Unit Unit))) () y_18).bind (Lp.go (Rs.er) fun s_16 : Unit => (some p_kinds).bind fun f_kinds_25 : (List Str) => (some p_names).bind fun f_names_26 : (List Str) => some (Rs.ok (⟨f_kinds_25, f_names_26⟩ : C_Signature)))
/-! ### _law_tape -/
def M__law_tape (p_script : (List Int)) : Option Tp := ((some p_script).bind fun y_36 => lcC (fun _ : Int => some true) (fun v_cell_32 : Int => ((some v_cell_32).bind fun y_33 => some y_33).bind fun y_34 => some (absI y_34)) y_36).bind fun v_cells_30 => ((((some v_cells_30).bind fun y_37 => some (List.length y_37 : Int)).bind fun y_38 => (some (0 : Int)).bind fun y_39 => some (decide (y_38 = y_39))).bind fun c_62 => if c_62 = true then (((some (5 : Int)).bind fun y_42 => (some []).bind fun y_43 => some (y_42 :: y_43)).bind lstP).bind fun v_cells_41 => some v_cells_41 else some v_cells_30).bind fun s_40 : (List Int) => ((some s_40).bind fun y_54 => lcC (fun _ : Int => some true) (fun v_cell_48 : Int => (some (0 : Int)).bind fun y_51 => ((some v_cell_48).bind fun y_49 => (some (1000000000000000000 : Int)).bind fun y_50 => some (y_49 - y_50)).bind fun y_52 => some (if y_52 > y_51 then y_52 else y_51)) y_54).bind fun v_digits_46 => ((some s_40).bind fun y_60 => lcC (fun _ : Int => some true) (fun v_cell_56 : Int => ((some v_cell_56).bind fun y_57 => some y_57).bind fun y_58 => some (Int.fmod y_58 (2147483647 : Int))) y_60).bind fun r_61 => some (⟨0, v_digits_46, r_61⟩ : Tp)
/-! ### _law_take -/
def M__law_take (p_tape : Tp) (p_many : Int) : Option (Int × Tp) := (some p_tape.c).bind fun v_count_63 => ((some v_count_63).bind fun y_64 => (some (1 : Int)).bind fun y_65 => some (y_64 + y_65)).bind fun c_66 => ((some v_count_63).bind fun y_71 => ((some ((⟨c_66, p_tape.ds, p_tape.ss⟩ : Tp)).ds).bind fun y_70 => some (List.length y_70 : Int)).bind fun y_72 => modP y_71 y_72).bind fun v_at_69 => (((some ((⟨c_66, p_tape.ds, p_tape.ss⟩ : Tp)).ds).bind fun y_73 => (some v_at_69).bind fun y_74 => atI y_73 y_74).bind fun y_75 => (some (0 : Int)).bind fun y_76 => some (decide (y_76 < y_75))).bind fun c_119 => if c_119 = true then ((((some ((⟨c_66, p_tape.ds, p_tape.ss⟩ : Tp)).ds).bind fun y_78 => (some v_at_69).bind fun y_79 => atI y_78 y_79).bind fun y_80 => (some p_many).bind fun y_81 => modP y_80 y_81).bind fun v_value_77 => (((some ((⟨c_66, p_tape.ds, p_tape.ss⟩ : Tp)).ds).bind fun y_82 => (some v_at_69).bind fun y_83 => atI y_82 y_83).bind fun y_84 => (some p_many).bind fun y_85 => divW y_84 y_85).bind fun y_90 => (some v_at_69).bind fun y_91 => (setP ((⟨c_66, p_tape.ds, p_tape.ss⟩ : Tp)).ds y_91 y_90).bind fun d_86 => bM ((some v_value_77).bind fun y_87 => some (y_87, (⟨((⟨c_66, p_tape.ds, p_tape.ss⟩ : Tp)).c, d_86, ((⟨c_66, p_tape.ds, p_tape.ss⟩ : Tp)).ss⟩ : Tp))) fun r_88 t_89 => some (r_88, t_89)).bind fun r_118 => some (id r_118) else (((((((some ((⟨c_66, p_tape.ds, p_tape.ss⟩ : Tp)).ss).bind fun y_93 => (some v_at_69).bind fun y_94 => atI y_93 y_94).bind fun y_95 => some (y_95 * (48271 : Int))).bind fun y_97 => ((some v_count_63).bind fun y_96 => some (y_96 * (69621 : Int))).bind fun y_98 => some (y_97 + y_98)).bind fun y_99 => (some (11 : Int)).bind fun y_100 => some (y_99 + y_100)).bind fun y_101 => some y_101).bind fun y_102 => some (Int.fmod y_102 (2147483647 : Int))).bind fun v_value_92 => (((((some v_value_92).bind fun y_107 => (((some v_value_92).bind fun y_104 => some (Int.fmod y_104 (65521 : Int))).bind fun y_105 => (some (3 : Int)).bind fun y_106 => some (y_105 + y_106)).bind fun y_108 => mulP y_107 y_108).bind fun y_109 => (some v_count_63).bind fun y_110 => some (y_109 + y_110)).bind fun y_111 => some y_111).bind fun y_112 => some (Int.fmod y_112 (2147483399 : Int))).bind fun v_value_103 => bM (((some v_value_103).bind fun y_113 => (some p_many).bind fun y_114 => modP y_113 y_114).bind fun y_115 => some (y_115, (⟨c_66, p_tape.ds, p_tape.ss⟩ : Tp))) fun r_116 t_117 => some (r_116, t_117)
/-! ### _law_any -/
def M__law_any (p_tape : Tp) (p_rows : (List (List (List Str)))) : Option ((List (List Str)) × Tp) := bM (bM ((some p_rows).bind fun y_124 => some (y_124, p_tape)) fun x_120 t_122 => bM (bM (bM (((some p_rows).bind fun y_138 => some (List.length y_138 : Int)).bind fun y_139 => some (y_139, t_122)) fun x_134 t_136 => bM (some ((), t_136)) fun y_135 t_137 => some ((x_134, y_135), t_137)) fun (x_129 : Int × Unit) (t_131 : Tp) => M__law_take t_131 x_129.1) fun y_121 t_123 => (atI x_120 y_121).bind fun z_140 => some (z_140, t_123)) fun r_141 t_142 => some (r_141, t_142)
/-! ### _law_name -/
def M__law_name (p_tape : Tp) : Option (Str × Tp) := (some ("abcdefghijklmnopqrstuvwxyz" : Str)).bind fun v_letters_143 => bM (bM ((some (1 : Int)).bind fun y_150 => some (y_150, p_tape)) fun x_146 t_148 => bM (bM (bM ((some (4 : Int)).bind fun y_164 => some (y_164, t_148)) fun x_160 t_162 => bM (some ((), t_162)) fun y_161 t_163 => some ((x_160, y_161), t_163)) fun (x_155 : Int × Unit) (t_157 : Tp) => M__law_take t_157 x_155.1) fun y_147 t_149 => (some (x_146 + y_147)).bind fun z_165 => some (z_165, t_149)) fun (v_long_144 : Int) (t_145 : Tp) => (bM (bM (bM (bM ((some (3 : Int)).bind fun y_183 => some (y_183, t_145)) fun x_179 t_181 => bM (some ((), t_181)) fun y_180 t_182 => some ((x_179, y_180), t_182)) fun (x_174 : Int × Unit) (t_176 : Tp) => M__law_take t_176 x_174.1) fun x_166 t_168 => bM ((some (0 : Int)).bind fun y_184 => some (y_184, t_168)) fun y_167 t_169 => (some (decide (x_166 = y_167))).bind fun z_185 => some (z_185, t_169)) fun c_186 (t_187 : Tp) => if c_186 = true then (some (12 : Int)).bind fun v_long_189 => some (t_187, v_long_189) else some (t_187, v_long_144)).bind fun s_188 : (Tp × Int) => bM (bM ((some ("" : Str)).bind fun y_199 => some (y_199, s_188.1)) fun x_194 t_196 => bM (bM (((some s_188.2).bind fun y_204 => rngP 0 y_204).bind fun y_205 => some (y_205, t_196)) (lcCM (fun (_ : Int) (t_209 : Tp) => some (true, t_209)) (fun (v_k_207 : Int) (t_208 : Tp) => bM ((some v_letters_143).bind fun y_214 => some (y_214, t_208)) fun x_210 t_212 => bM (bM (bM ((some (26 : Int)).bind fun y_228 => some (y_228, t_212)) fun x_224 t_226 => bM (some ((), t_226)) fun y_225 t_227 => some ((x_224, y_225), t_227)) fun (x_219 : Int × Unit) (t_221 : Tp) => M__law_take t_221 x_219.1) fun y_211 t_213 => (strAt x_210 y_211).bind fun z_229 => some (z_229, t_213)))) fun y_195 t_197 => (joinP x_194 y_195).bind fun z_231 => some (z_231, t_197)) fun r_232 t_233 => some (r_232, t_233)
/-! ### _law_entries -/
def M__law_entries (p_tape : Tp) (p_many : Int) : Option ((List Str) × Tp) := (some ([] : (List Str))).bind fun v_found_234 => ((some p_many).bind fun y_235 => rngP 0 y_235).bind fun y_238 => (foldO (fun (s_236 : (Tp × (List Str))) (v_k_237 : Int) => bM (bM (some ((), s_236.1)) fun (x_245 : Unit) (t_247 : Tp) => M__law_name t_247) fun (v_name_239 : Str) (t_240 : Tp) => (bM (andM (((some v_k_237).bind fun y_250 => (some (0 : Int)).bind fun y_251 => some (decide (y_251 < y_250))).bind fun y_252 => some (y_252, t_240)) (fun t_253 : Tp => andM (bM (bM (bM ((some (3 : Int)).bind fun y_271 => some (y_271, t_253)) fun x_267 t_269 => bM (some ((), t_269)) fun y_268 t_270 => some ((x_267, y_268), t_270)) fun (x_262 : Int × Unit) (t_264 : Tp) => M__law_take t_264 x_262.1) fun x_254 t_256 => bM ((some (0 : Int)).bind fun y_272 => some (y_272, t_256)) fun y_255 t_257 => (some (decide (x_254 = y_255))).bind fun z_273 => some (z_273, t_257)) (fun t_274 : Tp => ((((some s_236.2).bind fun y_277 => ((some v_k_237).bind fun y_275 => (some (1 : Int)).bind fun y_276 => some (y_275 - y_276)).bind fun y_278 => atI y_277 y_278).bind fun y_279 => lenS y_279).bind fun y_280 => (some (12 : Int)).bind fun y_281 => some (decide (y_280 < y_281))).bind fun y_282 => some (y_282, t_274)))) fun c_283 (t_284 : Tp) => if c_283 = true then (((some s_236.2).bind fun y_289 => ((some v_k_237).bind fun y_287 => (some (1 : Int)).bind fun y_288 => some (y_287 - y_288)).bind fun y_290 => atI y_289 y_290).bind fun y_295 => ((some v_name_239).bind fun y_292 => (some none).bind fun y_293 => ((some (1 : Int)).bind fun y_291 => some (some y_291)).bind fun y_294 => cutP y_292 y_293 y_294).bind fun y_296 => catS y_295 y_296).bind fun v_name_286 => some (t_284, v_name_286) else some (t_284, v_name_239)).bind fun s_285 : (Tp × Str) => (((some s_285.2).bind fun y_297 => (some s_236.2).bind fun y_298 => some (memB y_297 y_298)).bind fun c_340 => if c_340 = true then ((((some ("a" : Str)).bind fun y_309 => ((some ("b" : Str)).bind fun y_307 => ((some ("c" : Str)).bind fun y_305 => ((some ("d" : Str)).bind fun y_303 => ((some ("e" : Str)).bind fun y_301 => (some []).bind fun y_302 => some (y_301 :: y_302)).bind fun y_304 => some (y_303 :: y_304)).bind fun y_306 => some (y_305 :: y_306)).bind fun y_308 => some (y_307 :: y_308)).bind fun y_310 => some (y_309 :: y_310)).bind lstP).bind fun y_316 => (some v_k_237).bind fun y_317 => atI y_316 y_317).bind fun v_name_300 => some v_name_300 else some s_285.2).bind fun s_299 : Str => (((some s_299).bind fun y_318 => (some s_236.2).bind fun y_319 => some (memB y_318 y_319)).bind fun c_339 => if c_339 = true then ((some ("qqqqqqqqqqqq" : Str)).bind fun y_325 => (some none).bind fun y_326 => (((some (6 : Int)).bind fun y_322 => (some v_k_237).bind fun y_323 => some (y_322 + y_323)).bind fun y_324 => some (some y_324)).bind fun y_327 => cutP y_325 y_326 y_327).bind fun v_name_321 => some v_name_321 else some s_299).bind fun s_320 : Str => (((some s_320).bind fun y_328 => (some s_236.2).bind fun y_329 => some (memB y_328 y_329)).bind fun c_338 => if c_338 = true then (((some ("xyzvw" : Str)).bind fun y_332 => (some v_k_237).bind fun y_333 => strAt y_332 y_333).bind fun y_334 => (some s_320).bind fun y_335 => catS y_334 y_335).bind fun v_name_331 => some v_name_331 else some s_320).bind fun s_330 : Str => (some s_330).bind fun y_337 => (appP s_236.2 y_337).bind fun v_found_336 => some (s_285.1, v_found_336)) (p_tape, v_found_234) y_238).bind fun s_236 => bM ((some s_236.2).bind fun y_342 => some (y_342, s_236.1)) fun r_343 t_344 => some (r_343, t_344)
/-! ### _law_is -/
def M__law_is (p_actual : (List Str)) (p_due : (List Str)) : Option Bool := (orO (((some p_actual).bind fun y_345 => (fun _ => some true) y_345).bind fun y_346 => some (!y_346)) (((some p_actual).bind fun y_347 => some (List.length y_347 : Int)).bind fun y_349 => ((some p_due).bind fun y_348 => some (List.length y_348 : Int)).bind fun y_350 => some (!decide (y_349 = y_350)))).bind fun c_370 => if c_370 = true then ((some false).bind fun r_351 => some r_351).bind fun r_369 => some (id r_369) else (((((some p_due).bind fun y_352 => some (List.length y_352 : Int)).bind fun y_353 => rngP 0 y_353).bind fun y_366 => lcC (fun _ : Int => some true) (fun v_k_355 : Int => andO (((some p_actual).bind fun y_356 => (some v_k_355).bind fun y_357 => atI y_356 y_357).bind fun y_358 => isiP "str" (em y_358)) (((some p_actual).bind fun y_359 => (some v_k_355).bind fun y_360 => atI y_359 y_360).bind fun y_363 => ((some p_due).bind fun y_361 => (some v_k_355).bind fun y_362 => atI y_361 y_362).bind fun y_364 => some (decide (y_363 = y_364)))) y_366).bind fun y_367 => some (List.all y_367 id)).bind fun r_368 => some r_368
/-! ### _law_refused -/
def M__law_refused (p_kinds : (List Str)) (p_names : (List Str)) : Option Bool := (((some p_kinds).bind fun y_374 => ((some p_names).bind fun y_372 => (some []).bind fun y_373 => some (y_372 :: y_373)).bind fun y_375 => some (y_374 :: y_375)).bind lstP).bind fun v_before_371 => (bindR (((some p_kinds).bind fun y_410 => ((some p_names).bind fun y_408 => (some ()).bind fun y_409 => some (y_408, y_409)).bind fun y_411 => some (y_410, y_411)).bind (fun a : (List Str) × (List Str) × Unit => M_Signature a.1 a.2.1)) (Ty.er) fun u_414 : C_Signature => some (Ty.nx ()) : Option (Ty Bool Unit)).bind (tyB (fun ex_415 : Ex => if ex_415.c ∈ [("BadSignature" : Str)] then ((orO ((if ex_415.c ∈ [("BadSignature" : Str)] then some (decide (ex_415.c ∈ [])) else none)) (orO ((if ex_415.c ∈ [("BadSignature" : Str)] then some (decide (ex_415.c ∈ [])) else none)) ((if ex_415.c ∈ [("BadSignature" : Str)] then some (decide (ex_415.c ∈ [])) else none)))).bind fun c_432 => if c_432 = true then ((some false).bind fun r_421 => some r_421).bind fun r_431 => some (Ty.rt r_431) else (andO ((if ex_415.c ∈ [("BadSignature" : Str)] then some (decide (ex_415.c ∈ [("BadSignature" : Str)])) else none)) (andO ((if ex_415.c ∈ [("BadSignature" : Str)] then some (decide (ex_415.c ∈ [("BadSignature" : Str)])) else none)) ((((some p_kinds).bind fun y_424 => ((some p_names).bind fun y_422 => (some []).bind fun y_423 => some (y_422 :: y_423)).bind fun y_425 => some (y_424 :: y_425)).bind lstP).bind fun y_428 => (some v_before_371).bind fun y_429 => eqP (em y_428) (em y_429)))).bind fun r_430 => some (Ty.rt r_430) : Option (Ty Bool Unit)) else none) (fun x => x) fun s_403 : Unit => (some false).bind fun r_433 => some r_433)
/-! ### _law_spoilt -/
def M__law_spoilt (p_tape : Tp) (p_entries : (List Str)) (p_split : Int) : Option ((List (List Str)) × Tp) := (some p_entries).bind fun v_entries_434 => bM (bM (bM (((some v_entries_434).bind fun y_450 => some (List.length y_450 : Int)).bind fun y_451 => some (y_451, p_tape)) fun x_446 t_448 => bM (some ((), t_448)) fun y_447 t_449 => some ((x_446, y_447), t_449)) fun (x_441 : Int × Unit) (t_443 : Tp) => M__law_take t_443 x_441.1) fun (v_at_435 : Int) (t_436 : Tp) => bM (bM (bM ((some (3 : Int)).bind fun y_467 => some (y_467, t_436)) fun x_463 t_465 => bM (some ((), t_465)) fun y_464 t_466 => some ((x_463, y_464), t_466)) fun (x_458 : Int × Unit) (t_460 : Tp) => M__law_take t_460 x_458.1) fun (v_mode_452 : Int) (t_453 : Tp) => ((some v_mode_452).bind fun y_468 => (some (0 : Int)).bind fun y_469 => some (decide (y_468 = y_469))).bind fun c_934 => if c_934 = true then (bM (bM (bM ((some (8 : Int)).bind fun y_485 => some (y_485, t_453)) fun x_481 t_483 => bM (some ((), t_483)) fun y_482 t_484 => some ((x_481, y_482), t_484)) fun (x_476 : Int × Unit) (t_478 : Tp) => M__law_take t_478 x_476.1) fun (v_pick_470 : Int) (t_471 : Tp) => ((some v_entries_434).bind fun y_487 => (some v_at_435).bind fun y_488 => atI y_487 y_488).bind fun v_one_486 => bM (bM (bM (((some v_one_486).bind fun y_504 => lenS y_504).bind fun y_505 => some (y_505, t_471)) fun x_500 t_502 => bM (some ((), t_502)) fun y_501 t_503 => some ((x_500, y_501), t_503)) fun (x_495 : Int × Unit) (t_497 : Tp) => M__law_take t_497 x_495.1) fun (v_cut_489 : Int) (t_490 : Tp) => (((some ("" : Str)).bind fun y_588 => (((some v_one_486).bind fun y_514 => ((some ("abcdefghijklm" : Str)).bind fun y_511 => ((((some v_one_486).bind fun y_507 => lenS y_507).bind fun y_508 => (some (1 : Int)).bind fun y_509 => some (y_508 - y_509)).bind fun y_510 => some (some y_510)).bind fun y_512 => (some none).bind fun y_513 => cutP y_511 y_512 y_513).bind fun y_515 => catS y_514 y_515).bind fun y_586 => (((((some v_one_486).bind fun y_517 => (some none).bind fun y_518 => ((some v_cut_489).bind fun y_516 => some (some y_516)).bind fun y_519 => cutP y_517 y_518 y_519).bind fun y_520 => (some ("B" : Str)).bind fun y_521 => catS y_520 y_521).bind fun y_528 => ((some v_one_486).bind fun y_525 => (((some v_cut_489).bind fun y_522 => (some (1 : Int)).bind fun y_523 => some (y_522 + y_523)).bind fun y_524 => some (some y_524)).bind fun y_526 => (some none).bind fun y_527 => cutP y_525 y_526 y_527).bind fun y_529 => catS y_528 y_529).bind fun y_584 => (((((some v_one_486).bind fun y_531 => (some none).bind fun y_532 => ((some v_cut_489).bind fun y_530 => some (some y_530)).bind fun y_533 => cutP y_531 y_532 y_533).bind fun y_534 => (some ("7" : Str)).bind fun y_535 => catS y_534 y_535).bind fun y_542 => ((some v_one_486).bind fun y_539 => (((some v_cut_489).bind fun y_536 => (some (1 : Int)).bind fun y_537 => some (y_536 + y_537)).bind fun y_538 => some (some y_538)).bind fun y_540 => (some none).bind fun y_541 => cutP y_539 y_540 y_541).bind fun y_543 => catS y_542 y_543).bind fun y_582 => (((((some v_one_486).bind fun y_545 => (some none).bind fun y_546 => ((some v_cut_489).bind fun y_544 => some (some y_544)).bind fun y_547 => cutP y_545 y_546 y_547).bind fun y_548 => (some (" " : Str)).bind fun y_549 => catS y_548 y_549).bind fun y_556 => ((some v_one_486).bind fun y_553 => (((some v_cut_489).bind fun y_550 => (some (1 : Int)).bind fun y_551 => some (y_550 + y_551)).bind fun y_552 => some (some y_552)).bind fun y_554 => (some none).bind fun y_555 => cutP y_553 y_554 y_555).bind fun y_557 => catS y_556 y_557).bind fun y_580 => (((((some v_one_486).bind fun y_559 => (some none).bind fun y_560 => ((some v_cut_489).bind fun y_558 => some (some y_558)).bind fun y_561 => cutP y_559 y_560 y_561).bind fun y_562 => (some ("-" : Str)).bind fun y_563 => catS y_562 y_563).bind fun y_570 => ((some v_one_486).bind fun y_567 => (((some v_cut_489).bind fun y_564 => (some (1 : Int)).bind fun y_565 => some (y_564 + y_565)).bind fun y_566 => some (some y_566)).bind fun y_568 => (some none).bind fun y_569 => cutP y_567 y_568 y_569).bind fun y_571 => catS y_570 y_571).bind fun y_578 => (((some v_one_486).bind fun y_572 => (some ("\n" : Str)).bind fun y_573 => catS y_572 y_573).bind fun y_576 => ((some ("aaaaaaaaaaaaa" : Str)).bind fun y_574 => (some []).bind fun y_575 => some (y_574 :: y_575)).bind fun y_577 => some (y_576 :: y_577)).bind fun y_579 => some (y_578 :: y_579)).bind fun y_581 => some (y_580 :: y_581)).bind fun y_583 => some (y_582 :: y_583)).bind fun y_585 => some (y_584 :: y_585)).bind fun y_587 => some (y_586 :: y_587)).bind fun y_589 => some (y_588 :: y_589)).bind lstP).bind fun v_bad_506 => ((some v_bad_506).bind fun y_598 => (some v_pick_470).bind fun y_599 => atI y_598 y_599).bind fun y_636 => (some v_at_435).bind fun y_637 => (setP v_entries_434 y_637 y_636).bind fun v_entries_600 => ((andO ((some v_pick_470).bind fun y_601 => (some (6 : Int)).bind fun y_602 => some (decide (y_601 = y_602))) (((some v_one_486).bind fun y_603 => lenS y_603).bind fun y_604 => (some (12 : Int)).bind fun y_605 => some (decide (y_604 = y_605)))).bind fun c_635 => if c_635 = true then (((some v_one_486).bind fun y_608 => (some none).bind fun y_609 => ((some (11 : Int)).bind fun y_607 => some (some y_607)).bind fun y_610 => cutP y_608 y_609 y_610).bind fun y_611 => (some ("\n" : Str)).bind fun y_612 => catS y_611 y_612).bind fun y_614 => (some v_at_435).bind fun y_615 => (setP v_entries_600 y_615 y_614).bind fun v_entries_613 => some v_entries_613 else some v_entries_600).bind fun s_606 : (List Str) => bM (((((some s_606).bind fun y_619 => (some none).bind fun y_620 => ((some p_split).bind fun y_618 => some (some y_618)).bind fun y_621 => some (T.cut y_619 y_620 y_621)).bind fun y_628 => (((some s_606).bind fun y_623 => ((some p_split).bind fun y_622 => some (some y_622)).bind fun y_624 => (some none).bind fun y_625 => some (T.cut y_623 y_624 y_625)).bind fun y_626 => (some []).bind fun y_627 => some (y_626 :: y_627)).bind fun y_629 => some (y_628 :: y_629)).bind lstP).bind fun y_632 => some (y_632, t_490)) fun r_633 t_634 => some (r_633, t_634)).bind fun r_933 => some (id r_933) else (andO ((some v_mode_452).bind fun y_640 => (some (1 : Int)).bind fun y_641 => some (decide (y_640 = y_641))) (((some v_entries_434).bind fun y_642 => some (List.length y_642 : Int)).bind fun y_643 => (some (1 : Int)).bind fun y_644 => some (decide (y_643 = y_644)))).bind fun c_932 => if c_932 = true then (bM (bM (bM ((((((some v_entries_434).bind fun y_673 => ((some v_entries_434).bind fun y_671 => (some []).bind fun y_672 => some (y_671 :: y_672)).bind fun y_674 => some (y_673 :: y_674)).bind lstP).bind fun y_687 => (((((some v_entries_434).bind fun y_677 => (some v_entries_434).bind fun y_678 => catL y_677 y_678).bind fun y_681 => ((some ([] : (List Str))).bind fun y_679 => (some []).bind fun y_680 => some (y_679 :: y_680)).bind fun y_682 => some (y_681 :: y_682)).bind lstP).bind fun y_685 => (some []).bind fun y_686 => some (y_685 :: y_686)).bind fun y_688 => some (y_687 :: y_688)).bind lstP).bind fun y_691 => some (y_691, t_453)) fun x_667 t_669 => bM (some ((), t_669)) fun y_668 t_670 => some ((x_667, y_668), t_670)) fun (x_662 : (List (List (List Str))) × Unit) (t_664 : Tp) => M__law_any t_664 x_662.1) fun r_692 t_693 => some (r_692, t_693)).bind fun r_931 => some (id r_931) else ((some v_mode_452).bind fun y_694 => (some (1 : Int)).bind fun y_695 => some (decide (y_694 = y_695))).bind fun c_930 => if c_930 = true then (bM (bM (bM (((some v_at_435).bind fun y_708 => (some (1 : Int)).bind fun y_709 => some (y_708 - y_709)).bind fun y_710 => some (y_710, t_453)) fun x_704 t_706 => bM (bM (bM ((((some v_entries_434).bind fun y_724 => some (List.length y_724 : Int)).bind fun y_725 => (some (1 : Int)).bind fun y_726 => some (y_725 - y_726)).bind fun y_727 => some (y_727, t_706)) fun x_720 t_722 => bM (some ((), t_722)) fun y_721 t_723 => some ((x_720, y_721), t_723)) fun (x_715 : Int × Unit) (t_717 : Tp) => M__law_take t_717 x_715.1) fun y_705 t_707 => (some (x_704 - y_705)).bind fun z_728 => some (z_728, t_707)) fun x_700 t_702 => (atI v_entries_434 x_700).bind fun z_729 => some (z_729, t_702)) fun x_696 t_698 => bM ((some v_at_435).bind fun y_730 => some (y_730, t_698)) fun y_697 (t_699 : Tp) => (setP v_entries_434 y_697 x_696).bind fun v_entries_731 => bM (bM ((some (1 : Int)).bind fun y_738 => some (y_738, t_699)) fun x_734 t_736 => bM (bM (bM (((some v_entries_731).bind fun y_752 => some (List.length y_752 : Int)).bind fun y_753 => some (y_753, t_736)) fun x_748 t_750 => bM (some ((), t_750)) fun y_749 t_751 => some ((x_748, y_749), t_751)) fun (x_743 : Int × Unit) (t_745 : Tp) => M__law_take t_745 x_743.1) fun y_735 t_737 => (some (x_734 + y_735)).bind fun z_754 => some (z_754, t_737)) fun (v_split_732 : Int) (t_733 : Tp) => bM (((((some v_entries_731).bind fun y_756 => (some none).bind fun y_757 => ((some v_split_732).bind fun y_755 => some (some y_755)).bind fun y_758 => some (T.cut y_756 y_757 y_758)).bind fun y_765 => (((some v_entries_731).bind fun y_760 => ((some v_split_732).bind fun y_759 => some (some y_759)).bind fun y_761 => (some none).bind fun y_762 => some (T.cut y_760 y_761 y_762)).bind fun y_763 => (some []).bind fun y_764 => some (y_763 :: y_764)).bind fun y_766 => some (y_765 :: y_766)).bind lstP).bind fun y_769 => some (y_769, t_733)) fun r_770 t_771 => some (r_770, t_771)).bind fun r_929 => some (id r_929) else bM (bM (bM (bM ((some (2 : Int)).bind fun y_789 => some (y_789, t_453)) fun x_785 t_787 => bM (some ((), t_787)) fun y_786 t_788 => some ((x_785, y_786), t_788)) fun (x_780 : Int × Unit) (t_782 : Tp) => M__law_take t_782 x_780.1) fun x_772 t_774 => bM ((some (0 : Int)).bind fun y_790 => some (y_790, t_774)) fun y_773 t_775 => (some (decide (x_772 = y_773))).bind fun z_791 => some (z_791, t_775)) fun c_792 (t_793 : Tp) => if c_792 = true then (bM (bM (bM ((some ([] : (List Str))).bind fun y_839 => some (y_839, t_793)) fun x_835 t_837 => bM (bM (bM ((some v_entries_434).bind fun y_848 => some (y_848, t_837)) fun x_844 t_846 => bM (some ((none : Option Int), t_846)) fun y_845 t_847 => bM (bM (bM (bM ((((some v_entries_434).bind fun y_862 => some (List.length y_862 : Int)).bind fun y_863 => (some (1 : Int)).bind fun y_864 => some (y_863 + y_864)).bind fun y_865 => some (y_865, t_847)) fun x_858 t_860 => bM (some ((), t_860)) fun y_859 t_861 => some ((x_858, y_859), t_861)) fun (x_853 : Int × Unit) (t_855 : Tp) => M__law_take t_855 x_853.1) fun x_866 t_867 => some (some x_866, t_867)) fun z_868 t_869 => some (T.cut x_844 y_845 z_868, t_869)) fun x_840 t_842 => bM (some (([] : List (List Str)), t_842)) fun y_841 t_843 => some (x_840 :: y_841, t_843)) fun y_836 t_838 => some (x_835 :: y_836, t_838)) fun x_804 t_806 => (lstP x_804).bind fun z_870 => some (z_870, t_806)) fun r_871 t_872 => some (r_871, t_872)).bind fun r_928 => some (id r_928) else bM (bM (bM ((some (5 : Int)).bind fun y_888 => some (y_888, t_793)) fun x_884 t_886 => bM (some ((), t_886)) fun y_885 t_887 => some ((x_884, y_885), t_887)) fun (x_879 : Int × Unit) (t_881 : Tp) => M__law_entries t_881 x_879.1) fun (v_many_873 : (List Str)) (t_874 : Tp) => bM (bM ((some (1 : Int)).bind fun y_895 => some (y_895, t_874)) fun x_891 t_893 => bM (bM (bM ((some (5 : Int)).bind fun y_909 => some (y_909, t_893)) fun x_905 t_907 => bM (some ((), t_907)) fun y_906 t_908 => some ((x_905, y_906), t_908)) fun (x_900 : Int × Unit) (t_902 : Tp) => M__law_take t_902 x_900.1) fun y_892 t_894 => (some (x_891 + y_892)).bind fun z_910 => some (z_910, t_894)) fun (v_split_889 : Int) (t_890 : Tp) => bM (((((some v_many_873).bind fun y_912 => (some none).bind fun y_913 => ((some v_split_889).bind fun y_911 => some (some y_911)).bind fun y_914 => some (T.cut y_912 y_913 y_914)).bind fun y_921 => (((some v_many_873).bind fun y_916 => ((some v_split_889).bind fun y_915 => some (some y_915)).bind fun y_917 => (some none).bind fun y_918 => some (T.cut y_916 y_917 y_918)).bind fun y_919 => (some []).bind fun y_920 => some (y_919 :: y_920)).bind fun y_922 => some (y_921 :: y_922)).bind lstP).bind fun y_925 => some (y_925, t_890)) fun r_926 t_927 => some (r_926, t_927)
/-! ### law -/
def M_law (p_script : (List Int)) : Option Bool := (((some p_script).bind fun y_936 => (some ()).bind fun y_937 => some (y_936, y_937)).bind (fun a : (List Int) × Unit => M__law_tape a.1)).bind fun v_tape_935 => bM (bM (bM (bM ((some (1 : Int)).bind fun y_957 => some (y_957, v_tape_935)) fun x_953 t_955 => bM (bM (bM ((some (4 : Int)).bind fun y_971 => some (y_971, t_955)) fun x_967 t_969 => bM (some ((), t_969)) fun y_968 t_970 => some ((x_967, y_968), t_970)) fun (x_962 : Int × Unit) (t_964 : Tp) => M__law_take t_964 x_962.1) fun y_954 t_956 => (some (x_953 + y_954)).bind fun z_972 => some (z_972, t_956)) fun x_949 t_951 => bM (some ((), t_951)) fun y_950 t_952 => some ((x_949, y_950), t_952)) fun (x_944 : Int × Unit) (t_946 : Tp) => M__law_entries t_946 x_944.1) fun (v_entries_938 : (List Str)) (t_939 : Tp) => bM (bM ((some (1 : Int)).bind fun y_979 => some (y_979, t_939)) fun x_975 t_977 => bM (bM (bM (((some v_entries_938).bind fun y_993 => some (List.length y_993 : Int)).bind fun y_994 => some (y_994, t_977)) fun x_989 t_991 => bM (some ((), t_991)) fun y_990 t_992 => some ((x_989, y_990), t_992)) fun (x_984 : Int × Unit) (t_986 : Tp) => M__law_take t_986 x_984.1) fun y_976 t_978 => (some (x_975 + y_976)).bind fun z_995 => some (z_995, t_978)) fun (v_split_973 : Int) (t_974 : Tp) => bM (bM (((some (6 : Int)).bind fun y_998 => rngP 0 y_998).bind fun y_999 => some (y_999, t_974)) (lcCM (fun (_ : Int) (t_1003 : Tp) => some (true, t_1003)) (fun (v_turn_1001 : Int) (t_1002 : Tp) => bM (bM ((some v_entries_938).bind fun y_1017 => some (y_1017, t_1002)) fun x_1013 t_1015 => bM (bM ((some v_split_973).bind fun y_1022 => some (y_1022, t_1015)) fun x_1018 t_1020 => bM (some ((), t_1020)) fun y_1019 t_1021 => some ((x_1018, y_1019), t_1021)) fun y_1014 t_1016 => some ((x_1013, y_1014), t_1016)) fun (x_1008 : (List Str) × Int × Unit) (t_1010 : Tp) => M__law_spoilt t_1010 x_1008.1 x_1008.2.1))) fun (v_bads_996 : (List (List (List Str)))) (t_997 : Tp) => (some v_bads_996).bind fun y_1026 => (loopO (fun (s_1024 : Unit) (v_bad_1025 : (List (List Str))) => ((((((some v_bad_1025).bind fun y_1027 => (some (0 : Int)).bind fun y_1028 => atI y_1027 y_1028).bind fun y_1033 => (((some v_bad_1025).bind fun y_1029 => (some (1 : Int)).bind fun y_1030 => atI y_1029 y_1030).bind fun y_1031 => (some ()).bind fun y_1032 => some (y_1031, y_1032)).bind fun y_1034 => some (y_1033, y_1034)).bind (fun a : (List Str) × (List Str) × Unit => M__law_refused a.1 a.2.1)).bind fun y_1037 => some (!y_1037)).bind fun c_1040 => if c_1040 = true then ((some false).bind fun r_1038 => some r_1038).bind fun r_1039 => some (Fl.rt r_1039) else some (Fl.nx ()) : Option (Fl Bool Unit Unit))) () y_1026).bind (Lp.go (fun x => x) fun s_1024 : Unit => ((some v_entries_938).bind fun y_1043 => (some none).bind fun y_1044 => ((some v_split_973).bind fun y_1042 => some (some y_1042)).bind fun y_1045 => some (T.cut y_1043 y_1044 y_1045)).bind fun v_kinds_1041 => ((some v_entries_938).bind fun y_1048 => ((some v_split_973).bind fun y_1047 => some (some y_1047)).bind fun y_1049 => (some none).bind fun y_1050 => some (T.cut y_1048 y_1049 y_1050)).bind fun v_names_1046 => (((some v_kinds_1041).bind fun y_1054 => ((some v_names_1046).bind fun y_1052 => (some ()).bind fun y_1053 => some (y_1052, y_1053)).bind fun y_1055 => some (y_1054, y_1055)).bind (fun a : (List Str) × (List Str) × Unit => (M_Signature a.1 a.2.1).bind okR)).bind fun v_signature_1051 => (orO ((((some v_kinds_1041).bind fun y_1064 => (((some v_entries_938).bind fun y_1059 => (some none).bind fun y_1060 => ((some v_split_973).bind fun y_1058 => some (some y_1058)).bind fun y_1061 => some (T.cut y_1059 y_1060 y_1061)).bind fun y_1062 => (some ()).bind fun y_1063 => some (y_1062, y_1063)).bind fun y_1065 => some (y_1064, y_1065)).bind (fun a : (List Str) × (List Str) × Unit => M__law_is a.1 a.2.1)).bind fun y_1068 => some (!y_1068)) ((((some v_names_1046).bind fun y_1075 => (((some v_entries_938).bind fun y_1070 => ((some v_split_973).bind fun y_1069 => some (some y_1069)).bind fun y_1071 => (some none).bind fun y_1072 => some (T.cut y_1070 y_1071 y_1072)).bind fun y_1073 => (some ()).bind fun y_1074 => some (y_1073, y_1074)).bind fun y_1076 => some (y_1075, y_1076)).bind (fun a : (List Str) × (List Str) × Unit => M__law_is a.1 a.2.1)).bind fun y_1079 => some (!y_1079))).bind fun c_1165 => if c_1165 = true then ((some false).bind fun r_1080 => some r_1080).bind fun r_1164 => some (id r_1164) else (some ("zz" : Str)).bind fun y_1163 => (appP v_kinds_1041 y_1163).bind fun v_kinds_1081 => (fun (v_names_1082 : (List Str)) => (some ("y" : Str)).bind fun y_1159 => (some (0 : Int)).bind fun y_1160 => (setP v_kinds_1081 y_1160 y_1159).bind fun v_kinds_1083 => ((((some v_entries_938).bind fun y_1086 => (some none).bind fun y_1087 => ((some (1 : Int)).bind fun y_1085 => some (some y_1085)).bind fun y_1088 => some (T.cut y_1086 y_1087 y_1088)).bind fun y_1091 => ((some ([] : (List Str))).bind fun y_1089 => (some ()).bind fun y_1090 => some (y_1089, y_1090)).bind fun y_1092 => some (y_1091, y_1092)).bind (fun a : (List Str) × (List Str) × Unit => (M_Signature a.1 a.2.1).bind okR)).bind fun v_other_1084 => ((((((some v_bads_996).bind fun y_1095 => (some (0 : Int)).bind fun y_1096 => atI y_1095 y_1096).bind fun y_1097 => (some (0 : Int)).bind fun y_1098 => atI y_1097 y_1098).bind fun y_1105 => ((((some v_bads_996).bind fun y_1099 => (some (0 : Int)).bind fun y_1100 => atI y_1099 y_1100).bind fun y_1101 => (some (1 : Int)).bind fun y_1102 => atI y_1101 y_1102).bind fun y_1103 => (some ()).bind fun y_1104 => some (y_1103, y_1104)).bind fun y_1106 => some (y_1105, y_1106)).bind (fun a : (List Str) × (List Str) × Unit => M__law_refused a.1 a.2.1)).bind fun y_1109 => some (!y_1109)).bind fun c_1158 => if c_1158 = true then ((some false).bind fun r_1110 => some r_1110).bind fun r_1157 => some (id r_1157) else (orO (((((some v_other_1084).bind fun y_1111 => some y_1111.kinds).bind fun y_1118 => (((some v_entries_938).bind fun y_1113 => (some none).bind fun y_1114 => ((some (1 : Int)).bind fun y_1112 => some (some y_1112)).bind fun y_1115 => some (T.cut y_1113 y_1114 y_1115)).bind fun y_1116 => (some ()).bind fun y_1117 => some (y_1116, y_1117)).bind fun y_1119 => some (y_1118, y_1119)).bind (fun a : (List Str) × (List Str) × Unit => M__law_is a.1 a.2.1)).bind fun y_1122 => some (!y_1122)) (((((some v_other_1084).bind fun y_1123 => some y_1123.names).bind fun y_1126 => ((some ([] : (List Str))).bind fun y_1124 => (some ()).bind fun y_1125 => some (y_1124, y_1125)).bind fun y_1127 => some (y_1126, y_1127)).bind (fun a : (List Str) × (List Str) × Unit => M__law_is a.1 a.2.1)).bind fun y_1130 => some (!y_1130))).bind fun c_1156 => if c_1156 = true then ((some false).bind fun r_1131 => some r_1131).bind fun r_1155 => some (id r_1155) else (andO ((((some v_signature_1051).bind fun y_1132 => some y_1132.kinds).bind fun y_1139 => (((some v_entries_938).bind fun y_1134 => (some none).bind fun y_1135 => ((some v_split_973).bind fun y_1133 => some (some y_1133)).bind fun y_1136 => some (T.cut y_1134 y_1135 y_1136)).bind fun y_1137 => (some ()).bind fun y_1138 => some (y_1137, y_1138)).bind fun y_1140 => some (y_1139, y_1140)).bind (fun a : (List Str) × (List Str) × Unit => M__law_is a.1 a.2.1)) ((((some v_signature_1051).bind fun y_1143 => some y_1143.names).bind fun y_1150 => (((some v_entries_938).bind fun y_1145 => ((some v_split_973).bind fun y_1144 => some (some y_1144)).bind fun y_1146 => (some none).bind fun y_1147 => some (T.cut y_1145 y_1146 y_1147)).bind fun y_1148 => (some ()).bind fun y_1149 => some (y_1148, y_1149)).bind fun y_1151 => some (y_1150, y_1151)).bind (fun a : (List Str) × (List Str) × Unit => M__law_is a.1 a.2.1))).bind fun r_1154 => some r_1154) ([] : (List Str)))
end K41

set_option Elab.async false
set_option linter.all false
set_option maxRecDepth 100000
set_option maxHeartbeats 8000000
namespace K41
open PySem PySem.Spec PyProof.Rows L2 T
def top (i : Nat) : Stmt := PySem.Challenge.pw_saidback_k41_signature.main.body.getD i (.Pass ⟨0, 0, 0, 0⟩)
variable [Tabs]
abbrev s_is_name : Stmt := top 7
abbrev s_Signature : Stmt := inClass (top 10) 0
abbrev s__law_tape : Stmt := top 12
abbrev s__law_take : Stmt := top 13
abbrev s__law_any : Stmt := top 14
abbrev s__law_name : Stmt := top 15
abbrev s__law_entries : Stmt := top 16
abbrev s__law_is : Stmt := top 17
abbrev s__law_refused : Stmt := top 18
abbrev s__law_spoilt : Stmt := top 19
abbrev s_law : Stmt := top 20

structure Zs (K : PySem.W.Frag) (w : World) (mg : Str → Option Value) : Prop where
  z_ValueError : mg "ValueError" = none
  z_abs : mg "abs" = none
  z_all : mg "all" = none
  z_int : mg "int" = none
  z_isinstance : mg "isinstance" = none
  z_len : mg "len" = none
  z_list : mg "list" = none
  z_max : mg "max" = none
  z_range : mg "range" = none
  z_set : mg "set" = none
  z_str : mg "str" = none
  e0_BadSignature : Er0 K mg "BadSignature"
  cl_Signature : Cls K (Tabs.cls "Signature")
  no_Signature_kinds : NoAttr K (Tabs.cls "Signature") "kinds"
  no_Signature_names : NoAttr K (Tabs.cls "Signature") "names"
  xm_BadSignature : ∀ c, c ∈ [("BadSignature" : Str)] → PySem.W.exmOne K (.ref (Tabs.cls c)) (.ref (Tabs.cls "BadSignature")) = some true
  mc_BadSignature : mg "BadSignature" = some (.ref (Tabs.cls "BadSignature"))
  eq : ∀ c ∈ [("BadSignature" : Str)], ErQ K c
  q_BadWorld : ∀ c ∈ [("BadSignature" : Str)], PySem.W.kitOne K (.ref (Tabs.cls c)) (.ref (Tabs.cls "BadWorld")) = some (decide (c ∈ []))
  mc_BadWorld : mg "BadWorld" = some (.ref (Tabs.cls "BadWorld"))
  q_NoSuch : ∀ c ∈ [("BadSignature" : Str)], PySem.W.kitOne K (.ref (Tabs.cls c)) (.ref (Tabs.cls "NoSuch")) = some (decide (c ∈ []))
  mc_NoSuch : mg "NoSuch" = some (.ref (Tabs.cls "NoSuch"))
  q_TooMany : ∀ c ∈ [("BadSignature" : Str)], PySem.W.kitOne K (.ref (Tabs.cls c)) (.ref (Tabs.cls "TooMany")) = some (decide (c ∈ []))
  mc_TooMany : mg "TooMany" = some (.ref (Tabs.cls "TooMany"))
  q_SaidError : ∀ c ∈ [("BadSignature" : Str)], PySem.W.kitOne K (.ref (Tabs.cls c)) (.ref (Tabs.cls "SaidError")) = some (decide (c ∈ [("BadSignature" : Str)]))
  mc_SaidError : mg "SaidError" = some (.ref (Tabs.cls "SaidError"))
  q_ValueError : ∀ c ∈ [("BadSignature" : Str)], PySem.W.kitOne K (.ref (Tabs.cls c)) (.type "ValueError") = some (decide (c ∈ [("BadSignature" : Str)]))
  c_MOST_SORTS : Gc K mg "MOST_SORTS" (em C_MOST_SORTS)
section
variable {P : Program} {w : World} {K : PySem.W.Frag} {mg : Str → Option Value} {base : Heap}
theorem ok_is_name {f : Addr} {fd : FuncData} {c Pt : Addr} (F : FunT K "is_name" "is_name" s_is_name f fd c) (hT : Tabs.tab Pt) (TB : GxR.TabB base mg c Pt) (Z : Zs K w mg) : FnOk P w K mg base CX0 1 f fd ["text"] (spF K (fun a : Str × Unit => [.dat (em a.1)]) (fun a : Str × Unit => M_is_name a.1) fun x : Bool => .dat (em x)) :=
  fn_mkT (N := ["text", "sign"]) F ⟨rfl, rfl, rfl, by decide +kernel, rfl, by decide +kernel, by decide +kernel⟩ 1 rfl (fun _ => rfl) fun X C hcode eb em2 _ _ ⟨p_text, _⟩ => (g_ret (φ := fun x => x) (x_and (x_chI op_le op_le x_int (x_lenS C (x_var C 0) Z.z_len) x_int) (x_one (x_allS C (x_var C 0) hT (by rw [eb, em2]; exact TB) hcode gens_of (elt_btw rfl (by decide +kernel)) Z.z_all))) (fun _ _ _ _ z => z.1))
theorem ok_Signature {f : Addr} {fd : FuncData} (F : Fun K "__init__" "Signature.__init__" s_Signature f fd) (Z : Zs K w mg) {f_is_name : Addr} {fd_is_name : FuncData} (D_is_name : Df P w K mg base 1 "is_name" f_is_name fd_is_name ["text"] (spF K (fun a : Str × Unit => [.dat (em a.1)]) (fun a : Str × Unit => M_is_name a.1) fun x : Bool => .dat (em x))) : FnOk P w K mg base (L2.CX P w) 2 f fd ["self", "kinds", "names"] (spI K "Signature" (fun a : (List Str) × (List Str) × Unit => [.bor (List.map em a.1), .bor (List.map em a.2.1)]) (fun a : (List Str) × (List Str) × Unit => M_Signature a.1 a.2.1) fun x : C_Signature => em x) :=
  fn_mkI (N := ["self", "kinds", "names", "sorts", "name"]) F ⟨rfl, rfl, rfl, by decide +kernel, rfl, by decide +kernel, by decide +kernel⟩ 2 rfl (fun _ => rfl) fun X E C tk sx sdx ⟨p_kinds, p_names, _⟩ => (g_setL C 3 (l_cat (q_l (l_copy C (q_bor C 1) Z.z_list)) (q_l (l_copy C (q_bor C 2) Z.z_list))) (fun v_sorts_4 => (g_ifX (φ := Rs.er) (t_w (w_or (t_not (t_truQ (q_bor C 1))) (w_or (t_gt (x_lenQ C (q_own C 3) Z.z_len) (x_gc C Z.c_MOST_SORTS)) (w_or1 (t_lt (x_lenSet C (q_own C 3) Z.z_len Z.z_set) (x_lenQ C (q_own C 3) Z.z_len)))))) (g_raise0 (φ := fun e : Ex => e) C tk Z.e0_BadSignature hz_re) early_i (g_freeze 3 rfl <| g_forF (envL := fun s_16 : Unit => [.slf sx sdx "Signature" [], .bor (List.map em (p_kinds : (List Str))), .bor (List.map em (p_names : (List Str))), .dat (em (v_sorts_4 : (List Str))), .any]) (res := fun e : Ex => RV.er e E) (φ := Rs.er) C (w_x (x_var C 3)) (fun s_16 => (gt_name C 4)) (.same (.same (.same (.same (.same .nil))))) (fun s_16 v_name_17 => (g_ifX (φ := Fl.rt) (t_not (t_x (x_callD C D_is_name (a_dat (x_var C 4) a_nil)))) (g_raise0 (φ := fun e : Ex => e) C tk Z.e0_BadSignature hz_re) early_rf (g_nilF (.same (.same (.same (.same (.drop .nil)))))))) (fun _ _ _ _ z => z) (fun s_16 => (g_fld (x := sx) (dx := sdx) (c := "Signature") (fs := []) (ns := []) C 0 (x_l (l_copy C (q_bor C 1) Z.z_list)) Z.cl_Signature Z.no_Signature_kinds (fun f_kinds_25 => (g_fld (x := sx) (dx := sdx) (c := "Signature") (fs := [("kinds", em f_kinds_25)]) (ns := ["kinds"]) C 0 (x_l (l_copy C (q_bor C 2) Z.z_list)) Z.cl_Signature Z.no_Signature_names (fun f_names_26 => (g_nilI (x := sx) (dx := sdx) (c := "Signature") (fs := [("kinds", em f_kinds_25), ("names", em f_names_26)]) 0))))))))))
theorem ok__law_tape {f : Addr} {fd : FuncData} (F : Fun K "_law_tape" "_law_tape" s__law_tape f fd) (Z : Zs K w mg) : FnOk P w K mg base CX0 1 f fd ["script"] (spF K (fun a : (List Int) × Unit => [.bor (List.map em a.1)]) (fun a : (List Int) × Unit => M__law_tape a.1) fun x : Tp => .tape x) :=
  fn_mk (N := ["script", "cells", "digits", "cell"]) F ⟨rfl, rfl, rfl, by decide +kernel, rfl, by decide +kernel, by decide +kernel⟩ 3 rfl (fun _ => rfl) fun X C ⟨p_script, _⟩ => (g_setLc (own := [("cell", 3)]) (envC := [.bor (List.map em (p_script : (List Int))), .any, .any, .any]) C 1 (w_bor C 0) (lcP_no (fun X_35 C_31 => (gt_name C_31 3)) (fun X_35 C_31 v_cell_32 => (x_abs C_31 (x_intI C_31 (x_var C_31 3) Z.z_int) Z.z_abs))) (by decide +kernel) (ownS rfl own0) (.same (.same (.same (.same .nil)))) (by decide) (hr := fun v_cells_30 => (g_ifJ (envJ := fun s_40 : (List Int) => [.bor (List.map em (p_script : (List Int))), .own (List.map em (s_40 : (List Int))), .any, .any]) (t_eq (x_lenQ C (q_own C 1) Z.z_len) x_int) (g_setL C 1 (l_lst (i_cons x_int i_nil)) (fun v_cells_41 => (g_nil (.same (.same (.same (.same .nil))))))) (g_nil (.same (.same (.same (.same .nil))))) (fun s_40 => (g_freeze 1 rfl (g_setLc (own := [("cell", 3)]) (envC := [.bor (List.map em (p_script : (List Int))), .dat (em (s_40 : (List Int))), .any, .any]) C 2 (w_x (x_var C 1)) (lcP_no (fun X_53 C_47 => (gt_name C_47 3)) (fun X_53 C_47 v_cell_48 => (x_max2 C_47 x_int (x_sub (x_var C_47 3) (x_powC)) Z.z_max))) (by decide +kernel) (ownS rfl own0) (.same (.same (.same (.same .nil)))) (by decide) (hr := fun v_digits_46 => (g_retTape (φ := fun x => x) C 2 (lc_gen (own := [("cell", 3)]) (envC := [.bor (List.map em (p_script : (List Int))), .dat (em (s_40 : (List Int))), .own (List.map em (v_digits_46 : (List Int))), .any]) C (w_x (x_var C 1)) (lcP_no (fun X_59 C_55 => (gt_name C_55 3)) (fun X_59 C_55 v_cell_56 => (x_modC (x_intI C_55 (x_var C_55 3) Z.z_int)))) (by decide +kernel) (ownS rfl own0) (.same (.same (.same (.same .nil)))) (by decide)) (fun _ _ _ _ z => z.1)))))))))
theorem ok__law_take {f : Addr} {fd : FuncData} (F : Fun K "_law_take" "_law_take" s__law_take f fd) (Z : Zs K w mg) : FnOk P w K mg base CX0 1 f fd ["tape", "many"] (spT K (fun a : Int × Unit => [.dat (em a.1)]) (fun (a : Int × Unit) (t : Tp) => M__law_take t a.1) fun x : Int => em x) :=
  fn_mkT0 (N := ["tape", "many", "count", "digits", "seeds", "at", "value"]) F ⟨rfl, rfl, rfl, by decide +kernel, rfl, by decide +kernel, by decide +kernel⟩ 5 rfl (fun _ => rfl) fun X C tP tD tS p_tape ⟨p_many, _⟩ => (g_set C 2 (x_tp0 (ap := tP) (ad := tD) (as := tS) (t := p_tape) C 0) (fun v_count_63 => (g_tpc (ap := tP) (ad := tD) (as := tS) (t := p_tape) C 0 (x_add (x_var C 2) x_int) (fun c_66 => (g_tpd (ap := tP) (ad := tD) (as := tS) (t := (⟨c_66, p_tape.ds, p_tape.ss⟩ : Tp)) C 3 0 (g_tps (ap := tP) (ad := tD) (as := tS) (t := (⟨c_66, p_tape.ds, p_tape.ss⟩ : Tp)) C 4 0 (g_set C 5 (x_mod (x_var C 2) (x_lenQ C (q_td (ap := tP) (ad := tD) (as := tS) (t := (⟨c_66, p_tape.ds, p_tape.ss⟩ : Tp)) C 3 0) Z.z_len)) (fun v_at_69 => (g_ifX (φ := id) (t_gt (x_ixQ (q_td (ap := tP) (ad := tD) (as := tS) (t := (⟨c_66, p_tape.ds, p_tape.ss⟩ : Tp)) C 3 0) (x_var C 5)) x_int) (g_set C 6 (x_mod (x_ixQ (q_td (ap := tP) (ad := tD) (as := tS) (t := (⟨c_66, p_tape.ds, p_tape.ss⟩ : Tp)) C 3 0) (x_var C 5)) (x_var C 1)) (fun v_value_77 => (g_tdSet (ap := tP) (ad := tD) (as := tS) (t := (⟨c_66, p_tape.ds, p_tape.ss⟩ : Tp)) C 3 0 (x_divW (x_ixQ (q_td (ap := tP) (ad := tD) (as := tS) (t := (⟨c_66, p_tape.ds, p_tape.ss⟩ : Tp)) C 3 0) (x_var C 5)) (x_var C 1)) (x_var C 5) (fun d_86 => (g_retT (jt := 0) (ap := tP) (ad := tD) (as := tS) (t := (⟨((⟨c_66, p_tape.ds, p_tape.ss⟩ : Tp)).c, d_86, ((⟨c_66, p_tape.ds, p_tape.ss⟩ : Tp)).ss⟩ : Tp)) (φ := fun x => x) (m_x (x_var C 6)) (fun _ _ _ _ z => z)))))) early_rn (g_set C 6 (x_modC (x_intI C (x_add (x_add (x_mulCr (x_ixQ (q_ts (ap := tP) (ad := tD) (as := tS) (t := (⟨c_66, p_tape.ds, p_tape.ss⟩ : Tp)) C 4 0) (x_var C 5))) (x_mulCr (x_var C 2))) x_int) Z.z_int)) (fun v_value_92 => (g_set C 6 (x_modC (x_intI C (x_add (x_mul (x_var C 6) (x_add (x_modC (x_var C 6)) x_int)) (x_var C 2)) Z.z_int)) (fun v_value_103 => (g_retT (jt := 0) (ap := tP) (ad := tD) (as := tS) (t := (⟨c_66, p_tape.ds, p_tape.ss⟩ : Tp)) (φ := fun x => x) (m_x (x_mod (x_var C 6) (x_var C 1))) (fun _ _ _ _ z => z.1)))))))))))))))
theorem ok__law_any {f : Addr} {fd : FuncData} (F : Fun K "_law_any" "_law_any" s__law_any f fd) (Z : Zs K w mg) {f__law_take : Addr} {fd__law_take : FuncData} (D__law_take : Df P w K mg base 1 "_law_take" f__law_take fd__law_take ["tape", "many"] (spT K (fun a : Int × Unit => [.dat (em a.1)]) (fun (a : Int × Unit) (t : Tp) => M__law_take t a.1) fun x : Int => em x)) : FnOk P w K mg base CX0 2 f fd ["tape", "rows"] (spT K (fun a : (List (List (List Str))) × Unit => [.dat (em a.1)]) (fun (a : (List (List (List Str))) × Unit) (t : Tp) => M__law_any t a.1) fun x : (List (List Str)) => em x) :=
  fn_mkT0 (N := ["tape", "rows"]) F ⟨rfl, rfl, rfl, by decide +kernel, rfl, by decide +kernel, by decide +kernel⟩ 0 rfl (fun _ => rfl) fun X C tP tD tS p_tape ⟨p_rows, _⟩ => (g_retT (jt := 0) (ap := tP) (ad := tD) (as := tS) (t := p_tape) (φ := fun x => x) (m_ixL (m_x (x_var C 1)) (fun t_122 => (m_callT (jt := 0) C D__law_take (mb_dat (m_x (x_lenQ C (q_x (x_var C 1)) Z.z_len)) (fun t_136 => mb_nil))))) (fun _ _ _ _ z => z.1))
theorem ok__law_name {f : Addr} {fd : FuncData} (F : Fun K "_law_name" "_law_name" s__law_name f fd) (Z : Zs K w mg) {f__law_take : Addr} {fd__law_take : FuncData} (D__law_take : Df P w K mg base 1 "_law_take" f__law_take fd__law_take ["tape", "many"] (spT K (fun a : Int × Unit => [.dat (em a.1)]) (fun (a : Int × Unit) (t : Tp) => M__law_take t a.1) fun x : Int => em x)) : FnOk P w K mg base CX0 2 f fd ["tape"] (spT K (fun a : Unit => []) (fun (a : Unit) (t : Tp) => M__law_name t) fun x : Str => em x) :=
  fn_mkT0 (N := ["tape", "letters", "long", "k"]) F ⟨rfl, rfl, rfl, by decide +kernel, rfl, by decide +kernel, by decide +kernel⟩ 3 rfl (fun _ => rfl) fun X C tP tD tS p_tape _ => (g_set C 1 x_str (fun v_letters_143 => (g_setM (jt := 0) (ap := tP) (ad := tD) (as := tS) (t := p_tape) C 2 (m_bin bin_add (m_x x_int) (fun t_148 => (m_callT (jt := 0) C D__law_take (mb_dat (m_x x_int) (fun t_162 => mb_nil))))) (fun v_long_144 t_145 => (g_ifJM (jt := 0) (ap := tP) (ad := tD) (as := tS) (t := t_145) (envJ := fun s_188 : (Tp × Int) => [.tp tP tD tS s_188.1, .dat (em (v_letters_143 : Str)), .dat (em (s_188.2 : Int)), .any]) (mt_cmp cmp_eq (m_callT (jt := 0) C D__law_take (mb_dat (m_x x_int) (fun t_181 => mb_nil))) (fun t_168 => (m_x x_int))) (fun t_187 => (g_set C 2 x_int (fun v_long_189 => (g_nil (.same (.same (.same (.same .nil)))))))) (fun t_187 => (g_nil (.same (.same (.same (.same .nil)))))) (fun s_188 => (g_retT (jt := 0) (ap := tP) (ad := tD) (as := tS) (t := s_188.1) (φ := fun x => x) (m_join (m_x x_str) (fun t_196 => (m_l (ml_lc (own := [("k", 3)]) (envC := [.any, .dat (em (v_letters_143 : Str)), .dat (em (s_188.2 : Int)), .any]) (envY := fun v_k_207 : Int => [.any, .dat (em (v_letters_143 : Str)), .dat (em (s_188.2 : Int)), .dat (em (v_k_207 : Int))]) C (mw_w (w_rng1 C (x_var C 2) Z.z_range)) (lcPM_no (fun X_230 C_206 _ => (gt_name C_206 3)) (fun X_230 C_206 t_208 v_k_207 => (m_ixS (m_x (x_var C_206 1)) (fun t_212 => (m_callT (jt := 0) C_206 D__law_take (mb_dat (m_x x_int) (fun t_226 => mb_nil))))))) (by decide +kernel) (fun _ => (ownS rfl own0)) (fun _ => (.same (.same (.same (.same .nil))))) (by decide) (ltB rfl) (fun _ => ltB rfl) (by decide))))) (fun _ _ _ _ z => z.1))))))))
theorem ok__law_entries {f : Addr} {fd : FuncData} (F : Fun K "_law_entries" "_law_entries" s__law_entries f fd) (Z : Zs K w mg) {f__law_name : Addr} {fd__law_name : FuncData} (D__law_name : Df P w K mg base 2 "_law_name" f__law_name fd__law_name ["tape"] (spT K (fun a : Unit => []) (fun (a : Unit) (t : Tp) => M__law_name t) fun x : Str => em x)) {f__law_take : Addr} {fd__law_take : FuncData} (D__law_take : Df P w K mg base 1 "_law_take" f__law_take fd__law_take ["tape", "many"] (spT K (fun a : Int × Unit => [.dat (em a.1)]) (fun (a : Int × Unit) (t : Tp) => M__law_take t a.1) fun x : Int => em x)) : FnOk P w K mg base CX0 3 f fd ["tape", "many"] (spT K (fun a : Int × Unit => [.dat (em a.1)]) (fun (a : Int × Unit) (t : Tp) => M__law_entries t a.1) fun x : (List Str) => em x) :=
  fn_mkT0 (N := ["tape", "many", "found", "k", "name"]) F ⟨rfl, rfl, rfl, by decide +kernel, rfl, by decide +kernel, by decide +kernel⟩ 3 rfl (fun _ => rfl) fun X C tP tD tS p_tape ⟨p_many, _⟩ => (g_setL C 2 l_nil (fun v_found_234 => (g_for (envL := fun s_236 : (Tp × (List Str)) => [.tp tP tD tS s_236.1, .dat (em (p_many : Int)), .own (List.map em (s_236.2 : (List Str))), .any, .any]) C (w_rng1 C (x_var C 1) Z.z_range) (fun s_236 => (gt_name C 3)) (.same (.same (.same (.same (.same .nil))))) (fun s_236 v_k_237 => (g_setM (jt := 0) (ap := tP) (ad := tD) (as := tS) (t := s_236.1) C 4 (m_callT (jt := 0) C D__law_name mb_nil) (fun v_name_239 t_240 => (g_ifJM (jt := 0) (ap := tP) (ad := tD) (as := tS) (t := t_240) (envJ := fun s_285 : (Tp × Str) => [.tp tP tD tS s_285.1, .dat (em (p_many : Int)), .own (List.map em (s_236.2 : (List Str))), .dat (em (v_k_237 : Int)), .dat (em (s_285.2 : Str))]) (mt_w (mw_and (mt_t (t_gt (x_var C 3) x_int)) (fun t_253 => (mw_and (mt_cmp cmp_eq (m_callT (jt := 0) C D__law_take (mb_dat (m_x x_int) (fun t_269 => mb_nil))) (fun t_256 => (m_x x_int))) (fun t_274 => (mw_and1 (mt_t (t_lt (x_lenS C (x_ixQ (q_own C 2) (x_sub (x_var C 3) x_int)) Z.z_len) x_int)))))))) (fun t_284 => (g_set C 4 (x_addS (x_ixQ (q_own C 2) (x_sub (x_var C 3) x_int)) (x_cutS (x_var C 4) o_none (o_some x_int))) (fun v_name_286 => (g_nil (.same (.same (.same (.same (.same .nil))))))))) (fun t_284 => (g_nil (.same (.same (.same (.same (.same .nil))))))) (fun s_285 => (g_ifJ (envJ := fun s_299 : Str => [.tp tP tD tS s_285.1, .dat (em (p_many : Int)), .own (List.map em (s_236.2 : (List Str))), .dat (em (v_k_237 : Int)), .dat (em (s_299 : Str))]) (t_inQ (x_var C 4) (q_own C 2)) (g_set C 4 (x_ixQ (q_l (l_lst (i_cons x_str (i_cons x_str (i_cons x_str (i_cons x_str (i_cons x_str i_nil))))))) (x_var C 3)) (fun v_name_300 => (g_nil (.same (.same (.same (.same (.same .nil)))))))) (g_nil (.same (.same (.same (.same (.same .nil)))))) (fun s_299 => (g_ifJ (envJ := fun s_320 : Str => [.tp tP tD tS s_285.1, .dat (em (p_many : Int)), .own (List.map em (s_236.2 : (List Str))), .dat (em (v_k_237 : Int)), .dat (em (s_320 : Str))]) (t_inQ (x_var C 4) (q_own C 2)) (g_set C 4 (x_cutS x_str o_none (o_some (x_add x_int (x_var C 3)))) (fun v_name_321 => (g_nil (.same (.same (.same (.same (.same .nil)))))))) (g_nil (.same (.same (.same (.same (.same .nil)))))) (fun s_320 => (g_ifJ (envJ := fun s_330 : Str => [.tp tP tD tS s_285.1, .dat (em (p_many : Int)), .own (List.map em (s_236.2 : (List Str))), .dat (em (v_k_237 : Int)), .dat (em (s_330 : Str))]) (t_inQ (x_var C 4) (q_own C 2)) (g_set C 4 (x_addS (x_ixS x_str (x_var C 3)) (x_var C 4)) (fun v_name_331 => (g_nil (.same (.same (.same (.same (.same .nil)))))))) (g_nil (.same (.same (.same (.same (.same .nil)))))) (fun s_330 => (g_append C 2 (x_var C 4) (fun v_found_336 => (g_nil (.same (.same (.same (.drop (.drop .nil))))))))))))))))))) (fun s_236 => (g_freeze 2 rfl (g_retT (jt := 0) (ap := tP) (ad := tD) (as := tS) (t := s_236.1) (φ := fun x => x) (m_x (x_var C 2)) (fun _ _ _ _ z => z.1)))))))
theorem ok__law_is {f : Addr} {fd : FuncData} (F : Fun K "_law_is" "_law_is" s__law_is f fd) (Z : Zs K w mg) : FnOk P w K mg base CX0 1 f fd ["actual", "due"] (spF K (fun a : (List Str) × (List Str) × Unit => [.bor (List.map em a.1), .bor (List.map em a.2.1)]) (fun a : (List Str) × (List Str) × Unit => M__law_is a.1 a.2.1) fun x : Bool => .dat (em x)) :=
  fn_mk (N := ["actual", "due", "k"]) F ⟨rfl, rfl, rfl, by decide +kernel, rfl, by decide +kernel, by decide +kernel⟩ 1 rfl (fun _ => rfl) fun X C ⟨p_actual, p_due, _⟩ => (g_ifX (φ := id) (t_w (w_or (t_not (t_x (x_isiL C (q_bor C 0) Z.z_isinstance Z.z_list))) (w_or1 (t_ne (x_lenQ C (q_bor C 0) Z.z_len) (x_lenQ C (q_bor C 1) Z.z_len))))) (g_ret (φ := fun x => x) x_bl (fun _ _ _ _ z => z)) early_rn (g_ret (φ := fun x => x) (x_allQ C (q_l (lc_gen (own := [("k", 2)]) (envC := [.bor (List.map em (p_actual : (List Str))), .bor (List.map em (p_due : (List Str))), .any]) C (w_rng1 C (x_lenQ C (q_bor C 1) Z.z_len) Z.z_range) (lcP_no (fun X_365 C_354 => (gt_name C_354 2)) (fun X_365 C_354 v_k_355 => (x_and (x_isi C_354 (x_ixQ (q_bor C_354 0) (x_var C_354 2)) kit_str Z.z_isinstance Z.z_str) (x_one (x_eq (x_ixQ (q_bor C_354 0) (x_var C_354 2)) (x_ixQ (q_bor C_354 1) (x_var C_354 2))))))) (by decide +kernel) (ownS rfl own0) (.same (.same (.same .nil))) (by decide))) Z.z_all) (fun _ _ _ _ z => z.1)))
theorem ok__law_refused {f : Addr} {fd : FuncData} (F : Fun K "_law_refused" "_law_refused" s__law_refused f fd) (Z : Zs K w mg) (D_Signature : DfI P w K mg base 2 "Signature" ["self", "kinds", "names"] (spI K "Signature" (fun a : (List Str) × (List Str) × Unit => [.bor (List.map em a.1), .bor (List.map em a.2.1)]) (fun a : (List Str) × (List Str) × Unit => M_Signature a.1 a.2.1) fun x : C_Signature => em x)) : FnOk P w K mg base CX0 4 f fd ["kinds", "names"] (spF K (fun a : (List Str) × (List Str) × Unit => [.dat (em a.1), .dat (em a.2.1)]) (fun a : (List Str) × (List Str) × Unit => M__law_refused a.1 a.2.1) fun x : Bool => .dat (em x)) :=
  fn_mkF (N := ["kinds", "names", "before", "e"]) F ⟨rfl, rfl, rfl, by decide +kernel, rfl, by decide +kernel, by decide +kernel⟩ 2 rfl (fun _ => rfl) fun X C Fr ⟨p_kinds, p_names, _⟩ => (g_setL C 2 (l_lst (i_cons (x_l (l_copy C (q_x (x_var C 0)) Z.z_list)) (i_cons (x_l (l_copy C (q_x (x_var C 1)) Z.z_list)) i_nil))) (fun v_before_371 => (g_freeze 2 rfl (g_try (res := fun x : Bool => .dat (em x)) (envT := [.dat (em (p_kinds : (List Str))), .dat (em (p_names : (List Str))), .dat (em (v_before_371 : (List (List Str)))), .any]) (envJ := fun s_403 : Unit => [.dat (em (p_kinds : (List Str))), .dat (em (p_names : (List Str))), .dat (em (v_before_371 : (List (List Str)))), .any]) (φ := fun x => x) (m2 := (fun ex_415 : Ex => if ex_415.c ∈ [("BadSignature" : Str)] then ((orO ((if ex_415.c ∈ [("BadSignature" : Str)] then some (decide (ex_415.c ∈ [])) else none)) (orO ((if ex_415.c ∈ [("BadSignature" : Str)] then some (decide (ex_415.c ∈ [])) else none)) ((if ex_415.c ∈ [("BadSignature" : Str)] then some (decide (ex_415.c ∈ [])) else none)))).bind fun c_432 => if c_432 = true then ((some false).bind fun r_421 => some r_421).bind fun r_431 => some (Ty.rt r_431) else (andO ((if ex_415.c ∈ [("BadSignature" : Str)] then some (decide (ex_415.c ∈ [("BadSignature" : Str)])) else none)) (andO ((if ex_415.c ∈ [("BadSignature" : Str)] then some (decide (ex_415.c ∈ [("BadSignature" : Str)])) else none)) ((((some p_kinds).bind fun y_424 => ((some p_names).bind fun y_422 => (some []).bind fun y_423 => some (y_422 :: y_423)).bind fun y_425 => some (y_424 :: y_425)).bind lstP).bind fun y_428 => (some v_before_371).bind fun y_429 => eqP (em y_428) (em y_429)))).bind fun r_430 => some (Ty.rt r_430) : Option (Ty Bool Unit)) else none)) C Fr 3 (fun X_404 Wx_405 C_406 tk_407 => (g_exprR (φ := Ty.er) (xr_make C_406 tk_407 D_Signature (a_bor (q_x (x_var C_406 0)) (a_bor (q_x (x_var C_406 1)) a_nil))) (hz_ty (.same (.same (.same (.same .nil))))) (fun u_414 => (g_nilT (.same (.same (.same (.same .nil)))))))) Z.mc_BadSignature (fun e h => Z.xm_BadSignature e.c (inL h)) (fun X_420 a_416 cls_417 d_418 C_419 ex_415 => g_onlyIn fun _ => (g_ifX (φ := Ty.rt) (t_w (w_or (t_x (xs_isE C_419 3 (hq_of Z.eq Z.q_BadWorld) Z.mc_BadWorld Z.z_isinstance)) (w_or (t_x (xs_isE C_419 3 (hq_of Z.eq Z.q_NoSuch) Z.mc_NoSuch Z.z_isinstance)) (w_or1 (t_x (xs_isE C_419 3 (hq_of Z.eq Z.q_TooMany) Z.mc_TooMany Z.z_isinstance)))))) (g_ret (φ := fun x => x) x_bl (fun _ _ _ _ z => z)) early_t (g_ret (φ := Ty.rt) (x_and (xs_isE C_419 3 (hq_of Z.eq Z.q_SaidError) Z.mc_SaidError Z.z_isinstance) (x_and (xs_isB C_419 3 (hq_of Z.eq Z.q_ValueError) Z.z_ValueError Z.z_isinstance) (x_one (xs_eqP C_419 (x_l (l_lst (i_cons (xs_var C_419 0) (i_cons (xs_var C_419 1) i_nil)))) (xs_var C_419 2))))) (fun _ _ _ _ z => z)))) (fun _ _ _ _ z => z.1) (fun s_403 => (g_ret (φ := fun x => x) x_bl (fun _ _ _ _ z => z.1)))))))
theorem ok__law_spoilt {f : Addr} {fd : FuncData} (F : Fun K "_law_spoilt" "_law_spoilt" s__law_spoilt f fd) (Z : Zs K w mg) {f__law_any : Addr} {fd__law_any : FuncData} (D__law_any : Df P w K mg base 2 "_law_any" f__law_any fd__law_any ["tape", "rows"] (spT K (fun a : (List (List (List Str))) × Unit => [.dat (em a.1)]) (fun (a : (List (List (List Str))) × Unit) (t : Tp) => M__law_any t a.1) fun x : (List (List Str)) => em x)) {f__law_entries : Addr} {fd__law_entries : FuncData} (D__law_entries : Df P w K mg base 3 "_law_entries" f__law_entries fd__law_entries ["tape", "many"] (spT K (fun a : Int × Unit => [.dat (em a.1)]) (fun (a : Int × Unit) (t : Tp) => M__law_entries t a.1) fun x : (List Str) => em x)) {f__law_take : Addr} {fd__law_take : FuncData} (D__law_take : Df P w K mg base 1 "_law_take" f__law_take fd__law_take ["tape", "many"] (spT K (fun a : Int × Unit => [.dat (em a.1)]) (fun (a : Int × Unit) (t : Tp) => M__law_take t a.1) fun x : Int => em x)) : FnOk P w K mg base CX0 4 f fd ["tape", "entries", "split"] (spT K (fun a : (List Str) × Int × Unit => [.dat (em a.1), .dat (em a.2.1)]) (fun (a : (List Str) × Int × Unit) (t : Tp) => M__law_spoilt t a.1 a.2.1) fun x : (List (List Str)) => em x) :=
  fn_mkT0 (N := ["tape", "entries", "split", "at", "mode", "many", "pick", "one", "cut", "bad"]) F ⟨rfl, rfl, rfl, by decide +kernel, rfl, by decide +kernel, by decide +kernel⟩ 7 rfl (fun _ => rfl) fun X C tP tD tS p_tape ⟨p_entries, p_split, _⟩ => (g_setL C 1 (l_copy C (q_x (x_var C 1)) Z.z_list) (fun v_entries_434 => (g_setM (jt := 0) (ap := tP) (ad := tD) (as := tS) (t := p_tape) C 3 (m_callT (jt := 0) C D__law_take (mb_dat (m_x (x_lenQ C (q_own C 1) Z.z_len)) (fun t_448 => mb_nil))) (fun v_at_435 t_436 => (g_setM (jt := 0) (ap := tP) (ad := tD) (as := tS) (t := t_436) C 4 (m_callT (jt := 0) C D__law_take (mb_dat (m_x x_int) (fun t_465 => mb_nil))) (fun v_mode_452 t_453 => (g_ifX (φ := id) (t_eq (x_var C 4) x_int) (g_setM (jt := 0) (ap := tP) (ad := tD) (as := tS) (t := t_453) C 6 (m_callT (jt := 0) C D__law_take (mb_dat (m_x x_int) (fun t_483 => mb_nil))) (fun v_pick_470 t_471 => (g_set C 7 (x_ixQ (q_own C 1) (x_var C 3)) (fun v_one_486 => (g_setM (jt := 0) (ap := tP) (ad := tD) (as := tS) (t := t_471) C 8 (m_callT (jt := 0) C D__law_take (mb_dat (m_x (x_lenS C (x_var C 7) Z.z_len)) (fun t_502 => mb_nil))) (fun v_cut_489 t_490 => (g_setL C 9 (l_lst (i_cons x_str (i_cons (x_addS (x_var C 7) (x_cutS x_str (o_some (x_sub (x_lenS C (x_var C 7) Z.z_len) x_int)) o_none)) (i_cons (x_addS (x_addS (x_cutS (x_var C 7) o_none (o_some (x_var C 8))) x_str) (x_cutS (x_var C 7) (o_some (x_add (x_var C 8) x_int)) o_none)) (i_cons (x_addS (x_addS (x_cutS (x_var C 7) o_none (o_some (x_var C 8))) x_str) (x_cutS (x_var C 7) (o_some (x_add (x_var C 8) x_int)) o_none)) (i_cons (x_addS (x_addS (x_cutS (x_var C 7) o_none (o_some (x_var C 8))) x_str) (x_cutS (x_var C 7) (o_some (x_add (x_var C 8) x_int)) o_none)) (i_cons (x_addS (x_addS (x_cutS (x_var C 7) o_none (o_some (x_var C 8))) x_str) (x_cutS (x_var C 7) (o_some (x_add (x_var C 8) x_int)) o_none)) (i_cons (x_addS (x_var C 7) x_str) (i_cons x_str i_nil))))))))) (fun v_bad_506 => (g_setItem C 1 (x_ixQ (q_own C 9) (x_var C 6)) (x_var C 3) (fun v_entries_600 => (g_ifJ (envJ := fun s_606 : (List Str) => [.tp tP tD tS t_490, .own (List.map em (s_606 : (List Str))), .dat (em (p_split : Int)), .dat (em (v_at_435 : Int)), .dat (em (v_mode_452 : Int)), .any, .dat (em (v_pick_470 : Int)), .dat (em (v_one_486 : Str)), .dat (em (v_cut_489 : Int)), .own (List.map em (v_bad_506 : (List Str)))]) (t_w (w_and (t_eq (x_var C 6) x_int) (w_and1 (t_eq (x_lenS C (x_var C 7) Z.z_len) x_int)))) (g_setItem C 1 (x_addS (x_cutS (x_var C 7) o_none (o_some x_int)) x_str) (x_var C 3) (fun v_entries_613 => (g_nil (.same (.same (.same (.same (.same (.same (.same (.same (.same (.same .nil))))))))))))) (g_nil (.same (.same (.same (.same (.same (.same (.same (.same (.same (.same .nil))))))))))) (fun s_606 => (g_retT (jt := 0) (ap := tP) (ad := tD) (as := tS) (t := t_490) (φ := fun x => x) (m_l (ml_l (l_lst (i_cons (x_l (l_cutQ (q_own C 1) o_none (o_some (x_var C 2)))) (i_cons (x_l (l_cutQ (q_own C 1) (o_some (x_var C 2)) o_none)) i_nil))))) (fun _ _ _ _ z => z)))))))))))))) early_rn (g_ifX (φ := id) (t_w (w_and (t_eq (x_var C 4) x_int) (w_and1 (t_eq (x_lenQ C (q_own C 1) Z.z_len) x_int)))) (g_freeze 1 rfl (g_retT (jt := 0) (ap := tP) (ad := tD) (as := tS) (t := t_453) (φ := fun x => x) (m_callT (jt := 0) C D__law_any (mb_dat (m_l (ml_l (l_lst (i_cons (x_l (l_lst (i_cons (x_var C 1) (i_cons (x_var C 1) i_nil)))) (i_cons (x_l (l_lst (i_cons (x_l (l_cat (q_x (x_var C 1)) (q_x (x_var C 1)))) (i_cons (x_l l_nil) i_nil)))) i_nil))))) (fun t_669 => mb_nil))) (fun _ _ _ _ z => z))) early_rn (g_ifX (φ := id) (t_eq (x_var C 4) x_int) (g_setItemM (jt := 0) (ap := tP) (ad := tD) (as := tS) (t := t_453) C 1 (m_ixO C 1 (xs := v_entries_434) (m_bin bin_sub (m_x (x_sub (x_var C 3) x_int)) (fun t_706 => (m_callT (jt := 0) C D__law_take (mb_dat (m_x (x_sub (x_lenQ C (q_own C 1) Z.z_len) x_int)) (fun t_722 => mb_nil)))))) (fun t_698 => (m_x (x_var C 3))) (fun v_entries_731 t_699 => (g_setM (jt := 0) (ap := tP) (ad := tD) (as := tS) (t := t_699) C 2 (m_bin bin_add (m_x x_int) (fun t_736 => (m_callT (jt := 0) C D__law_take (mb_dat (m_x (x_lenQ C (q_own C 1) Z.z_len)) (fun t_750 => mb_nil))))) (fun v_split_732 t_733 => (g_retT (jt := 0) (ap := tP) (ad := tD) (as := tS) (t := t_733) (φ := fun x => x) (m_l (ml_l (l_lst (i_cons (x_l (l_cutQ (q_own C 1) o_none (o_some (x_var C 2)))) (i_cons (x_l (l_cutQ (q_own C 1) (o_some (x_var C 2)) o_none)) i_nil))))) (fun _ _ _ _ z => z)))))) early_rn (g_ifXM (jt := 0) (ap := tP) (ad := tD) (as := tS) (t := t_453) (φ := id) (mt_cmp cmp_eq (m_callT (jt := 0) C D__law_take (mb_dat (m_x x_int) (fun t_787 => mb_nil))) (fun t_774 => (m_x x_int))) (fun t_793 => (g_freeze 1 rfl (g_retT (jt := 0) (ap := tP) (ad := tD) (as := tS) (t := t_793) (φ := fun x => x) (m_l (ml_lst (mi_cons (m_l (ml_l l_nil)) (fun t_837 => (mi_cons (m_l (ml_cut (m_x (x_var C 1)) (fun t_846 => mo_none) (fun t_847 => (mo_some (m_callT (jt := 0) C D__law_take (mb_dat (m_x (x_add (x_lenQ C (q_x (x_var C 1)) Z.z_len) x_int)) (fun t_860 => mb_nil))))))) (fun t_842 => mi_nil)))))) (fun _ _ _ _ z => z)))) early_rn (fun t_793 => (g_setM (jt := 0) (ap := tP) (ad := tD) (as := tS) (t := t_793) C 5 (m_callT (jt := 0) C D__law_entries (mb_dat (m_x x_int) (fun t_886 => mb_nil))) (fun v_many_873 t_874 => (g_setM (jt := 0) (ap := tP) (ad := tD) (as := tS) (t := t_874) C 2 (m_bin bin_add (m_x x_int) (fun t_893 => (m_callT (jt := 0) C D__law_take (mb_dat (m_x x_int) (fun t_907 => mb_nil))))) (fun v_split_889 t_890 => (g_retT (jt := 0) (ap := tP) (ad := tD) (as := tS) (t := t_890) (φ := fun x => x) (m_l (ml_l (l_lst (i_cons (x_l (l_cutQ (q_x (x_var C 5)) o_none (o_some (x_var C 2)))) (i_cons (x_l (l_cutQ (q_x (x_var C 5)) (o_some (x_var C 2)) o_none)) i_nil))))) (fun _ _ _ _ z => z.1)))))))))))))))))
theorem ok_law {f : Addr} {fd : FuncData} (F : Fun K "law" "law" s_law f fd) (Z : Zs K w mg) (D_Signature : DfI P w K mg base 2 "Signature" ["self", "kinds", "names"] (spI K "Signature" (fun a : (List Str) × (List Str) × Unit => [.bor (List.map em a.1), .bor (List.map em a.2.1)]) (fun a : (List Str) × (List Str) × Unit => M_Signature a.1 a.2.1) fun x : C_Signature => em x)) {f__law_entries : Addr} {fd__law_entries : FuncData} (D__law_entries : Df P w K mg base 3 "_law_entries" f__law_entries fd__law_entries ["tape", "many"] (spT K (fun a : Int × Unit => [.dat (em a.1)]) (fun (a : Int × Unit) (t : Tp) => M__law_entries t a.1) fun x : (List Str) => em x)) {f__law_is : Addr} {fd__law_is : FuncData} (D__law_is : Df P w K mg base 1 "_law_is" f__law_is fd__law_is ["actual", "due"] (spF K (fun a : (List Str) × (List Str) × Unit => [.bor (List.map em a.1), .bor (List.map em a.2.1)]) (fun a : (List Str) × (List Str) × Unit => M__law_is a.1 a.2.1) fun x : Bool => .dat (em x))) {f__law_refused : Addr} {fd__law_refused : FuncData} (D__law_refused : Df P w K mg base 4 "_law_refused" f__law_refused fd__law_refused ["kinds", "names"] (spF K (fun a : (List Str) × (List Str) × Unit => [.dat (em a.1), .dat (em a.2.1)]) (fun a : (List Str) × (List Str) × Unit => M__law_refused a.1 a.2.1) fun x : Bool => .dat (em x))) {f__law_spoilt : Addr} {fd__law_spoilt : FuncData} (D__law_spoilt : Df P w K mg base 4 "_law_spoilt" f__law_spoilt fd__law_spoilt ["tape", "entries", "split"] (spT K (fun a : (List Str) × Int × Unit => [.dat (em a.1), .dat (em a.2.1)]) (fun (a : (List Str) × Int × Unit) (t : Tp) => M__law_spoilt t a.1 a.2.1) fun x : (List (List Str)) => em x)) {f__law_take : Addr} {fd__law_take : FuncData} (D__law_take : Df P w K mg base 1 "_law_take" f__law_take fd__law_take ["tape", "many"] (spT K (fun a : Int × Unit => [.dat (em a.1)]) (fun (a : Int × Unit) (t : Tp) => M__law_take t a.1) fun x : Int => em x)) {f__law_tape : Addr} {fd__law_tape : FuncData} (D__law_tape : Df P w K mg base 1 "_law_tape" f__law_tape fd__law_tape ["script"] (spF K (fun a : (List Int) × Unit => [.bor (List.map em a.1)]) (fun a : (List Int) × Unit => M__law_tape a.1) fun x : Tp => .tape x)) : FnOk P w K mg base CX0 5 f fd ["script"] (spF K (fun a : (List Int) × Unit => [.bor (List.map em a.1)]) (fun a : (List Int) × Unit => M_law a.1) fun x : Bool => .dat (em x)) :=
  fn_mk (N := ["script", "tape", "entries", "split", "bads", "bad", "kinds", "names", "signature", "other", "turn"]) F ⟨rfl, rfl, rfl, by decide +kernel, rfl, by decide +kernel, by decide +kernel⟩ 10 rfl (fun _ => rfl) fun X C ⟨p_script, _⟩ => (g_tape C 1 D__law_tape (a_bor (q_bor C 0) a_nil) (fun tP tD tS v_tape_935 => (g_setM (jt := 1) (ap := tP) (ad := tD) (as := tS) (t := v_tape_935) C 2 (m_callT (jt := 1) C D__law_entries (mb_dat (m_bin bin_add (m_x x_int) (fun t_955 => (m_callT (jt := 1) C D__law_take (mb_dat (m_x x_int) (fun t_969 => mb_nil))))) (fun t_951 => mb_nil))) (fun v_entries_938 t_939 => (g_setM (jt := 1) (ap := tP) (ad := tD) (as := tS) (t := t_939) C 3 (m_bin bin_add (m_x x_int) (fun t_977 => (m_callT (jt := 1) C D__law_take (mb_dat (m_x (x_lenQ C (q_x (x_var C 2)) Z.z_len)) (fun t_991 => mb_nil))))) (fun v_split_973 t_974 => (g_setLcM (jt := 1) (ap := tP) (ad := tD) (as := tS) (t := t_974) (own := [("turn", 10)]) (envC := [.bor (List.map em (p_script : (List Int))), .any, .dat (em (v_entries_938 : (List Str))), .dat (em (v_split_973 : Int)), .any, .any, .any, .any, .any, .any, .any]) (envY := fun v_turn_1001 : Int => [.bor (List.map em (p_script : (List Int))), .any, .dat (em (v_entries_938 : (List Str))), .dat (em (v_split_973 : Int)), .any, .any, .any, .any, .any, .any, .dat (em (v_turn_1001 : Int))]) C 4 (mw_w (w_rng1 C x_int Z.z_range)) (lcPM_no (fun X_1023 C_1000 _ => (gt_name C_1000 10)) (fun X_1023 C_1000 t_1002 v_turn_1001 => (m_callT (jt := 1) C_1000 D__law_spoilt (mb_dat (m_x (x_var C_1000 2)) (fun t_1015 => (mb_dat (m_x (x_var C_1000 3)) (fun t_1020 => mb_nil))))))) (by decide +kernel) (fun _ => (ownS rfl own0)) (fun _ => (.same (.same (.same (.same (.same (.same (.same (.same (.same (.same (.same .nil)))))))))))) (by decide) (ltB rfl) (fun _ => ltB rfl) (by decide) (hr := fun v_bads_996 t_997 => (g_freeze 4 rfl <| g_forF (envL := fun s_1024 : Unit => [.bor (List.map em (p_script : (List Int))), .tp tP tD tS t_997, .dat (em (v_entries_938 : (List Str))), .dat (em (v_split_973 : Int)), .dat (em (v_bads_996 : (List (List (List Str))))), .any, .any, .any, .any, .any, .any]) (res := fun x : Bool => .dat (em x)) (φ := fun x => x) C (w_x (x_var C 4)) (fun s_1024 => (gt_name C 5)) (.same (.same (.same (.same (.same (.same (.same (.same (.same (.same (.same .nil))))))))))) (fun s_1024 v_bad_1025 => (g_ifX (φ := Fl.rt) (t_not (t_x (x_callD C D__law_refused (a_dat (x_l (l_copy C (q_x (x_ixQ (q_x (x_var C 5)) x_int)) Z.z_list)) (a_dat (x_l (l_copy C (q_x (x_ixQ (q_x (x_var C 5)) x_int)) Z.z_list)) a_nil))))) (g_ret (φ := fun x => x) x_bl (fun _ _ _ _ z => z)) early_rf (g_nilF (.same (.same (.same (.same (.same (.drop (.same (.same (.same (.same (.same .nil)))))))))))))) hzD (fun s_1024 => (g_setL C 6 (l_cutQ (q_x (x_var C 2)) o_none (o_some (x_var C 3))) (fun v_kinds_1041 => (g_setL C 7 (l_cutQ (q_x (x_var C 2)) (o_some (x_var C 3)) o_none) (fun v_names_1046 => (g_set C 8 (x_make C D_Signature (a_bor (q_own C 6) (a_bor (q_own C 7) a_nil))) (fun v_signature_1051 => (g_ifX (φ := id) (t_w (w_or (t_not (t_x (x_callD C D__law_is (a_bor (q_own C 6) (a_bor (q_l (l_cutQ (q_x (x_var C 2)) o_none (o_some (x_var C 3)))) a_nil))))) (w_or1 (t_not (t_x (x_callD C D__law_is (a_bor (q_own C 7) (a_bor (q_l (l_cutQ (q_x (x_var C 2)) (o_some (x_var C 3)) o_none)) a_nil)))))))) (g_ret (φ := fun x => x) x_bl (fun _ _ _ _ z => z)) early_rn (g_append C 6 x_str (fun v_kinds_1081 => (g_clear C 7 (xs := v_names_1046) (f := fun (v_names_1082 : (List Str)) => (some ("y" : Str)).bind fun y_1159 => (some (0 : Int)).bind fun y_1160 => (setP v_kinds_1081 y_1160 y_1159).bind fun v_kinds_1083 => ((((some v_entries_938).bind fun y_1086 => (some none).bind fun y_1087 => ((some (1 : Int)).bind fun y_1085 => some (some y_1085)).bind fun y_1088 => some (T.cut y_1086 y_1087 y_1088)).bind fun y_1091 => ((some ([] : (List Str))).bind fun y_1089 => (some ()).bind fun y_1090 => some (y_1089, y_1090)).bind fun y_1092 => some (y_1091, y_1092)).bind (fun a : (List Str) × (List Str) × Unit => (M_Signature a.1 a.2.1).bind okR)).bind fun v_other_1084 => ((((((some v_bads_996).bind fun y_1095 => (some (0 : Int)).bind fun y_1096 => atI y_1095 y_1096).bind fun y_1097 => (some (0 : Int)).bind fun y_1098 => atI y_1097 y_1098).bind fun y_1105 => ((((some v_bads_996).bind fun y_1099 => (some (0 : Int)).bind fun y_1100 => atI y_1099 y_1100).bind fun y_1101 => (some (1 : Int)).bind fun y_1102 => atI y_1101 y_1102).bind fun y_1103 => (some ()).bind fun y_1104 => some (y_1103, y_1104)).bind fun y_1106 => some (y_1105, y_1106)).bind (fun a : (List Str) × (List Str) × Unit => M__law_refused a.1 a.2.1)).bind fun y_1109 => some (!y_1109)).bind fun c_1158 => if c_1158 = true then ((some false).bind fun r_1110 => some r_1110).bind fun r_1157 => some (id r_1157) else (orO (((((some v_other_1084).bind fun y_1111 => some y_1111.kinds).bind fun y_1118 => (((some v_entries_938).bind fun y_1113 => (some none).bind fun y_1114 => ((some (1 : Int)).bind fun y_1112 => some (some y_1112)).bind fun y_1115 => some (T.cut y_1113 y_1114 y_1115)).bind fun y_1116 => (some ()).bind fun y_1117 => some (y_1116, y_1117)).bind fun y_1119 => some (y_1118, y_1119)).bind (fun a : (List Str) × (List Str) × Unit => M__law_is a.1 a.2.1)).bind fun y_1122 => some (!y_1122)) (((((some v_other_1084).bind fun y_1123 => some y_1123.names).bind fun y_1126 => ((some ([] : (List Str))).bind fun y_1124 => (some ()).bind fun y_1125 => some (y_1124, y_1125)).bind fun y_1127 => some (y_1126, y_1127)).bind (fun a : (List Str) × (List Str) × Unit => M__law_is a.1 a.2.1)).bind fun y_1130 => some (!y_1130))).bind fun c_1156 => if c_1156 = true then ((some false).bind fun r_1131 => some r_1131).bind fun r_1155 => some (id r_1155) else (andO ((((some v_signature_1051).bind fun y_1132 => some y_1132.kinds).bind fun y_1139 => (((some v_entries_938).bind fun y_1134 => (some none).bind fun y_1135 => ((some v_split_973).bind fun y_1133 => some (some y_1133)).bind fun y_1136 => some (T.cut y_1134 y_1135 y_1136)).bind fun y_1137 => (some ()).bind fun y_1138 => some (y_1137, y_1138)).bind fun y_1140 => some (y_1139, y_1140)).bind (fun a : (List Str) × (List Str) × Unit => M__law_is a.1 a.2.1)) ((((some v_signature_1051).bind fun y_1143 => some y_1143.names).bind fun y_1150 => (((some v_entries_938).bind fun y_1145 => ((some v_split_973).bind fun y_1144 => some (some y_1144)).bind fun y_1146 => (some none).bind fun y_1147 => some (T.cut y_1145 y_1146 y_1147)).bind fun y_1148 => (some ()).bind fun y_1149 => some (y_1148, y_1149)).bind fun y_1151 => some (y_1150, y_1151)).bind (fun a : (List Str) × (List Str) × Unit => M__law_is a.1 a.2.1))).bind fun r_1154 => some r_1154) (fun v_names_1082 => (g_setItem C 6 x_str x_int (fun v_kinds_1083 => (g_set C 9 (x_make C D_Signature (a_bor (q_l (l_cutQ (q_x (x_var C 2)) o_none (o_some x_int))) (a_bor (q_l l_nil) a_nil))) (fun v_other_1084 => (g_ifX (φ := id) (t_not (t_x (x_callD C D__law_refused (a_dat (x_l (l_copy C (q_x (x_ixQ (q_x (x_ixQ (q_x (x_var C 4)) x_int)) x_int)) Z.z_list)) (a_dat (x_l (l_copy C (q_x (x_ixQ (q_x (x_ixQ (q_x (x_var C 4)) x_int)) x_int)) Z.z_list)) a_nil))))) (g_ret (φ := fun x => x) x_bl (fun _ _ _ _ z => z)) early_rn (g_ifX (φ := id) (t_w (w_or (t_not (t_x (x_callD C D__law_is (a_bor (q_x (x_fld (c := "Signature") (g := fun x : C_Signature => x.kinds) C (x_var C 9) Z.cl_Signature Z.no_Signature_kinds (fun x => ⟨_, _, rfl, .here⟩))) (a_bor (q_l (l_cutQ (q_x (x_var C 2)) o_none (o_some x_int))) a_nil))))) (w_or1 (t_not (t_x (x_callD C D__law_is (a_bor (q_x (x_fld (c := "Signature") (g := fun x : C_Signature => x.names) C (x_var C 9) Z.cl_Signature Z.no_Signature_names (fun x => ⟨_, _, rfl, (.there (by decide +kernel) .here)⟩))) (a_bor (q_l l_nil) a_nil)))))))) (g_ret (φ := fun x => x) x_bl (fun _ _ _ _ z => z)) early_rn (g_ret (φ := fun x => x) (x_and (x_callD C D__law_is (a_bor (q_x (x_fld (c := "Signature") (g := fun x : C_Signature => x.kinds) C (x_var C 8) Z.cl_Signature Z.no_Signature_kinds (fun x => ⟨_, _, rfl, .here⟩))) (a_bor (q_l (l_cutQ (q_x (x_var C 2)) o_none (o_some (x_var C 3)))) a_nil))) (x_one (x_callD C D__law_is (a_bor (q_x (x_fld (c := "Signature") (g := fun x : C_Signature => x.names) C (x_var C 8) Z.cl_Signature Z.no_Signature_names (fun x => ⟨_, _, rfl, (.there (by decide +kernel) .here)⟩))) (a_bor (q_l (l_cutQ (q_x (x_var C 2)) (o_some (x_var C 3)) o_none)) a_nil))))) (fun _ _ _ _ z => z.1)))))))))))))))))))))))))))))
end
end K41

set_option Elab.async false
set_option linter.all false
set_option maxRecDepth 100000
set_option maxHeartbeats 4000000
namespace T
open PySem PySem.Spec PyProof.Rows L2
variable {τ α β γ δ ρ B S ι : Type}
/-! ### loops that succeed -/
theorem foldO_inv {f : S → α → Option S} (Inv : Nat → S → Prop) : ∀ (xs : List α) (n : Nat) (s0 : S), Inv n s0 → (∀ i x s, xs[i]? = some x → Inv (n + i) s → ∃ s', f s x = some s' ∧ Inv (n + i + 1) s') → ∃ s', foldO f s0 xs = some s' ∧ Inv (n + xs.length) s'
  | [], n, s0, h0, _ => ⟨s0, rfl, h0⟩
  | x :: xs, n, s0, h0, st => by
    obtain ⟨s1, e1, h1⟩ := st 0 x s0 rfl h0
    obtain ⟨s2, e2, h2⟩ := foldO_inv Inv xs (n + 1) s1 h1 fun i y s hy hs => by
      obtain ⟨s', a, b⟩ := st (i + 1) y s hy (by rw [show n + (i + 1) = n + 1 + i by omega]; exact hs)
      exact ⟨s', a, by rw [show n + 1 + i + 1 = n + (i + 1) + 1 by omega]; exact b⟩
    refine ⟨s2, ?_, by rw [List.length_cons, show n + (xs.length + 1) = n + 1 + xs.length by omega]; exact h2⟩
    show (f s0 x).bind _ = _
    rw [e1]
    exact e2
theorem foldO_ok {f : S → α → Option S} {xs : List α} {s0 : S} (Inv : Nat → S → Prop) (h0 : Inv 0 s0) (st : ∀ i x s, xs[i]? = some x → Inv i s → ∃ s', f s x = some s' ∧ Inv (i + 1) s') : ∃ s', foldO f s0 xs = some s' ∧ Inv xs.length s' := by
  obtain ⟨s', a, b⟩ := foldO_inv Inv xs 0 s0 h0 fun i x s hx hs => by
    rw [Nat.zero_add] at hs ⊢
    exact st i x s hx hs
  rw [Nat.zero_add] at b
  exact ⟨s', a, b⟩
/-- a loop that never leaves -/
theorem loopO_inv {f : S → α → Option (Fl ρ S S)} (Inv : Nat → S → Prop) : ∀ (xs : List α) (n : Nat) (s0 : S), Inv n s0 → (∀ i x s, xs[i]? = some x → Inv (n + i) s → ∃ s', (f s x = some (.nx s') ∨ f s x = some (.ct s')) ∧ Inv (n + i + 1) s') → ∃ s', loopO f s0 xs = some (.fin s') ∧ Inv (n + xs.length) s'
  | [], n, s0, h0, _ => ⟨s0, rfl, h0⟩
  | x :: xs, n, s0, h0, st => by
    obtain ⟨s1, e1, h1⟩ := st 0 x s0 rfl h0
    obtain ⟨s2, e2, h2⟩ := loopO_inv Inv xs (n + 1) s1 h1 fun i y s hy hs => by
      obtain ⟨s', a, b⟩ := st (i + 1) y s hy (by rw [show n + (i + 1) = n + 1 + i by omega]; exact hs)
      exact ⟨s', a, by rw [show n + 1 + i + 1 = n + (i + 1) + 1 by omega]; exact b⟩
    refine ⟨s2, ?_, by rw [List.length_cons, show n + (xs.length + 1) = n + 1 + xs.length by omega]; exact h2⟩
    show (f s0 x).bind _ = _
    rcases e1 with e1 | e1
    · rw [e1]; exact e2
    · rw [e1]; exact e2
theorem loopO_ok {f : S → α → Option (Fl ρ S S)} {xs : List α} {s0 : S} (Inv : Nat → S → Prop) (h0 : Inv 0 s0) (st : ∀ i x s, xs[i]? = some x → Inv i s → ∃ s', (f s x = some (.nx s') ∨ f s x = some (.ct s')) ∧ Inv (i + 1) s') : ∃ s', loopO f s0 xs = some (.fin s') ∧ Inv xs.length s' := by
  obtain ⟨s', a, b⟩ := loopO_inv Inv xs 0 s0 h0 fun i x s hx hs => by
    rw [Nat.zero_add] at hs ⊢
    exact st i x s hx hs
  rw [Nat.zero_add] at b
  exact ⟨s', a, b⟩
/-- a loop that goes on or hands back one value -/
theorem loopO_any {f : S → α → Option (Fl ρ S S)} (Inv : S → Prop) (R : ρ → Prop) : ∀ (xs : List α) (s0 : S), Inv s0 → (∀ x s, x ∈ xs → Inv s → ∃ o, f s x = some o ∧ match o with | .nx s' => Inv s' | .ct s' => Inv s' | .bk s' => Inv s' | .rt r => R r) → ∃ o, loopO f s0 xs = some o ∧ match o with | .fin s' => Inv s' | .ret r => R r
  | [], s0, h0, _ => ⟨_, rfl, h0⟩
  | x :: xs, s0, h0, st => by
    obtain ⟨o, e1, h1⟩ := st x s0 (List.mem_cons_self) h0
    show ∃ o', (f s0 x).bind _ = some o' ∧ _
    rw [e1]
    cases o with
    | nx s' => exact loopO_any Inv R xs s' h1 fun y s hy hs => st y s (List.mem_cons_of_mem _ hy) hs
    | ct s' => exact loopO_any Inv R xs s' h1 fun y s hy hs => st y s (List.mem_cons_of_mem _ hy) hs
    | bk s' => exact ⟨_, rfl, h1⟩
    | rt r => exact ⟨_, rfl, h1⟩
theorem lcO_t {f : α → Option β} : ∀ xs : List α, lcO (fun _ => some true) f xs = mapO f xs
  | [] => rfl
  | x :: xs => by
    show (some true).bind _ = _
    rw [Option.bind_some, if_pos rfl]
    show (f x).bind _ = (f x).bind _
    rw [lcO_t xs]
theorem lcC_t {f : α → Option β} {xs : List α} : lcC (fun _ => some true) f xs = mapC f xs := by unfold lcC mapC; rw [lcO_t]
/-- not by rfl: a plain rewriting -/
theorem bsm (x : α) (f : α → Option β) : (some x).bind f = f x := by
  generalize h : (some x).bind f = y
  rw [Option.bind_some] at h
  exact h.symm
theorem basm (m : Option α) (f : α → Option β) (g : β → Option γ) : (m.bind f).bind g = m.bind fun x => (f x).bind g := by
  cases m with
  | none => rfl
  | some x => rw [bsm, bsm]
/-- it answers, and P holds of the answer -/
def Ok (m : Option α) (P : α → Prop) : Prop := ∃ r, m = some r ∧ P r
theorem Ok.bind {m : Option α} {f : α → Option β} {P : α → Prop} {Q : β → Prop} (h : Ok m P) (k : ∀ a, P a → Ok (f a) Q) : Ok (m.bind f) Q := by
  obtain ⟨a, rfl, p⟩ := h
  exact k a p
theorem Ok.one {m : Option α} {f : α → Option β} {a : α} {Q : β → Prop} (h : m = some a) (k : Ok (f a) Q) : Ok (m.bind f) Q := by
  subst h
  exact k
theorem Ok.some {a : α} {P : α → Prop} (h : P a) : Ok (Option.some a) P := ⟨a, rfl, h⟩
theorem Ok.eq {m : Option α} {a : α} {P : α → Prop} (e : m = Option.some a) (h : P a) : Ok m P := ⟨a, e, h⟩
theorem Ok.imp {m : Option α} {P Q : α → Prop} (h : Ok m P) (k : ∀ a, P a → Q a) : Ok m Q := let ⟨a, e, p⟩ := h; ⟨a, e, k a p⟩
theorem Ok.ite {c : Prop} [Decidable c] {m n : Option α} {P : α → Prop} (h1 : c → Ok m P) (h2 : ¬ c → Ok n P) : Ok (if c then m else n) P := by
  by_cases h : c
  · rw [if_pos h]; exact h1 h
  · rw [if_neg h]; exact h2 h
theorem Ok.get {m : Option α} {a : α} (h : Ok m fun x => x = a) : m = Option.some a := by obtain ⟨b, e, rfl⟩ := h; exact e
theorem Ok.fold {f : S → α → Option S} {xs : List α} {s0 : S} {P : S → Prop} (Inv : Nat → S → Prop) (h0 : Inv 0 s0) (st : ∀ i x s, xs[i]? = Option.some x → Inv i s → Ok (f s x) (Inv (i + 1))) (hp : ∀ s, Inv xs.length s → P s) : Ok (foldO f s0 xs) P := by
  obtain ⟨s', a, b⟩ := foldO_ok Inv h0 st
  exact ⟨s', a, hp s' b⟩
theorem mapO_ok {f : α → Option β} {P : Nat → α → β → Prop} : ∀ (xs : List α) (n : Nat), (∀ i x, xs[i]? = some x → ∃ y, f x = some y ∧ P (n + i) x y) → ∃ ys, mapO f xs = some ys ∧ ys.length = xs.length ∧ ∀ i x y, xs[i]? = some x → ys[i]? = some y → P (n + i) x y
  | [], n, _ => ⟨[], rfl, rfl, fun i x y h => by simp at h⟩
  | x :: xs, n, st => by
    obtain ⟨y, e, p⟩ := st 0 x rfl
    obtain ⟨ys, e2, hl, p2⟩ := mapO_ok (P := P) xs (n + 1) fun i z hz => by
      obtain ⟨y', a, b⟩ := st (i + 1) z hz
      exact ⟨y', a, by rw [show n + 1 + i = n + (i + 1) by omega]; exact b⟩
    refine ⟨y :: ys, ?_, by rw [List.length_cons, List.length_cons, hl], fun i z w hz hw => ?_⟩
    · show (f x).bind _ = _
      rw [e]
      show (mapO f xs).bind _ = _
      rw [e2]
      rfl
    · cases i with
      | zero => cases hz; cases hw; exact p
      | succ i => have := p2 i z w hz hw; rwa [show n + 1 + i = n + (i + 1) by omega] at this
theorem lcC_ok {f : α → Option β} {P : Nat → α → β → Prop} {xs : List α} (hz : xs.length < 16777216) (st : ∀ i x, xs[i]? = some x → ∃ y, f x = some y ∧ P i x y) : ∃ ys, lcC (fun _ => some true) f xs = some ys ∧ ys.length = xs.length ∧ ∀ i x y, xs[i]? = some x → ys[i]? = some y → P i x y := by
  obtain ⟨ys, a, b, c⟩ := mapO_ok (P := P) xs 0 fun i x hx => by rw [Nat.zero_add]; exact st i x hx
  refine ⟨ys, ?_, b, fun i x y h1 h2 => by have := c i x y h1 h2; rwa [Nat.zero_add] at this⟩
  rw [lcC_t]
  unfold mapC
  rw [if_pos (show sz xs.length from hz)]
  exact a
/-- a plain map -/
theorem mapO_map {f : α → Option β} {g : α → β} : ∀ {xs : List α}, (∀ x ∈ xs, f x = some (g x)) → mapO f xs = some (xs.map g)
  | [], _ => rfl
  | x :: xs, h => by
    show (f x).bind _ = _
    rw [h x List.mem_cons_self]
    show (mapO f xs).bind _ = _
    rw [mapO_map fun y hy => h y (List.mem_cons_of_mem _ hy)]
    rfl
theorem lcC_map {f : α → Option β} {g : α → β} {xs : List α} (hz : xs.length < 16777216) (h : ∀ x ∈ xs, f x = some (g x)) : lcC (fun _ => some true) f xs = some (xs.map g) := by
  rw [lcC_t]
  unfold mapC
  rw [if_pos (show sz xs.length from hz), mapO_map h]
theorem lcO_filter {c : α → Option Bool} {f : α → Option β} {p : α → Bool} {g : α → β} : ∀ {xs : List α}, (∀ x ∈ xs, c x = some (p x)) → (∀ x ∈ xs, p x = true → f x = some (g x)) → lcO c f xs = some ((xs.filter p).map g)
  | [], _, _ => rfl
  | x :: xs, h, h' => by
    show (c x).bind _ = _
    rw [h x List.mem_cons_self]
    show (if p x = true then (f x).bind (fun y => (lcO c f xs).bind fun ys => some (y :: ys)) else lcO c f xs) = _
    rw [lcO_filter (fun y hy => h y (List.mem_cons_of_mem _ hy)) fun y hy => h' y (List.mem_cons_of_mem _ hy)]
    by_cases hp : p x = true
    · rw [if_pos hp, h' x List.mem_cons_self hp, List.filter_cons_of_pos hp]
      rfl
    · rw [if_neg hp, List.filter_cons_of_neg hp]
theorem lcC_filter {c : α → Option Bool} {f : α → Option β} {p : α → Bool} {g : α → β} {xs : List α} (hz : xs.length < 16777216) (h : ∀ x ∈ xs, c x = some (p x)) (h' : ∀ x ∈ xs, p x = true → f x = some (g x)) : lcC c f xs = some ((xs.filter p).map g) := by
  unfold lcC
  rw [if_pos (show sz xs.length from hz), lcO_filter h h']
/-! ### ranges, items -/
theorem rngP_eq {n : Int} (h : n ≤ 16777216) (h0 : 0 ≤ n) : rngP 0 n = some (rng 0 n) := by
  unfold rngP
  rw [if_pos (by omega)]
theorem rng_len (n : Nat) : (rng 0 (n : Int)).length = n := by unfold rng; simp
theorem rng_nat {n : Nat} {i : Nat} {x : Int} (h : (rng 0 (n : Int))[i]? = some x) : i < n ∧ x = (i : Int) := by
  obtain ⟨h1, h2⟩ := rng_get h
  exact ⟨by omega, by omega⟩
theorem rng_mem {a b x : Int} (h : x ∈ rng a b) : a ≤ x ∧ x < b := by
  unfold rng at h
  simp only [List.mem_map, List.mem_range] at h
  obtain ⟨i, h1, rfl⟩ := h
  omega
theorem rngL_eq {n : Nat} (h : n ≤ 16777216) : rngL 0 (n : Int) = some ((List.range n).map fun i : Nat => (i : Int)) := by
  unfold rngL
  rw [if_pos (by omega)]
  unfold rng
  simp
theorem atI_nat {xs : List α} {i : Int} {j : Nat} (h : i = (j : Int)) (hj : j < xs.length) : atI xs i = some xs[j] := by
  subst h
  unfold atI ixN
  rw [if_pos (by omega)]
  simp [hj]
theorem atI_of {xs : List α} {i : Int} (h0 : 0 ≤ i) (h1 : i < xs.length) : ∃ x, atI xs i = some x ∧ x ∈ xs ∧ xs[i.toNat]? = some x := by
  have hj : i.toNat < xs.length := by omega
  exact ⟨xs[i.toNat], atI_nat (by omega) hj, List.getElem_mem _, List.getElem?_eq_getElem hj⟩
theorem setP_of {xs : List α} {i : Int} {x : α} (h0 : 0 ≤ i) (h1 : i < xs.length) : setP xs i x = some (xs.set i.toNat x) := by
  unfold setP ixN
  rw [if_pos h0, if_pos h1]
  rfl
theorem appP_eq {xs : List α} {x : α} (h : xs.length < 16777216) : appP xs x = some (xs ++ [x]) := by unfold appP; rw [if_pos (show sz xs.length from h)]
theorem catL_eq {xs ys : List α} (h : xs.length + ys.length < 16777216) : catL xs ys = some (xs ++ ys) := by unfold catL; rw [if_pos h]
theorem lstP_eq {xs : List α} (h : xs.length < 16777216) : lstP xs = some xs := by unfold lstP; rw [if_pos (show sz xs.length from h)]
theorem modP_eq {x y : Int} (h : y ≠ 0) : modP x y = some (x.fmod y) := by unfold modP; rw [if_neg h]
theorem divP_eq {x y : Int} (h : y ≠ 0) (h2 : y.natAbs < 1073741824) : divP x y = some (x.fdiv y) := by unfold divP; rw [if_neg h, if_pos h2]
theorem mulP_eq {x y : Int} (h : x.natAbs < 18446744073709551616 ∨ y.natAbs < 18446744073709551616) : mulP x y = some (x * y) := by unfold mulP; rw [if_pos (by omega)]
theorem lenS_eq {s : Str} (h : s.length < 16777216) : lenS s = some (s.length : Int) := by unfold lenS; rw [if_pos (show sz s.length from h)]
theorem fmod_lo {x y : Int} (h : 0 < y) : 0 ≤ x.fmod y := Int.fmod_nonneg_of_pos _ h
theorem fmod_hi {x y : Int} (h : 0 < y) : x.fmod y < y := Int.fmod_lt_of_pos _ h
theorem fmod_emod {x y : Int} (h : 0 ≤ y) : x.fmod y = x % y := Int.fmod_eq_emod_of_nonneg _ h
theorem fdiv_ediv {x y : Int} (h : 0 ≤ y) : x.fdiv y = x / y := Int.fdiv_eq_ediv_of_nonneg _ h
theorem andO_some (x : Bool) (y : Option Bool) : andO (some x) y = if x = true then y else some false := rfl
theorem orO_some (x : Bool) (y : Option Bool) : orO (some x) y = if x = true then some true else y := rfl
/-! ### texts -/
theorem slen (s : Str) : s.length = s.cps.toList.length := by simp [Str.length]
theorem strAt_eq {s : Str} {i : Int} {j : Nat} (h : i = (j : Int)) (hj : j < s.cps.toList.length) (hz : s.length < 16777216) : strAt s i = some ⟨#[s.cps.toList[j]]⟩ := by
  unfold strAt
  rw [if_pos (show sz s.length from hz), atI_nat h hj]
  rfl
theorem strAt_of {s : Str} {i : Int} (h0 : 0 ≤ i) (h1 : i < s.length) (hz : s.length < 16777216) : Ok (strAt s i) fun c => c.length = 1 ∧ ∃ q, c = ⟨#[q]⟩ ∧ q ∈ s.cps.toList ∧ s.cps.toList[i.toNat]? = some q := by
  have hj : i.toNat < s.cps.toList.length := by rw [slen] at h1; omega
  exact Ok.eq (strAt_eq (j := i.toNat) (by omega) hj hz) ⟨rfl, _, rfl, List.getElem_mem _, List.getElem?_eq_getElem hj⟩
theorem sIx_le' (n d : Nat) (h : d ≤ n) (o : Option Int) : HT.sIx n d o ≤ n ∨ ∃ v, o = some v ∧ v < 0 := by
  cases o with
  | none => exact .inl h
  | some v =>
    by_cases hv : v < 0
    · exact .inr ⟨v, rfl, hv⟩
    · left
      unfold HT.sIx
      simp only [hv, if_false]
      exact Nat.min_le_right _ _
theorem cutS_len (z : Str) (lo hi : Option Int) : (cutS z lo hi).length ≤ z.length := by
  rw [slen, slen]
  unfold cutS
  simp only [List.length_take, List.length_drop]
  omega
theorem cutP_eq {z : Str} {lo hi : Option Int} (h : z.length < 16777216) : cutP z lo hi = some (cutS z lo hi) := by unfold cutP; rw [if_pos (show sz z.length from h)]
theorem cutS_to (z : Str) (k : Nat) : (cutS z none (some (k : Int))).cps.toList = z.cps.toList.take k := by
  unfold cutS
  rw [HT.sIx_none, HT.sIx_nat]
  show ((z.cps.toList.drop 0).take (min k z.length - 0)) = _
  rw [List.drop_zero, Nat.sub_zero, slen, Nat.min_comm, List.take_eq_take_min (i := k), Nat.min_comm]
theorem cutS_from (z : Str) (k : Nat) : (cutS z (some (k : Int)) none).cps.toList = z.cps.toList.drop k := by
  unfold cutS
  rw [HT.sIx_none, HT.sIx_nat]
  show ((z.cps.toList.drop (min k z.length)).take (z.length - min k z.length)) = _
  rw [List.take_of_length_le (by rw [List.length_drop, ← slen]; omega), slen]
  by_cases h : k ≤ z.cps.toList.length
  · rw [Nat.min_eq_left h]
  · rw [Nat.min_eq_right (by omega), List.drop_of_length_le (Nat.le_refl _), List.drop_of_length_le (by omega)]
theorem revP_eq {z : Str} (h : z.length < 16777216) : revP z = some (revS z) := by unfold revP; rw [if_pos (show sz z.length from h)]
theorem revS_len (z : Str) : (revS z).length = z.length := by rw [slen, slen]; simp [revS]
theorem append_len (x y : Str) : (x ++ y).length = x.length + y.length := by rw [slen, slen, slen, ← List.length_append, ← TL.tl_append]
theorem catS_eq {x y : Str} (h : x.length + y.length < 16777216) : catS x y = some (x ++ y) := by unfold catS; rw [if_pos h]
theorem joinP_ones {ys : List Str} (h : ∀ y ∈ ys, y.length = 1) (hz : ys.length ≤ 16777216) : Ok (joinP "" ys) fun s => s.length = ys.length := by
  have hs : (ys.map (·.length)).sum = ys.length := by
    clear hz
    induction ys with
    | nil => rfl
    | cons y ys ih =>
      rw [List.map_cons, List.sum_cons, ih fun z hz => h z (List.mem_cons_of_mem _ hz), h y List.mem_cons_self, List.length_cons]
      omega
  have he : ("" : Str).length = 0 := by decide +kernel
  unfold joinP
  rw [if_pos (by rw [hs, he, Nat.mul_zero]; exact hz)]
  refine Ok.some ?_
  show (Builtin.Str.glued "" ys).length = _
  rw [size_glued, hs, he, Nat.mul_zero]
  rfl
theorem mulS_ok {x : Str} {n : Int} {L M : Nat} (hx : x.length ≤ L) (h0 : 0 ≤ n) (hn : n ≤ (M : Int)) (hM : M ≤ 16777216) (hLM : L * M ≤ 16777216) : Ok (mulS x n) fun s => s = Txt.mul x n ∧ s.length ≤ L * M := by
  unfold mulS
  rw [if_pos (PyProof.Rows.mulOk_of L M hx hn (by omega) hM hLM)]
  exact Ok.some ⟨rfl, len_mul_leN hx hn⟩
/-! ### the draws that most laws begin with -/
def drawsM (p_script : (List Int)) (p_count : Int) : Option (List Int) := (lcC (fun _ : Int => some true) (fun v_cell_55 : Int => some (absI v_cell_55)) p_script).bind fun v_cells_53 => (if (decide (((List.length v_cells_53 : Int)) = ((0 : Int)))) = true then let v_cells_64 := ([((0 : Int))] : (List Int)); some v_cells_64 else some v_cells_53).bind fun s_63 : (List Int) => let v_many_68 := (List.length s_63 : Int); let v_draws_70 := ([] : (List Int)); (rngP 0 p_count).bind fun y_74 => (foldO (fun (s_72 : ((List Int) × (List Int))) (v_k_73 : Int) => (modP v_k_73 v_many_68).bind fun v_at_75 => (atI s_72.1 v_at_75).bind fun v_cell_78 => (if (decide (((1000000000000000000 : Int)) ≤ v_cell_78)) = true then (appP s_72.2 ((Int.fmod v_cell_78 (1009 : Int)))).bind fun v_draws_86 => (setP s_72.1 v_at_75 ((Int.fdiv v_cell_78 (1009 : Int)))).bind fun v_cells_88 => some (v_cells_88, v_draws_86) else let v_mixed_94 := (Int.fmod ((((((v_cell_78 * (48271 : Int))) + ((v_k_73 * (69621 : Int))))) + ((40503 : Int)))) (2147483647 : Int)); ((((mulP v_mixed_94 v_mixed_94).bind fun y_105 => some ((y_105 + ((v_cell_78 * (16807 : Int)))))).bind fun y_107 => some ((y_107 + v_k_73))).bind fun y_109 => some ((Int.fmod y_109 (2147483629 : Int)))).bind fun y_111 => (appP s_72.2 y_111).bind fun v_draws_110 => some (s_72.1, v_draws_110)).bind fun s_83 : ((List Int) × (List Int)) => some (s_83.1, s_83.2)) (s_63, v_draws_70) y_74).bind fun s_72 => some s_72.2
theorem draws_ok {script : List Int} {n : Nat} (hs : script.length ≤ 63) (hn : n ≤ 100000) : Ok (drawsM script (n : Int)) fun ds => ds.length = n ∧ ∀ d ∈ ds, 0 ≤ d ∧ d < 2147483629 := by
  unfold drawsM
  refine Ok.one (lcC_map (g := absI) (by omega) fun x hx => rfl) ?_
  refine Ok.bind (P := fun cells => 0 < cells.length ∧ cells.length ≤ 63) (Ok.ite (fun h => Ok.some ⟨by decide, by decide⟩) fun h => Ok.some ⟨?_, by rw [List.length_map]; exact hs⟩) ?_
  · simp at h
    rw [List.length_map]
    exact List.length_pos_iff.mpr h
  rintro cells ⟨p0, p1⟩
  refine Ok.one (rngP_eq (by omega) (by omega)) ?_
  refine Ok.bind (P := fun s => s.1.length = cells.length ∧ s.2.length = n ∧ ∀ d ∈ s.2, 0 ≤ d ∧ d < 2147483629) ?_ fun s h => Ok.some h.2
  refine Ok.fold (fun i s => s.1.length = cells.length ∧ s.2.length = i ∧ ∀ d ∈ s.2, 0 ≤ d ∧ d < 2147483629) ⟨rfl, rfl, fun d h => by cases h⟩ ?_ fun s h => by rw [rng_len] at h; exact h
  rintro i x ⟨cs, ds⟩ hx ⟨q1, q2, q3⟩
  obtain ⟨hi, rfl⟩ := rng_nat hx
  refine Ok.one (modP_eq (by omega)) ?_
  have m0 := fmod_lo (x := (i : Int)) (show (0 : Int) < (cells.length : Int) by omega)
  have m1 := fmod_hi (x := (i : Int)) (show (0 : Int) < (cells.length : Int) by omega)
  obtain ⟨cell, e1, _⟩ := atI_of (xs := cs) m0 (by rw [q1]; exact m1)
  refine Ok.one e1 ?_
  have app : ∀ d : Int, 0 ≤ d → d < 2147483629 → ∀ d' ∈ ds ++ [d], 0 ≤ d' ∧ d' < 2147483629 := fun d a b d' h => by
    rcases List.mem_append.mp h with h | h
    · exact q3 d' h
    · rw [List.mem_singleton.mp h]; exact ⟨a, b⟩
  refine Ok.bind (P := fun s => s.1.length = cells.length ∧ s.2.length = i + 1 ∧ ∀ d ∈ s.2, 0 ≤ d ∧ d < 2147483629) (Ok.ite (fun h => ?_) fun h => ?_) fun s h => Ok.some h
  · refine Ok.one (appP_eq (by show ds.length < _; have q2 : ds.length = i := q2; omega)) (Ok.one (setP_of m0 (by show _ < (cs.length : Int); have q1 : cs.length = cells.length := q1; rw [q1]; exact m1)) (Ok.some ⟨?_, ?_, ?_⟩))
    · show (cs.set _ _).length = _
      rw [List.length_set]; exact q1
    · show (ds ++ _).length = _
      rw [List.length_append]; exact congrArg (· + 1) q2
    · exact app _ (fmod_lo (by decide)) (Int.lt_trans (fmod_hi (by decide)) (by decide))
  · have b0 := fmod_lo (x := cell * 48271 + (i : Int) * 69621 + 40503) (show (0 : Int) < 2147483647 by decide)
    have b1 := fmod_hi (x := cell * 48271 + (i : Int) * 69621 + 40503) (show (0 : Int) < 2147483647 by decide)
    refine Ok.one (a := ?v) ?e ?_
    case e =>
      rw [mulP_eq (Or.inl (by omega))]
      rfl
    refine Ok.one (appP_eq (by show ds.length < _; have q2 : ds.length = i := q2; omega)) (Ok.some ⟨q1, ?_, ?_⟩)
    · show (ds ++ _).length = _
      rw [List.length_append]; exact congrArg (· + 1) q2
    · exact app _ (fmod_lo (by decide)) (fmod_hi (by decide))
/-! ### loops that never leave -/
theorem Ok.loop {f : S → α → Option (Fl ρ S S)} {xs : List α} {s0 : S} {φ : ρ → β} {kk : S → Option β} {P : β → Prop} (Inv : Nat → S → Prop) (h0 : Inv 0 s0)
    (st : ∀ i x s, xs[i]? = Option.some x → Inv i s → Ok (f s x) fun o => ∃ s', (o = .nx s' ∨ o = .ct s') ∧ Inv (i + 1) s') (hk : ∀ s, Inv xs.length s → Ok (kk s) P) : Ok ((loopO f s0 xs).bind (Lp.go φ kk)) P := by
  obtain ⟨s', e, h⟩ := loopO_ok (f := f) (xs := xs) (s0 := s0) Inv h0 fun i x s hx hs => by
    obtain ⟨o, e1, s', e2, h⟩ := st i x s hx hs
    rcases e2 with rfl | rfl
    · exact ⟨s', .inl e1, h⟩
    · exact ⟨s', .inr e1, h⟩
  rw [e]
  exact hk s' h
/-- a loop whose turns change nothing -/
theorem Ok.loop0 {f : Unit → α → Option (Fl ρ Unit Unit)} {xs : List α} {φ : ρ → β} {kk : Unit → Option β} {P : β → Prop} (st : ∀ x, x ∈ xs → f () x = Option.some (Fl.nx ())) (hk : Ok (kk ()) P) : Ok ((loopO f () xs).bind (Lp.go φ kk)) P :=
  Ok.loop (fun _ _ => True) trivial (fun i x s hx _ => Ok.eq (st x (List.mem_of_getElem? hx)) ⟨(), .inl rfl, trivial⟩) fun s _ => hk
/-! ### the comparison that most laws make -/
def sameM : Nat → D → D → Option Bool
  | 0, _, _ => none
  | n + 1, p_actual, p_due => ((some p_due).bind fun y_122 => isiP "bool" (em y_122)).bind fun c_185 => if c_185 = true then ((andO ((some p_actual).bind fun y_123 => isiP "bool" (em y_123)) ((some p_actual).bind fun y_124 => (some p_due).bind fun y_125 => eqD y_124 y_125)).bind fun r_126 => some r_126).bind fun r_184 => some (id r_184) else ((some p_due).bind fun y_127 => isiP "int" (em y_127)).bind fun c_183 => if c_183 = true then ((andO ((some p_actual).bind fun y_128 => isiP "int" (em y_128)) (andO (((some p_actual).bind fun y_129 => isiP "bool" (em y_129)).bind fun y_130 => some (!y_130)) ((some p_actual).bind fun y_131 => (some p_due).bind fun y_132 => eqD y_131 y_132))).bind fun r_133 => some r_133).bind fun r_182 => some (id r_182) else ((some p_due).bind fun y_134 => isiP "str" (em y_134)).bind fun c_181 => if c_181 = true then ((andO ((some p_actual).bind fun y_135 => isiP "str" (em y_135)) ((some p_actual).bind fun y_136 => (some p_due).bind fun y_137 => eqD y_136 y_137)).bind fun r_138 => some r_138).bind fun r_180 => some (id r_180) else ((some p_due).bind fun y_139 => some (isN (em y_139))).bind fun c_179 => if c_179 = true then (((some p_actual).bind fun y_140 => some (isN (em y_140))).bind fun r_141 => some r_141).bind fun r_178 => some (id r_178) else (andO ((some p_due).bind fun y_142 => isiP "tuple" (em y_142)) (((some p_actual).bind fun y_143 => isiP "tuple" (em y_143)).bind fun y_144 => some (!y_144))).bind fun c_177 => if c_177 = true then ((some false).bind fun r_145 => some r_145).bind fun r_176 => some (id r_176) else (andO ((some p_due).bind fun y_146 => isiP "list" (em y_146)) (((some p_actual).bind fun y_147 => isiP "list" (em y_147)).bind fun y_148 => some (!y_148))).bind fun c_175 => if c_175 = true then ((some false).bind fun r_149 => some r_149).bind fun r_174 => some (id r_174) else (((some p_actual).bind fun y_150 => lenD y_150).bind fun y_152 => ((some p_due).bind fun y_151 => lenD y_151).bind fun y_153 => some (!decide (y_152 = y_153))).bind fun c_173 => if c_173 = true then ((some false).bind fun r_154 => some r_154).bind fun r_172 => some (id r_172) else ((some p_actual).bind fun y_155 => (some p_due).bind fun y_156 => zipD y_155 y_156).bind fun y_159 => (loopO (fun (s_157 : Unit) (v_one_158 : (D × D)) => (((((some v_one_158.1).bind fun y_162 => ((some v_one_158.2).bind fun y_160 => (some ()).bind fun y_161 => some (y_160, y_161)).bind fun y_163 => some (y_162, y_163)).bind (fun a : D × D × Unit => sameM n a.1 a.2.1)).bind fun y_166 => some (!y_166)).bind fun c_169 => if c_169 = true then ((some false).bind fun r_167 => some r_167).bind fun r_168 => some (Fl.rt r_168) else some (Fl.nx ()) : Option (Fl Bool Unit Unit))) () y_159).bind (Lp.go (fun x => x) fun s_157 : Unit => (some true).bind fun r_170 => some r_170)
/-- data of lists, tuples and plain values, of a depth below n -/
def okD : Nat → D → Prop
  | 0, _ => False
  | n + 1, .tup l => ∀ x ∈ l, okD n x
  | n + 1, .lst l => ∀ x ∈ l, okD n x
  | _ + 1, .ins _ _ _ => False
  | _ + 1, _ => True
theorem same_its {f : D × D → Option Bool} : ∀ {l : List D}, (∀ x ∈ l, f (x, x) = some true) → ∃ s, loopO (fun (_ : Unit) (p : D × D) => (f p).bind fun x => if (!x) = true then some (Fl.rt false) else some (Fl.nx ())) () (l.zip l) = some (Lp.fin (ρ := Bool) s)
  | [], _ => ⟨(), rfl⟩
  | x :: l, h => by
    obtain ⟨s, e⟩ := same_its (f := f) fun y hy => h y (List.mem_cons_of_mem _ hy)
    refine ⟨s, ?_⟩
    rw [List.zip_cons_cons]
    show ((f (x, x)).bind _).bind _ = _
    rw [h x List.mem_cons_self]
    exact e
theorem same_refl : ∀ (n : Nat) (d : D), okD n d → sameM n d d = some true
  | 0, _, h => h.elim
  | n + 1, d, h => by
    unfold sameM
    simp only [bsm, basm]
    cases d with
    | non => rfl
    | bl b => simp [isiP, isD, tyD, em, Em.em, eqD, andO]
    | int b => simp [isiP, isD, tyD, em, Em.em, eqD, andO]
    | str b => simp [isiP, isD, tyD, em, Em.em, eqD, andO]
    | ins _ _ _ => exact h.elim
    | tup l =>
      obtain ⟨s, e⟩ := same_its (l := l) (f := fun p => sameM n p.1 p.2) fun x hx => same_refl n x (h x hx)
      simp only [show isiP "bool" (em (D.tup l)) = some false from rfl, show isiP "int" (em (D.tup l)) = some false from rfl, show isiP "str" (em (D.tup l)) = some false from rfl, show isiP "tuple" (em (D.tup l)) = some true from rfl, show isiP "list" (em (D.tup l)) = some false from rfl,
        show isN (em (D.tup l)) = false from rfl, show lenD (D.tup l) = some (l.length : Int) from rfl, show zipD (D.tup l) (D.tup l) = some (l.zip l) from rfl, bsm, andO_some, Bool.false_eq_true, if_false, if_true, Bool.not_true, decide_true]
      rw [e]
      rfl
    | lst l =>
      obtain ⟨s, e⟩ := same_its (l := l) (f := fun p => sameM n p.1 p.2) fun x hx => same_refl n x (h x hx)
      simp only [show isiP "bool" (em (D.lst l)) = some false from rfl, show isiP "int" (em (D.lst l)) = some false from rfl, show isiP "str" (em (D.lst l)) = some false from rfl, show isiP "tuple" (em (D.lst l)) = some false from rfl, show isiP "list" (em (D.lst l)) = some true from rfl,
        show isN (em (D.lst l)) = false from rfl, show lenD (D.lst l) = some (l.length : Int) from rfl, show zipD (D.lst l) (D.lst l) = some (l.zip l) from rfl, bsm, andO_some, Bool.false_eq_true, if_false, if_true, Bool.not_true, decide_true]
      rw [e]
      rfl
/-! ### loops that append -/
theorem fold_rng {f : List β → Int → Option (List β)} {g : Nat → β} {n : Nat} (h : ∀ (i : Nat) (s : List β), i < n → s.length = i → f s (i : Int) = some (s ++ [g i])) : foldO f [] (rng 0 (n : Int)) = some ((List.range n).map g) := by
  refine Ok.get (Ok.fold (fun i s => s = (List.range i).map g) rfl ?_ fun s h => by rw [rng_len] at h; exact h)
  rintro i x s hx rfl
  obtain ⟨hi, rfl⟩ := rng_nat hx
  refine Ok.eq (h i _ hi (by simp)) ?_
  rw [List.range_succ, List.map_append]
  rfl
theorem fold_map {f : List β → α → Option (List β)} {g : α → β} {xs : List α} (hz : xs.length ≤ 16777216) (h : ∀ (s : List β) x, x ∈ xs → s.length < xs.length → f s x = some (s ++ [g x])) : foldO f [] xs = some (xs.map g) := by
  refine Ok.get (Ok.fold (fun i s => s = (xs.take i).map g) rfl ?_ fun s h => by rw [List.take_length] at h; exact h)
  rintro i x s hx rfl
  obtain ⟨hi, e⟩ := List.getElem?_eq_some_iff.mp hx
  refine Ok.eq (h _ x (List.mem_of_getElem? hx) (by rw [List.length_map, List.length_take]; omega)) ?_
  rw [List.take_add_one, List.map_append, hx]
  rfl
theorem okD_em [Em τ] {n : Nat} {l : List τ} (h : ∀ x ∈ l, okD n (em x)) : ∀ x ∈ l.map em, okD n x := fun x hx => by
  obtain ⟨y, hy, rfl⟩ := List.mem_map.mp hx
  exact h y hy
theorem okD_vt [Em τ] {n : Nat} {l : Vt τ} (h : ∀ x ∈ l.l, okD n (em x)) : okD (n + 1) (em l) := okD_em h
theorem okD_list [Em τ] {n : Nat} {l : List τ} (h : ∀ x ∈ l, okD n (em x)) : okD (n + 1) (em l) := okD_em h
theorem rngP_nat {n : Nat} (h : n ≤ 16777216) : rngP 0 (n : Int) = some (rng 0 (n : Int)) := rngP_eq (by omega) (by omega)
/-! ### loops that may hand back a value -/
def LpP (Inv : S → Prop) (R : ρ → Prop) : Lp ρ S → Prop
  | .fin s => Inv s
  | .ret r => R r
def FlP (Inv : S → Prop) (R : ρ → Prop) : Fl ρ S S → Prop
  | .nx s => Inv s
  | .ct s => Inv s
  | .bk s => Inv s
  | .rt r => R r
theorem Ok.loopAny {f : S → α → Option (Fl ρ S S)} (Inv : S → Prop) (R : ρ → Prop) : ∀ {xs : List α} {s0 : S}, Inv s0 → (∀ x s, x ∈ xs → Inv s → Ok (f s x) (FlP Inv R)) → Ok (loopO f s0 xs) (LpP Inv R)
  | [], s0, h0, _ => ⟨_, rfl, h0⟩
  | x :: xs, s0, h0, st => by
    obtain ⟨o, e1, h1⟩ := st x s0 (List.mem_cons_self) h0
    have nxt : ∀ s', Inv s' → Ok (loopO f s' xs) (LpP Inv R) := fun s' h => Ok.loopAny Inv R h fun y s hy hs => st y s (List.mem_cons_of_mem _ hy) hs
    show Ok ((f s0 x).bind _) _
    refine Ok.one e1 ?_
    cases o with
    | nx s' => exact nxt s' h1
    | ct s' => exact nxt s' h1
    | bk s' => exact ⟨_, rfl, h1⟩
    | rt r => exact ⟨_, rfl, h1⟩
theorem Ok.go {φ : ρ → β} {kk : S → Option β} {Inv : S → Prop} {R : ρ → Prop} {P : β → Prop} {o : Lp ρ S} (h : LpP Inv R o) (h1 : ∀ r, R r → P (φ r)) (h2 : ∀ s, Inv s → Ok (kk s) P) : Ok (Lp.go φ kk o) P := by
  cases o with
  | fin s => exact h2 s h
  | ret r => exact ⟨_, rfl, h1 r h⟩
end T

set_option Elab.async false
set_option linter.all false
set_option maxRecDepth 100000
set_option maxHeartbeats 4000000
/-! TMathT: the logic of mirrors that draw; the law's tape. -/
namespace T
open PySem PySem.Spec PyProof.Rows L2
section
variable {α β γ U : Type}
theorem bM1 (x : α) (t : U) (k : α → U → Option γ) : bM (some (x, t)) k = k x t := by
  show (some (x, t)).bind _ = _
  rw [bsm]
theorem bM2 (m : Option β) (f : β → Option (α × U)) (k : α → U → Option γ) : bM (m.bind f) k = m.bind fun a => bM (f a) k := by cases m <;> rfl
theorem bM3 (m : Option (α × U)) (f : α → U → Option (β × U)) (k : β → U → Option γ) : bM (bM m f) k = bM m fun x t => bM (f x t) k := by cases m <;> rfl
theorem bM4 (m : Option (α × U)) (f : α → U → Option β) (k : β → Option γ) : (bM m f).bind k = bM m fun x t => (f x t).bind k := by cases m <;> rfl
theorem Ok.bM {m : Option (α × U)} {k : α → U → Option γ} {P : α × U → Prop} {Q : γ → Prop} (h : Ok m P) (hk : ∀ x t, P (x, t) → Ok (k x t) Q) : Ok (T.bM m k) Q := by
  obtain ⟨⟨x, t⟩, e, p⟩ := h
  subst e
  rw [bM1]
  exact hk x t p
theorem Ok.bM1 {m : Option (α × U)} {k : α → U → Option γ} {x : α} {t : U} {Q : γ → Prop} (h : m = Option.some (x, t)) (hk : Ok (k x t) Q) : Ok (T.bM m k) Q := by
  subst h
  rw [T.bM1]
  exact hk
theorem atI_ok {xs : List α} {i : Int} {P : α → Prop} (h0 : 0 ≤ i) (h1 : i < (xs.length : Int)) (h : ∀ x ∈ xs, P x) : Ok (atI xs i) P := by
  obtain ⟨x, e, m, _⟩ := atI_of (xs := xs) h0 h1
  exact ⟨x, e, h x m⟩
end
def tapeM (p_script : (List Int)) : Option Tp := ((some p_script).bind fun y_144 => lcC (fun _ : Int => some true) (fun v_cell_140 : Int => ((some v_cell_140).bind fun y_141 => some y_141).bind fun y_142 => some (absI y_142)) y_144).bind fun v_cells_138 => ((((some v_cells_138).bind fun y_145 => some (List.length y_145 : Int)).bind fun y_146 => (some (0 : Int)).bind fun y_147 => some (decide (y_146 = y_147))).bind fun c_170 => if c_170 = true then (((some (5 : Int)).bind fun y_150 => (some []).bind fun y_151 => some (y_150 :: y_151)).bind lstP).bind fun v_cells_149 => some v_cells_149 else some v_cells_138).bind fun s_148 : (List Int) => ((some s_148).bind fun y_162 => lcC (fun _ : Int => some true) (fun v_cell_156 : Int => (some (0 : Int)).bind fun y_159 => ((some v_cell_156).bind fun y_157 => (some (1000000000000000000 : Int)).bind fun y_158 => some (y_157 - y_158)).bind fun y_160 => some (if y_160 > y_159 then y_160 else y_159)) y_162).bind fun v_digits_154 => ((some s_148).bind fun y_168 => lcC (fun _ : Int => some true) (fun v_cell_164 : Int => ((some v_cell_164).bind fun y_165 => some y_165).bind fun y_166 => some (Int.fmod y_166 (2147483647 : Int))) y_168).bind fun r_169 => some (⟨0, v_digits_154, r_169⟩ : Tp)
def takeM (p_tape : Tp) (p_many : Int) : Option (Int × Tp) := (some p_tape.c).bind fun v_count_171 => ((some v_count_171).bind fun y_172 => (some (1 : Int)).bind fun y_173 => some (y_172 + y_173)).bind fun c_174 => ((some v_count_171).bind fun y_179 => ((some ((⟨c_174, p_tape.ds, p_tape.ss⟩ : Tp)).ds).bind fun y_178 => some (List.length y_178 : Int)).bind fun y_180 => modP y_179 y_180).bind fun v_at_177 => (((some ((⟨c_174, p_tape.ds, p_tape.ss⟩ : Tp)).ds).bind fun y_181 => (some v_at_177).bind fun y_182 => atI y_181 y_182).bind fun y_183 => (some (0 : Int)).bind fun y_184 => some (decide (y_184 < y_183))).bind fun c_227 => if c_227 = true then ((((some ((⟨c_174, p_tape.ds, p_tape.ss⟩ : Tp)).ds).bind fun y_186 => (some v_at_177).bind fun y_187 => atI y_186 y_187).bind fun y_188 => (some p_many).bind fun y_189 => modP y_188 y_189).bind fun v_value_185 => (((some ((⟨c_174, p_tape.ds, p_tape.ss⟩ : Tp)).ds).bind fun y_190 => (some v_at_177).bind fun y_191 => atI y_190 y_191).bind fun y_192 => (some p_many).bind fun y_193 => divW y_192 y_193).bind fun y_198 => (some v_at_177).bind fun y_199 => (setP ((⟨c_174, p_tape.ds, p_tape.ss⟩ : Tp)).ds y_199 y_198).bind fun d_194 => bM ((some v_value_185).bind fun y_195 => some (y_195, (⟨((⟨c_174, p_tape.ds, p_tape.ss⟩ : Tp)).c, d_194, ((⟨c_174, p_tape.ds, p_tape.ss⟩ : Tp)).ss⟩ : Tp))) fun r_196 t_197 => some (r_196, t_197)).bind fun r_226 => some (id r_226) else (((((((some ((⟨c_174, p_tape.ds, p_tape.ss⟩ : Tp)).ss).bind fun y_201 => (some v_at_177).bind fun y_202 => atI y_201 y_202).bind fun y_203 => some (y_203 * (48271 : Int))).bind fun y_205 => ((some v_count_171).bind fun y_204 => some (y_204 * (69621 : Int))).bind fun y_206 => some (y_205 + y_206)).bind fun y_207 => (some (11 : Int)).bind fun y_208 => some (y_207 + y_208)).bind fun y_209 => some y_209).bind fun y_210 => some (Int.fmod y_210 (2147483647 : Int))).bind fun v_value_200 => (((((some v_value_200).bind fun y_215 => (((some v_value_200).bind fun y_212 => some (Int.fmod y_212 (65521 : Int))).bind fun y_213 => (some (3 : Int)).bind fun y_214 => some (y_213 + y_214)).bind fun y_216 => mulP y_215 y_216).bind fun y_217 => (some v_count_171).bind fun y_218 => some (y_217 + y_218)).bind fun y_219 => some y_219).bind fun y_220 => some (Int.fmod y_220 (2147483399 : Int))).bind fun v_value_211 => bM (((some v_value_211).bind fun y_221 => (some p_many).bind fun y_222 => modP y_221 y_222).bind fun y_223 => some (y_223, (⟨c_174, p_tape.ds, p_tape.ss⟩ : Tp))) fun r_224 t_225 => some (r_224, t_225)
structure TpOk (t : Tp) : Prop where
  c : 0 ≤ t.c
  len : t.ds.length = t.ss.length
  pos : 0 < t.ss.length
  ds : ∀ d ∈ t.ds, 0 ≤ d
  ss : ∀ s ∈ t.ss, 0 ≤ s ∧ s < 2147483647
theorem take_ok {t : Tp} {many : Int} (h : TpOk t) (h0 : 0 < many) (h1 : many.natAbs < 2 ^ 1000) : Ok (takeM t many) fun p => (0 ≤ p.1 ∧ p.1 < many) ∧ TpOk p.2 := by
  unfold takeM
  simp only [bsm, basm, bM1, bM2]
  have hp := h.pos
  have hl := h.len
  refine Ok.one (modP_eq (by omega)) ?_
  have a0 := fmod_lo (x := t.c) (show (0 : Int) < (t.ds.length : Int) by omega)
  have a1 := fmod_hi (x := t.c) (show (0 : Int) < (t.ds.length : Int) by omega)
  generalize t.c.fmod (t.ds.length : Int) = at' at a0 a1 ⊢
  have v0 : ∀ v : Int, 0 ≤ v.fmod many ∧ v.fmod many < many := fun v => ⟨fmod_lo h0, fmod_hi h0⟩
  obtain ⟨d, ed, md, _⟩ := atI_of (xs := t.ds) a0 (by omega)
  rw [ed]
  simp only [bsm, basm]
  refine Ok.ite (fun hd => ?_) fun _ => ?_
  · rw [modP_eq (show many ≠ 0 by omega), bsm, show divW d many = some (d / many) from by unfold divW; rw [if_pos ⟨h0, h1⟩], bsm, setP_of a0 (by omega), bsm]
    refine Ok.some ⟨v0 d, ⟨by have := h.c; show 0 ≤ t.c + 1; omega, by show (t.ds.set _ _).length = _; rw [List.length_set]; exact hl, hp, fun x hx => ?_, h.ss⟩⟩
    rcases List.mem_or_eq_of_mem_set hx with hx | rfl
    · exact h.ds x hx
    · exact Int.ediv_nonneg (h.ds d md) (by omega)
  · refine Ok.bind (atI_ok (P := fun _ => True) a0 (by omega) fun _ _ => trivial) fun s _ => ?_
    refine Ok.one (mulP_eq (.inl ?_)) ?_
    · have b0 := fmod_lo (x := s * 48271 + t.c * 69621 + 11) (show (0 : Int) < 2147483647 by decide)
      have b1 := fmod_hi (x := s * 48271 + t.c * 69621 + 11) (show (0 : Int) < 2147483647 by decide)
      omega
    · rw [modP_eq (show many ≠ 0 by omega), bsm]
      exact Ok.some ⟨v0 _, ⟨by have := h.c; show 0 ≤ t.c + 1; omega, hl, hp, h.ds, h.ss⟩⟩
theorem tape_ok {ns : List Int} (hl : ns.length ≤ 63) : Ok (tapeM ns) TpOk := by
  unfold tapeM
  simp only [bsm, basm]
  refine Ok.one (lcC_map (g := absI) (by omega) fun x _ => rfl) ?_
  refine Ok.bind (P := fun cs : List Int => 0 < cs.length ∧ cs.length ≤ 63 ∧ ∀ c ∈ cs, 0 ≤ c) (Ok.ite (fun h => ?_) fun h => ?_) fun cs hcs => ?_
  · exact Ok.one (lstP_eq (by decide)) (Ok.some ⟨by decide, by decide, by decide⟩)
  · refine Ok.some ⟨?_, by rw [List.length_map]; omega, fun c hc => ?_⟩
    · by_cases z : (ns.map absI).length = 0
      · exact absurd (by rw [z]; rfl) h
      · omega
    · obtain ⟨x, _, rfl⟩ := List.mem_map.mp hc
      unfold absI
      split <;> omega
  · refine Ok.one (lcC_map (g := fun c => if c - 1000000000000000000 > 0 then c - 1000000000000000000 else 0) (by omega) fun x _ => rfl) ?_
    refine Ok.one (lcC_map (g := fun c => c.fmod 2147483647) (by omega) fun x _ => rfl) (Ok.some ⟨Int.le_refl _, ?_, ?_, fun d hd => ?_, fun s hs => ?_⟩)
    · show (cs.map _).length = (cs.map _).length
      rw [List.length_map, List.length_map]
    · show 0 < (cs.map _).length
      rw [List.length_map]; exact hcs.1
    · obtain ⟨x, _, rfl⟩ := List.mem_map.mp hd
      split <;> omega
    · obtain ⟨x, _, rfl⟩ := List.mem_map.mp hs
      exact ⟨fmod_lo (by decide), fmod_hi (by decide)⟩
end T

set_option Elab.async false
set_option linter.all false
set_option maxRecDepth 100000
set_option maxHeartbeats 4000000
namespace K41
open PySem PySem.Spec PyProof.Rows L2 T
/-! ### names -/
def okc (c : Nat) : Bool := !decide ([c] < (Str.ofString "a").cps.toList) && !decide ((Str.ofString "z").cps.toList < [c])
theorem okc_iff (c : Nat) : okc c = true ↔ 97 ≤ c ∧ c ≤ 122 := by
  unfold okc
  rw [show (Str.ofString "a").cps.toList = [97] by decide +kernel, show (Str.ofString "z").cps.toList = [122] by decide +kernel]
  simp [List.cons_lt_cons_iff]
  
def isn (s : Str) : Bool := decide (1 ≤ s.length) && decide (s.length ≤ 12) && s.cps.toList.all okc
theorem isn_eq {s : Str} (h : s.length < 16777216) : M_is_name s = some (isn s) := by
  unfold M_is_name
  simp only [bsm, basm]
  rw [lenS_eq h]
  unfold chI isn
  simp only [bsm]
  have e1 : decide ((1 : Int) ≤ (s.length : Int)) = decide (1 ≤ s.length) := by congr 1; simp; omega
  have e2 : decide ((s.length : Int) ≤ 12) = decide (s.length ≤ 12) := by congr 1; simp; omega
  rw [e1, e2]
  by_cases a : 1 ≤ s.length
  · simp only [a, decide_true, if_true, andO_some, Bool.true_and]
    by_cases b : s.length ≤ 12
    · simp only [b, decide_true, if_true, Bool.true_and]
      rfl
    · simp only [b, decide_false, Bool.false_eq_true, if_false, Bool.false_and, bsm]
  · simp only [a, decide_false, Bool.false_eq_true, if_false, andO_some, Bool.false_and, bsm]
theorem isn_iff (s : Str) : isn s = true ↔ (1 ≤ s.length ∧ s.length ≤ 12) ∧ ∀ c ∈ s.cps.toList, 97 ≤ c ∧ c ≤ 122 := by
  unfold isn
  rw [Bool.and_eq_true, Bool.and_eq_true, decide_eq_true_iff, decide_eq_true_iff, List.all_eq_true]
  exact ⟨fun ⟨a, b⟩ => ⟨a, fun c hc => (okc_iff c).mp (b c hc)⟩, fun ⟨a, b⟩ => ⟨a, fun c hc => (okc_iff c).mpr (b c hc)⟩⟩
/-! ### Signature -/
abbrev BS : Ex := ⟨"BadSignature", []⟩
def Bad (k n : List Str) : Prop := k = [] ∨ 4 < (k ++ n).length ∨ ¬ (k ++ n).Nodup ∨ ∃ s ∈ k ++ n, isn s = false
theorem loop_bad : ∀ {xs : List Str}, (∀ s ∈ xs, s.length < 16777216) → (∃ s ∈ xs, isn s = false) → loopO (fun (_ : Unit) (v : Str) => (M_is_name v).bind fun x => if (!x) = true then some (Fl.rt BS) else some (Fl.nx ())) () xs = some (Lp.ret BS)
  | [], _, h => by simp at h
  | x :: xs, hl, h => by
    unfold loopO
    rw [isn_eq (hl x List.mem_cons_self), bsm]
    cases e : isn x with
    | false => rfl
    | true =>
      simp only [Bool.not_true, Bool.false_eq_true, if_false, bsm]
      refine loop_bad (fun s hs => hl s (List.mem_cons_of_mem _ hs)) ?_
      obtain ⟨s, hs, hb⟩ := h
      rcases List.mem_cons.mp hs with rfl | hs
      · rw [e] at hb; cases hb
      · exact ⟨s, hs, hb⟩
theorem cnt_lt {xs : List Str} : decide ((cntD xs.reverse : Int) < (xs.length : Int)) = !decide (xs.Nodup) := by
  have h1 := cntD_le xs.reverse
  have h2 := cntD_eq xs.reverse
  rw [List.length_reverse] at h1 h2
  rw [(List.reverse_perm xs).nodup_iff] at h2
  by_cases c : xs.Nodup
  · rw [decide_eq_true c, Bool.not_true]
    exact decide_eq_false (by have := h2.mpr c; omega)
  · rw [decide_eq_false c, Bool.not_false]
    exact decide_eq_true (by have : ¬ cntD xs.reverse = xs.length := fun e => c (h2.mp e)
                             omega)
theorem sig_bad {k n : List Str} (hl : k.length + n.length ≤ 4000) (hs : ∀ s ∈ k ++ n, s.length < 16777216) (h : Bad k n) : M_Signature k n = some (.er BS) := by
  unfold M_Signature
  simp only [bsm, basm]
  rw [catL_eq (by omega), bsm, orO_some, Bool.not_not]
  by_cases c1 : k.isEmpty = true
  · simp only [c1, if_true, bsm]
  · simp only [c1, Bool.false_eq_true, if_false]
    have k0 : k ≠ [] := fun e => c1 (by rw [e]; rfl)
    rw [orO_some, show C_MOST_SORTS = 4 from rfl]
    by_cases c2 : 4 < (k ++ n).length
    · rw [decide_eq_true (show (4 : Int) < ((k ++ n).length : Int) by omega)]
      simp only [if_true, bsm]
    · rw [decide_eq_false (show ¬ (4 : Int) < ((k ++ n).length : Int) by omega), if_pos (show (k ++ n).length ≤ 4000 by omega)]
      simp only [Bool.false_eq_true, if_false, bsm]
      rw [cnt_lt]
      by_cases c3 : (k ++ n).Nodup
      · have h4 : ∃ s ∈ k ++ n, isn s = false := by
          rcases h with h | h | h | h
          · exact absurd h k0
          · exact absurd h c2
          · exact absurd c3 h
          · exact h
        rw [decide_eq_true c3]
        simp only [Bool.not_true, Bool.false_eq_true, if_false]
        rw [loop_bad hs h4, bsm]
        rfl
      · rw [decide_eq_false c3]
        simp only [Bool.not_false, if_true]
theorem sig_ok {k n : List Str} (k0 : k ≠ []) (hl : (k ++ n).length ≤ 4) (hd : (k ++ n).Nodup) (hn : ∀ s ∈ k ++ n, isn s = true) : M_Signature k n = some (.ok ⟨k, n⟩) := by
  have hs : ∀ s ∈ k ++ n, s.length < 16777216 := fun s hs => by have := ((isn_iff s).mp (hn s hs)).1; omega
  refine Ok.get ?_
  unfold M_Signature
  simp only [bsm, basm]
  rw [catL_eq (by rw [List.length_append] at hl; omega), bsm, orO_some, Bool.not_not]
  have c1 : k.isEmpty = false := by cases k with
    | nil => exact absurd rfl k0
    | cons x r => rfl
  simp only [c1, Bool.false_eq_true, if_false]
  rw [orO_some, show C_MOST_SORTS = 4 from rfl, decide_eq_false (show ¬ (4 : Int) < ((k ++ n).length : Int) by omega), if_pos (show (k ++ n).length ≤ 4000 by omega)]
  simp only [Bool.false_eq_true, if_false, bsm]
  rw [cnt_lt, decide_eq_true hd]
  simp only [Bool.not_true, Bool.false_eq_true, if_false]
  refine Ok.loop0 (fun x hx => ?_) (Ok.some rfl)
  rw [isn_eq (hs x hx), bsm, hn x hx]
  rfl
/-! ### _law_refused, _law_is -/
def Gs (s : Str) : Prop := s.length < 16777216 ∧ PyData.strOk s = true
theorem strs_py : ∀ {l : List Str}, (∀ s ∈ l, Gs s) → PyData.canLayAll0 (toPyA (l.map em)) = true ∧ plainA (l.map em) = true ∧ PyData.eqvAll (toPyA (l.map em)) (toPyA (l.map em)) = true ∧ PyData.depthAll (toPyA (l.map em)) = 0
  | [], _ => ⟨rfl, rfl, rfl, rfl⟩
  | x :: l, h => by
    obtain ⟨a, b, c, d⟩ := strs_py (l := l) fun s hs => h s (List.mem_cons_of_mem _ hs)
    refine ⟨?_, ?_, ?_, ?_⟩
    · show (PyData.strOk x && PyData.canLayAll0 (toPyA (l.map em))) = true
      rw [(h x List.mem_cons_self).2, a]
      rfl
    · show (true && plainA (l.map em)) = true
      rw [b]
      rfl
    · show ((x == x) && PyData.eqvAll (toPyA (l.map em)) (toPyA (l.map em))) = true
      rw [c]
      simp
    · show max 0 (PyData.depthAll (toPyA (l.map em))) = 0
      rw [d]
      rfl
theorem eq_ab {a b : List Str} (ha : ∀ s ∈ a, Gs s) (hb : ∀ s ∈ b, Gs s) : eqP (em [a, b]) (em [a, b]) = some true := by
  obtain ⟨a1, a2, a3, a4⟩ := strs_py ha
  obtain ⟨b1, b2, b3, b4⟩ := strs_py hb
  have e : toPy (em [a, b]) = .list [.list (toPyA (a.map em)), .list (toPyA (b.map em))] := rfl
  have p : plainD (em [a, b]) = true := by
    show (plainA (a.map em) && (plainA (b.map em) && true)) = true
    rw [a2, b2]
    rfl
  have s : SeqAt.shaped (toPy (em [a, b])) = true := by
    rw [e]
    unfold SeqAt.shaped
    show (((PyData.canLayAll0 (toPyA (a.map em)) && (PyData.canLayAll0 (toPyA (b.map em)) && true))) && decide (PyData.depth _ ≤ 64)) = true
    rw [a1, b1]
    simp only [PyData.depth, PyData.depthAll, a4, b4]
    decide
  unfold eqP
  rw [if_pos ⟨p, p, s, s⟩, e]
  show some ((PyData.eqvAll (toPyA (a.map em)) (toPyA (a.map em))) && ((PyData.eqvAll (toPyA (b.map em)) (toPyA (b.map em))) && true)) = some true
  rw [a3, b3]
  rfl
theorem refused_ok {a b : List Str} (hl : a.length + b.length ≤ 4000) (ha : ∀ s ∈ a, Gs s) (hb : ∀ s ∈ b, Gs s) (h : Bad a b) : M__law_refused a b = some true := by
  unfold M__law_refused
  simp only [bsm, basm, bindR]
  rw [lstP_eq (by show 2 < 16777216; decide), bsm, sig_bad hl (fun s hs => by
    rcases List.mem_append.mp hs with h | h
    · exact (ha s h).1
    · exact (hb s h).1) h, bsm]
  simp only [bsm]
  unfold tyB
  have e0 : BS.c ∈ [Str.ofString "BadSignature"] := by simp
  simp only [e0, if_true, List.not_mem_nil, decide_false, decide_true, orO_some, andO_some, Bool.false_eq_true, if_false, bsm]
  rw [eq_ab ha hb]
  simp only [bsm]
theorem is_refl {a : List Str} (hl : a.length < 16777216) : M__law_is a a = some true := by
  refine Ok.get ?_
  unfold M__law_is
  simp only [bsm, basm, orO_some, Bool.not_true, decide_true, Bool.false_eq_true, if_false, if_true]
  rw [rngP_nat (by omega), bsm, lcC_map (g := fun _ => true) (by rw [rng_len]; omega) fun i hi => ?_, bsm]
  · refine Ok.some ?_
    rw [List.all_map]
    simp
  · obtain ⟨h0, h1⟩ := rng_mem hi
    obtain ⟨x, e, _, _⟩ := atI_of (xs := a) h0 h1
    rw [e]
    simp only [bsm, show isiP "str" (em x) = some true from rfl, andO_some, decide_true, if_true]
theorem take_k (t : Tp) (m : Int) : M__law_take t m = takeM t m := by with_unfolding_all rfl
theorem tk {t : Tp} {many : Int} (h : TpOk t) (h0 : 0 < many) (h1 : many < 1000) : Ok (M__law_take t many) fun p => (0 ≤ p.1 ∧ p.1 < many) ∧ TpOk p.2 := by
  rw [take_k]
  refine take_ok h h0 ?_
  have : (1000 : Nat) ≤ 2 ^ 1000 := by decide +kernel
  omega
theorem tkn {t : Tp} {m : Nat} (h : TpOk t) (h0 : 0 < m) (h1 : m < 1000) : Ok (M__law_take t (m : Int)) fun p => (∃ j : Nat, j < m ∧ p.1 = (j : Int)) ∧ TpOk p.2 :=
  (tk h (by omega) (by omega)).imp fun p ⟨⟨a, b⟩, c⟩ => ⟨⟨p.1.toNat, by omega, by omega⟩, c⟩
theorem lcCM_ok {α β : Type} {P : β → Prop} {f : α → Tp → Option (β × Tp)} {xs : List α} (hz : xs.length < 16777216) (h : ∀ x ∈ xs, ∀ t, TpOk t → Ok (f x t) fun p => P p.1 ∧ TpOk p.2) {t : Tp} (ht : TpOk t) :
    Ok (lcCM (fun _ t => some (true, t)) f xs t) fun p => (p.1.length = xs.length ∧ ∀ y ∈ p.1, P y) ∧ TpOk p.2 := by
  unfold lcCM
  rw [if_pos (show sz xs.length from hz)]
  clear hz
  induction xs generalizing t with
  | nil => exact Ok.some ⟨⟨rfl, fun y hy => by cases hy⟩, ht⟩
  | cons x xs ih =>
    unfold lcOM
    rw [bM1, if_pos rfl]
    refine Ok.bM (h x List.mem_cons_self t ht) fun y t1 hy => ?_
    refine Ok.bM (ih (fun z hz => h z (List.mem_cons_of_mem _ hz)) hy.2) fun ys t2 hys => ?_
    refine Ok.some ⟨⟨by rw [List.length_cons, List.length_cons, hys.1.1], fun z hz => ?_⟩, hys.2⟩
    rcases List.mem_cons.mp hz with rfl | hz
    · exact hy.1
    · exact hys.1.2 z hz
theorem cut_to {α : Type} (xs : List α) (k : Nat) : T.cut xs none (some (k : Int)) = xs.take k := by
  unfold T.cut
  rw [HT.sIx_none, HT.sIx_nat, List.drop_zero, Nat.sub_zero]
  by_cases h : k ≤ xs.length
  · rw [Nat.min_eq_left h]
  · rw [Nat.min_eq_right (by omega), List.take_of_length_le (Nat.le_refl _), List.take_of_length_le (by omega)]
theorem cut_from {α : Type} (xs : List α) (k : Nat) : T.cut xs (some (k : Int)) none = xs.drop k := by
  unfold T.cut
  rw [HT.sIx_none, HT.sIx_nat, List.take_of_length_le (by rw [List.length_drop]; omega)]
  by_cases h : k ≤ xs.length
  · rw [Nat.min_eq_left h]
  · rw [Nat.min_eq_right (by omega), List.drop_eq_nil_of_le (Nat.le_refl _), List.drop_eq_nil_of_le (by omega)]
theorem mem_joinL {c : Nat} : ∀ {ls : List (List Nat)}, c ∈ TL.joinL [] ls → ∃ l ∈ ls, c ∈ l
  | [], h => by simp [TL.joinL] at h
  | [l], h => ⟨l, by simp, by simpa [TL.joinL] using h⟩
  | l :: m :: r, h => by
    have h : c ∈ l ∨ c ∈ TL.joinL [] (m :: r) := by simpa [TL.joinL] using h
    rcases h with h | h
    · exact ⟨l, by simp, h⟩
    · obtain ⟨l', h1, h2⟩ := mem_joinL h
      exact ⟨l', List.mem_cons_of_mem _ h1, h2⟩
theorem join_mem {ys : List Str} {s : Str} {c : Nat} (h : joinP "" ys = some s) (hc : c ∈ s.cps.toList) : ∃ y ∈ ys, c ∈ y.cps.toList := by
  unfold joinP at h
  split at h
  · cases h
    have e : TL.tl (Txt.join "" ys) = TL.joinL (TL.tl "") (ys.map TL.tl) := by rw [TL.join_eq, TL.tl_join]
    have hc : c ∈ TL.tl (Txt.join "" ys) := hc
    rw [e, show TL.tl ("" : Str) = [] by decide +kernel] at hc
    obtain ⟨l, h1, h2⟩ := mem_joinL hc
    obtain ⟨y, hy, rfl⟩ := List.mem_map.mp h1
    exact ⟨y, hy, h2⟩
  · cases h
theorem alph : ∀ c ∈ (Str.ofString "abcdefghijklmnopqrstuvwxyz").cps.toList, 97 ≤ c ∧ c ≤ 122 := by decide +kernel
theorem name_ok {t : Tp} (h : TpOk t) : Ok (M__law_name t) fun p => (isn p.1 = true ∧ (p.1.length ≤ 4 ∨ p.1.length = 12)) ∧ TpOk p.2 := by
  unfold M__law_name
  simp only [bsm, basm, bM1, bM2, bM3, bM4]
  refine Ok.bM (tkn (m := 4) h (by decide) (by decide)) fun x t hx => ?_
  refine Ok.bM (tk hx.2 (by decide) (by decide)) fun y t hy => ?_
  obtain ⟨⟨j, hj, rfl⟩, _⟩ := hx
  refine Ok.bind (P := fun p : Tp × Int => TpOk p.1 ∧ ∃ m : Nat, p.2 = (m : Int) ∧ 1 ≤ m ∧ (m ≤ 4 ∨ m = 12)) (Ok.ite (fun _ => Ok.some ⟨hy.2, 12, rfl, by decide, .inr rfl⟩) fun _ => Ok.some ⟨hy.2, 1 + j, by simp, by omega, .inl (by omega)⟩) fun p ⟨hp, m, e, m1, m2⟩ => ?_
  rw [e, rngP_nat (by omega), bsm]
  refine Ok.bM (lcCM_ok (P := fun s : Str => s.length = 1 ∧ ∀ c ∈ s.cps.toList, 97 ≤ c ∧ c ≤ 122) (by rw [rng_len]; omega) (fun x _ t ht => ?_) hp) fun ys t hys => ?_
  · refine Ok.bM (tk ht (by decide) (by decide)) fun z t hz => ?_
    obtain ⟨s, e, s1, c, rfl, hc, _⟩ := strAt_of (s := Str.ofString "abcdefghijklmnopqrstuvwxyz") hz.1.1 (by have := hz.1.2; rw [show (Str.ofString "abcdefghijklmnopqrstuvwxyz").length = 26 by decide +kernel]; exact this) (by decide +kernel)
    rw [e, bsm]
    refine Ok.some ⟨⟨s1, fun c' hc' => ?_⟩, hz.2⟩
    obtain rfl : c' = c := by simpa using hc'
    exact alph _ hc
  · obtain ⟨s, e, sl⟩ := joinP_ones (ys := ys) (fun y hy => (hys.1.2 y hy).1) (by rw [hys.1.1, rng_len]; omega)
    have e' : joinP (Str.ofString "") ys = some s := e
    rw [e', bsm]
    rw [hys.1.1, rng_len] at sl
    refine Ok.some ⟨⟨(isn_iff s).mpr ⟨⟨by omega, by omega⟩, fun c hc => ?_⟩, by simp only; omega⟩, hys.2⟩
    obtain ⟨y, hy, hc⟩ := join_mem e hc
    exact (hys.1.2 y hy).2 c hc
def hd (s : Str) : Option Nat := s.cps.toList.head?
def cc : Nat → Nat
  | 0 => 120
  | 1 => 121
  | 2 => 122
  | 3 => 118
  | _ => 119
def Fm (j : Nat) (s : Str) : Prop := isn s = true ∧ (s.length ≤ 4 + j ∨ s.length = 12 ∨ hd s = some 113 ∨ ∃ i, i ≤ j ∧ hd s = some (cc i))
theorem isn_len {s : Str} (h : isn s = true) : 1 ≤ s.length ∧ s.length ≤ 12 := ((isn_iff s).mp h).1
theorem isn_app {x y : Str} (hx : isn x = true) (hy : ∀ c ∈ y.cps.toList, 97 ≤ c ∧ c ≤ 122) (h : x.length + y.length ≤ 12) : isn (x ++ y) = true := by
  obtain ⟨⟨a, b⟩, c⟩ := (isn_iff x).mp hx
  refine (isn_iff _).mpr ⟨by rw [append_len]; omega, fun d hd => ?_⟩
  have hd : d ∈ TL.tl (x ++ y) := hd
  rw [TL.tl_append] at hd
  rcases List.mem_append.mp hd with h | h
  · exact c d h
  · exact hy d h
theorem hd_app {x y : Str} (h : 1 ≤ x.length) : hd (x ++ y) = hd x := by
  have e : (x ++ y).cps.toList = x.cps.toList ++ y.cps.toList := TL.tl_append x y
  unfold hd
  rw [e]
  rw [slen] at h
  cases q : x.cps.toList with
  | nil => rw [q] at h; simp at h
  | cons c r => rfl
abbrev QS : Str := Str.ofString "qqqqqqqqqqqq"
def Qn (i : Nat) : Str := cutS QS none (some ((6 + i : Nat) : Int))
theorem Qn_ok : ∀ i < 5, isn (Qn i) = true ∧ (Qn i).length = 6 + i ∧ hd (Qn i) = some 113 := by decide +kernel
theorem and2 (a b : Bool) : andO (some a) (some b) = some (a && b) := by cases a <;> rfl
theorem let5 : ∀ i < 5, isn ([Str.ofString "a", Str.ofString "b", Str.ofString "c", Str.ofString "d", Str.ofString "e"].getD i "") = true ∧ ([Str.ofString "a", Str.ofString "b", Str.ofString "c", Str.ofString "d", Str.ofString "e"].getD i "").length = 1 := by decide +kernel
theorem let5_at : ∀ i : Nat, i < 5 → atI [Str.ofString "a", Str.ofString "b", Str.ofString "c", Str.ofString "d", Str.ofString "e"] (i : Int) = some ([Str.ofString "a", Str.ofString "b", Str.ofString "c", Str.ofString "d", Str.ofString "e"].getD i "") := by decide +kernel
theorem xyz_at : ∀ i : Nat, i < 5 → T.strAt (Str.ofString "xyzvw") (i : Int) = some ⟨#[cc i]⟩ := by decide +kernel
theorem cc_inj : ∀ i < 5, ∀ j < 5, cc i = cc j → i = j := by decide +kernel
theorem cc_ok : ∀ i < 5, cc i ≠ 113 ∧ 97 ≤ cc i ∧ cc i ≤ 122 ∧ isn ⟨#[cc i]⟩ = true ∧ hd ⟨#[cc i]⟩ = some (cc i) := by decide +kernel
theorem entries_ok {t : Tp} (h : TpOk t) {n : Nat} (hn : n ≤ 5) : Ok (M__law_entries t (n : Int)) fun p => (p.1.length = n ∧ (∀ s ∈ p.1, isn s = true) ∧ p.1.Nodup) ∧ TpOk p.2 := by
  unfold M__law_entries
  simp only [bsm, basm, bM1, bM2, bM3, bM4]
  rw [rngP_nat (by omega), bsm]
  refine Ok.bind (P := fun p : Tp × List Str => TpOk p.1 ∧ p.2.length = n ∧ p.2.Nodup ∧ ∀ j x, p.2[j]? = some x → Fm j x) (Ok.fold (fun i p => TpOk p.1 ∧ p.2.length = i ∧ p.2.Nodup ∧ ∀ j x, p.2[j]? = some x → Fm j x) ⟨h, rfl, List.nodup_nil, fun j x h => by simp at h⟩ (fun i x p hx hp => ?_) fun p hp => by rw [rng_len] at hp; exact hp) fun p hp => ?_
  · obtain ⟨hi, rfl⟩ := rng_nat hx
    obtain ⟨tp, fo⟩ := p
    obtain ⟨h1, h2, h3, h4⟩ := hp
    simp only at h1 h2 h3 h4 ⊢
    have hi5 : i < 5 := by omega
    refine Ok.bM (name_ok h1) fun name t hname => ?_
    have P1 : Ok (T.andM (some (decide (0 < (i : Int)), t)) fun t_253 => T.andM (bM (M__law_take t_253 3) fun x_254 t_256 => some (decide (x_254 = 0), t_256)) fun t_274 => (atI fo ((i : Int) - 1)).bind fun x => (lenS x).bind fun x => some (decide (x < 12), t_274))
        fun p => (p.1 = true → 1 ≤ i ∧ ∃ x, fo[i - 1]? = some x ∧ x.length < 12) ∧ TpOk p.2 := by
      unfold T.andM
      rw [bM1]
      by_cases c : 0 < i
      · rw [decide_eq_true (show 0 < (i : Int) by omega), if_pos rfl]
        show Ok (bM (bM (M__law_take t 3) _) _) _
        rw [bM3]
        refine Ok.bM (tk hname.2 (by decide) (by decide)) fun y t hy => ?_
        rw [bM1]
        refine Ok.ite (fun _ => ?_) fun _ => Ok.some ⟨fun h => (Bool.false_ne_true h).elim, hy.2⟩
        have hlt : i - 1 < fo.length := by omega
        show Ok ((atI fo ((i : Int) - 1)).bind _) _
        rw [atI_nat (j := i - 1) (by omega) hlt, bsm]
        have hf := h4 (i - 1) fo[i - 1] (by simp [hlt])
        have hln := isn_len hf.1
        rw [lenS_eq (by omega), bsm]
        exact Ok.some ⟨fun e => ⟨c, fo[i - 1], by simp [hlt], by have := of_decide_eq_true e; omega⟩, hy.2⟩
      · rw [decide_eq_false (show ¬ 0 < (i : Int) by omega), if_neg Bool.false_ne_true]
        exact Ok.some ⟨fun h => (Bool.false_ne_true h).elim, hname.2⟩
    refine Ok.bM P1 fun b t hb => ?_
    have nl := isn_len hname.1.1
    refine Ok.bind (P := fun p : Tp × Str => TpOk p.1 ∧ Fm i p.2) (Ok.ite (fun c => ?_) fun _ => Ok.some ⟨hb.2, hname.1.1, by rcases hname.1.2 with h | h; exact .inl (by simp only at h ⊢; omega); exact .inr (.inl h)⟩) fun p hp => ?_
    · obtain ⟨i1, x, ex, xl⟩ := hb.1 c
      have hlt : i - 1 < fo.length := by omega
      have ex' : fo[i - 1] = x := by
        have := (List.getElem?_eq_some_iff.mp ex).2
        exact this
      rw [atI_nat (j := i - 1) (by omega) hlt, bsm, cutP_eq (by simp only at nl; omega), bsm, ex']
      have hf := h4 _ _ ex
      have hx1 := isn_len hf.1
      have ct : (cutS name none (some 1)).cps.toList = name.cps.toList.take 1 := cutS_to name 1
      have cl : (cutS name none (some 1)).length = 1 := by
        rw [slen, ct, List.length_take, ← slen]
        simp only at nl
        omega
      rw [catS_eq (by omega), bsm]
      refine Ok.some ⟨hb.2, isn_app hf.1 (fun c hc => ?_) (by omega), ?_⟩
      · rw [ct] at hc
        exact ((isn_iff name).mp hname.1.1).2 c (List.mem_of_mem_take hc)
      · show (x ++ _).length ≤ 4 + i ∨ (x ++ _).length = 12 ∨ hd (x ++ _) = some 113 ∨ ∃ i', i' ≤ i ∧ hd (x ++ _) = some (cc i')
        rw [append_len, hd_app hx1.1, cl]
        rcases hf.2 with h | h | h | ⟨i', h, h'⟩
        · exact .inl (by omega)
        · exact absurd h (by omega)
        · exact .inr (.inr (.inl h))
        · exact .inr (.inr (.inr ⟨i', by omega, h'⟩))
    · obtain ⟨t, n1⟩ := p
      simp only at hp ⊢
      refine Ok.bind (P := fun s : Str => Fm i s) (Ok.ite (fun _ => ?_) fun _ => Ok.some hp.2) fun n2 hn2 => ?_
      · rw [lstP_eq (by simp), bsm, let5_at i hi5, bsm]
        obtain ⟨a, b⟩ := let5 i hi5
        exact Ok.some ⟨a, .inl (by omega)⟩
      refine Ok.bind (P := fun s : Str => Fm i s ∧ (s ∈ fo → s = Qn i)) (Ok.ite (fun _ => ?_) fun c => Ok.some ⟨hn2, fun m => absurd (memB_iff.mpr m) c⟩) fun n3 hn3 => ?_
      · rw [show (6 + (i : Int)) = ((6 + i : Nat) : Int) by omega, cutP_eq (by decide +kernel), bsm]
        obtain ⟨a, b, c⟩ := Qn_ok i hi5
        exact Ok.some ⟨⟨a, .inr (.inr (.inl c))⟩, fun _ => rfl⟩
      refine Ok.bind (P := fun s : Str => Fm i s ∧ s ∉ fo) (Ok.ite (fun c => ?_) fun c => Ok.some ⟨hn3.1, fun m => c (memB_iff.mpr m)⟩) fun n4 hn4 => ?_
      · have m : n3 ∈ fo := memB_iff.mp c
        have e := hn3.2 m
        subst e
        obtain ⟨q1, q2, q3⟩ := Qn_ok i hi5
        obtain ⟨w1, w2, w3, w4, w5⟩ := cc_ok i hi5
        have wl : (⟨#[cc i]⟩ : Str).length = 1 := rfl
        rw [xyz_at i hi5, bsm, catS_eq (by rw [wl, q2]; omega), bsm]
        have hh : hd ((⟨#[cc i]⟩ : Str) ++ Qn i) = some (cc i) := by rw [hd_app (by rw [wl]; exact Nat.le_refl 1), w5]
        have hl : ((⟨#[cc i]⟩ : Str) ++ Qn i).length = 7 + i := by rw [append_len, wl, q2]; omega
        refine Ok.some ⟨⟨isn_app w4 ((isn_iff _).mp q1).2 (by rw [wl, q2]; omega), .inr (.inr (.inr ⟨i, Nat.le_refl _, hh⟩))⟩, fun m => ?_⟩
        obtain ⟨j, hj⟩ := List.getElem?_of_mem m
        have hjl : j < fo.length := (List.getElem?_eq_some_iff.mp hj).1
        rcases (h4 j _ hj).2 with z | z | z | ⟨i', z, z'⟩
        · rw [hl] at z; omega
        · rw [hl] at z; omega
        · rw [hh] at z; exact w1 (Option.some.inj z)
        · rw [hh] at z'
          have := cc_inj i hi5 i' (by omega) (Option.some.inj z')
          omega
      · rw [appP_eq (by omega), bsm]
        refine Ok.some ⟨hp.1, by rw [List.length_append, h2]; rfl, ?_, fun j x hj => ?_⟩
        · rw [List.nodup_append]
          exact ⟨h3, by simp, fun a ha b hb => by
            obtain rfl : b = n4 := by simpa using hb
            exact fun e => hn4.2 (e ▸ ha)⟩
        · by_cases hl : j < fo.length
          · rw [List.getElem?_append_left hl] at hj
            exact h4 j x hj
          · rw [List.getElem?_append_right (by omega)] at hj
            have hj0 : j - fo.length = 0 := by
              have := (List.getElem?_eq_some_iff.mp hj).1
              simp at this
              omega
            rw [hj0] at hj
            obtain rfl : x = n4 := by simpa using hj.symm
            rw [show j = i by omega]
            exact hn4.1
  · exact Ok.some ⟨⟨hp.2.1, fun s hs => by
      obtain ⟨j, hj⟩ := List.getElem?_of_mem hs
      exact (hp.2.2.2 j s hj).1, hp.2.2.1⟩, hp.1⟩
theorem strOk_iff (s : Str) : PyData.strOk s = true ↔ ∀ c ∈ s.cps.toList, c < 1114112 := by
  unfold PyData.strOk
  rw [← Array.all_toList, List.all_eq_true]
  exact ⟨fun h c hc => by simpa using h c hc, fun h c hc => by simpa using h c hc⟩
def Sm (n : Nat) (s : Str) : Prop := s.length ≤ n ∧ ∀ c ∈ s.cps.toList, c < 1114112
theorem Sm.app {a b : Nat} {x y : Str} (hx : Sm a x) (hy : Sm b y) : Sm (a + b) (x ++ y) := by
  refine ⟨by rw [append_len]; exact Nat.add_le_add hx.1 hy.1, fun c hc => ?_⟩
  have hc : c ∈ TL.tl (x ++ y) := hc
  rw [TL.tl_append] at hc
  rcases List.mem_append.mp hc with h | h
  · exact hx.2 c h
  · exact hy.2 c h
theorem Sm.gs {n : Nat} {s : Str} (h : Sm n s) (hn : n < 16777216) : Gs s := ⟨by have := h.1; omega, (strOk_iff s).mpr h.2⟩
theorem isn_sm {s : Str} (h : isn s = true) : Sm 12 s := ⟨(isn_len h).2, fun c hc => by have := ((isn_iff s).mp h).2 c hc; omega⟩
theorem nb_of {s : Str} {c : Nat} (hc : c ∈ s.cps.toList) (h : ¬ (97 ≤ c ∧ c ≤ 122)) : isn s = false := by
  cases e : isn s with
  | false => rfl
  | true => exact absurd (((isn_iff s).mp e).2 c hc) h
theorem nb_len {s : Str} (h : ¬ (1 ≤ s.length ∧ s.length ≤ 12)) : isn s = false := by
  cases e : isn s with
  | false => rfl
  | true => exact absurd (isn_len e) h
def Res (p : List (List Str) × Tp) : Prop := (∃ k n, p.1 = [k, n] ∧ Bad k n ∧ k.length + n.length ≤ 16 ∧ ∀ s ∈ k ++ n, Gs s) ∧ TpOk p.2
theorem res_of {k n : List Str} {t : Tp} (ht : TpOk t) (hb : Bad k n) (hl : k.length + n.length ≤ 16) (hg : ∀ s ∈ k ++ n, Gs s) : Ok ((lstP [k, n]).bind fun x => some (id (x, t))) Res := by
  rw [lstP_eq (by show 2 < 16777216; decide), bsm]
  exact Ok.some ⟨⟨k, n, rfl, hb, hl, hg⟩, ht⟩
theorem res_cut {x : List Str} {t : Tp} {m : Int} (h0 : 0 ≤ m) (ht : TpOk t) (hb : 4 < x.length ∨ ¬ x.Nodup ∨ ∃ s ∈ x, isn s = false) (hl : x.length ≤ 16) (hg : ∀ s ∈ x, Gs s) : Ok ((lstP [T.cut x none (some m), T.cut x (some m) none]).bind fun x => some (id (x, t))) Res := by
  obtain ⟨j, rfl⟩ : ∃ j : Nat, m = (j : Int) := ⟨m.toNat, by omega⟩
  rw [cut_to, cut_from]
  have e : x.take j ++ x.drop j = x := List.take_append_drop j x
  have el : (x.take j).length + (x.drop j).length = x.length := by rw [← List.length_append, e]
  refine res_of ht ?_ (by omega) (by rw [e]; exact hg)
  unfold Bad
  rw [e]
  exact .inr hb
theorem atI_negI {α : Type} {xs : List α} {i : Int} (h0 : i < 0) (h1 : -(xs.length : Int) ≤ i) : ∃ j : Nat, (j : Int) = i + xs.length ∧ ∃ h : j < xs.length, atI xs i = some xs[j] := by
  refine ⟨(i + xs.length).toNat, by omega, by omega, ?_⟩
  unfold atI ixN
  rw [if_neg (by omega)]
  first
    | (rw [if_pos (by omega)]; simp; done)
    | (simp; omega)
theorem dup_of {xs : List Str} {i j : Nat} (hij : i ≠ j) (hi : i < xs.length) (e : xs[i]? = xs[j]?) : ¬ xs.Nodup := fun h => hij ((List.getElem?_inj hi h).mp e)
theorem spoilt_ok {t : Tp} (h : TpOk t) {es : List Str} {sp : Nat} (l0 : 1 ≤ es.length) (l4 : es.length ≤ 4) (hn : ∀ s ∈ es, isn s = true) : Ok (M__law_spoilt t es (sp : Int)) Res := by
  have hg : ∀ s ∈ es, Gs s := fun s hs => (isn_sm (hn s hs)).gs (by decide)
  unfold M__law_spoilt
  simp only [bsm, basm, bM1, bM2, bM3, bM4, and2]
  refine Ok.bM (tkn h (by omega) (by omega)) fun x t hx => ?_
  obtain ⟨⟨at', ha, rfl⟩, ht⟩ := hx
  refine Ok.bM (tk ht (by decide) (by decide)) fun mode t hm => ?_
  have ht := hm.2
  refine Ok.ite (fun _ => ?_) fun _ => Ok.ite (fun c => ?_) fun c => Ok.ite (fun c2 => ?_) fun _ => ?_
  · refine Ok.bM (tkn (m := 8) ht (by decide) (by decide)) fun x t hx => ?_
    obtain ⟨⟨pick, hp, rfl⟩, ht⟩ := hx
    rw [atI_nat (j := at') rfl ha, bsm]
    have h1 := hn _ (List.getElem_mem ha)
    generalize es[at'] = one at h1
    have ol := isn_len h1
    have os := isn_sm h1
    rw [lenS_eq (by omega), bsm]
    refine Ok.bM (tkn ht (by omega) (by omega)) fun x t hx => ?_
    obtain ⟨⟨cu, hc, rfl⟩, ht⟩ := hx
    rw [bsm, cutP_eq (by decide +kernel), bsm]
    obtain ⟨ll, hll⟩ : ∃ ll : Nat, (one.length : Int) - 1 = (ll : Int) := ⟨one.length - 1, by omega⟩
    rw [hll]
    have c1 : (cutS (Str.ofString "abcdefghijklm") (some (ll : Int)) none).cps.toList = (Str.ofString "abcdefghijklm").cps.toList.drop ll := cutS_from _ _
    have c1l : (cutS (Str.ofString "abcdefghijklm") (some (ll : Int)) none).length = 13 - ll := by
      rw [slen, c1, List.length_drop, show (Str.ofString "abcdefghijklm").cps.toList.length = 13 by decide +kernel]
    have c1s : Sm 13 (cutS (Str.ofString "abcdefghijklm") (some (ll : Int)) none) := ⟨by omega, fun c hc => by
      rw [c1] at hc
      have := (by decide +kernel : ∀ c ∈ (Str.ofString "abcdefghijklm").cps.toList, c < 1114112) c (List.mem_of_mem_drop hc)
      exact this⟩
    have p1 : (cutS one none (some (cu : Int))).cps.toList = one.cps.toList.take cu := cutS_to _ _
    have p1s : Sm 12 (cutS one none (some (cu : Int))) := ⟨by rw [slen, p1, List.length_take, ← slen]; omega, fun c hc => os.2 c (by rw [p1] at hc; exact List.mem_of_mem_take hc)⟩
    have ecu : ((cu : Int) + 1) = ((cu + 1 : Nat) : Int) := by omega
    rw [ecu]
    have q1 : (cutS one (some ((cu + 1 : Nat) : Int)) none).cps.toList = one.cps.toList.drop (cu + 1) := cutS_from _ _
    have q1s : Sm 12 (cutS one (some ((cu + 1 : Nat) : Int)) none) := ⟨by rw [slen, q1, List.length_drop, ← slen]; omega, fun c hc => os.2 c (by rw [q1] at hc; exact List.mem_of_mem_drop hc)⟩
    have mid : ∀ {b : Str} {c : Nat}, b.cps.toList = [c] → ¬ (97 ≤ c ∧ c ≤ 122) → c < 1114112 → ∃ r, (catS (cutS one none (some (cu : Int))) b = some r ∧ ∃ r2, catS r (cutS one (some ((cu + 1 : Nat) : Int)) none) = some r2 ∧ isn r2 = false ∧ Sm 25 r2) := by
      intro b c hb hc1 hc2
      have bl : b.length = 1 := by rw [slen, hb]; rfl
      have bs : Sm 1 b := ⟨by omega, fun d hd => by rw [hb] at hd; obtain rfl : d = c := by simpa using hd
                                                    exact hc2⟩
      have s1 := p1s.app bs
      have s2 := s1.app q1s
      refine ⟨_, catS_eq (by have := p1s.1; omega), _, catS_eq (by have := s1.1; have := q1s.1; omega), nb_of (c := c) ?_ hc1, s2⟩
      show c ∈ TL.tl (_ ++ _)
      rw [TL.tl_append, TL.tl_append]
      exact List.mem_append_left _ (List.mem_append_right _ (by show c ∈ b.cps.toList; rw [hb]; simp))
    obtain ⟨b1, e1, b2, e2, nb, sb⟩ := mid (b := Str.ofString "B") (c := 66) (by decide +kernel) (by decide) (by decide)
    obtain ⟨d1, f1, d2, f2, nd, sd⟩ := mid (b := Str.ofString "7") (c := 55) (by decide +kernel) (by decide) (by decide)
    obtain ⟨g1, i1, g2, i2, ng, sg⟩ := mid (b := Str.ofString " ") (c := 32) (by decide +kernel) (by decide) (by decide)
    obtain ⟨k1, m1, k2, m2, nk, sk⟩ := mid (b := Str.ofString "-") (c := 45) (by decide +kernel) (by decide) (by decide)
    have nls : Sm 1 (Str.ofString "\n") := ⟨by decide +kernel, by decide +kernel⟩
    have cn : ∀ {x : Str}, Sm 12 x → catS x (Str.ofString "\n") = some (x ++ Str.ofString "\n") ∧ isn (x ++ Str.ofString "\n") = false ∧ Sm 13 (x ++ Str.ofString "\n") := fun {x} hx => by
      refine ⟨catS_eq (by have := hx.1; have := nls.1; omega), nb_of (c := 10) ?_ (by decide), hx.app nls⟩
      show 10 ∈ TL.tl (_ ++ _)
      rw [TL.tl_append]
      exact List.mem_append_right _ (by decide +kernel)
    rw [catS_eq (by have := c1s.1; omega), bsm, cutP_eq (by omega), bsm, e1, bsm, cutP_eq (by omega), bsm, e2, bsm, bsm, f1, bsm, bsm, f2, bsm, bsm, i1, bsm, bsm, i2, bsm, bsm, m1, bsm, bsm, m2, bsm, (cn os).1, bsm, lstP_eq (by show 8 < 16777216; decide), bsm]
    refine Ok.bind (atI_ok (P := fun s : Str => isn s = false ∧ Sm 25 s) (by omega) (by show (pick : Int) < ((8 : Nat) : Int); omega) fun s hs => ?_) fun s hs => ?_
    · simp only [List.mem_cons, List.not_mem_nil, or_false] at hs
      have up : ∀ {a : Nat} {s : Str}, Sm a s → a ≤ 25 → Sm 25 s := fun h h' => ⟨Nat.le_trans h.1 h', h.2⟩
      rcases hs with rfl | rfl | rfl | rfl | rfl | rfl | rfl | rfl
      · exact ⟨by decide +kernel, by decide +kernel, by decide +kernel⟩
      · exact ⟨nb_len (by rw [append_len, c1l]; omega), up (os.app c1s) (by decide)⟩
      · exact ⟨nb, sb⟩
      · exact ⟨nd, sd⟩
      · exact ⟨ng, sg⟩
      · exact ⟨nk, sk⟩
      · exact ⟨(cn os).2.1, up (cn os).2.2 (by decide)⟩
      · exact ⟨by decide +kernel, by decide +kernel, by decide +kernel⟩
    · rw [setP_of (by omega) (by omega), bsm]
      have key : ∀ {s : Str} {l : List Str}, l.length = es.length → (∀ z ∈ l, Gs z) → isn s = false → Sm 25 s → (l.set at' s).length = es.length ∧ (∀ z ∈ l.set at' s, Gs z) ∧ ∃ z ∈ l.set at' s, isn z = false := fun {s l} hl hz h1 h2 => by
        refine ⟨by rw [List.length_set, hl], fun z hzz => ?_, s, ?_, h1⟩
        · rcases List.mem_or_eq_of_mem_set hzz with h | rfl
          · exact hz z h
          · exact h2.gs (by decide)
        · exact List.mem_of_getElem? (i := at') (List.getElem?_set_self (by omega))
      have k0 := key (l := es) rfl hg hs.1 hs.2
      refine Ok.bind (P := fun _ => True) (by rw [bsm, and2]; exact Ok.some trivial) fun b _ => ?_
      refine Ok.bind (P := fun l : List Str => l.length = es.length ∧ (∀ z ∈ l, Gs z) ∧ ∃ z ∈ l, isn z = false) (Ok.ite (fun _ => ?_) fun _ => Ok.some k0) fun l hl => ?_
      · have p2 : (cutS one none (some (11 : Int))).cps.toList = one.cps.toList.take 11 := cutS_to one 11
        have p2s : Sm 12 (cutS one none (some (11 : Int))) := ⟨by rw [slen, p2, List.length_take, ← slen]; omega, fun c hc => os.2 c (by rw [p2] at hc; exact List.mem_of_mem_take hc)⟩
        rw [cutP_eq (by omega), bsm, (cn p2s).1, bsm, setP_of (by omega) (by have := k0.1; rw [List.length_set]; omega), bsm]
        refine Ok.some (key k0.1 k0.2.1 (cn p2s).2.1 ⟨by have := (cn p2s).2.2.1; omega, (cn p2s).2.2.2⟩)
      · exact res_cut (by omega) ht (.inr (.inr hl.2.2)) (by omega) hl.2.1
  · have c' : es.length = 1 := by simp at c; omega
    rw [lstP_eq (by show 2 < 16777216; decide), bsm, catL_eq (by omega), bsm, lstP_eq (by show 2 < 16777216; decide), bsm, lstP_eq (by show 2 < 16777216; decide), bsm]
    obtain ⟨s, rfl⟩ : ∃ s, es = [s] := by
      match es, c' with
      | [s], _ => exact ⟨s, rfl⟩
    have hgs := hg s (by simp)
    refine Ok.bM (P := Res) ?_ fun x t hx => Ok.some hx
    unfold M__law_any
    simp only [bsm, basm, bM1, bM2, bM3, bM4]
    refine Ok.bM (tkn (m := 2) ht (by decide) (by decide)) fun x t hx => ?_
    obtain ⟨⟨j, hj, rfl⟩, ht⟩ := hx
    have d2 : ¬ ([s] ++ [s]).Nodup := by simp
    have j2 : j = 0 ∨ j = 1 := by omega
    rcases j2 with rfl | rfl
    · exact Ok.some ⟨⟨_, _, rfl, .inr (.inr (.inl d2)), by show 1 + 1 ≤ 16; decide, fun z hz => by
        obtain rfl : z = s := by simpa using hz
        exact hgs⟩, ht⟩
    · exact Ok.some ⟨⟨_, _, rfl, .inr (.inr (.inl (by simp))), by show 2 + 0 ≤ 16; decide, fun z hz => by
        obtain rfl : z = s := by simpa using hz
        exact hgs⟩, ht⟩
  · have c3 : 2 ≤ es.length := by
      simp at c c2
      have := c c2
      omega
    refine Ok.bM (tkn (m := es.length - 1) (by exact ht) (by omega) (by omega) |> fun h => by rwa [show ((es.length - 1 : Nat) : Int) = (es.length : Int) - 1 by omega] at h) fun x t hx => ?_
    obtain ⟨⟨d, hd, rfl⟩, ht⟩ := hx
    have at2 : ∃ i, i ≠ at' ∧ ∃ h : i < es.length, atI es ((at' : Int) - 1 - (d : Int)) = some es[i] := by
      by_cases z : 0 ≤ (at' : Int) - 1 - (d : Int)
      · exact ⟨at' - 1 - d, by omega, by omega, atI_nat (j := at' - 1 - d) (by omega) (by omega)⟩
      · obtain ⟨j, e, hj, q⟩ := atI_negI (xs := es) (i := (at' : Int) - 1 - (d : Int)) (by omega) (by omega)
        exact ⟨j, by omega, hj, q⟩
    obtain ⟨i, ine, ilt, ei⟩ := at2
    rw [ei, bsm, setP_of (by omega) (by omega), bsm]
    have sl : (es.set (at' : Int).toNat es[i]).length = es.length := List.length_set
    refine Ok.bM (tkn ht (by omega) (by omega)) fun x t hx => ?_
    obtain ⟨⟨m, hm', rfl⟩, ht⟩ := hx
    refine res_cut (by omega) ht (.inr (.inl (dup_of (i := i) (j := at') ine (by rw [sl]; exact ilt) ?_))) (by rw [sl]; omega) fun z hz => ?_
    · rw [show (at' : Int).toNat = at' by omega, List.getElem?_set_ne (Ne.symm ine), List.getElem?_set_self ha, List.getElem?_eq_getElem ilt]
    · rcases List.mem_or_eq_of_mem_set hz with h | rfl
      · exact hg z h
      · exact hg _ (List.getElem_mem ilt)
  · refine Ok.bM (tk ht (by decide) (by decide)) fun x t hx => ?_
    refine Ok.ite (fun _ => ?_) fun _ => ?_
    · refine Ok.bM (tkn (m := es.length + 1) hx.2 (by omega) (by omega)) fun x t hx => ?_
      obtain ⟨⟨m, hm', rfl⟩, ht⟩ := hx
      rw [cut_to]
      exact res_of ht (.inl rfl) (by rw [List.length_nil, List.length_take]; omega) fun s hs => hg s (List.mem_of_mem_take (by simpa using hs))
    · refine Ok.bM (entries_ok (n := 5) hx.2 (by decide)) fun ms t hms => ?_
      refine Ok.bM (tkn (m := 5) hms.2 (by decide) (by decide)) fun x t hx => ?_
      have l5 := hms.1.1
      simp only at l5
      exact res_cut (by have := hx.1; obtain ⟨j, _, e⟩ := this; simp only at e; omega) hx.2 (.inl (by omega)) (by omega) fun s hs => (isn_sm (hms.1.2.1 s hs)).gs (by decide)
theorem law_true (ns : List Int) (hl : ns.length ≤ 63) : M_law ns = some true := by
  refine Ok.get ?_
  unfold M_law
  simp only [bsm, basm, bM1, bM2, bM3, bM4]
  rw [show M__law_tape ns = tapeM ns from by with_unfolding_all rfl]
  refine Ok.bind (tape_ok hl) fun t ht => ?_
  refine Ok.bM (tkn (m := 4) ht (by decide) (by decide)) fun x t hx => ?_
  obtain ⟨⟨j, hj, rfl⟩, ht⟩ := hx
  rw [show (1 + (j : Int)) = ((1 + j : Nat) : Int) by omega]
  refine Ok.bM (entries_ok ht (by omega)) fun es t hes => ?_
  obtain ⟨⟨el, en, ed⟩, ht⟩ := hes
  simp only at el en ed
  refine Ok.bM (tkn ht (by omega) (by omega)) fun x t hx => ?_
  obtain ⟨⟨i, hi, rfl⟩, ht⟩ := hx
  rw [show (1 + (i : Int)) = ((1 + i : Nat) : Int) by omega]
  refine Ok.one (rngP_nat (n := 6) (by decide)) ?_
  refine Ok.bM (lcCM_ok (P := fun p : List (List Str) => ∃ k n, p = [k, n] ∧ Bad k n ∧ k.length + n.length ≤ 16 ∧ ∀ s ∈ k ++ n, Gs s) (by decide) (fun _ _ t ht => spoilt_ok ht (by omega) (by omega) en) ht) fun bads t hb => ?_
  obtain ⟨⟨bl, hb⟩, ht⟩ := hb
  have bl : bads.length = 6 := bl
  have ref : ∀ p ∈ bads, ∃ k n, atI p 0 = some k ∧ atI p 1 = some n ∧ M__law_refused k n = some true := fun p hp => by
    obtain ⟨k, n, rfl, hbad, hlen, hg⟩ := hb p hp
    exact ⟨k, n, atI_nat (j := 0) rfl (by simp), atI_nat (j := 1) rfl (by simp), refused_ok (by omega) (fun s hs => hg s (List.mem_append_left _ hs)) (fun s hs => hg s (List.mem_append_right _ hs)) hbad⟩
  refine Ok.loop0 (fun p hp => ?_) ?_
  · obtain ⟨k, n, e1, e2, e3⟩ := ref p hp
    rw [e1, bsm, e2, bsm, e3, bsm]
    rfl
  rw [cut_to, cut_from]
  have ea : es.take (1 + i) ++ es.drop (1 + i) = es := List.take_append_drop _ _
  have tl : (es.take (1 + i)).length = 1 + i := by rw [List.length_take]; omega
  have dl : (es.drop (1 + i)).length ≤ 4 := by rw [List.length_drop]; omega
  refine Ok.one (sig_ok (fun e => by rw [e, List.length_nil] at tl; omega) (by rw [ea]; omega) (by rw [ea]; exact ed) (by rw [ea]; exact en)) ?_
  show Ok ((some (⟨_, _⟩ : C_Signature)).bind _) _
  rw [bsm, is_refl (by omega), is_refl (by omega)]
  simp only [bsm, orO_some, Bool.not_true, Bool.false_eq_true, if_false]
  rw [appP_eq (by omega), bsm, setP_of (by decide) (by rw [List.length_append, tl]; simp; omega), bsm]
  rw [show T.cut es none (some 1) = es.take 1 from cut_to es 1]
  have el1 : (es.take 1).length = 1 := by rw [List.length_take]; omega
  refine Ok.one (sig_ok (fun e => by rw [e, List.length_nil] at el1; omega) (by rw [List.append_nil]; omega) (by rw [List.append_nil]; exact ed.sublist (List.take_sublist _ _)) (fun s hs => en s (by rw [List.append_nil] at hs; exact List.mem_of_mem_take hs))) ?_
  show Ok ((some (⟨_, _⟩ : C_Signature)).bind _) _
  rw [bsm]
  obtain ⟨k, n, e1, e2, e3⟩ := ref (bads[0]'(by omega)) (List.getElem_mem _)
  have b0 : atI bads 0 = some (bads[0]'(by omega)) := atI_nat (j := 0) rfl (by omega)
  rw [b0]
  simp only [bsm]
  rw [e1, bsm, e2, bsm, e3, bsm]
  simp only [Bool.not_true, Bool.false_eq_true, if_false]
  rw [is_refl (by omega), is_refl (by simp)]
  simp only [bsm, orO_some, andO_some, Bool.not_true, Bool.false_eq_true, if_false, if_true]
  exact Ok.some rfl
end K41

set_option Elab.async false
set_option linter.all false
set_option maxRecDepth 100000
set_option maxHeartbeats 8000000
namespace K41
open PySem PySem.Spec PyProof.Rows L2 T
theorem all_mk {l : PySem.W.OpenLaw} {w : World} {K : PySem.W.Frag} {h : Heap} {mg : Str → Option Value} {fa f_is_name f_Signature f__law_tape f__law_take f__law_any f__law_name f__law_entries f__law_is f__law_refused f__law_spoilt f_law : Addr} (X : K.In h) (G : h.Ns mainGlobals mg) (hfa : mg "law" = some (.ref fa))
    {t_MOST_SORTS : Tok}
    {od_is_name an_is_name : Option Addr} {sl_is_name : Array (Option Value)} {oc_is_name kV_is_name dc_is_name pm_is_name ct_is_name : Value}
    {od_Signature an_Signature : Option Addr} {sl_Signature : Array (Option Value)} {oc_Signature kV_Signature dc_Signature pm_Signature cd_Signature ct_Signature : Value}
    {od__law_tape an__law_tape : Option Addr} {sl__law_tape : Array (Option Value)} {oc__law_tape kV__law_tape dc__law_tape pm__law_tape cd__law_tape ct__law_tape : Value}
    {od__law_take an__law_take : Option Addr} {sl__law_take : Array (Option Value)} {oc__law_take kV__law_take dc__law_take pm__law_take cd__law_take ct__law_take : Value}
    {od__law_any an__law_any : Option Addr} {sl__law_any : Array (Option Value)} {oc__law_any kV__law_any dc__law_any pm__law_any cd__law_any ct__law_any : Value}
    {od__law_name an__law_name : Option Addr} {sl__law_name : Array (Option Value)} {oc__law_name kV__law_name dc__law_name pm__law_name cd__law_name ct__law_name : Value}
    {od__law_entries an__law_entries : Option Addr} {sl__law_entries : Array (Option Value)} {oc__law_entries kV__law_entries dc__law_entries pm__law_entries cd__law_entries ct__law_entries : Value}
    {od__law_is an__law_is : Option Addr} {sl__law_is : Array (Option Value)} {oc__law_is kV__law_is dc__law_is pm__law_is cd__law_is ct__law_is : Value}
    {od__law_refused an__law_refused : Option Addr} {sl__law_refused : Array (Option Value)} {oc__law_refused kV__law_refused dc__law_refused pm__law_refused cd__law_refused ct__law_refused : Value}
    {od__law_spoilt an__law_spoilt : Option Addr} {sl__law_spoilt : Array (Option Value)} {oc__law_spoilt kV__law_spoilt dc__law_spoilt pm__law_spoilt cd__law_spoilt ct__law_spoilt : Value}
    {od_law an_law : Option Addr} {sl_law : Array (Option Value)} {oc_law kV_law dc_law pm_law cd_law ct_law : Value}
    {c__BadSignature c__Signature c__BadWorld c__NoSuch c__TooMany c__SaidError : Addr}
    {c_is_name_ Pt_is_name : Addr} {dx_is_name : Option Addr} {vx_is_name : Array Value} {sx_is_name : Array (Option Value)} {file_is_name : Str} {tf_is_name tg_is_name tt_is_name : Tok} {fg_is_name tx_is_name : Int} {iF_is_name : Bool}
    (g__BadSignature : PySem.W.nsIn K mainGlobals "BadSignature" = some (some (.ref c__BadSignature)))
    (g__Signature : PySem.W.nsIn K mainGlobals "Signature" = some (some (.ref c__Signature)))
    (g__BadWorld : PySem.W.nsIn K mainGlobals "BadWorld" = some (some (.ref c__BadWorld)))
    (g__NoSuch : PySem.W.nsIn K mainGlobals "NoSuch" = some (some (.ref c__NoSuch)))
    (g__TooMany : PySem.W.nsIn K mainGlobals "TooMany" = some (some (.ref c__TooMany)))
    (g__SaidError : PySem.W.nsIn K mainGlobals "SaidError" = some (some (.ref c__SaidError)))
    (a_Signature : PySem.W.findIn K (.ref c__Signature) "__init__" = some (some (.ref f_Signature)))
    (l_Signature : K.lookup f_Signature = some ⟨oc_Signature, od_Signature, .func (PySem.W.fnOf "__init__" "Signature.__init__" (defArgs s_Signature) (defBody s_Signature) (defScope s_Signature) .none kV_Signature dc_Signature pm_Signature an_Signature cd_Signature ct_Signature), sl_Signature⟩)
    (c_Signature : PySem.W.codeIn K cd_Signature "Signature.__init__" = true)
    (k_Signature : PySem.W.keepIn K (.ref f_Signature) = true)
    (i_Signature : PySem.W.isFn K (.ref f_Signature) = true)
    (mk_Signature : PySem.W.makesIn K c__Signature = true)
    (kc_Signature : PySem.W.keepIn K (.ref c__Signature) = true)
    (ex_BadSignature : PySem.W.excIn K c__BadSignature veT "ValueError.__new__" = true)
    (ek_BadSignature : PySem.W.keepIn K (.ref c__BadSignature) = true)
    (es_BadSignature : PySem.W.subIn K (.ref c__BadSignature) (.type "BaseException") = some true)
    (et_BadSignature : PySem.W.typeIn K (.ref c__BadSignature) = some (.type "type"))
    (pg_Signature : PySem.W.plainGet K c__Signature Str.empty = true)
    (hd_Signature : PySem.W.hasDictIn K c__Signature = true)
    (po_Signature : PySem.W.plainOver K c__Signature = true)
    (sa_Signature : PySem.W.findIn K (.ref c__Signature) "__setattr__" = some (some (.builtin "object.__setattr__")))
    (no_Signature_kinds : PySem.W.findIn K (.ref c__Signature) "kinds" = some none)
    (no_Signature_names : PySem.W.findIn K (.ref c__Signature) "names" = some none)
    (x1_BadSignature : PySem.W.subIn K (.ref c__BadSignature) (.type "BaseException") = some true)
    (x2_BadSignature : PySem.W.hasDictIn K c__BadSignature = true)
    (x3_BadSignature : PySem.W.typeIn K (.ref c__BadSignature) = some (.type "type"))
    (x4_BadSignature_BadSignature : PySem.W.subIn K (.ref c__BadSignature) (.ref c__BadSignature) = some true)
    (e1_BadSignature : PySem.W.isClsIn K c__BadSignature = true)
    (e2_BadSignature : PySem.W.findIn K (.ref c__BadSignature) "__getattribute__" = some (some (.builtin "BaseException.__getattribute__")))
    (e3_BadSignature : PySem.W.findIn K (.ref c__BadSignature) "__getattr__" = some none)
    (e4_BadSignature : PySem.W.subIn K (.ref c__BadSignature) (.type "BaseException") = some true)
    (e5_BadSignature : PySem.W.hasDictIn K c__BadSignature = true)
    (e6_BadSignature : PySem.W.findIn K (.ref c__BadSignature) "__class__" = some (some (.builtin "object.__class__")))
    (e9_BadSignature : PySem.W.mroIn K c__BadSignature (.type "object") = some true)
    (e7 : PySem.W.specialIn K (.builtin "object.__class__") "__get__" = some (some (.builtin "getset_descriptor.__get__")))
    (e8 : PySem.W.takesIn K (.builtin "object.__class__") = some true)
    (q_BadWorld_BadSignature : PySem.W.kitOne K (.ref c__BadSignature) (.ref c__BadWorld) = some false)
    (q_NoSuch_BadSignature : PySem.W.kitOne K (.ref c__BadSignature) (.ref c__NoSuch) = some false)
    (q_TooMany_BadSignature : PySem.W.kitOne K (.ref c__BadSignature) (.ref c__TooMany) = some false)
    (q_SaidError_BadSignature : PySem.W.kitOne K (.ref c__BadSignature) (.ref c__SaidError) = some true)
    (q_ValueError_BadSignature : PySem.W.kitOne K (.ref c__BadSignature) (.type "ValueError") = some true)
    (a_is_name : PySem.W.nsIn K mainGlobals "is_name" = some (some (.ref f_is_name))) (l_is_name : K.lookup f_is_name = some ⟨oc_is_name, od_is_name, .func (PySem.W.fnOf "is_name" "is_name" (defArgs s_is_name) (defBody s_is_name) (defScope s_is_name) .none kV_is_name dc_is_name pm_is_name an_is_name (.ref c_is_name_) ct_is_name), sl_is_name⟩) (c_is_name : PySem.W.codeIn K (.ref c_is_name_) "is_name" = true) (k_is_name : PySem.W.keepIn K (.ref f_is_name) = true)
    (a__law_tape : PySem.W.nsIn K mainGlobals "_law_tape" = some (some (.ref f__law_tape))) (l__law_tape : K.lookup f__law_tape = some ⟨oc__law_tape, od__law_tape, .func (PySem.W.fnOf "_law_tape" "_law_tape" (defArgs s__law_tape) (defBody s__law_tape) (defScope s__law_tape) .none kV__law_tape dc__law_tape pm__law_tape an__law_tape cd__law_tape ct__law_tape), sl__law_tape⟩) (c__law_tape : PySem.W.codeIn K cd__law_tape "_law_tape" = true) (k__law_tape : PySem.W.keepIn K (.ref f__law_tape) = true)
    (a__law_take : PySem.W.nsIn K mainGlobals "_law_take" = some (some (.ref f__law_take))) (l__law_take : K.lookup f__law_take = some ⟨oc__law_take, od__law_take, .func (PySem.W.fnOf "_law_take" "_law_take" (defArgs s__law_take) (defBody s__law_take) (defScope s__law_take) .none kV__law_take dc__law_take pm__law_take an__law_take cd__law_take ct__law_take), sl__law_take⟩) (c__law_take : PySem.W.codeIn K cd__law_take "_law_take" = true) (k__law_take : PySem.W.keepIn K (.ref f__law_take) = true)
    (a__law_any : PySem.W.nsIn K mainGlobals "_law_any" = some (some (.ref f__law_any))) (l__law_any : K.lookup f__law_any = some ⟨oc__law_any, od__law_any, .func (PySem.W.fnOf "_law_any" "_law_any" (defArgs s__law_any) (defBody s__law_any) (defScope s__law_any) .none kV__law_any dc__law_any pm__law_any an__law_any cd__law_any ct__law_any), sl__law_any⟩) (c__law_any : PySem.W.codeIn K cd__law_any "_law_any" = true) (k__law_any : PySem.W.keepIn K (.ref f__law_any) = true)
    (a__law_name : PySem.W.nsIn K mainGlobals "_law_name" = some (some (.ref f__law_name))) (l__law_name : K.lookup f__law_name = some ⟨oc__law_name, od__law_name, .func (PySem.W.fnOf "_law_name" "_law_name" (defArgs s__law_name) (defBody s__law_name) (defScope s__law_name) .none kV__law_name dc__law_name pm__law_name an__law_name cd__law_name ct__law_name), sl__law_name⟩) (c__law_name : PySem.W.codeIn K cd__law_name "_law_name" = true) (k__law_name : PySem.W.keepIn K (.ref f__law_name) = true)
    (a__law_entries : PySem.W.nsIn K mainGlobals "_law_entries" = some (some (.ref f__law_entries))) (l__law_entries : K.lookup f__law_entries = some ⟨oc__law_entries, od__law_entries, .func (PySem.W.fnOf "_law_entries" "_law_entries" (defArgs s__law_entries) (defBody s__law_entries) (defScope s__law_entries) .none kV__law_entries dc__law_entries pm__law_entries an__law_entries cd__law_entries ct__law_entries), sl__law_entries⟩) (c__law_entries : PySem.W.codeIn K cd__law_entries "_law_entries" = true) (k__law_entries : PySem.W.keepIn K (.ref f__law_entries) = true)
    (a__law_is : PySem.W.nsIn K mainGlobals "_law_is" = some (some (.ref f__law_is))) (l__law_is : K.lookup f__law_is = some ⟨oc__law_is, od__law_is, .func (PySem.W.fnOf "_law_is" "_law_is" (defArgs s__law_is) (defBody s__law_is) (defScope s__law_is) .none kV__law_is dc__law_is pm__law_is an__law_is cd__law_is ct__law_is), sl__law_is⟩) (c__law_is : PySem.W.codeIn K cd__law_is "_law_is" = true) (k__law_is : PySem.W.keepIn K (.ref f__law_is) = true)
    (a__law_refused : PySem.W.nsIn K mainGlobals "_law_refused" = some (some (.ref f__law_refused))) (l__law_refused : K.lookup f__law_refused = some ⟨oc__law_refused, od__law_refused, .func (PySem.W.fnOf "_law_refused" "_law_refused" (defArgs s__law_refused) (defBody s__law_refused) (defScope s__law_refused) .none kV__law_refused dc__law_refused pm__law_refused an__law_refused cd__law_refused ct__law_refused), sl__law_refused⟩) (c__law_refused : PySem.W.codeIn K cd__law_refused "_law_refused" = true) (k__law_refused : PySem.W.keepIn K (.ref f__law_refused) = true)
    (a__law_spoilt : PySem.W.nsIn K mainGlobals "_law_spoilt" = some (some (.ref f__law_spoilt))) (l__law_spoilt : K.lookup f__law_spoilt = some ⟨oc__law_spoilt, od__law_spoilt, .func (PySem.W.fnOf "_law_spoilt" "_law_spoilt" (defArgs s__law_spoilt) (defBody s__law_spoilt) (defScope s__law_spoilt) .none kV__law_spoilt dc__law_spoilt pm__law_spoilt an__law_spoilt cd__law_spoilt ct__law_spoilt), sl__law_spoilt⟩) (c__law_spoilt : PySem.W.codeIn K cd__law_spoilt "_law_spoilt" = true) (k__law_spoilt : PySem.W.keepIn K (.ref f__law_spoilt) = true)
    (a_law : PySem.W.nsIn K mainGlobals "law" = some (some (.ref f_law))) (l_law : K.lookup f_law = some ⟨oc_law, od_law, .func (PySem.W.fnOf "law" "law" (defArgs s_law) (defBody s_law) (defScope s_law) .none kV_law dc_law pm_law an_law cd_law ct_law), sl_law⟩) (c_law : PySem.W.codeIn K cd_law "law" = true) (k_law : PySem.W.keepIn K (.ref f_law) = true)
    (lc_is_name : K.lookup c_is_name_ = some ⟨.type "code", dx_is_name, .fields vx_is_name, sx_is_name⟩)
    (v11_is_name : vx_is_name[11]? = some (.ref Pt_is_name))
    (v18_is_name : vx_is_name.getD 18 .none = .str file_is_name tf_is_name)
    (v7_is_name : vx_is_name.getD 7 .none = .int fg_is_name tg_is_name)
    (v9_is_name : vx_is_name.getD 9 .none = .bool iF_is_name)
    (v10_is_name : vx_is_name.getD 10 .none = .int tx_is_name tt_is_name)
    (ne_is_name : c_is_name_ ≠ Pt_is_name)
    (np_is_name : K.lookup Pt_is_name = none)
    (own_is_name : LamX.OwnTab K f_is_name h)
    (z_ValueError : PySem.W.nsIn K mainGlobals "ValueError" = some none)
    (z_abs : PySem.W.nsIn K mainGlobals "abs" = some none)
    (z_all : PySem.W.nsIn K mainGlobals "all" = some none)
    (z_int : PySem.W.nsIn K mainGlobals "int" = some none)
    (z_isinstance : PySem.W.nsIn K mainGlobals "isinstance" = some none)
    (z_len : PySem.W.nsIn K mainGlobals "len" = some none)
    (z_list : PySem.W.nsIn K mainGlobals "list" = some none)
    (z_max : PySem.W.nsIn K mainGlobals "max" = some none)
    (z_range : PySem.W.nsIn K mainGlobals "range" = some none)
    (z_set : PySem.W.nsIn K mainGlobals "set" = some none)
    (z_str : PySem.W.nsIn K mainGlobals "str" = some none)
    (g_MOST_SORTS : PySem.W.nsIn K mainGlobals "MOST_SORTS" = some (some (.int (4) t_MOST_SORTS)))
    : LamX.LawAtS l w K CX0 5 63 "script" mg fa h := by
  letI tbI : Tabs := ⟨fun p => p ∈ [Pt_is_name], fun x => if x = "BadSignature" then c__BadSignature else if x = "Signature" then c__Signature else if x = "BadWorld" then c__BadWorld else if x = "NoSuch" then c__NoSuch else if x = "TooMany" then c__TooMany else if x = "SaidError" then c__SaidError else 0⟩
  have e := hfa.symm.trans (PySem.W.mg_of X G a_law)
  cases e
  have hcl_BadSignature : Tabs.cls "BadSignature" = c__BadSignature := if_pos rfl
  have hcl_Signature : Tabs.cls "Signature" = c__Signature := (if_neg (by decide +kernel)).trans (if_pos rfl)
  have hcl_BadWorld : Tabs.cls "BadWorld" = c__BadWorld := (if_neg (by decide +kernel)).trans ((if_neg (by decide +kernel)).trans (if_pos rfl))
  have hcl_NoSuch : Tabs.cls "NoSuch" = c__NoSuch := (if_neg (by decide +kernel)).trans ((if_neg (by decide +kernel)).trans ((if_neg (by decide +kernel)).trans (if_pos rfl)))
  have hcl_TooMany : Tabs.cls "TooMany" = c__TooMany := (if_neg (by decide +kernel)).trans ((if_neg (by decide +kernel)).trans ((if_neg (by decide +kernel)).trans ((if_neg (by decide +kernel)).trans (if_pos rfl))))
  have hcl_SaidError : Tabs.cls "SaidError" = c__SaidError := (if_neg (by decide +kernel)).trans ((if_neg (by decide +kernel)).trans ((if_neg (by decide +kernel)).trans ((if_neg (by decide +kernel)).trans ((if_neg (by decide +kernel)).trans (if_pos rfl)))))
  have Z : Zs K w mg := ⟨PySem.W.mg_none_of X G z_ValueError, PySem.W.mg_none_of X G z_abs, PySem.W.mg_none_of X G z_all, PySem.W.mg_none_of X G z_int, PySem.W.mg_none_of X G z_isinstance, PySem.W.mg_none_of X G z_len, PySem.W.mg_none_of X G z_list, PySem.W.mg_none_of X G z_max, PySem.W.mg_none_of X G z_range, PySem.W.mg_none_of X G z_set, PySem.W.mg_none_of X G z_str, ⟨by rw [hcl_BadSignature]; exact ex_BadSignature, by rw [hcl_BadSignature]; exact PySem.W.mg_of X G g__BadSignature, by rw [hcl_BadSignature]; exact ek_BadSignature, by rw [hcl_BadSignature]; exact es_BadSignature, by rw [hcl_BadSignature]; exact et_BadSignature⟩, ⟨by rw [hcl_Signature]; exact pg_Signature, by rw [hcl_Signature]; exact hd_Signature, by rw [hcl_Signature]; exact po_Signature, by rw [hcl_Signature]; exact sa_Signature⟩, (by unfold NoAttr; rw [hcl_Signature]; exact no_Signature_kinds), (by unfold NoAttr; rw [hcl_Signature]; exact no_Signature_names), (by
      intro c hc
      simp only [List.mem_cons, List.not_mem_nil, or_false] at hc
      rcases hc with rfl
      · rw [hcl_BadSignature]; exact PySem.W.exm_ref x1_BadSignature x2_BadSignature x3_BadSignature x4_BadSignature_BadSignature), (by rw [hcl_BadSignature]; exact PySem.W.mg_of X G g__BadSignature), (by
      intro c hc
      simp only [List.mem_cons, List.not_mem_nil, or_false] at hc
      rcases hc with rfl
      · exact ⟨by rw [hcl_BadSignature]; exact e1_BadSignature, by rw [hcl_BadSignature]; exact e2_BadSignature, by rw [hcl_BadSignature]; exact e3_BadSignature, by rw [hcl_BadSignature]; exact e4_BadSignature, by rw [hcl_BadSignature]; exact e5_BadSignature, by rw [hcl_BadSignature]; exact e6_BadSignature, e7, e8, by rw [hcl_BadSignature]; exact e9_BadSignature⟩), (by
      intro c hc
      simp only [List.mem_cons, List.not_mem_nil, or_false] at hc
      rcases hc with rfl
      · rw [hcl_BadSignature, hcl_BadWorld]; exact q_BadWorld_BadSignature), (by rw [hcl_BadWorld]; exact PySem.W.mg_of X G g__BadWorld), (by
      intro c hc
      simp only [List.mem_cons, List.not_mem_nil, or_false] at hc
      rcases hc with rfl
      · rw [hcl_BadSignature, hcl_NoSuch]; exact q_NoSuch_BadSignature), (by rw [hcl_NoSuch]; exact PySem.W.mg_of X G g__NoSuch), (by
      intro c hc
      simp only [List.mem_cons, List.not_mem_nil, or_false] at hc
      rcases hc with rfl
      · rw [hcl_BadSignature, hcl_TooMany]; exact q_TooMany_BadSignature), (by rw [hcl_TooMany]; exact PySem.W.mg_of X G g__TooMany), (by
      intro c hc
      simp only [List.mem_cons, List.not_mem_nil, or_false] at hc
      rcases hc with rfl
      · rw [hcl_BadSignature, hcl_SaidError]; exact q_SaidError_BadSignature), (by rw [hcl_SaidError]; exact PySem.W.mg_of X G g__SaidError), (by
      intro c hc
      simp only [List.mem_cons, List.not_mem_nil, or_false] at hc
      rcases hc with rfl
      · rw [hcl_BadSignature]; exact q_ValueError_BadSignature), ⟨_, PySem.W.mg_of X G g_MOST_SORTS, cs_int⟩⟩
  have F_is_name := fun_mk (st := s_is_name) l_is_name c_is_name k_is_name
  have FT_is_name := funT_mk (st := s_is_name) l_is_name c_is_name
  have b_is_name := F_is_name.binds (ps := ["text"]) fun _ _ _ _ _ _ us hl => match us, hl with | [_], _ => rfl
  have F_Signature := fun_mk (st := s_Signature) l_Signature c_Signature k_Signature
  have b_Signature := F_Signature.binds (ps := ["self", "kinds", "names"]) fun _ _ _ _ _ _ us hl => match us, hl with | [_, _, _], _ => rfl
  have F__law_tape := fun_mk (st := s__law_tape) l__law_tape c__law_tape k__law_tape
  have b__law_tape := F__law_tape.binds (ps := ["script"]) fun _ _ _ _ _ _ us hl => match us, hl with | [_], _ => rfl
  have F__law_take := fun_mk (st := s__law_take) l__law_take c__law_take k__law_take
  have b__law_take := F__law_take.binds (ps := ["tape", "many"]) fun _ _ _ _ _ _ us hl => match us, hl with | [_, _], _ => rfl
  have F__law_any := fun_mk (st := s__law_any) l__law_any c__law_any k__law_any
  have b__law_any := F__law_any.binds (ps := ["tape", "rows"]) fun _ _ _ _ _ _ us hl => match us, hl with | [_, _], _ => rfl
  have F__law_name := fun_mk (st := s__law_name) l__law_name c__law_name k__law_name
  have b__law_name := F__law_name.binds (ps := ["tape"]) fun _ _ _ _ _ _ us hl => match us, hl with | [_], _ => rfl
  have F__law_entries := fun_mk (st := s__law_entries) l__law_entries c__law_entries k__law_entries
  have b__law_entries := F__law_entries.binds (ps := ["tape", "many"]) fun _ _ _ _ _ _ us hl => match us, hl with | [_, _], _ => rfl
  have F__law_is := fun_mk (st := s__law_is) l__law_is c__law_is k__law_is
  have b__law_is := F__law_is.binds (ps := ["actual", "due"]) fun _ _ _ _ _ _ us hl => match us, hl with | [_, _], _ => rfl
  have F__law_refused := fun_mk (st := s__law_refused) l__law_refused c__law_refused k__law_refused
  have b__law_refused := F__law_refused.binds (ps := ["kinds", "names"]) fun _ _ _ _ _ _ us hl => match us, hl with | [_, _], _ => rfl
  have F__law_spoilt := fun_mk (st := s__law_spoilt) l__law_spoilt c__law_spoilt k__law_spoilt
  have b__law_spoilt := F__law_spoilt.binds (ps := ["tape", "entries", "split"]) fun _ _ _ _ _ _ us hl => match us, hl with | [_, _, _], _ => rfl
  have F_law := fun_mk (st := s_law) l_law c_law k_law
  refine ⟨PySem.W.fnOf "law" "law" (defArgs s_law) (defBody s_law) (defScope s_law) .none kV_law dc_law pm_law an_law cd_law ct_law, [(c_is_name_, Pt_is_name)], spLaw K, (by intro p hp; simp only [List.mem_cons, List.not_mem_nil, or_false] at hp; rcases hp with rfl <;> first | exact own_is_name c_is_name_ Pt_is_name _ _ _ _ _ _ l_is_name rfl rfl lc_is_name v11_is_name), (by intro p hp; simp only [List.mem_cons, List.not_mem_nil, or_false] at hp; rcases hp with rfl <;> first | exact np_is_name), (by intro p hp; simp only [List.mem_cons, List.not_mem_nil, or_false] at hp; rcases hp with rfl <;> first | exact codeHd_of X lc_is_name v11_is_name v18_is_name v7_is_name v9_is_name v10_is_name ne_is_name), fun s v => .of_eq rfl, fun H a ns h1 h2 h3 h4 => ⟨a, ns, rfl, h4, h1, fun p hp => ?_, fun _ => rfl⟩, fun base _ _ TBs => ?_⟩
  · have hp : p ∈ [Pt_is_name] := hp
    simp only [List.mem_cons, List.not_mem_nil, or_false] at hp
    all_goals rw [hp]
    all_goals first | exact tab0 (h3 (c_is_name_, Pt_is_name) (by simp))
  have D_is_name : Df l.prog w K mg base 1 "is_name" f_is_name _ ["text"] (spF K (fun a : Str × Unit => [.dat (em a.1)]) (fun a : Str × Unit => M_is_name a.1) fun x : Bool => .dat (em x)) := ⟨ok_is_name FT_is_name (show Tabs.tab Pt_is_name from (by show Pt_is_name ∈ _; simp)) (tabB_of (TBs (c_is_name_, Pt_is_name) (by simp))) Z, PySem.W.mg_of X G a_is_name, k_is_name, b_is_name⟩
  have D_Signature : DfI l.prog w K mg base 2 "Signature" ["self", "kinds", "names"] (spI K "Signature" (fun a : (List Str) × (List Str) × Unit => [.bor (List.map em a.1), .bor (List.map em a.2.1)]) (fun a : (List Str) × (List Str) × Unit => M_Signature a.1 a.2.1) fun x : C_Signature => em x) := ⟨⟨f_Signature, _, ⟨by rw [hcl_Signature]; exact mk_Signature, by rw [hcl_Signature]; exact a_Signature, i_Signature, by rw [hcl_Signature]; exact kc_Signature⟩, ok_Signature F_Signature Z D_is_name, b_Signature⟩, by rw [hcl_Signature]; exact PySem.W.mg_of X G g__Signature⟩
  have D__law_tape : Df l.prog w K mg base 1 "_law_tape" f__law_tape _ ["script"] (spF K (fun a : (List Int) × Unit => [.bor (List.map em a.1)]) (fun a : (List Int) × Unit => M__law_tape a.1) fun x : Tp => .tape x) := ⟨ok__law_tape F__law_tape Z, PySem.W.mg_of X G a__law_tape, k__law_tape, b__law_tape⟩
  have D__law_take : Df l.prog w K mg base 1 "_law_take" f__law_take _ ["tape", "many"] (spT K (fun a : Int × Unit => [.dat (em a.1)]) (fun (a : Int × Unit) (t : Tp) => M__law_take t a.1) fun x : Int => em x) := ⟨ok__law_take F__law_take Z, PySem.W.mg_of X G a__law_take, k__law_take, b__law_take⟩
  have D__law_any : Df l.prog w K mg base 2 "_law_any" f__law_any _ ["tape", "rows"] (spT K (fun a : (List (List (List Str))) × Unit => [.dat (em a.1)]) (fun (a : (List (List (List Str))) × Unit) (t : Tp) => M__law_any t a.1) fun x : (List (List Str)) => em x) := ⟨ok__law_any F__law_any Z D__law_take, PySem.W.mg_of X G a__law_any, k__law_any, b__law_any⟩
  have D__law_name : Df l.prog w K mg base 2 "_law_name" f__law_name _ ["tape"] (spT K (fun a : Unit => []) (fun (a : Unit) (t : Tp) => M__law_name t) fun x : Str => em x) := ⟨ok__law_name F__law_name Z D__law_take, PySem.W.mg_of X G a__law_name, k__law_name, b__law_name⟩
  have D__law_entries : Df l.prog w K mg base 3 "_law_entries" f__law_entries _ ["tape", "many"] (spT K (fun a : Int × Unit => [.dat (em a.1)]) (fun (a : Int × Unit) (t : Tp) => M__law_entries t a.1) fun x : (List Str) => em x) := ⟨ok__law_entries F__law_entries Z D__law_name D__law_take, PySem.W.mg_of X G a__law_entries, k__law_entries, b__law_entries⟩
  have D__law_is : Df l.prog w K mg base 1 "_law_is" f__law_is _ ["actual", "due"] (spF K (fun a : (List Str) × (List Str) × Unit => [.bor (List.map em a.1), .bor (List.map em a.2.1)]) (fun a : (List Str) × (List Str) × Unit => M__law_is a.1 a.2.1) fun x : Bool => .dat (em x)) := ⟨ok__law_is F__law_is Z, PySem.W.mg_of X G a__law_is, k__law_is, b__law_is⟩
  have D__law_refused : Df l.prog w K mg base 4 "_law_refused" f__law_refused _ ["kinds", "names"] (spF K (fun a : (List Str) × (List Str) × Unit => [.dat (em a.1), .dat (em a.2.1)]) (fun a : (List Str) × (List Str) × Unit => M__law_refused a.1 a.2.1) fun x : Bool => .dat (em x)) := ⟨ok__law_refused F__law_refused Z D_Signature, PySem.W.mg_of X G a__law_refused, k__law_refused, b__law_refused⟩
  have D__law_spoilt : Df l.prog w K mg base 4 "_law_spoilt" f__law_spoilt _ ["tape", "entries", "split"] (spT K (fun a : (List Str) × Int × Unit => [.dat (em a.1), .dat (em a.2.1)]) (fun (a : (List Str) × Int × Unit) (t : Tp) => M__law_spoilt t a.1 a.2.1) fun x : (List (List Str)) => em x) := ⟨ok__law_spoilt F__law_spoilt Z D__law_any D__law_entries D__law_take, PySem.W.mg_of X G a__law_spoilt, k__law_spoilt, b__law_spoilt⟩
  exact law_ok (m := fun a => M_law a.1) (ok_law F_law Z D_Signature D__law_entries D__law_is D__law_refused D__law_spoilt D__law_take D__law_tape) fun ns hl => law_true ns hl
end K41
open PySem PySem.W PyProof.Rows
set_option maxRecDepth 100000 in
set_option maxHeartbeats 0 in
theorem PySem.Challenge.cw_saidback_k41_signature_holds : PySem.Challenge.rw_saidback_k41_signature.Holds := by
  w_on; o_law; k_head; (case hw => w_witness2)
  k_fill
  refine T.law_walkT (k := 5) (l := PySem.Challenge.rw_saidback_k41_signature) rfl rfl (fun w h Y => PySem.W.kIn_of Y) ⟨rfl, by decide, by decide⟩ ["is_name"] (by decide) ?F
  case F =>
    intro w mg fa h KX G hmg own
    refine' K41.all_mk KX G hmg ?g__BadSignature ?g__Signature ?g__BadWorld ?g__NoSuch ?g__TooMany ?g__SaidError ?a_Signature ?l_Signature ?c_Signature ?k_Signature ?i_Signature ?mk_Signature ?kc_Signature ?ex_BadSignature ?ek_BadSignature ?es_BadSignature ?et_BadSignature ?pg_Signature ?hd_Signature ?po_Signature ?sa_Signature ?no_Signature_kinds ?no_Signature_names ?x1_BadSignature ?x2_BadSignature ?x3_BadSignature ?x4_BadSignature_BadSignature ?e1_BadSignature ?e2_BadSignature ?e3_BadSignature ?e4_BadSignature ?e5_BadSignature ?e6_BadSignature ?e9_BadSignature ?e7 ?e8 ?q_BadWorld_BadSignature ?q_NoSuch_BadSignature ?q_TooMany_BadSignature ?q_SaidError_BadSignature ?q_ValueError_BadSignature ?a_is_name ?l_is_name ?c_is_name ?k_is_name ?a__law_tape ?l__law_tape ?c__law_tape ?k__law_tape ?a__law_take ?l__law_take ?c__law_take ?k__law_take ?a__law_any ?l__law_any ?c__law_any ?k__law_any ?a__law_name ?l__law_name ?c__law_name ?k__law_name ?a__law_entries ?l__law_entries ?c__law_entries ?k__law_entries ?a__law_is ?l__law_is ?c__law_is ?k__law_is ?a__law_refused ?l__law_refused ?c__law_refused ?k__law_refused ?a__law_spoilt ?l__law_spoilt ?c__law_spoilt ?k__law_spoilt ?a_law ?l_law ?c_law ?k_law ?lc_is_name ?v11_is_name ?v18_is_name ?v7_is_name ?v9_is_name ?v10_is_name ?ne_is_name ?np_is_name ?own_is_name ?z_ValueError ?z_abs ?z_all ?z_int ?z_isinstance ?z_len ?z_list ?z_max ?z_range ?z_set ?z_str ?g_MOST_SORTS
    (case g__BadSignature => k_is)
    (case g__Signature => k_is)
    (case g__BadWorld => k_is)
    (case g__NoSuch => k_is)
    (case g__TooMany => k_is)
    (case g__SaidError => k_is)
    (case a_Signature => k_is)
    (case l_Signature => k_is)
    (case c_Signature => k_is)
    (case k_Signature => k_is)
    (case i_Signature => k_is)
    (case mk_Signature => k_is)
    (case kc_Signature => k_is)
    (case ex_BadSignature => k_exc)
    (case ek_BadSignature => k_is)
    (case es_BadSignature => k_is)
    (case et_BadSignature => k_is)
    (case pg_Signature => k_is)
    (case hd_Signature => k_is)
    (case po_Signature => k_is)
    (case sa_Signature => k_is)
    (case no_Signature_kinds => k_is)
    (case no_Signature_names => k_is)
    (case x1_BadSignature => k_is)
    (case x2_BadSignature => k_is)
    (case x3_BadSignature => k_is)
    (case x4_BadSignature_BadSignature => first | rfl | k_is)
    (case e1_BadSignature => k_is)
    (case e2_BadSignature => k_is)
    (case e3_BadSignature => k_is)
    (case e4_BadSignature => k_is)
    (case e5_BadSignature => k_is)
    (case e6_BadSignature => k_is)
    (case e9_BadSignature => k_is)
    (case e7 => k_is)
    (case e8 => k_is)
    (case q_BadWorld_BadSignature => kit_is)
    (case q_NoSuch_BadSignature => kit_is)
    (case q_TooMany_BadSignature => kit_is)
    (case q_SaidError_BadSignature => kit_is)
    (case q_ValueError_BadSignature => kit_is)
    (case a_is_name => k_is); (case l_is_name => k_is); (case c_is_name => k_is); (case k_is_name => k_is)
    (case a__law_tape => k_is); (case l__law_tape => k_is); (case c__law_tape => k_is); (case k__law_tape => k_is)
    (case a__law_take => k_is); (case l__law_take => k_is); (case c__law_take => k_is); (case k__law_take => k_is)
    (case a__law_any => k_is); (case l__law_any => k_is); (case c__law_any => k_is); (case k__law_any => k_is)
    (case a__law_name => k_is); (case l__law_name => k_is); (case c__law_name => k_is); (case k__law_name => k_is)
    (case a__law_entries => k_is); (case l__law_entries => k_is); (case c__law_entries => k_is); (case k__law_entries => k_is)
    (case a__law_is => k_is); (case l__law_is => k_is); (case c__law_is => k_is); (case k__law_is => k_is)
    (case a__law_refused => k_is); (case l__law_refused => k_is); (case c__law_refused => k_is); (case k__law_refused => k_is)
    (case a__law_spoilt => k_is); (case l__law_spoilt => k_is); (case c__law_spoilt => k_is); (case k__law_spoilt => k_is)
    (case a_law => k_is); (case l_law => k_is); (case c_law => k_is); (case k_law => k_is)
    (case lc_is_name => k_is)
    (case v11_is_name => exact rfl)
    (case v18_is_name => exact rfl)
    (case v7_is_name => exact rfl)
    (case v9_is_name => exact rfl)
    (case v10_is_name => exact rfl)
    (case ne_is_name => decide)
    (case np_is_name => first | k_is | exact rfl)
    (case own_is_name => exact own "is_name" (by decide) _ (PySem.W.mg_of KX G (by k_is)))
    (case z_ValueError => k_is)
    (case z_abs => k_is)
    (case z_all => k_is)
    (case z_int => k_is)
    (case z_isinstance => k_is)
    (case z_len => k_is)
    (case z_list => k_is)
    (case z_max => k_is)
    (case z_range => k_is)
    (case z_set => k_is)
    (case z_str => k_is)
    (case g_MOST_SORTS => k_is)
#print axioms PySem.Challenge.cw_saidback_k41_signature_holds

